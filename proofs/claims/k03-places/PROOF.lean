import PyProof.Rows.All
import Wide.All
import OpenK.AllK
import Wide.FinOn
import OpenK.AllK
import HandS.ForMost
import HandS.TupAny
import HandS.TupMul
import HandS.Conv
import HandS.Walk
import KE.KDictKeyed
import KE.KDictWalk
import HandS.Exc
import HandS.ExcOwn
import HandS.WordsExc
import HandS.Deep
import HandS.IsInst
import HandS.Flow
import HandS.Style
import HandS.ExcInit
import HandS.ExcField
import HandS.ExcValue
import KE.KExcIs
import KE.GoesMore
import HandS.More
import HandS.SetKeys
import HandS.Strs
import HandS.TryOnly
import HandS.RaiseMore
import HandS.SortOrd
import HandS.TupLe
import HandS.NamedTupSort
import HandS.SortRule
import KE.KDictPairs
import HandS.Rev
import HandS.SortInts
import PySem.Challenge.RW_graftsay_k03_places_and_pieces
set_option Elab.async false
set_option linter.all false
set_option maxRecDepth 100000
set_option maxHeartbeats 4000000
namespace L2
open PySem PySem.W PySem.Calls PySem.Spec PyProof.Rows
/-- a tuple whose object has no dict -/
def XT (H : Hp) (a : Addr) (xs : List V) : Prop := ∃ o : Obj, H a = some (.frz o (.tup xs)) ∧ o.dict = none
theorem XT.sq {K : PySem.W.Frag} {H : Hp} {a : Addr} {xs : List V} (h : XT H a xs) : SqT K H a xs := by
  obtain ⟨o, e, _⟩ := h
  exact .inl (.inr ⟨o, e⟩)
theorem XT.new {H : Hp} {a : Addr} {xs : List V} {o : Obj} (h : o.dict = none) : XT (upd H a (.frz o (.tup xs))) a xs := ⟨o, upd_same, h⟩
section
variable {X : Cx} {es : List Expr} {t : TA} {pos : Pos} {pins : List (Addr × Obj)} {s : Shared} {σ : St} {H : Hp}
/-- a new tuple laid, told exactly -/
theorem laidX {ys : List V} {us : List Value} {h1 : Heap} {tk : Nat} (J : Inv X pins σ H { s with heap := h1 }) (rv : Vals ys us) (hz : ys.length ≤ sizeLine) :
    Inv X pins σ (upd H h1.objs.size (.frz { cls := .type "tuple", data := .seq us.toArray } (.tup ys))) { s with heap := h1.push { cls := .type "tuple", data := .seq us.toArray }, toks := tk } :=
  J.laid (t' := tk) (fun _ _ z => Heap.get?_push_of_some _ z) (Nat.le_refl _) ⟨Heap.get?_push_size _ rfl, hz, us, rv, IsTup.new _ _⟩
def tTupX (t : TA) : TE := fun σ H Q => t σ H fun ys H1 => ys.length ≤ sizeLine ∧ ∀ p o, H1 p = none → o.dict = none → Q (.ref p) (upd H1 p (.frz o (.tup ys)))
theorem pe_tupX {x1} (h : PA X es t) : PE X (.Tuple es x1 pos) (tTupX t) := ⟨fun pins s σ H Q I hq => by
  refine wpAny_Tuple_spliced (thn (h.run pos pins s σ H _ I hq) ?_)
  rintro us s1 ⟨ys, H1, J, rv, z, q⟩
  refine ⟨by rw [← rv.length]; exact z, .ref s1.heap.objs.size, _, laidX (s := s1) (tk := s1.toks) J rv z, rfl, q _ _ (J.hok.fresh (Nat.le_refl _)) rfl⟩⟩
/-- a slice of a tuple -/
def rSlX (K : PySem.W.Frag) : V → Option Int → Option Int → Hp → VK → Prop := fun x lo hi H Q => ∃ a ys, x = .ref a ∧ SqT K H a ys ∧
  ((HT.sIx ys.length 0 lo = 0 ∧ HT.sIx ys.length ys.length hi = ys.length) → Q (.ref a) H) ∧ (¬ (HT.sIx ys.length 0 lo = 0 ∧ HT.sIx ys.length ys.length hi = ys.length) → ∀ p o, H p = none → o.dict = none → Q (.ref p) (upd H p (.frz o (.tup (cutV ys lo hi)))))
theorem sl_tupX : SlR X (rSlX X.K) := by
  rintro pins s σ H x v vl vu lo hi sl Q J rx hs pl pu ⟨a, ys, rfl, hy, q1, q2⟩
  by_cases w : HT.sIx ys.length 0 lo = 0 ∧ HT.sIx ys.length ys.length hi = ys.length
  · exact sl_tupA pins s σ H _ v vl vu lo hi sl Q J rx hs pl pu ⟨a, ys, rfl, hy, q1, fun n => absurd w n⟩
  · cases rx
    obtain ⟨us, rv, ht, hz⟩ := J.tuple hy
    have hl : us.toArray.size = ys.length := by rw [List.size_toArray, rv.length]
    refine ⟨"tuple", _, PyProof.Rows.slot_tuple_getitem.lookup, ht.typeIs, HT.getItem_tuple_cut ht hs pl pu (by rw [hl]; exact w) ?_ (by rw [hl]; exact hz)⟩
    rw [hl]
    refine ⟨.ref s.heap.objs.size, _, laidX (ys := cutV ys lo hi) (tk := s.toks) J ?_ (Nat.le_trans (cutV_length ys lo hi) hz), rfl, q2 w _ _ (J.hok.fresh (Nat.le_refl _)) rfl⟩
    exact (rv.drop _).take _
/-- tuples joined -/
def rCatX (K : PySem.W.Frag) : R2 := fun x y H Q => ∃ a b xs ys, x = .ref a ∧ y = .ref b ∧ SqT K H a xs ∧ SqT K H b ys ∧ xs.length + ys.length ≤ sizeLine ∧
  ((xs = [] → Q (.ref b) H) ∧ (xs ≠ [] → ys = [] → Q (.ref a) H) ∧ (xs ≠ [] → ys ≠ [] → ∀ p o, H p = none → o.dict = none → Q (.ref p) (upd H p (.frz o (.tup (xs ++ ys))))))
theorem op_catX : OpR X (binaryOp .Add) (rCatX X.K) := by
  rintro pins s σ H x y v u Q J rx ry ⟨a, b, xs, ys, rfl, rfl, ha, hb, hz, q0, q1, q2⟩
  by_cases hx : xs = []
  · exact op_catA pins s σ H _ _ v u Q J rx ry ⟨a, b, xs, ys, rfl, rfl, ha, hb, hz, q0, q1, fun n => absurd hx n⟩
  · cases rx
    cases ry
    obtain ⟨us, r1, p1, _⟩ := J.tuple ha
    obtain ⟨ws, r2, p2, _⟩ := J.tuple hb
    refine HT.cat_tup p1 p2 (fun n => hx (r1.nil_iff.mp n)) (fun n => ⟨.ref a, H, J, rfl, q1 hx (r2.nil_iff.mp n)⟩) (fun n => ?_) (by rw [← r1.length, ← r2.length]; exact hz)
    exact ⟨.ref s.heap.objs.size, _, laidX (ys := xs ++ ys) (tk := s.toks) J (r1.append r2) (by rw [List.length_append]; exact hz), rfl, q2 hx (fun e => n (r2.nil_iff.mpr e)) _ _ (J.hok.fresh (Nat.le_refl _)) rfl⟩
/-- tuple(..) of a list or a tuple -/
def rTupX (K : PySem.W.Frag) : List V → Hp → VK → Prop := fun xs H Q => ∃ p ys, xs = [.ref p] ∧ ((SqL K H p ys ∧ ∀ l o, H l = none → o.dict = none → Q (.ref l) (upd H l (.frz o (.tup ys)))) ∨ (SqT K H p ys ∧ Q (.ref p) H))
theorem call_tupX : CallR X (.type "tuple") (rTupX X.K) := by
  rintro pins s σ H xs us Q J r ⟨p, ys, rfl, h⟩
  rcases h with ⟨hq, q⟩ | ⟨hq, q⟩
  · obtain ⟨u, rfl, rx⟩ := vals1 r
    cases rx
    obtain ⟨ws, rv, pl, hz⟩ := J.list hq
    have hl := rv.length
    refine call_tuple_list pl.isList (fun h1 kp => ?_) (by simp only [List.size_toArray] <;> omega)
    have J1 : Inv X pins σ H { s with heap := h1 } := J.kept (t' := s.toks) kp
    exact ⟨.ref h1.objs.size, _, laidX (tk := s.toks) J1 rv hz, rfl, q _ _ (J1.hok.fresh (Nat.le_refl _)) rfl⟩
  · exact call_tuple_of pins s σ H _ us Q J r ⟨p, ys, rfl, .inr ⟨hq, q⟩⟩
end
mutual
/-- a value that is such a key, by what is tracked -/
inductive NK (H : Hp) : V → NestedKey → Prop
  | non : NK H .non .none
  | bl (b : Bool) : NK H (.bl b) (.num (if b then 1 else 0))
  | int (i : Int) : NK H (.int i) (.num i)
  | str (x : Str) : NK H (.str x) (.text x)
  | tup {a : Addr} {xs : List V} {ks : List NestedKey} : XT H a xs → NKs H xs ks → NK H (.ref a) (.tup ks)
inductive NKs (H : Hp) : List V → List NestedKey → Prop
  | nil : NKs H [] []
  | cons {x : V} {xs : List V} {k : NestedKey} {ks : List NestedKey} : NK H x k → NKs H xs ks → NKs H (x :: xs) (k :: ks)
end
section
variable {P : Program} {w : World} {H : Hp} {h : Heap}
mutual
theorem NK.is (ok : HOk P w H h) : ∀ {v : V} {k : NestedKey} {u : Value}, NK H v k → RelV v u → NestedIs h k u
  | _, _, u, .non, r => by cases (show u = .none from r); exact .none
  | _, _, u, .bl b, r => by cases (show u = .bool b from r); exact .bool rfl
  | _, _, u, .int i, r => by obtain ⟨t, e⟩ := (show ∃ t, u = .int i t from r); subst e; exact .int _ _
  | _, _, u, .str i, r => by obtain ⟨t, e⟩ := (show ∃ t, u = .str i t from r); subst e; exact .text _ _
  | _, _, u, .tup (a := a) q qs, r => by
    cases (show u = .ref a from r)
    obtain ⟨o, e, _⟩ := q
    obtain ⟨e1, _, its, rv, o', e2, c, n, d⟩ := ok _ _ e
    exact .tup e2 c d (by simpa using NKs.is ok qs rv)
theorem NKs.is (ok : HOk P w H h) : ∀ {vs : List V} {ks : List NestedKey} {us : List Value}, NKs H vs ks → Vals vs us → NestedAll h ks us
  | _, _, _, .nil, .nil => .nil
  | _, _, _, .cons q qs, .cons r rs => .cons (NK.is ok q r) (NKs.is ok qs rs)
end
end
/-- a dict, by its object: each key, its value, what stands there -/
def dX (w : World) (a : Addr) (ep : Nat) (xs : List (NestedKey × Value × Value)) : HO := .ext fun h => ∃ o es, h.get? a = some o ∧ o.ExactDict ∧ o.data = .dict es ep ∧ es.toList = xs.map (fun x => (⟨x.1.hash w, x.2.1, x.2.2⟩ : DictEntry)) ∧
  (xs.map (·.1)).Nodup ∧ xs.length ≤ sizeLine ∧ (a == sysModules) = false
/-- keys that are tuples -/
def refK (y : NestedKey × Addr × Value) : NestedKey × Value × Value := (y.1, .ref y.2.1, y.2.2)
def KOk (H : Hp) (ys : List (NestedKey × Addr × Value)) : Prop := ∀ y ∈ ys, NK H (.ref y.2.1) y.1 ∧ y.1.depth ≤ 8
/-- keys that are ints and texts -/
def nkK : Key → NestedKey
  | .inl i => .num i
  | .inr x => .text x
theorem nkK_inj {a b : Key} (h : nkK a = nkK b) : a = b := by cases a <;> cases b <;> simp [nkK] at h <;> rw [h]
def valK (y : Key × Value × Value) : NestedKey × Value × Value := (nkK y.1, y.2.1, y.2.2)
def SOk (ys : List (Key × Value × Value)) : Prop := ∀ y ∈ ys, keyIs y.1 y.2.1 = true
def pairK (ys : List (Key × Value × Value)) : List (Key × Value) := ys.map fun y => (y.1, y.2.2)
section
variable {P : Program} {w : World} {H : Hp} {h : Heap} {a : Addr} {ep : Nat}
theorem dX_raw {xs : List (NestedKey × Value × Value)} (ok : HOk P w H h) (e : H a = some (dX w a ep xs)) : ∃ es, h.DictRaw a es ep ∧ es.toList = xs.map (fun x => (⟨x.1.hash w, x.2.1, x.2.2⟩ : DictEntry)) ∧ xs.length ≤ sizeLine ∧ (a == sysModules) = false := by
  obtain ⟨⟨o, es, h1, h2, h3, h4, h5, h6, h7⟩, _⟩ := ok _ _ e
  exact ⟨es, ⟨o, h1, h2, h3⟩, h4, h6, h7⟩
theorem dX_mk {xs : List (NestedKey × Value × Value)} {o : Obj} {es : Array DictEntry} (h1 : h.get? a = some o) (h2 : o.ExactDict) (h3 : o.data = .dict es ep) (h4 : es.toList = xs.map (fun x => (⟨x.1.hash w, x.2.1, x.2.2⟩ : DictEntry)))
    (h5 : (xs.map (·.1)).Nodup) (h6 : xs.length ≤ sizeLine) (h7 : (a == sysModules) = false) : ObjOk P w H h a (dX w a ep xs) :=
  ⟨⟨o, es, h1, h2, h3, h4, h5, h6, h7⟩, ⟨o, h1⟩, fun g1 g2 ⟨o', es', q1, q2⟩ k => ⟨o', es', k _ q1, q2⟩⟩
theorem dX_ofT {ys : List (NestedKey × Addr × Value)} (ok : HOk P w H h) (e : H a = some (dX w a ep (ys.map refK))) (hk : KOk H ys) : h.DictOfH (nestedKind P w) a ys ∧ ys.length ≤ sizeLine ∧ (a == sysModules) = false := by
  obtain ⟨⟨o, es, h1, h2, h3, h4, h5, h6, h7⟩, _⟩ := ok _ _ e
  rw [List.map_map] at h4 h5
  rw [List.length_map] at h6
  exact ⟨⟨o, es, ep, h1, h2, h3, h4, fun x m => ⟨(hk x m).1.is ok rfl, (hk x m).2⟩, h5⟩, h6, h7⟩
theorem dX_okT {ys : List (NestedKey × Addr × Value)} (hd : h.DictOfH (nestedKind P w) a ys) (hz : ys.length ≤ sizeLine) (hs : (a == sysModules) = false) : ∃ ep, ∀ H, ObjOk P w H h a (dX w a ep (ys.map refK)) := by
  obtain ⟨o, es, ep, h1, h2, h3, h4, _, h5⟩ := hd
  exact ⟨ep, fun H => dX_mk h1 h2 h3 (by rw [List.map_map]; exact h4) (by rw [List.map_map]; exact h5) (by rw [List.length_map]; exact hz) hs⟩
theorem pairs_valK (P : Program) (w : World) : ∀ {ys : List (Key × Value × Value)}, SOk ys → Pairs (mixKind P w) (ys.map fun y => (⟨(nkK y.1).hash w, y.2.1, y.2.2⟩ : DictEntry)) (pairK ys)
  | [], _ => .nil
  | y :: ys, h => .cons (h y (by simp)) rfl (pairs_valK P w fun z m => h z (by simp [m]))
theorem hash_nkK (w : World) (k : Key) : (nkK k).hash w = keyH w k := by cases k <;> rfl
theorem dX_ofS {ys : List (Key × Value × Value)} (ok : HOk P w H h) (e : H a = some (dX w a ep (ys.map valK))) (hk : SOk ys) : h.DictOf (mixKind P w) a (pairK ys) ∧ (pairK ys).length ≤ sizeLine ∧ (a == sysModules) = false := by
  obtain ⟨⟨o, es, h1, h2, h3, h4, h5, h6, h7⟩, _⟩ := ok _ _ e
  rw [List.map_map] at h4 h5
  rw [List.length_map] at h6
  have h4 : es.toList = ys.map fun y => (⟨(nkK y.1).hash w, y.2.1, y.2.2⟩ : DictEntry) := h4
  refine ⟨⟨o, es, ep, h1, h2, h3, fun x m => ?_, by rw [h4]; exact pairs_valK P w hk, ?_⟩, by unfold pairK; rw [List.length_map]; exact h6, h7⟩
  · have m' : x ∈ es.toList := by simpa using m
    rw [h4] at m'
    obtain ⟨y, my, rfl⟩ := List.mem_map.mp m'
    exact ⟨y.1, hk y my, hash_nkK w y.1⟩
  · have h5 : (ys.map fun y => nkK y.1).Nodup := h5
    unfold pairK
    rw [List.map_map]
    have h6 : ((ys.map fun y => y.1).map nkK).Nodup := by rw [List.map_map]; exact h5
    exact (List.pairwise_map.mp h6).imp fun n e => n (by rw [e])
theorem pairs_back : ∀ {es : List DictEntry} {vs : List (Key × Value)}, Pairs (mixKind P w) es vs → (∀ e ∈ es, ∃ k, keyIs k e.key = true ∧ e.hash = keyH w k) → ∃ ys, SOk ys ∧ pairK ys = vs ∧ es = ys.map fun y => (⟨(nkK y.1).hash w, y.2.1, y.2.2⟩ : DictEntry)
  | _, _, .nil, _ => ⟨[], fun _ m => (by cases m), rfl, rfl⟩
  | _, _, .cons (e := e) (kv := kv) h1 h2 t, hk => by
    obtain ⟨ys, q1, q2, q3⟩ := pairs_back t fun e m => hk e (by simp [m])
    obtain ⟨k, r1, r2⟩ := hk e (by simp)
    have ek : k = kv.1 := (mixKind P w).inj _ _ _ r1 h1
    subst ek
    refine ⟨(kv.1, e.key, kv.2) :: ys, fun y m => ?_, by simp [pairK] at q2 ⊢; exact q2, ?_⟩
    · cases m with
      | head => exact h1
      | tail _ m => exact q1 y m
    · rw [List.map_cons, ← q3]
      congr 1
      cases e
      simp only at h2 r2
      simp [hash_nkK, r2, h2]
theorem dX_okS {vs : List (Key × Value)} (hd : h.DictOf (mixKind P w) a vs) (hz : vs.length ≤ sizeLine) (hs : (a == sysModules) = false) : ∃ ep ys, SOk ys ∧ pairK ys = vs ∧ ∀ H, ObjOk P w H h a (dX w a ep (ys.map valK)) := by
  obtain ⟨o, es, ep, h1, h2, h3, hk, hp, hn⟩ := hd
  obtain ⟨ys, q1, q2, q3⟩ := pairs_back hp fun e m => hk e (by simpa using m)
  refine ⟨ep, ys, q1, q2, fun H => dX_mk h1 h2 h3 (by rw [List.map_map]; exact q3) ?_ ?_ hs⟩
  · rw [List.map_map]
    have e : ys.map ((fun x => x.1) ∘ valK) = (vs.map (·.1)).map nkK := by rw [← q2]; unfold pairK; rw [List.map_map, List.map_map]; rfl
    rw [e]
    exact List.Pairwise.map nkK (fun a b n e => n (nkK_inj e)) hn
  · rw [List.length_map]
    have : (pairK ys).length = ys.length := by simp [pairK]
    rw [← this, q2]
    exact hz
end
def look (xs : List (NestedKey × Value × Value)) (k : NestedKey) : Option Value := (xs.find? fun x => decide (x.1 = k)).map (·.2.2)
theorem look_T (ys : List (NestedKey × Addr × Value)) (k : NestedKey) : look (ys.map refK) k = valueAt (pairsH ys) k := by
  induction ys with
  | nil => rfl
  | cons y ys ih =>
    by_cases e : y.1 = k
    · simp [look, refK, pairsH, valueAt, e]
    · simpa [look, refK, pairsH, valueAt, e] using ih
theorem look_S (ys : List (Key × Value × Value)) (k : Key) : look (ys.map valK) (nkK k) = valueAt (pairK ys) k := by
  induction ys with
  | nil => rfl
  | cons y ys ih =>
    by_cases e : y.1 = k
    · simp [look, valK, pairK, valueAt, e]
    · have n : ¬ nkK y.1 = nkK k := fun q => e (nkK_inj q)
      simpa [look, valK, pairK, valueAt, e, n] using ih
/-- a key that may be asked for -/
def KeyAt (H : Hp) (v : V) (b : Addr) (k : NestedKey) : Prop := v = .ref b ∧ NK H (.ref b) k ∧ k.depth ≤ 8
/-- y asked of the dict at a -/
def LookX (w : World) (H : Hp) (a : Addr) (y : V) (r : Option Value) : Prop := ∃ ep xs k, H a = some (dX w a ep xs) ∧ r = look xs k ∧ ((∃ b ys, xs = ys.map refK ∧ KOk H ys ∧ KeyAt H y b k) ∨ (∃ ys kk, xs = ys.map valK ∧ SOk ys ∧ y = kV kk ∧ k = nkK kk))
section
variable {X : Cx}
theorem KeyAt.is {P : Program} {w : World} {H : Hp} {h : Heap} {v : V} {b : Addr} {k : NestedKey} (ok : HOk P w H h) (q : KeyAt H v b k) : (nestedKind P w).is h k b := ⟨q.2.1.is ok rfl, q.2.2⟩
theorem roomX (hu : X.A.units + 65 < cLine) : (nestedKind X.prog X.w).room X.A.in1 := by
  show X.A.units + 1 + 8 < cLine
  omega
/-- the two sorts of asking -/
theorem LookX.cases {pins : List (Addr × Obj)} {σ : St} {H : Hp} {s : Shared} {a : Addr} {y : V} {u : Value} {r : Option Value} (g : LookX X.w H a y r) (J : Inv X pins σ H s) (ry : RelV y u) :
    (a == sysModules) = false ∧ ((∃ b ys k, u = .ref b ∧ s.heap.DictOfH (nestedKind X.prog X.w) a ys ∧ (nestedKind X.prog X.w).is s.heap k b ∧ r = valueAt (pairsH ys) k) ∨ ∃ vs kk, s.heap.DictOf (mixKind X.prog X.w) a vs ∧ (mixKind X.prog X.w).is kk u = true ∧ r = valueAt vs kk) := by
  obtain ⟨ep, xs, k, e, er, g⟩ := g
  rcases g with ⟨b, ys, rfl, hk, hy⟩ | ⟨ys, kk, rfl, hk, rfl, rfl⟩
  · obtain ⟨hm, hz, hs⟩ := dX_ofT J.hok e hk
    refine ⟨hs, .inl ⟨b, ys, k, ?_, hm, hy.is J.hok, by rw [er, look_T]⟩⟩
    obtain ⟨rfl, _⟩ := hy
    exact ry
  · obtain ⟨hm, hz, hs⟩ := dX_ofS J.hok e hk
    exact ⟨hs, .inr ⟨_, kk, hm, kV_is ry, by rw [er, look_S]⟩⟩
def rXG (w : World) : R2 := fun x y H Q => ∃ a u v, x = .ref a ∧ LookX w H a y (some u) ∧ RelV v u ∧ Q v H
theorem ix_dX (hu : X.A.units + 65 < cLine) : IxR X (rXG X.w) := by
  rintro value slice pins s σ H x y v u Q I rx ry ⟨a, uu, vv, rfl, g, rv, q⟩ hs
  obtain rfl : v = Value.ref a := rx
  obtain ⟨hsm, g⟩ := g.cases I ry
  have hT : s.TypeIs (.ref a) "dict" := by
    rcases g with ⟨b, ys, k, _, hm, _⟩ | ⟨vs, kk, hm, _⟩
    · exact hm.typeIs
    · exact hm.typeIs
  unfold subscriptTail
  refine wpAny_bind ?_
  rw [getitemInPython_of_ne hT.not_modules]
  refine wpAny_bind (wpAny_specialOf hT PySem.F.slot_dict_getitem.lookup ?_)
  have fin : wpAny (model X.prog X.w) X.A (subscripted slice false (Value.ref a) u) (fun r s₃ => wpAny (model X.prog X.w) X.A (letTemporaryGo value (Value.ref a) r >>= fun _ => pure r) (EP X pins σ Q) X.xe s₃) X.xe s := by
    rw [hs]
    refine wpAny_operating (wpAny_mono (Q := EP X pins σ Q) (E := X.xe) ?_ (fun r s₃ h₃ => wpAny_bind (wpAny_letTemporaryGo (wpAny_pure h₃))) fun _ _ x => x)
    rcases g with ⟨b, ys, k, rfl, hm, hk, e⟩ | ⟨vs, kk, hm, hk, e⟩
    · exact getItem_keyed (roomX hu) hk ⟨ys, hm, rfl⟩ e.symm ⟨vv, H, I.tok _, rv, q⟩
    · exact wpAny_getItem_of hk hm.mapOf e.symm ⟨vv, H, I.tok _, rv, q⟩
  exact wpAny_pure (wpAny_bind fin)
def rXin (neg : Bool) (w : World) : R2 := fun y x H Q => ∃ a r, x = .ref a ∧ LookX w H a y r ∧ Q (.bl (neg ^^ r.isSome)) H
theorem op_Xin (hu : X.A.units + 65 < cLine) : OpR X (compareOp .In) (rXin false X.w) := by
  rintro pins s σ H y x v u Q I ry rx ⟨a, r, rfl, g, q⟩
  obtain rfl : u = Value.ref a := rx
  obtain ⟨hsm, g⟩ := g.cases I ry
  rw [Bool.false_xor] at q
  rcases g with ⟨b, ys, k, rfl, hm, hk, rfl⟩ | ⟨vs, kk, hm, hk, rfl⟩
  · exact in_keyed (roomX hu) hk hsm ⟨ys, hm, rfl⟩ ⟨.bl _, H, I.tok _, rfl, q⟩
  · exact wpAny_in_of hk hsm hm.mapOf ⟨.bl _, H, I.tok _, rfl, q⟩
/-- d[k] = v -/
def rXS (w : World) : TSet := fun o i v H Q => ∃ a ep xs, o = .ref a ∧ H a = some (dX w a ep xs) ∧ xs.length < sizeLine ∧ ((∃ b ys k, xs = ys.map refK ∧ KOk H ys ∧ KeyAt H i b k ∧ ∀ ep u, RelV v u → Q (upd H a (dX w a ep ((storedH ys k b u).map refK)))) ∨
  (∃ ys k, xs = ys.map valK ∧ SOk ys ∧ i = kV k ∧ ∀ ep u zs, RelV v u → SOk zs → pairK zs = stored (pairK ys) k u → Q (upd H a (dX w a ep (zs.map valK)))))
theorem storedH_len (xs : List (NestedKey × Addr × Value)) (k : NestedKey) (b : Addr) (u : Value) : (storedH xs k b u).length ≤ xs.length + 1 := by
  unfold storedH
  split <;> simp
theorem stored_len (xs : List (Key × Value)) (k : Key) (u : Value) : (stored xs k u).length ≤ xs.length + 1 := by
  unfold stored
  split <;> simp
theorem set_dX (hu : X.A.units + 65 < cLine) : PSet X (rXS X.w) := by
  rintro pins s σ H o i v ov iv u Q I ro ri rv ⟨a, ep, xs, rfl, e, hz, h⟩
  obtain rfl : ov = Value.ref a := ro
  have mu : Mut (H a) := by rw [e]; exact True.intro
  rcases h with ⟨b, ys, k, rfl, hk, hi, q⟩ | ⟨ys, k, rfl, hk, rfl, q⟩
  · obtain rfl : iv = Value.ref b := by obtain ⟨rfl, _⟩ := hi; exact ri
    obtain ⟨hm, _, hsm⟩ := dX_ofT I.hok e hk
    rw [List.length_map] at hz
    refine wpAny_setItem_heap (hsz := Nat.le_of_lt hz) (roomX hu) (hi.is I.hok) hm fun h' hm' hs => ?_
    obtain ⟨ep, ok⟩ := dX_okT hm' (Nat.le_trans (storedH_len ys k b u) hz) hsm
    exact ⟨_, I.write (t' := s.toks + (nestedKind X.prog X.w).draws k) mu (.inl rfl) (fun c o nc e => (hs.2 c nc).trans e) (let ⟨o, _, _, e, _⟩ := hm'; ⟨o, e⟩) (ok _), q ep u rv⟩
  · obtain ⟨hm, hz2, hsm⟩ := dX_ofS I.hok e hk
    have lz : (pairK ys).length = ys.length := by simp [pairK]
    rw [List.length_map, ← lz] at hz
    refine wpAny_setItem_pairs (hsz := hz2) (kV_is ri) hm fun h' hm' hs => ?_
    obtain ⟨ep, zs, z1, z2, ok⟩ := dX_okS hm' (Nat.le_trans (stored_len _ _ _) hz) hsm
    exact ⟨_, I.write (t' := s.toks + 1) mu (.inl rfl) (fun c o nc e => (hs.2 c nc).trans e) (let ⟨o, _, _, e, _⟩ := hm'; ⟨o, e⟩) (ok _), q ep u zs rv z1 z2⟩
end
section
variable {X : Cx} {o e f : Expr} {apos cpos : Pos} {td ty tx : TE}
end
def tRe (w : World) (t : TE) : TE := fun σ H Q => t σ H fun v H1 => ∃ p kvs, v = .ref p ∧ H1 p = some (.dK kvs) ∧ ∀ ep ys, SOk ys → KV kvs (pairK ys) → Q v (upd H1 p (dX w p ep (ys.map valK)))
theorem pe_re {X : Cx} {e : Expr} {t : TE} (h : PE X e t) : PE X e (tRe X.w t) := ⟨fun pins s σ H Q J q => by
  refine thn (h.run pins s σ H _ J q) ?_
  rintro u s1 ⟨x, H1, J1, rx, p, kvs, rfl, e, q1⟩
  obtain ⟨hz, hs, vs, rel, hd⟩ := J1.hok _ _ e
  have hz2 : vs.length ≤ sizeLine := by rw [← rel.length]; exact hz
  obtain ⟨ep, ys, y1, y2, ok⟩ := dX_okS hd hz2 hs
  refine ⟨.ref p, _, J1.write (t' := s1.toks) (by rw [e]; exact True.intro) (.inl rfl) (fun c o _ z => z) (let ⟨o, _, _, z, _⟩ := hd; ⟨o, z⟩) (ok _), rx, q1 ep ys y1 (by rw [y2]; exact rel)⟩⟩
def Itx (w : World) (d : Addr) (ep : Nat) (xs : List (NestedKey × Value × Value)) (vs : List V) : It :=
  ⟨fun i H => H d = some (dX w d ep xs) ∧ i < vs.length, fun i H x H' => H' = H ∧ vs[i]? = some x, fun i H => H d = some (dX w d ep xs) ∧ vs.length ≤ i⟩
theorem turn_dX {P : Program} {w : World} {K : PySem.W.Frag} {tg : Expr} {d : Addr} {ep : Nat} {xs : List (NestedKey × Value × Value)} {vs : List V} (it : Addr) (rv : Vals vs (xs.map (·.2.1))) :
    Turn P w K tg (Itx w d ep xs vs) [it] it (fun i h => h.IsKeyIter it d i vs.length ep) where
  mem := List.mem_singleton.mpr rfl
  obj := fun i h st b hb => by
    obtain rfl := List.mem_singleton.mp hb
    obtain ⟨oi, e, c, dd⟩ := st
    exact ⟨oi, e, fun v z => by rw [dd] at z; cases z⟩
  keep := fun i h h' st k => st.at fun oi e => k it (List.mem_singleton.mpr rfl) oi e
  item := by
    rintro X rfl rfl rfl hc i pins s σ H E J hf st ⟨hd, hi⟩
    obtain ⟨f0, f1, f2, f3, f4, f5⟩ := hf it (List.mem_singleton.mpr rfl)
    obtain ⟨es, hm, he, _, _⟩ := dX_raw J.hok hd
    have ls : es.size = vs.length := by rw [← Array.length_toList, he, List.length_map, rv.length, List.length_map]
    obtain ⟨x, hx⟩ : ∃ x, vs[i]? = some x := ⟨vs[i], List.getElem?_eq_getElem hi⟩
    obtain ⟨u, hu, ru⟩ := rv.get hx
    rw [← ls] at st hi
    refine wpAny_pyNext_keys_item_raw st hm hi fun h' st' sb => ?_
    have ek : es[i].key = u := by
      rw [List.getElem?_map] at hu
      obtain ⟨y, hy, rfl⟩ := Option.map_eq_some_iff.mp hu
      have h1 : es.toList[i]? = some es[i] := by rw [Array.getElem?_toList, Array.getElem?_eq_getElem hi]
      rw [he, List.getElem?_map, hy] at h1
      exact (congrArg DictEntry.key (Option.some.inj h1)).symm
    have J1 : Inv X pins σ H { s with heap := h' } := J.turned (t' := s.toks) (fun b ob nb e => (sb.2 b nb).trans e) f0 f1 f3 f4 f5
    obtain ⟨oi, e, c, dd⟩ := id st'
    refine ⟨_, rfl, go_of (s := { s with heap := h' }) e c dd (by decide) ⟨x, H, J1, by rw [ek]; exact ru, ⟨rfl, hx⟩, ?_, fun b hb => (hf b hb).1⟩⟩
    show h'.IsKeyIter it d (i + 1) vs.length ep
    rw [← ls]
    exact st'
  done := by
    rintro X rfl rfl rfl hc i pins s σ H E J hf st ⟨hd, hi⟩
    obtain ⟨f0, f1, f2, f3, f4, f5⟩ := hf it (List.mem_singleton.mpr rfl)
    obtain ⟨es, hm, he, _, _⟩ := dX_raw J.hok hd
    have ls : es.size = vs.length := by rw [← Array.length_toList, he, List.length_map, rv.length, List.length_map]
    rw [← ls] at st hi
    exact wpAny_pyNext_keys_end_raw (J.ok.hd hc) st hm hi fun h' eb => ⟨rfl, J.turned (t' := s.toks) (fun b ob nb e => eb b ob nb e) f0 f1 f3 f4 f5⟩
  self := fun A i s Q E st h => wpAny_pyIter_keyiter st h
theorem walk_dX {w : World} {d : Addr} {ep : Nat} {xs : List (NestedKey × Value × Value)} {vs : List V} : Walk (Itx w d ep xs vs) vs.length (fun H => H d = some (dX w d ep xs)) (YAt vs) :=
  ⟨fun i _ hi q => ⟨q, hi⟩, fun _ q => ⟨q, Nat.le_refl _⟩, fun i H v H' _ q y => y⟩
end L2
namespace GS
open PySem L2
abbrev D := PyData
/-- the written part and the world -/
structure KW where
  fr : PySem.W.Frag
  w : World
instance : CoeOut KW PySem.W.Frag := ⟨KW.fr⟩
/-- how a slot holds its datum: shared (never changed any more), owned (the slot's own list or dict), lent by the caller -/
inductive Fl where | sh | ow | io
  deriving DecidableEq
structure Cel where
  d : D
  fl : Fl
abbrev Rho := List (Option Cel)
/-- what an expression gives: a shared datum, a new list or dict that nobody else holds, what stands in a slot -/
inductive Hd where | sh (d : D) | fr (d : D) | bw (i : Nat)
/-- an exception: its class's name, its fields -/
structure Xc where
  cls : Str
  fs : List (Str × D)
inductive RE where | stuck | ok (h : Hd) (ρ : Rho) | exc (x : Xc) (ρ : Rho)
inductive RS where | stuck | nx (ρ : Rho) | rt (h : Hd) (ρ : Rho) | bk (ρ : Rho) | ct (ρ : Rho) | exc (x : Xc) (ρ : Rho)
abbrev EF := Rho → RE
abbrev SF := Rho → RS
mutual
/-- a datum as a key -/
def nkD : D → Option NestedKey
  | .none => some .none
  | .bool b => some (.num (if b then 1 else 0))
  | .int i => some (.num i)
  | .str x => some (.text x)
  | .tuple ds => (nkL ds).map .tup
  | .list _ => none
  | .dict _ => none
def nkL : List D → Option (List NestedKey)
  | [] => some []
  | d :: ds => (nkD d).bind fun k => (nkL ds).map fun ks => k :: ks
end
/-- a tuple as a key -/
def tkD (ds : List D) : Option NestedKey := (nkL ds).bind fun ks => if (NestedKey.tup ks).depth ≤ 8 then some (.tup ks) else none
def tupB : D → Bool
  | .tuple _ => true
  | _ => false
/-- what may be a key -/
def keyD : D → Option NestedKey
  | .int i => some (.num i)
  | .str x => some (.text x)
  | .tuple ds => tkD ds
  | _ => none
def kD : Key → D
  | .inl i => .int i
  | .inr x => .str x
/-- the class of that name in the written part -/
def cvK (K : PySem.W.Frag) (c : Str) : Value := match K.find? (fun p => match p.2.data with | .cls cd => cd.name == c | _ => false) with
  | some p => .ref p.1
  | none => .none
/-- an exception object -/
def exV (a : Addr) (cls : Value) (d : Option Addr) : HO := .ext fun h => ∃ (oe : Obj) (vs : Array Value), h.get? a = some oe ∧ Zc cls d oe ∧ oe.data = .fields vs
/-- what the written part says of an own exception class -/
def xcB (K : PySem.W.Frag) (cls : Value) : Bool := match cls with
  | .ref D => (PySem.W.clsIn K D).isSome && (decide (PySem.W.findIn K (.ref D) "__getattribute__" = some (some (.builtin "BaseException.__getattribute__"))) && (decide (PySem.W.findIn K (.ref D) "__getattr__" = some none) && (decide (PySem.W.subIn K (.ref D) (.type "BaseException") = some true) &&
      (PySem.W.hasDictIn K D && (decide (PySem.W.findIn K (.ref D) "__class__" = some (some (.builtin "object.__class__"))) && (decide (PySem.W.specialIn K (.builtin "object.__class__") "__get__" = some (some (.builtin "getset_descriptor.__get__"))) &&
      (decide (PySem.W.takesIn K (.builtin "object.__class__") = some true) && (decide (PySem.W.mroIn K D (.type "object") = some true) && ["tuple", "str", "bool", "int", "list", "dict"].all fun T => decide (PySem.W.kitOne K (.ref D) (.type T) = some false)))))))))
  | _ => false
/-- an exception as a datum: its class's name, its fields' names, what they hold -/
abbrev xnD (c : Str) (ns : List Str) (ds : List D) : D := .dict [(.none, .tuple (.str c :: .tuple (ns.map PyData.str) :: ds))]
def xnB : List (D × D) → Bool
  | (.none, _) :: _ => true
  | _ => false
/-- an exception's dict -/
def XdB (B : Hp) (d : Option Addr) (fs : List (Str × V)) : Prop := (d = none ∧ fs = []) ∨ ∃ dd, d = some dd ∧ B dd = some (.xd fs)
mutual
inductive Rp (K : KW) (B : Hp) : V → D → Prop
  | non : Rp K B .non .none
  | bl (b : Bool) : Rp K B (.bl b) (.bool b)
  | int (i : Int) : Rp K B (.int i) (.int i)
  | str (x : Str) : Rp K B (.str x) (.str x)
  | lst {a : Addr} {xs : List V} {ds : List D} : SqL K B a xs → RpL K B xs ds → Rp K B (.ref a) (.list ds)
  | tup {a : Addr} {xs : List V} {ds : List D} : XT B a xs → RpL K B xs ds → Rp K B (.ref a) (.tuple ds)
  | dct {a : Addr} {ep : Nat} {b : Bool} {xs : List (NestedKey × Value × Value)} {ps : List (D × D)} : B a = some (dX K.w a ep xs) → RpX K B b xs ps → Rp K B (.ref a) (.dict ps)
  | exn {a : Addr} {c : Str} {d : Option Addr} {fs : List (Str × V)} {ds : List D} : B a = some (exV a (cvK K c) d) → xcB K (cvK K c) = true → XdB B d fs → RpL K B (fs.map (·.2)) ds → Rp K B (.ref a) (xnD c (fs.map (·.1)) ds)
inductive RpL (K : KW) (B : Hp) : List V → List D → Prop
  | nil : RpL K B [] []
  | cons {v : V} {vs : List V} {d : D} {ds : List D} : Rp K B v d → RpL K B vs ds → RpL K B (v :: vs) (d :: ds)
inductive RpK (K : KW) (B : Hp) : List (Key × V) → List (D × D) → Prop
  | nil : RpK K B [] []
  | cons {k : Key} {v : V} {kvs : List (Key × V)} {d : D} {ps : List (D × D)} : Rp K B v d → RpK K B kvs ps → RpK K B ((k, v) :: kvs) ((kD k, d) :: ps)
inductive RpX (K : KW) (B : Hp) : Bool → List (NestedKey × Value × Value) → List (D × D) → Prop
  | nil {b : Bool} : RpX K B b [] []
  | cons {b : Bool} {k : NestedKey} {kv v : V} {ku u : Value} {xs : List (NestedKey × Value × Value)} {kd d : D} {ps : List (D × D)} : keyD kd = some k → tupB kd = b → Rp K B kv kd → RelV kv ku → RelV v u → Rp K B v d → RpX K B b xs ps → RpX K B b ((k, ku, u) :: xs) ((kd, d) :: ps)
end
theorem same_rd {H H' : Hp} {a : Addr} {u : HO} (e : Same H H') (h : Rd H a u) : Rd H' a u := by
  rcases h with h | ⟨o, h⟩
  · exact .inl (e _ _ h)
  · exact .inr ⟨o, e _ _ h⟩
theorem same_l {K : KW} {H H' : Hp} {a : Addr} {xs : List V} (e : Same H H') (h : SqL K H a xs) : SqL K H' a xs := h.elim (fun h => .inl (same_rd e h)) .inr
theorem same_t {K : KW} {H H' : Hp} {a : Addr} {xs : List V} (e : Same H H') (h : SqT K H a xs) : SqT K H' a xs := h.elim (fun h => .inl (same_rd e h)) .inr
theorem same_x {H H' : Hp} {a : Addr} {xs : List V} (e : Same H H') (h : XT H a xs) : XT H' a xs := let ⟨o, h1, h2⟩ := h; ⟨o, e _ _ h1, h2⟩
theorem XdB.mono {B B' : Hp} {d : Option Addr} {fs : List (Str × V)} (e : Same B B') (h : XdB B d fs) : XdB B' d fs := h.imp id fun ⟨dd, e1, e2⟩ => ⟨dd, e1, e _ _ e2⟩
section
variable {K : KW} {B B' : Hp}
mutual
theorem Rp.mono (e : Same B B') : ∀ {v : V} {d : D}, Rp K B v d → Rp K B' v d
  | _, _, .non => .non
  | _, _, .bl b => .bl b
  | _, _, .int i => .int i
  | _, _, .str x => .str x
  | _, _, .lst h t => .lst (same_l e h) (RpL.mono e t)
  | _, _, .tup h t => .tup (same_x e h) (RpL.mono e t)
  | _, _, .dct h t => .dct (e _ _ h) (RpX.mono e t)
  | _, _, .exn h q x t => .exn (e _ _ h) q (x.mono e) (RpL.mono e t)
theorem RpL.mono (e : Same B B') : ∀ {v : List V} {d : List D}, RpL K B v d → RpL K B' v d
  | _, _, .nil => .nil
  | _, _, .cons h t => .cons (Rp.mono e h) (RpL.mono e t)
theorem RpK.mono (e : Same B B') : ∀ {v : List (Key × V)} {d : List (D × D)}, RpK K B v d → RpK K B' v d
  | _, _, .nil => .nil
  | _, _, .cons h t => .cons (Rp.mono e h) (RpK.mono e t)
theorem RpX.mono (e : Same B B') : ∀ {b : Bool} {v : List (NestedKey × Value × Value)} {d : List (D × D)}, RpX K B b v d → RpX K B' b v d
  | _, _, _, .nil => .nil
  | _, _, _, .cons h1 h2 h3 h4 h5 h6 m => .cons h1 h2 (Rp.mono e h3) h4 h5 (Rp.mono e h6) (RpX.mono e m)
end
theorem RpL.length : ∀ {vs : List V} {ds : List D}, RpL K B vs ds → vs.length = ds.length
  | _, _, .nil => rfl
  | _, _, .cons _ t => by rw [List.length_cons, List.length_cons, RpL.length t]
theorem RpL.get : ∀ {vs : List V} {ds : List D} {i : Nat} {d : D}, RpL K B vs ds → ds[i]? = some d → ∃ v, vs[i]? = some v ∧ Rp K B v d
  | _, _, _, _, .nil, e => by simp at e
  | _, _, 0, _, .cons h _, e => by simp at e; subst e; exact ⟨_, rfl, h⟩
  | _, _, i + 1, d, .cons _ t, e => by
    obtain ⟨v, h1, h2⟩ := RpL.get (i := i) (d := d) t (by simpa using e)
    exact ⟨v, by simpa using h1, h2⟩
theorem RpL.getV : ∀ {vs : List V} {ds : List D} {i : Nat} {v : V}, RpL K B vs ds → vs[i]? = some v → ∃ d, ds[i]? = some d ∧ Rp K B v d
  | _, _, _, _, .nil, e => by simp at e
  | _, _, 0, _, .cons h _, e => by simp at e; subst e; exact ⟨_, rfl, h⟩
  | _, _, i + 1, d, .cons _ t, e => by
    obtain ⟨v, h1, h2⟩ := RpL.getV (i := i) (v := d) t (by simpa using e)
    exact ⟨v, by simpa using h1, h2⟩
theorem RpL.append : ∀ {vs ws : List V} {ds es : List D}, RpL K B vs ds → RpL K B ws es → RpL K B (vs ++ ws) (ds ++ es)
  | _, _, _, _, .nil, s => s
  | _, _, _, _, .cons h t, s => .cons h (RpL.append t s)
theorem RpL.take : ∀ {vs : List V} {ds : List D} (n : Nat), RpL K B vs ds → RpL K B (vs.take n) (ds.take n)
  | _, _, 0, _ => .nil
  | _, _, _ + 1, .nil => .nil
  | _, _, n + 1, .cons h t => .cons h (RpL.take n t)
theorem RpL.drop : ∀ {vs : List V} {ds : List D} (n : Nat), RpL K B vs ds → RpL K B (vs.drop n) (ds.drop n)
  | _, _, 0, r => r
  | _, _, _ + 1, .nil => .nil
  | _, _, n + 1, .cons _ t => RpL.drop n t
theorem RpL.set {x : V} {e : D} (r : Rp K B x e) : ∀ {vs : List V} {ds : List D} (i : Nat), RpL K B vs ds → RpL K B (vs.set i x) (ds.set i e)
  | _, _, _, .nil => .nil
  | _, _, 0, .cons _ t => .cons r t
  | _, _, i + 1, .cons q t => .cons q (RpL.set r i t)
theorem RpL.reverse {vs : List V} {ds : List D} (h : RpL K B vs ds) : RpL K B vs.reverse ds.reverse := by
  induction vs generalizing ds with
  | nil => cases h; exact .nil
  | cons v vs ih =>
    cases h with
    | cons h1 h2 =>
      rw [List.reverse_cons, List.reverse_cons]
      exact (ih h2).append (.cons h1 .nil)
mutual
def plain : D → Bool
  | .none => true
  | .bool _ => true
  | .int _ => true
  | .str _ => true
  | .list ds => plainL ds
  | .tuple ds => plainL ds
  | .dict _ => false
def plainL : List D → Bool
  | [] => true
  | d :: ds => plain d && plainL ds
end
mutual
theorem Rp.dp : ∀ {v : V} (d : D), Rp K B v d → plain d = true → Dp K B v d
  | _, .none, .non, _ => .non
  | _, .bool _, .bl b, _ => .bl b
  | _, .int _, .int i, _ => .int i
  | _, .str _, .str x, _ => .str x
  | _, .list ds, .lst h t, e => .lst h (RpL.dp ds t (by unfold plain at e; exact e))
  | _, .tuple ds, .tup h t, e => .tup h.sq (RpL.dp ds t (by unfold plain at e; exact e))
  | _, .dict _, .dct h t, e => by unfold plain at e; cases e
  | _, .dict _, .exn _ _ _ _, e => by unfold plain at e; cases e
theorem RpL.dp : ∀ {vs : List V} (ds : List D), RpL K B vs ds → plainL ds = true → DpAll K B vs ds
  | _, [], .nil, _ => .nil
  | _, d :: ds, .cons h t, e => by
    unfold plainL at e
    rw [Bool.and_eq_true] at e
    exact .cons (Rp.dp d h e.1) (RpL.dp ds t e.2)
end
end
/-- the object of an owned slot -/
def Ow (K : KW) (B : Hp) (a : Addr) (o : Option HO) : D → Prop
  | .list ds => ∃ vs, o = some (.lst vs) ∧ RpL K B vs ds
  | .dict ps => ∃ ep b xs, o = some (dX K.w a ep xs) ∧ RpX K B b xs ps
  | _ => False
theorem Ow.mono {K : KW} {B B' : Hp} {a : Addr} {o : Option HO} (e : Same B B') : ∀ {d : D}, Ow K B a o d → Ow K B' a o d
  | .list _, ⟨vs, h1, h2⟩ => ⟨vs, h1, h2.mono e⟩
  | .dict _, ⟨ep, b, xs, h1, h2⟩ => ⟨ep, b, xs, h1, h2.mono e⟩
theorem Ow.some {K : KW} {B : Hp} {a : Addr} {o : Option HO} : ∀ {d : D}, Ow K B a o d → ∃ u, o = Option.some u
  | .list _, ⟨vs, h1, _⟩ => ⟨_, h1⟩
  | .dict _, ⟨_, _, _, h1, _⟩ => ⟨_, h1⟩
/-- slot i holds v by c -/
def COk (K : KW) (B H : Hp) (c : Cel) (v : V) : Prop :=
  (c.fl = .sh ∧ Rp K B v c.d) ∨ (c.fl ≠ .sh ∧ ∃ a, v = .ref a ∧ B a = none ∧ Ow K B a (H a) c.d)
def OwnA (ρ : Rho) (σ : St) (a : Addr) : Prop := ∃ (i : Nat) (c : Cel), ρ[i]? = some (some c) ∧ c.fl ≠ .sh ∧ σ[i]? = some (some (.ref a))
structure Sim (K : KW) (ρ : Rho) (σ : St) (B H : Hp) : Prop where
  bh : Same B H
  len : ρ.length = σ.length
  sl : ∀ (i : Nat) (c : Cel), ρ[i]? = some (some c) → ∃ v, σ[i]? = some (some v) ∧ COk K B H c v
  dj : ∀ (i j : Nat) (ci cj : Cel) (a : Addr), ρ[i]? = some (some ci) → ρ[j]? = some (some cj) → ci.fl ≠ .sh → cj.fl ≠ .sh → σ[i]? = some (some (.ref a)) → σ[j]? = some (some (.ref a)) → i = j
/-- what may become shared or owned: a new address, or an owned one -/
def New (ρ : Rho) (σ : St) (H : Hp) (a : Addr) : Prop := H a = none ∨ OwnA ρ σ a
/-- from one state to a later one: what is shared stays and grows by new objects (and owned ones that are given up); what was neither shared nor owned stays -/
structure Ext (ρ : Rho) (σ : St) (B H : Hp) (ρ' : Rho) (σ' : St) (B' H' : Hp) : Prop where
  bb : Same B B'
  nw : ∀ a o, B' a = some o → B a = some o ∨ New ρ σ H a
  kp : ∀ a o, H a = some o → ¬ OwnA ρ σ a → H' a = some o
  sub : ∀ a, OwnA ρ' σ' a → New ρ σ H a
  io : ∀ (i : Nat) (c : Cel), ρ[i]? = some (some c) → c.fl = .io → σ'[i]? = σ[i]? ∧ ∃ c', ρ'[i]? = some (some c') ∧ c'.fl = .io
  oi : ∀ (i : Nat) (c : Cel), ρ'[i]? = some (some c) → c.fl = .io → ∃ c', ρ[i]? = some (some c') ∧ c'.fl = .io
section
variable {K : KW} {ρ ρ1 ρ2 : Rho} {σ σ1 σ2 : St} {B B1 B2 H H1 H2 : Hp}
theorem Ext.refl : Ext ρ σ B H ρ σ B H :=
  ⟨Same.refl B, fun _ _ h => .inl h, fun _ _ h _ => h, fun _ h => .inr h, fun i c h1 h2 => ⟨rfl, c, h1, h2⟩, fun i c h1 h2 => ⟨c, h1, h2⟩⟩
/-- what is new later is new from the start -/
theorem Ext.back (a : Ext ρ σ B H ρ1 σ1 B1 H1) {x : Addr} (h : New ρ1 σ1 H1 x) : New ρ σ H x := by
  rcases h with h | h
  · by_cases ho : OwnA ρ σ x
    · exact .inr ho
    · cases e : H x with
      | none => exact .inl e
      | some u =>
        rw [a.kp x u e ho] at h
        cases h
  · exact a.sub x h
theorem Ext.trans (a : Ext ρ σ B H ρ1 σ1 B1 H1) (b : Ext ρ1 σ1 B1 H1 ρ2 σ2 B2 H2) : Ext ρ σ B H ρ2 σ2 B2 H2 where
  bb := a.bb.trans b.bb
  nw := fun x o h => (b.nw x o h).elim (fun h => a.nw x o h) fun h => .inr (a.back h)
  kp := fun x o h n => b.kp x o (a.kp x o h n) fun q => (a.sub x q).elim (fun z => by rw [h] at z; cases z) n
  sub := fun x h => a.back (b.sub x h)
  io := fun i c h1 h2 => by
    obtain ⟨e1, c1, q1, q2⟩ := a.io i c h1 h2
    obtain ⟨e2, c2, q3, q4⟩ := b.io i c1 q1 q2
    exact ⟨e2.trans e1, c2, q3, q4⟩
  oi := fun i c h1 h2 => by
    obtain ⟨c1, q1, q2⟩ := b.oi i c h1 h2
    exact a.oi i c1 q1 q2
/-- an address that is tracked, not shared and nobody's stays so -/
theorem Ext.keepN (a : Ext ρ σ B H ρ1 σ1 B1 H1) {x : Addr} {o : HO} (h : H x = some o) (hb : B x = none) (n : ¬ OwnA ρ σ x) : H1 x = some o ∧ B1 x = none ∧ ¬ OwnA ρ1 σ1 x := by
  have nn : ¬ New ρ σ H x := fun q => q.elim (fun z => by rw [h] at z; cases z) n
  refine ⟨a.kp x o h n, ?_, fun q => nn (a.sub x q)⟩
  cases e : B1 x with
  | none => rfl
  | some u =>
    rcases a.nw x u e with q | q
    · rw [hb] at q; cases q
    · exact absurd q nn
theorem Sim.ownH (S : Sim K ρ σ B H) {a : Addr} (h : OwnA ρ σ a) : B a = none ∧ ∃ o, H a = some o := by
  obtain ⟨i, c, h1, h2, h3⟩ := h
  obtain ⟨v, e, q⟩ := S.sl i c h1
  rw [h3] at e
  cases e
  rcases q with ⟨z, _⟩ | ⟨_, b, e, q1, q2⟩
  · exact absurd z h2
  · cases e
    exact ⟨q1, q2.some⟩
theorem Sim.free (S : Sim K ρ σ B H) {p : Addr} (h : H p = none) : B p = none ∧ ¬ OwnA ρ σ p :=
  ⟨S.bh.free h, fun q => by obtain ⟨_, o, e⟩ := S.ownH q; rw [h] at e; cases e⟩
theorem COk.mono {c : Cel} {v : V} (h : COk K B H c v) (e : Same B B1) (hf : ∀ a, v = .ref a → B a = none → (∃ o, H a = some o) → c.fl ≠ .sh → B1 a = none ∧ H1 a = H a) : COk K B1 H1 c v := by
  rcases h with ⟨h1, h2⟩ | ⟨h1, a, rfl, h2, h3⟩
  · exact .inl ⟨h1, h2.mono e⟩
  · obtain ⟨q1, q2⟩ := hf a rfl h2 h3.some h1
    exact .inr ⟨h1, a, rfl, q1, by rw [q2]; exact h3.mono e⟩
/-- a new object, shared -/
theorem Sim.newB (S : Sim K ρ σ B H) {p : Addr} (hp : H p = none) (o : HO) : Sim K ρ σ (upd B p o) (upd H p o) ∧ Ext ρ σ B H ρ σ (upd B p o) (upd H p o) := by
  obtain ⟨bp, np⟩ := S.free hp
  have sB : Same B (upd B p o) := fun b u e => by rw [upd_ne (ne_of_none e bp)]; exact e
  have sH : Same H (upd H p o) := fun b u e => by rw [upd_ne (ne_of_none e hp)]; exact e
  refine ⟨⟨fun b u e => ?_, S.len, fun i c h => ?_, S.dj⟩, ⟨sB, fun a u e => ?_, fun a u e _ => sH a u e, fun _ h => .inr h, fun i c h1 h2 => ⟨rfl, c, h1, h2⟩, fun i c h1 h2 => ⟨c, h1, h2⟩⟩⟩
  · by_cases hb : b = p
    · subst hb; rw [upd_same] at e ⊢; exact e
    · rw [upd_ne hb] at e ⊢; exact S.bh _ _ e
  · obtain ⟨v, e, q⟩ := S.sl i c h
    refine ⟨v, e, q.mono sB fun a hv ha ho hf => ?_⟩
    have ne : a ≠ p := fun z => by subst z; obtain ⟨_, w⟩ := ho; rw [hp] at w; cases w
    exact ⟨by rw [upd_ne ne]; exact ha, by rw [upd_ne ne]⟩
  · by_cases hb : a = p
    · subst hb; exact .inr (.inl hp)
    · rw [upd_ne hb] at e; exact .inl e
/-- a new object that nobody holds yet -/
theorem Sim.newH (S : Sim K ρ σ B H) {p : Addr} (hp : H p = none) (o : HO) : Sim K ρ σ B (upd H p o) ∧ Ext ρ σ B H ρ σ B (upd H p o) := by
  obtain ⟨bp, np⟩ := S.free hp
  have sH : Same H (upd H p o) := fun b u e => by rw [upd_ne (ne_of_none e hp)]; exact e
  refine ⟨⟨S.bh.trans sH, S.len, fun i c h => ?_, S.dj⟩, ⟨Same.refl B, fun a u e => .inl e, fun a u e _ => sH a u e, fun _ h => .inr h, fun i c h1 h2 => ⟨rfl, c, h1, h2⟩, fun i c h1 h2 => ⟨c, h1, h2⟩⟩⟩
  obtain ⟨v, e, q⟩ := S.sl i c h
  refine ⟨v, e, q.mono (Same.refl B) fun a hv ha ho hf => ?_⟩
  have ne : a ≠ p := fun z => by subst z; obtain ⟨_, w⟩ := ho; rw [hp] at w; cases w
  exact ⟨ha, by rw [upd_ne ne]⟩
/-- an object that nobody holds becomes shared -/
theorem Sim.share (S : Sim K ρ σ B H) {p : Addr} {o : HO} (hb : B p = none) (hp : H p = some o) (n : ¬ OwnA ρ σ p) : Sim K ρ σ (upd B p o) H := by
  have sB : Same B (upd B p o) := fun b u e => by rw [upd_ne (ne_of_none e hb)]; exact e
  refine ⟨fun b u e => ?_, S.len, fun i c h => ?_, S.dj⟩
  · by_cases h : b = p
    · subst h; rw [upd_same] at e; cases e; exact hp
    · rw [upd_ne h] at e; exact S.bh _ _ e
  · obtain ⟨v, e, q⟩ := S.sl i c h
    refine ⟨v, e, q.mono sB fun a hv ha ho hf => ⟨?_, rfl⟩⟩
    have ne : a ≠ p := fun z => by subst z; subst hv; exact n ⟨i, c, h, hf, e⟩
    rw [upd_ne ne]; exact ha
end
end GS
namespace GS
open PySem L2
def HdOk (K : KW) (N : Addr → Prop) (ρ : Rho) (σ : St) (B H : Hp) (v : V) : Hd → Prop
  | .sh d => Rp K B v d
  | .fr d => ∃ a, v = .ref a ∧ B a = none ∧ Ow K B a (H a) d ∧ ¬ OwnA ρ σ a ∧ N a
  | .bw i => σ[i]? = some (some v)
/-- the context of a reading: the written part, the classes' values by name, what is wanted of an exception -/
structure Ct where
  K : KW
  cv : Str → Value
  W : WX
def XcOk (C : Ct) (B : Hp) (x : Xc) (cls : Value) (dct : Option Addr) : Prop :=
  cls = C.cv x.cls ∧ ((x.fs = [] ∧ dct = none) ∨ ∃ a fs, dct = some a ∧ B a = some (.xd fs) ∧ fs.map (·.1) = x.fs.map (·.1) ∧ RpL C.K B (fs.map (·.2)) (x.fs.map (·.2)))
def GoodE (C : Ct) (ρ : Rho) (σ : St) (B H : Hp) (Q : VK) : RE → Prop
  | .stuck => False
  | .ok h ρ' => ∀ v B' H', Sim C.K ρ' σ B' H' → Ext ρ σ B H ρ' σ B' H' → HdOk C.K (New ρ σ H) ρ' σ B' H' v h → Q v H'
  | .exc x ρ' => ∀ cls dct B' H', Sim C.K ρ' σ B' H' → Ext ρ σ B H ρ' σ B' H' → XcOk C B' x cls dct → C.W cls dct σ H'
def LkE (C : Ct) (t : TE) (f : EF) : Prop := ∀ ρ σ B H Q, Sim C.K ρ σ B H → GoodE C ρ σ B H Q (f ρ) → t σ H Q
structure SE (X : Cx) (C : Ct) (e : Expr) (t : TE) (f : EF) : Prop where
  pe : PE X e t
  lk : LkE C t f
def bindE (r : RE) (k : Hd → Rho → RE) : RE := match r with
  | .stuck => .stuck
  | .ok h ρ => k h ρ
  | .exc x ρ => .exc x ρ
/-- what a slot holds -/
def slot (ρ : Rho) (i : Nat) : Option Cel := match ρ[i]? with
  | some (some c) => some c
  | _ => none
theorem slot_some {ρ : Rho} {i : Nat} {c : Cel} (h : slot ρ i = some c) : ρ[i]? = some (some c) := by
  unfold slot at h
  split at h
  · rename_i c' e; cases h; exact e
  · cases h
def getH (ρ : Rho) : Hd → Option D
  | .sh d => some d
  | .fr d => some d
  | .bw i => (slot ρ i).map (·.d)
def capH (ρ : Rho) : Hd → Option D
  | .sh d => some d
  | .fr d => some d
  | .bw i => match slot ρ i with
    | some ⟨d, .sh⟩ => some d
    | _ => none
def setl : Hd → Hd
  | .fr d => .sh d
  | h => h
/-- captured: a shared datum -/
def eCap (f : EF) : EF := fun ρ => bindE (f ρ) fun h ρ' => match capH ρ' h with
  | some d => .ok (.sh d) ρ'
  | none => .stuck
/-- looked at: what is new is shared -/
def eSet (f : EF) : EF := fun ρ => bindE (f ρ) fun h ρ' => .ok (setl h) ρ'
section
variable {C : Ct} {ρ ρ' ρ1 : Rho} {σ : St} {B B' H H' B1 H1 : Hp} {Q : VK} {t ta tb : TE} {f fa fb : EF} {N N' : Addr → Prop} {v : V}
theorem HdOk.mono {K : KW} (k : ∀ a, N a → N' a) : ∀ {h : Hd}, HdOk K N ρ σ B H v h → HdOk K N' ρ σ B H v h
  | .sh _, q => q
  | .fr _, ⟨a, h1, h2, h3, h4, h5⟩ => ⟨a, h1, h2, h3, h4, k a h5⟩
  | .bw _, q => q
/-- a step in the middle: what is good behind is good ahead -/
theorem GoodE.ext (e : Ext ρ σ B H ρ1 σ B1 H1) : ∀ {r : RE}, GoodE C ρ σ B H Q r → GoodE C ρ1 σ B1 H1 Q r
  | .stuck, h => h
  | .ok _ _, h => fun v B' H' s x y => h v B' H' s (e.trans x) (y.mono fun _ z => e.back z)
  | .exc _ _, h => fun c d B' H' s x => h c d B' H' s (e.trans x)
theorem GoodE.imp {Q' : VK} (k : ∀ v H, Q v H → Q' v H) : ∀ {r : RE}, GoodE C ρ σ B H Q r → GoodE C ρ σ B H Q' r
  | .stuck, h => h
  | .ok _ _, h => fun v B' H' s x y => k _ _ (h v B' H' s x y)
  | .exc _ _, h => h
/-- THE RULE: an expression, then what follows -/
theorem LkE.bind (l : LkE C t f) (S : Sim C.K ρ σ B H) {k : Hd → Rho → RE} {Q' : VK} (g : GoodE C ρ σ B H Q (bindE (f ρ) k))
    (h : ∀ hd ρ1 v B1 H1, Sim C.K ρ1 σ B1 H1 → Ext ρ σ B H ρ1 σ B1 H1 → HdOk C.K (New ρ σ H) ρ1 σ B1 H1 v hd → GoodE C ρ σ B H Q (k hd ρ1) → Q' v H1) : t σ H Q' := by
  refine l ρ σ B H Q' S ?_
  cases e : f ρ with
  | stuck => rw [e] at g; exact g
  | ok hd ρ1 =>
    rw [e] at g
    exact fun v B1 H1 s x y => h hd ρ1 v B1 H1 s x y g
  | exc x ρ1 =>
    rw [e] at g
    exact g
/-- a new datum that nobody holds is shared from here on -/
theorem Sim.cap (S : Sim C.K ρ1 σ B1 H1) (x : Ext ρ σ B H ρ1 σ B1 H1) {d : D} (h : HdOk C.K (New ρ σ H) ρ1 σ B1 H1 v (.fr d)) : ∃ B2, Sim C.K ρ1 σ B2 H1 ∧ Ext ρ σ B H ρ1 σ B2 H1 ∧ Rp C.K B2 v d := by
  obtain ⟨a, rfl, hb, ho, hn, hN⟩ := h
  obtain ⟨o, e⟩ := ho.some
  have sB : Same B1 (upd B1 a o) := fun b u e => by rw [upd_ne (ne_of_none e hb)]; exact e
  refine ⟨upd B1 a o, S.share hb e hn, ⟨x.bb.trans sB, fun b u e => ?_, x.kp, x.sub, x.io, x.oi⟩, ?_⟩
  · by_cases hb : b = a
    · subst hb; exact .inr hN
    · rw [upd_ne hb] at e; exact x.nw b u e
  · rw [e] at ho
    have ho := ho.mono sB
    cases d with
    | list ds =>
      obtain ⟨vs, e1, e2⟩ := ho
      cases e1
      exact .lst (.inl (.inl upd_same)) e2
    | dict ps =>
      obtain ⟨ep, b, xs, e1, e2⟩ := ho
      cases e1
      exact .dct upd_same e2
    | _ => exact ho.elim
theorem LkE.cap (l : LkE C t f) : LkE C t (eCap f) := fun ρ σ B H Q S g => by
  refine l.bind S g fun hd ρ1 v B1 H1 S1 x y g => ?_
  cases hd with
  | sh d => exact g v B1 H1 S1 x y
  | fr d =>
    obtain ⟨B2, S2, x2, r⟩ := S1.cap x y
    exact g v B2 H1 S2 x2 r
  | bw i =>
    unfold capH at g
    dsimp only at g
    split at g
    · rename_i d e
      split at e
      · rename_i d' e'
        cases e
        have e' := slot_some e'
        obtain ⟨v', q1, q2⟩ := S1.sl i _ e'
        have y' : σ[i]? = some (some v) := y
        rw [y'] at q1
        cases q1
        rcases q2 with ⟨_, q2⟩ | ⟨q, _⟩
        · exact g v B1 H1 S1 x q2
        · exact absurd rfl q
      · cases e
    · exact g.elim
theorem LkE.set (l : LkE C t f) : LkE C t (eSet f) := fun ρ σ B H Q S g => by
  refine l.bind S g fun hd ρ1 v B1 H1 S1 x y g => ?_
  cases hd with
  | sh d => exact g v B1 H1 S1 x y
  | fr d =>
    obtain ⟨B2, S2, x2, r⟩ := S1.cap x y
    exact g v B2 H1 S2 x2 r
  | bw i => exact g v B1 H1 S1 x y
theorem SE.cap {X : Cx} {e : Expr} (h : SE X C e t f) : SE X C e t (eCap f) := ⟨h.pe, h.lk.cap⟩
theorem SE.set {X : Cx} {e : Expr} (h : SE X C e t f) : SE X C e t (eSet f) := ⟨h.pe, h.lk.set⟩
def Tp (K : KW) (B H : Hp) (v : V) : D → Prop
  | .list ds => ∃ a vs, v = .ref a ∧ SqL K H a vs ∧ RpL K B vs ds
  | .dict ps => (∃ a ep b xs, v = .ref a ∧ H a = some (dX K.w a ep xs) ∧ RpX K B b xs ps) ∨ (xnB ps = true ∧ Rp K B v (.dict ps))
  | d => Rp K B v d
theorem Tp.of {K : KW} (s : Same B H) : ∀ {d : D}, Rp K B v d → Tp K B H v d
  | .list _, .lst h t => ⟨_, _, rfl, same_l s h, t⟩
  | .dict _, .dct h t => .inl ⟨_, _, _, _, rfl, s _ _ h, t⟩
  | .dict _, .exn h q x t => .inr ⟨rfl, .exn h q x t⟩
  | .none, h => h
  | .bool _, h => h
  | .int _, h => h
  | .str _, h => h
  | .tuple _, h => h
theorem Tp.rp {K : KW} (s : Same B H) : ∀ {d : D}, Tp K B H v d → Rp K H v d
  | .list _, ⟨_, _, e, h, t⟩ => by subst e; exact .lst h (t.mono s)
  | .dict _, .inl ⟨_, _, _, _, e, h, t⟩ => by subst e; exact .dct h (t.mono s)
  | .dict _, .inr ⟨_, h⟩ => Rp.mono s h
  | .none, h => Rp.mono s h
  | .bool _, h => Rp.mono s h
  | .int _, h => Rp.mono s h
  | .str _, h => Rp.mono s h
  | .tuple _, h => Rp.mono s h
theorem Sim.tp (S : Sim C.K ρ σ B H) {h : Hd} {d : D} (y : HdOk C.K N ρ σ B H v h) (g : getH ρ h = some d) : Tp C.K B H v d := by
  cases h with
  | sh e =>
    cases g
    exact Tp.of S.bh y
  | fr e =>
    cases g
    obtain ⟨a, rfl, hb, ho, _⟩ := y
    cases d with
    | list ds =>
      obtain ⟨vs, e1, e2⟩ := ho
      exact ⟨a, vs, rfl, .inl (.inl e1), e2⟩
    | dict ds =>
      obtain ⟨ep, b, xs, e1, e2⟩ := ho
      exact .inl ⟨a, ep, b, xs, rfl, e1, e2⟩
    | _ => exact ho.elim
  | bw i =>
    replace g : (slot ρ i).map (·.d) = some d := g
    cases e : slot ρ i with
    | none => rw [e] at g; cases g
    | some c =>
      rw [e] at g
      cases g
      obtain ⟨v', q1, q2⟩ := S.sl i c (slot_some e)
      have y' : σ[i]? = some (some v) := y
      rw [y'] at q1
      cases q1
      rcases q2 with ⟨_, q2⟩ | ⟨_, a, rfl, hb, ho⟩
      · exact Tp.of S.bh q2
      · obtain ⟨d, fl⟩ := c
        cases d with
        | list ds =>
          obtain ⟨vs, e1, e2⟩ := ho
          exact ⟨a, vs, rfl, .inl (.inl e1), e2⟩
        | dict ds =>
          obtain ⟨ep, b, xs, e1, e2⟩ := ho
          exact .inl ⟨a, ep, b, xs, rfl, e1, e2⟩
        | _ => exact ho.elim
/-- a looked-at operand stays good -/
theorem HdOk.ext (x : Ext ρ σ B H ρ1 σ B1 H1) {h : Hd} (y : HdOk C.K N ρ σ B H v (setl h)) : HdOk C.K N' ρ1 σ B1 H1 v (setl h) := by
  cases h with
  | sh d => exact Rp.mono x.bb y
  | fr d => exact Rp.mono x.bb y
  | bw i => exact y
def OpL (K : KW) (r : R2) (o : D → D → Option Hd) : Prop := ∀ ρ σ B H x y dx dy h Q, Sim K ρ σ B H → Tp K B H x dx → Tp K B H y dy → o dx dy = some h →
  (∀ v B' H', Sim K ρ σ B' H' → Ext ρ σ B H ρ σ B' H' → HdOk K (New ρ σ H) ρ σ B' H' v h → Q v H') → r x y H Q
def eBin (o : D → D → Option Hd) (fa fb : EF) : EF := fun ρ => bindE (eSet fa ρ) fun ha ρ1 => bindE (eSet fb ρ1) fun hb ρ2 => match getH ρ2 ha, getH ρ2 hb with
  | some da, some db => match o da db with
    | some h => .ok h ρ2
    | none => .stuck
  | _, _ => .stuck
theorem LkE.setBind (l : LkE C t f) (S : Sim C.K ρ σ B H) {k : Hd → Rho → RE} {Q' : VK} (g : GoodE C ρ σ B H Q (bindE (eSet f ρ) k))
    (h : ∀ hd ρ1 v B1 H1, Sim C.K ρ1 σ B1 H1 → Ext ρ σ B H ρ1 σ B1 H1 → HdOk C.K (New ρ σ H) ρ1 σ B1 H1 v (setl hd) → GoodE C ρ1 σ B1 H1 Q (k (setl hd) ρ1) → Q' v H1) : t σ H Q' := by
  refine l.set ρ σ B H Q' S ?_
  unfold eSet at g ⊢
  cases e : f ρ with
  | stuck => rw [e] at g; exact g
  | ok hd ρ1 =>
    rw [e] at g
    exact fun v B1 H1 s x y => h hd ρ1 v B1 H1 s x y (GoodE.ext x g)
  | exc x ρ1 =>
    rw [e] at g
    exact g
theorem lk_op {r : R2} {o : D → D → Option Hd} (hr : OpL C.K r o) (la : LkE C ta fa) (lb : LkE C tb fb) : LkE C (tOp r ta tb) (eBin o fa fb) := fun ρ σ B H Q S g => by
  refine la.setBind S g fun ha ρ1 x B1 H1 S1 e1 y1 g1 => ?_
  refine lb.setBind S1 g1 fun hb ρ2 y B2 H2 S2 e2 y2 g2 => ?_
  split at g2
  · rename_i da db ea eb
    split at g2
    · rename_i h eh
      exact hr ρ2 σ B2 H2 x y da db h Q S2 (S2.tp (N := fun _ => True) (HdOk.ext e2 y1) ea) (S2.tp y2 eb) eh g2
    · exact g2.elim
  · exact g2.elim
theorem se_bin {X : Cx} {r : R2} {o : D → D → Option Hd} {op : Operator} {a b : Expr} {pos : Pos} (hr : OpL C.K r o) (ho : OpR X (binaryOp op) r) (la : SE X C a ta fa) (lb : SE X C b tb fb) : SE X C (.BinOp a op b pos) (tOp r ta tb) (eBin o fa fb) :=
  ⟨pe_op ho la.pe lb.pe, lk_op hr la.lk lb.lk⟩
/-- two ways of one operator -/
def orO (o o' : D → D → Option Hd) : D → D → Option Hd := fun x y => match o x y with
  | some h => some h
  | none => o' x y
theorem OpL.or {K : KW} {r r' : R2} {o o' : D → D → Option Hd} (a : OpL K r o) (b : OpL K r' o') : OpL K (fun x y H Q => r x y H Q ∨ r' x y H Q) (orO o o') := fun ρ σ B H x y dx dy h Q S tx ty e k => by
  unfold orO at e
  cases q : o dx dy with
  | some h' =>
    rw [q] at e
    cases e
    exact .inl (a ρ σ B H x y dx dy _ Q S tx ty q k)
  | none =>
    rw [q] at e
    exact .inr (b ρ σ B H x y dx dy _ Q S tx ty e k)
end
end GS
namespace GS
open PySem L2 PySem.Calls
section
variable {K : KW} {ρ : Rho} {σ : St} {B H : Hp} {v x y : V} {Q : VK}
theorem Tp.int {i : Int} (h : Tp K B H v (.int i)) : v = .int i := by cases h; rfl
theorem Tp.str {i : Str} (h : Tp K B H v (.str i)) : v = .str i := by cases h; rfl
theorem Tp.bl {i : Bool} (h : Tp K B H v (.bool i)) : v = .bl i := by cases h; rfl
theorem Tp.non (h : Tp K B H v .none) : v = .non := by cases h; rfl
theorem Rp.tupE {ds : List D} (h : Rp K B v (.tuple ds)) : ∃ a vs, v = .ref a ∧ SqT K B a vs ∧ RpL K B vs ds := by
  cases h with
  | tup h t => exact ⟨_, _, rfl, h.sq, t⟩
theorem Rp.tupX {ds : List D} (h : Rp K B v (.tuple ds)) : ∃ a vs, v = .ref a ∧ XT B a vs ∧ RpL K B vs ds := by
  cases h with
  | tup h t => exact ⟨_, _, rfl, h, t⟩
theorem Rp.lstE {ds : List D} (h : Rp K B v (.list ds)) : ∃ a vs, v = .ref a ∧ SqL K B a vs ∧ RpL K B vs ds := by
  cases h with
  | lst h t => exact ⟨_, _, rfl, h, t⟩
theorem Tp.tup {ds : List D} (h : Tp K B H v (.tuple ds)) : ∃ a vs, v = .ref a ∧ SqT K B a vs ∧ RpL K B vs ds := Rp.tupE h
theorem Tp.tupX {ds : List D} (h : Tp K B H v (.tuple ds)) : ∃ a vs, v = .ref a ∧ XT B a vs ∧ RpL K B vs ds := Rp.tupX h
/-- the state as it is, a shared value -/
theorem now (S : Sim K ρ σ B H) {d : D} (h : Rp K B v d) (k : ∀ v B' H', Sim K ρ σ B' H' → Ext ρ σ B H ρ σ B' H' → HdOk K (New ρ σ H) ρ σ B' H' v (.sh d) → Q v H') : Q v H := k v B H S Ext.refl h
/-- a new tuple, shared -/
theorem newT (S : Sim K ρ σ B H) {vs : List V} {ds : List D} (h : RpL K B vs ds) (k : ∀ v B' H', Sim K ρ σ B' H' → Ext ρ σ B H ρ σ B' H' → HdOk K (New ρ σ H) ρ σ B' H' v (.sh (.tuple ds)) → Q v H') :
    ∀ p o, H p = none → o.dict = none → Q (.ref p) (upd H p (.frz o (.tup vs))) := fun p o hp ho => by
  obtain ⟨S', x⟩ := S.newB hp (.frz o (.tup vs))
  exact k _ _ _ S' x (.tup (XT.new ho) (h.mono x.bb))
/-- a new list that nobody holds -/
theorem newL (S : Sim K ρ σ B H) {vs : List V} {ds : List D} (h : RpL K B vs ds) (k : ∀ v B' H', Sim K ρ σ B' H' → Ext ρ σ B H ρ σ B' H' → HdOk K (New ρ σ H) ρ σ B' H' v (.fr (.list ds)) → Q v H') :
    ∀ p, H p = none → Q (.ref p) (upd H p (.lst vs)) := fun p hp => by
  obtain ⟨S', x⟩ := S.newH hp (.lst vs)
  obtain ⟨b, n⟩ := S.free hp
  exact k _ _ _ S' x ⟨p, rfl, b, ⟨vs, upd_same, h⟩, n, .inl hp⟩
end
section
variable {X : Cx}
def rCatL (K : PySem.W.Frag) : R2 := fun x y H Q => ∃ l b xs zs, x = .ref l ∧ y = .ref b ∧ SqL K H l xs ∧ SqL K H b zs ∧ xs.length + zs.length ≤ sizeLine ∧ ∀ p, H p = none → Q (.ref p) (upd H p (.lst (xs ++ zs)))
theorem op_catL : OpR X (binaryOp .Add) (rCatL X.K) := by
  intro pins s σ H x y v u Q I rx ry h
  obtain ⟨l, b, xs, zs, rfl, rfl, hH, hB, hz, q⟩ := h
  cases rx
  cases ry
  obtain ⟨its, r, p1, _⟩ := I.list hH
  obtain ⟨its2, r2, p2, _⟩ := I.list hB
  have l1 := r.length
  have l2 := r2.length
  obtain ⟨⟨cls, dd, data, sl⟩, ho, hc, n, hd⟩ := p1.isList
  obtain ⟨⟨cls2, dd2, data2, sl2⟩, ho2, hc2, n2, hd2⟩ := p2.isList
  simp only at hc hd hc2 hd2
  subst hc hd hc2 hd2
  refine concat_meets ⟨_, ho, rfl⟩ ⟨_, ho2, rfl⟩ noFill_list_add seq_list_add PySem.F.slot_list_add PySem.F.entry_list_add (PySem.F.args_list_add_2 _ _) (PyProof.Rows.list_addW l b its.toArray its2.toArray n n2 dd dd2 sl sl2 (by simp; omega)) ⟨ho, ho2, ?_⟩
  have e : its.toArray ++ its2.toArray = (its ++ its2).toArray := by simp
  rw [e]
  exact ⟨.ref _, _, I.lnew (t' := s.toks) (r.append r2) (by rw [List.length_append]; omega), rfl, q _ I.fresh⟩
end
theorem if_some {c : Prop} [Decidable c] {α : Type} {a h : α} (e : (if c then some a else none) = some h) : c ∧ a = h := by
  split at e
  · cases e; exact ⟨by assumption, rfl⟩
  · cases e
/-- + -/
def addD : D → D → Option Hd
  | .int i, .int j => some (.sh (.int (i + j)))
  | .str i, .str j => if i.length + j.length ≤ sizeLine then some (.sh (.str (i ++ j))) else none
  | .tuple xs, .tuple ys => if xs.length + ys.length ≤ sizeLine then some (.sh (.tuple (xs ++ ys))) else none
  | .list xs, .list ys => if xs.length + ys.length ≤ sizeLine then some (.fr (.list (xs ++ ys))) else none
  | _, _ => none
def rAddA (K : PySem.W.Frag) : R2 := fun x y H Q => (rI0 fun i j => .int (i + j)) x y H Q ∨ ((∃ i j, x = .str i ∧ y = .str j ∧ i.length + j.length ≤ sizeLine ∧ Q (.str (i ++ j)) H) ∨ (rCatX K x y H Q ∨ rCatL K x y H Q))
theorem op_addA {X : Cx} : OpR X (binaryOp .Add) (rAddA X.K) := OpR.or op_add (OpR.or op_add_str (OpR.or op_catX op_catL))
theorem ol_add {K : KW} : OpL K (rAddA K) addD := fun ρ σ B H x y dx dy h Q S tx ty e k => by
  cases dx <;> cases dy <;> first | (cases (show none = some h from e); done) | skip
  · cases e
    rw [tx.int, ty.int]
    exact .inl ⟨_, _, rfl, rfl, now S (.int _) k⟩
  · obtain ⟨c, rfl⟩ := if_some e
    rw [tx.str, ty.str]
    exact .inr (.inl ⟨_, _, rfl, rfl, c, now S (.str _) k⟩)
  · obtain ⟨c, rfl⟩ := if_some e
    obtain ⟨a, vs, rfl, ha, ra⟩ := tx
    obtain ⟨b, ws, rfl, hb, rb⟩ := ty
    exact .inr (.inr (.inr ⟨a, b, vs, ws, rfl, rfl, ha, hb, by rw [ra.length, rb.length]; exact c, newL S (ra.append rb) k⟩))
  · obtain ⟨c, rfl⟩ := if_some e
    obtain ⟨a, vs, rfl, ha, ra⟩ := tx.tupX
    obtain ⟨b, ws, rfl, hb, rb⟩ := ty.tupX
    have l1 := ra.length
    have l2 := rb.length
    refine .inr (.inr (.inl ⟨a, b, vs, ws, rfl, rfl, (same_x S.bh ha).sq, (same_x S.bh hb).sq, by omega, fun e => ?_, fun _ e => ?_, fun _ _ => newT S (ra.append rb) k⟩))
    · subst e
      cases ra
      exact now S (.tup hb rb) k
    · subst e
      cases rb
      rw [List.append_nil] at k
      exact now S (.tup ha ra) k
/-- int operators -/
def intD (c : Int → Int → Bool) (f : Int → Int → D) : D → D → Option Hd
  | .int i, .int j => if c i j then some (.sh (f i j)) else none
  | _, _ => none
theorem ol_int {K : KW} {c : Int → Int → Bool} {P : Int → Int → Prop} {f : Int → Int → D} {g : Int → Int → V} (hc : ∀ i j, c i j = true → P i j) (hg : ∀ B i j, Rp K B (g i j) (f i j)) : OpL K (rI P g) (intD c f) := fun ρ σ B H x y dx dy h Q S tx ty e k => by
  cases dx <;> cases dy <;> first | (cases (show none = some h from e); done) | skip
  obtain ⟨c, rfl⟩ := if_some e
  rw [tx.int, ty.int]
  exact ⟨_, _, rfl, rfl, hc _ _ c, now S (hg B _ _) k⟩
theorem ol_int0 {K : KW} {f : Int → Int → D} {g : Int → Int → V} (hg : ∀ B i j, Rp K B (g i j) (f i j)) : OpL K (rI0 g) (intD (fun _ _ => true) f) := fun ρ σ B H x y dx dy h Q S tx ty e k => by
  cases dx <;> cases dy <;> first | (cases (show none = some h from e); done) | skip
  cases e
  rw [tx.int, ty.int]
  exact ⟨_, _, rfl, rfl, now S (hg B _ _) k⟩
def subD : D → D → Option Hd := intD (fun _ _ => true) fun i j => .int (i - j)
theorem e64 : (2 : Int) ^ 64 = 18446744073709551616 := by decide +kernel
theorem e64n : (2 : Nat) ^ 64 = 18446744073709551616 := by decide +kernel
def cMul (i j : Int) : Bool := Nat.ble i.natAbs 18446744073709551615 || Nat.ble j.natAbs 18446744073709551615
def mulD : D → D → Option Hd := intD cMul fun i j => .int (i * j)
def divD : D → D → Option Hd := intD (fun _ j => decide (0 < j) && Nat.ble j.natAbs 1073741823) fun i j => .int (i / j)
def modD : D → D → Option Hd := intD (fun _ j => decide (0 < j)) fun i j => .int (i % j)
def powD : D → D → Option Hd := intD (fun i j => decide (0 ≤ j) && Nat.ble j.natAbs 1000000 && Nat.ble i.natAbs 18446744073709551615) fun i j => .int (i ^ j.toNat)
theorem ol_sub {K : KW} : OpL K (rI0 fun i j => .int (i - j)) subD := ol_int0 fun _ _ _ => .int _
theorem ol_mul {K : KW} : OpL K (rI CMul fun i j => .int (i * j)) mulD := ol_int (fun i j h => by
  unfold CMul
  rw [e64]
  unfold cMul at h
  rw [Bool.or_eq_true] at h
  rcases h with h | h
  · have := Nat.le_of_ble_eq_true h; exact .inl ⟨by omega, by omega⟩
  · have := Nat.le_of_ble_eq_true h; exact .inr ⟨by omega, by omega⟩) fun _ _ _ => .int _
theorem ol_div {K : KW} : OpL K (rI CDiv fun i j => .int (i / j)) divD := ol_int (fun i j h => by
  simp only [Bool.and_eq_true, decide_eq_true_eq] at h
  have := Nat.le_of_ble_eq_true h.2
  exact ⟨h.1, by omega⟩) fun _ _ _ => .int _
theorem ol_mod {K : KW} : OpL K (rI (fun _ j => 0 < j) fun i j => .int (i % j)) modD := ol_int (fun i j h => by simpa using h) fun _ _ _ => .int _
theorem ol_pow {K : KW} : OpL K (rI CPow fun i j => .int (i ^ j.toNat)) powD := ol_int (fun i j h => by
  unfold CPow
  rw [e64n]
  simp only [Bool.and_eq_true, decide_eq_true_eq] at h
  have h1 := Nat.le_of_ble_eq_true h.1.2
  have h2 := Nat.le_of_ble_eq_true h.2
  exact ⟨h.1.1, by omega, by omega⟩) fun _ _ _ => .int _
def intsT : List D → Option (List Int)
  | [] => some []
  | .int i :: r => (intsT r).map fun l => i :: l
  | _ => none
/-- < of ints, and of tuples of ints -/
def ltI (f : Int → Int → Bool) : D → D → Option Hd
  | .int i, .int j => some (.sh (.bool (f i j)))
  | .tuple xs, .tuple ys => if f 0 1 && !f 0 0 then (intsT xs).bind fun a => (intsT ys).map fun b => .sh (.bool (HT.lexLt a b)) else none
  | _, _ => none
theorem intsT_ok {K : KW} {B : Hp} : ∀ {vs : List V} {ds : List D} {ns : List Int}, RpL K B vs ds → intsT ds = some ns → vs = ns.map V.int
  | _, [], _, .nil, e => by cases e; rfl
  | _, d :: ds, ns, .cons h t, e => by
    match d, h, e with
    | .int i, h, e =>
      obtain ⟨l, e1, rfl⟩ := Option.map_eq_some_iff.mp (show (intsT ds).map (fun l => i :: l) = some ns from e)
      cases h
      rw [intsT_ok t e1, List.map_cons]
theorem ol_cmp {K : KW} {f : Int → Int → Bool} (hf : (f 0 1 && !f 0 0) = false := by rfl) : OpL K (rI0 fun i j => .bl (f i j)) (ltI f) := fun ρ σ B H x y dx dy h Q S tx ty e k => by
  cases dx <;> cases dy <;> first | (cases (show none = some h from e); done) | skip
  · cases e
    rw [tx.int, ty.int]
    exact ⟨_, _, rfl, rfl, now S (.bl _) k⟩
  · rename_i xs ys
    have e : (if f 0 1 && !f 0 0 then (intsT xs).bind fun a => (intsT ys).map fun b => Hd.sh (.bool (HT.lexLt a b)) else none) = some h := e
    rw [hf] at e
    cases e
def rLtA (K : PySem.W.Frag) : R2 := fun x y H Q => (rI0 fun i j => .bl (decide (i < j))) x y H Q ∨ rLtT K x y H Q
theorem op_ltA {X : Cx} (hu : X.A.units + 65 < cLine) : OpR X (compareOp .Lt) (rLtA X.K) := OpR.or op_lt (op_ltT (by omega))
theorem ol_ltA {K : KW} : OpL K (rLtA K) (ltI fun i j => decide (i < j)) := fun ρ σ B H x y dx dy h Q S tx ty e k => by
  cases dx <;> cases dy <;> first | (cases (show none = some h from e); done) | skip
  · cases e
    rw [tx.int, ty.int]
    exact .inl ⟨_, _, rfl, rfl, now S (.bl _) k⟩
  · rename_i xs ys
    have e : ((intsT xs).bind fun a => (intsT ys).map fun b => Hd.sh (.bool (HT.lexLt a b))) = some h := e
    obtain ⟨as, e1, e2⟩ := Option.bind_eq_some_iff.mp e
    obtain ⟨bs, e3, rfl⟩ := Option.map_eq_some_iff.mp e2
    obtain ⟨a, vs, rfl, ha, ra⟩ := tx.tup
    obtain ⟨b, ws, rfl, hb, rb⟩ := ty.tup
    have ea := intsT_ok ra e1
    have eb := intsT_ok rb e3
    subst ea eb
    exact .inr ⟨a, b, as, bs, rfl, rfl, same_t S.bh ha, same_t S.bh hb, now S (.bl _) k⟩
/-- == of data without dicts, at most 64 deep -/
def okEq (d : D) : Bool := plain d && SeqAt.shaped d
def flatD : D → Bool
  | .none => true
  | .bool _ => true
  | .int _ => true
  | .str _ => true
  | _ => false
def inD (neg : Bool) : D → D → Option Hd
  | .str x, .str z => match x.cps.toList with
    | [c] => some (.sh (.bool (neg ^^ decide (c ∈ z.cps.toList))))
    | _ => none
  | d, .tuple ds => if flatD d && ds.all flatD then some (.sh (.bool (neg ^^ ds.any fun z => PyData.eqv z d))) else none
  | d, .list ds => if okEq d && okEq (.list ds) then some (.sh (.bool (neg ^^ ds.any fun z => PyData.eqv z d))) else none
  | _, _ => none
end GS
namespace GS
open PySem L2
def rInA (K : PySem.W.Frag) : R2 := fun x y H Q => (∃ (c : Nat) (z : Str), x = .str ⟨#[c]⟩ ∧ y = .str z ∧ Q (.bl (decide (c ∈ z.cps.toList))) H) ∨ (rIn K false x y H Q ∨ rInD K x y H Q)
theorem op_inA {X : Cx} (hu : X.A.units + 65 < cLine) : OpR X (compareOp .In) (rInA X.K) := OpR.or op_in_sign (OpR.or op_in_seq (op_inD hu))
section
variable {K : KW} {ρ : Rho} {σ : St} {B H : Hp} {v x y : V} {Q : VK}
theorem flat_of {d : D} (h : Rp K B v d) (f : flatD d = true) : flatV v = true := by
  cases h <;> first | rfl | cases f
theorem eqV_of {d e : D} (h : Rp K B x d) (g : Rp K B y e) (f : flatD d = true) (k : flatD e = true) : eqV x y = PyData.eqv d e := by
  cases h <;> first | (cases f; done) | (cases g <;> first | (cases k; done) | rfl | (simp [eqV, PyData.eqv]))
theorem any_of {e : D} (g : Rp K B y e) (k : flatD e = true) : ∀ {vs : List V} {ds : List D}, RpL K B vs ds → ds.all flatD = true → vs.all flatV = true ∧ inV y vs = ds.any fun z => PyData.eqv z e
  | _, _, .nil, _ => ⟨rfl, rfl⟩
  | _, _, .cons h t, a => by
    rw [List.all_cons, Bool.and_eq_true] at a
    obtain ⟨q1, q2⟩ := any_of g k t a.2
    refine ⟨by rw [List.all_cons, Bool.and_eq_true]; exact ⟨flat_of h a.1, q1⟩, ?_⟩
    show ((eqV _ y) || inV y _) = _
    rw [q2, eqV_of h g a.1 k, List.any_cons]
theorem str1 {x : Str} {c : Nat} (h : x.cps.toList = [c]) : x = ⟨#[c]⟩ := by
  obtain ⟨a⟩ := x
  congr
  exact Array.ext' (by simpa using h)
theorem ol_in : OpL K (rInA K) (inD false) := fun ρ σ B H x y dx dy h Q S tx ty e k => by
  cases dy with
  | str z =>
    cases dx with
    | str w =>
      replace e : (match w.cps.toList with | [c] => some (Hd.sh (.bool (false ^^ decide (c ∈ z.cps.toList)))) | _ => none) = some h := e
      split at e
      · rename_i c ec
        cases e
        rw [tx.str, ty.str, str1 ec]
        refine .inl ⟨c, z, rfl, rfl, ?_⟩
        have := now (v := .bl (false ^^ decide (c ∈ z.cps.toList))) S (.bl _) k
        rwa [Bool.false_xor] at this
      · cases e
    | _ => cases e
  | tuple ds =>
    have e' : (if flatD dx && ds.all flatD then some (.sh (.bool (false ^^ ds.any fun z => PyData.eqv z dx))) else none) = some h := by cases dx <;> exact e
    obtain ⟨c, rfl⟩ := if_some e'
    rw [Bool.and_eq_true] at c
    obtain ⟨a, vs, rfl, ha, ra⟩ := ty.tup
    have tx' : Rp K B x dx := by cases dx <;> first | exact tx | (cases c.1; done)
    obtain ⟨q1, q2⟩ := any_of tx' c.1 ra c.2
    refine .inr (.inl ⟨a, vs, rfl, .inr (same_t S.bh ha), flat_of tx' c.1, q1, ?_⟩)
    rw [if_neg Bool.false_ne_true, q2]
    have := now (v := .bl (false ^^ ds.any fun z => PyData.eqv z dx)) S (.bl _) k
    rwa [Bool.false_xor] at this
  | list ds =>
    have e' : (if okEq dx && okEq (.list ds) then some (.sh (.bool (false ^^ ds.any fun z => PyData.eqv z dx))) else none) = some h := by cases dx <;> exact e
    obtain ⟨c, rfl⟩ := if_some e'
    unfold okEq at c
    simp only [Bool.and_eq_true] at c
    refine .inr (.inr ⟨dx, ds, (tx.rp S.bh).dp _ c.1.1, (ty.rp S.bh).dp _ c.2.1, c.1.2, c.2.2, ?_⟩)
    have := now (v := .bl (false ^^ ds.any fun z => PyData.eqv z dx)) S (.bl _) k
    rwa [Bool.false_xor] at this
  | _ => cases dx <;> cases (show none = some h from e)
def ixD : D → D → Option Hd
  | .list ds, .int i => (atI ds i).map Hd.sh
  | .tuple ds, .int i => (atI ds i).map Hd.sh
  | .str z, .int i => if z.length ≤ sizeLine then (atI z.cps.toList i).map fun c => Hd.sh (.str ⟨#[c]⟩) else none
  | _, _ => none
theorem RpL.atI {vs : List V} {ds : List D} (h : RpL K B vs ds) {i : Int} {d : D} (e : atI ds i = some d) : ∃ v, atI vs i = some v ∧ Rp K B v d := by
  unfold L2.atI at e ⊢
  rw [h.length]
  cases q : ixN ds.length i with
  | none => rw [q] at e; cases e
  | some j =>
    rw [q] at e
    exact h.get e
theorem ol_ix : OpL K (rIx K) ixD := fun ρ σ B H x y dx dy h Q S tx ty e k => by
  cases dy with
  | int i =>
    rw [ty.int]
    cases dx with
    | list ds =>
      obtain ⟨d, e1, rfl⟩ := Option.map_eq_some_iff.mp e
      obtain ⟨a, vs, rfl, ha, ra⟩ := tx
      obtain ⟨v, q1, q2⟩ := ra.atI e1
      exact .inl ⟨a, vs, i, v, rfl, rfl, ha, q1, now S q2 k⟩
    | tuple ds =>
      obtain ⟨d, e1, rfl⟩ := Option.map_eq_some_iff.mp e
      obtain ⟨a, vs, rfl, ha, ra⟩ := tx.tup
      obtain ⟨v, q1, q2⟩ := ra.atI e1
      exact .inr (.inl ⟨a, vs, i, v, rfl, rfl, same_t S.bh ha, q1, now S q2 k⟩)
    | str z =>
      have e' : (if z.length ≤ sizeLine then (L2.atI z.cps.toList i).map fun c => Hd.sh (.str ⟨#[c]⟩) else none) = some h := e
      split at e'
      · obtain ⟨c, e1, rfl⟩ := Option.map_eq_some_iff.mp e'
        rw [tx.str]
        exact .inr (.inr ⟨z, i, c, rfl, rfl, by assumption, e1, now S (.str _) k⟩)
      · cases e'
    | _ => cases e
  | _ => cases dx <;> cases (show none = some h from e)
end
section
variable {X : Cx} {C : Ct} {a b c e : Expr} {ta tb tc te : TE} {fa fb fc fe : EF} {pos p2 : Pos}
def cutD (ds : List D) (lo hi : Option Int) : List D := (ds.drop (HT.sIx ds.length 0 lo)).take (HT.sIx ds.length ds.length hi - HT.sIx ds.length 0 lo)
def slD (lo hi : Option Int) : D → Option Hd
  | .list ds => some (.fr (.list (cutD ds lo hi)))
  | .tuple ds => some (.sh (.tuple (cutD ds lo hi)))
  | .str z => if z.length ≤ sizeLine then some (.sh (.str (cutS z lo hi))) else none
  | _ => none
def rSlAll (K : PySem.W.Frag) : V → Option Int → Option Int → Hp → VK → Prop := fun x lo hi H Q => rSlL K x lo hi H Q ∨ (rSlX K x lo hi H Q ∨ rSlS x lo hi H Q)
theorem sl_all : SlR X (rSlAll X.K) := SlR.or sl_list (SlR.or sl_tupX sl_str)
theorem RpL.cut {K : KW} {B : Hp} {vs : List V} {ds : List D} (h : RpL K B vs ds) (lo hi : Option Int) : RpL K B (cutV vs lo hi) (cutD ds lo hi) := by
  unfold cutV cutD
  rw [h.length]
  exact (h.drop _).take _
theorem ls_all {K : KW} {ρ : Rho} {σ : St} {B H : Hp} {x : V} {Q : VK} {d : D} {h : Hd} {lo hi : Option Int} (S : Sim K ρ σ B H) (tx : Tp K B H x d) (e : slD lo hi d = some h)
    (k : ∀ v B' H', Sim K ρ σ B' H' → Ext ρ σ B H ρ σ B' H' → HdOk K (New ρ σ H) ρ σ B' H' v h → Q v H') : rSlAll K x lo hi H Q := by
  cases d with
  | list ds =>
    cases e
    obtain ⟨a, vs, rfl, ha, ra⟩ := tx
    exact .inl ⟨a, vs, rfl, ha, newL S (ra.cut lo hi) k⟩
  | tuple ds =>
    cases e
    obtain ⟨a, vs, rfl, ha, ra⟩ := tx.tupX
    refine .inr (.inl ⟨a, vs, rfl, (same_x S.bh ha).sq, fun w => ?_, fun _ => newT S (ra.cut lo hi) k⟩)
    have ec : cutD ds lo hi = ds := by
      unfold cutD
      rw [← ra.length, w.1, w.2, List.drop_zero, Nat.sub_zero, ra.length, List.take_length]
    rw [ec] at k
    exact now S (.tup ha ra) k
  | str z =>
    obtain ⟨c, rfl⟩ := if_some e
    rw [tx.str]
    exact .inr (.inr ⟨z, rfl, c, now S (.str _) k⟩)
  | _ => cases e
/-- a part of a slice: nothing, or an int -/
inductive PartOk (X : Cx) (C : Ct) : Option Expr → TO → Option EF → Prop
  | non : PartOk X C none tNoPart none
  | some {e : Expr} {t : TE} {f : EF} : SE X C e t f → PartOk X C (some e) (tPart t) (some f)
def ePart (f : Option EF) (ρ : Rho) (k : Option Int → Rho → RE) : RE := match f with
  | none => k none ρ
  | some g => bindE (eSet g ρ) fun h ρ1 => match getH ρ1 h with
    | some (.int i) => k (some i) ρ1
    | _ => .stuck
def eSl (fe : EF) (fl fh : Option EF) : EF := fun ρ => bindE (eSet fe ρ) fun h ρ1 => ePart fl ρ1 fun lo ρ2 => ePart fh ρ2 fun hi ρ3 => match (getH ρ3 h).bind (slD lo hi) with
  | some r => .ok r ρ3
  | none => .stuck
theorem PartOk.pe {o : Option Expr} {t : TO} {f : Option EF} (h : PartOk X C o t f) : PO X o t := by
  cases h with
  | non => exact po_none
  | some s => exact po_some s.pe
theorem PartOk.bind {o : Option Expr} {t : TO} {f : Option EF} (h : PartOk X C o t f) {ρ : Rho} {σ : St} {B H : Hp} {Q : VK} (S : Sim C.K ρ σ B H) {k : Option Int → Rho → RE} {Q' : Option Int → Hp → Prop} (g : GoodE C ρ σ B H Q (ePart f ρ k))
    (q : ∀ i ρ1 B1 H1, Sim C.K ρ1 σ B1 H1 → Ext ρ σ B H ρ1 σ B1 H1 → GoodE C ρ1 σ B1 H1 Q (k i ρ1) → Q' i H1) : t σ H Q' := by
  cases h with
  | non => exact q none ρ B H S Ext.refl g
  | some s =>
    refine s.lk.setBind S g fun hd ρ1 x B1 H1 S1 e1 y1 g1 => ?_
    split at g1
    · rename_i i ei
      exact ⟨i, (S1.tp y1 ei).int, q (Option.some i) ρ1 B1 H1 S1 e1 g1⟩
    · exact g1.elim
theorem se_slice {lo hi : Option Expr} {tl th : TO} {fl fh : Option EF} (le : SE X C e te fe) (hl : PartOk X C lo tl fl) (hh : PartOk X C hi th fh) (hk : X.K = C.K := by rfl) :
    SE X C (.Subscript e (.Slice lo hi none p2) pos) (tSl (rSlAll C.K) te tl th) (eSl fe fl fh) := by
  refine ⟨by rw [← hk]; exact pe_slice sl_all le.pe hl.pe hh.pe, fun ρ σ B H Q S g => ?_⟩
  refine le.lk.setBind S g fun hd ρ1 x B1 H1 S1 e1 y1 g1 => ?_
  refine hl.bind S1 g1 fun i ρ2 B2 H2 S2 e2 g2 => ?_
  refine hh.bind S2 g2 fun j ρ3 B3 H3 S3 e3 g3 => ?_
  split at g3
  · rename_i r er
    obtain ⟨d, ed, es⟩ := Option.bind_eq_some_iff.mp er
    exact ls_all S3 (S3.tp (N := fun _ => True) (HdOk.ext (e2.trans e3) y1) ed) es g3
  · exact g3.elim
def GoodT (C : Ct) (ρ : Rho) (σ : St) (B H : Hp) (Q : Bool → Hp → Prop) : RE → Prop
  | .ok (.sh (.bool b)) ρ' => ∀ B' H', Sim C.K ρ' σ B' H' → Ext ρ σ B H ρ' σ B' H' → Q b H'
  | .exc x ρ' => ∀ cls dct B' H', Sim C.K ρ' σ B' H' → Ext ρ σ B H ρ' σ B' H' → XcOk C B' x cls dct → C.W cls dct σ H'
  | _ => False
def LkT (C : Ct) (t : TT) (f : EF) : Prop := ∀ ρ σ B H Q, Sim C.K ρ σ B H → GoodT C ρ σ B H Q (f ρ) → t σ H Q
structure ST (X : Cx) (C : Ct) (e : Expr) (t : TT) (f : EF) : Prop where
  pt : PT X e t
  lk : LkT C t f
structure SW (X : Cx) (C : Ct) (e : Expr) (t : TT) (f : EF) : Prop where
  pw : PW X e t
  lk : LkT C t f
theorem SW.st {t : TT} {f : EF} (h : SW X C e t f) : ST X C e t f := ⟨h.pw.pt, h.lk⟩
theorem GoodT.ext {ρ ρ1 : Rho} {σ : St} {B H B1 H1 : Hp} {Q : Bool → Hp → Prop} (x : Ext ρ σ B H ρ1 σ B1 H1) : ∀ {r : RE}, GoodT C ρ σ B H Q r → GoodT C ρ1 σ B1 H1 Q r := fun {r} g => by
  cases r with
  | stuck => exact g
  | exc c ρ2 => exact fun cls dct B' H' s y => g cls dct B' H' s (x.trans y)
  | ok h ρ2 =>
    cases h with
    | sh d =>
      cases d with
      | bool b => exact fun B' H' s y => g B' H' s (x.trans y)
      | _ => exact g
    | _ => exact g
/-- a bool: looked at -/
def eB (f : EF) : EF := fun ρ => bindE (eSet f ρ) fun h ρ1 => match getH ρ1 h with
  | some (.bool b) => .ok (.sh (.bool b)) ρ1
  | _ => .stuck
theorem lk_B {t : TE} {f : EF} (l : LkE C t f) : LkT C (tB t) (eB f) := fun ρ σ B H Q S g => by
  refine l.set ρ σ B H _ S ?_
  unfold eB at g
  cases e : eSet f ρ with
  | stuck => rw [e] at g; exact g
  | exc c ρ1 => rw [e] at g; exact g
  | ok h ρ1 =>
    rw [e] at g
    replace g : GoodT C ρ σ B H Q (match getH ρ1 h with | some (.bool b) => .ok (.sh (.bool b)) ρ1 | _ => .stuck) := g
    intro v B1 H1 S1 x y
    split at g
    · rename_i b eb
      exact ⟨b, (S1.tp y eb).bl, g B1 H1 S1 x⟩
    · exact g.elim
theorem st_val {t : TE} {f : EF} (h : SE X C e t f) (he : ∀ whole, isTrue e X.env whole = (do let v ← whole; standAt e.pos; holding [v] (truthy v)) := by intro _; rfl) : ST X C e (tB t) (eB f) := ⟨pt_val h.pe he, lk_B h.lk⟩
theorem se_cmp {op : CmpOp} {r : R2} {o : D → D → Option Hd} (hr : OpL C.K r o) (ho : OpR X (compareOp op) r) (la : SE X C a ta fa) (lb : SE X C b tb fb) (hm : behindInMarks op b = false := by first | exact nomark _ | rfl) : SE X C (.Compare a [op] [b] pos) (tOp r ta tb) (eBin o fa fb) :=
  ⟨pe_cmpR ho la.pe lb.pe hm, lk_op hr la.lk lb.lk⟩
theorem st_cmp {op : CmpOp} {r : R2} {o : D → D → Option Hd} (hr : OpL C.K r o) (ho : OpR X (compareOp op) r) (la : SE X C a ta fa) (lb : SE X C b tb fb) (hm : behindInMarks op b = false := by first | exact nomark _ | rfl) : ST X C (.Compare a [op] [b] pos) (tTest (tOp r ta tb)) (eB (eBin o fa fb)) :=
  ⟨pt_cmpR ho la.pe lb.pe hm, lk_B (lk_op hr la.lk lb.lk)⟩
/-- a test, then what follows -/
theorem LkT.bind {t : TT} {f : EF} (l : LkT C t f) {ρ : Rho} {σ : St} {B H : Hp} (S : Sim C.K ρ σ B H) {Q' : Bool → Hp → Prop}
    (hx : ∀ x ρ1, f ρ = .exc x ρ1 → ∀ cls dct B' H', Sim C.K ρ1 σ B' H' → Ext ρ σ B H ρ1 σ B' H' → XcOk C B' x cls dct → C.W cls dct σ H')
    (h : ∀ b ρ1, f ρ = .ok (.sh (.bool b)) ρ1 → ∀ B1 H1, Sim C.K ρ1 σ B1 H1 → Ext ρ σ B H ρ1 σ B1 H1 → Q' b H1) (hs : (∃ b ρ1, f ρ = .ok (.sh (.bool b)) ρ1) ∨ ∃ x ρ1, f ρ = .exc x ρ1) : t σ H Q' := by
  refine l ρ σ B H Q' S ?_
  rcases hs with ⟨b, ρ1, e⟩ | ⟨x, ρ1, e⟩
  · rw [e]; exact h b ρ1 e
  · rw [e]; exact hx x ρ1 e
def bindB (r : RE) (k : Bool → Rho → RE) : RE := match r with
  | .ok (.sh (.bool b)) ρ => k b ρ
  | .exc x ρ => .exc x ρ
  | _ => .stuck
theorem LkT.bindE {t : TT} {f : EF} (l : LkT C t f) {ρ : Rho} {σ : St} {B H : Hp} (S : Sim C.K ρ σ B H) {Q : VK} {k : Bool → Rho → RE} {Q' : Bool → Hp → Prop} (g : GoodE C ρ σ B H Q (bindB (f ρ) k))
    (h : ∀ b ρ1 B1 H1, Sim C.K ρ1 σ B1 H1 → Ext ρ σ B H ρ1 σ B1 H1 → GoodE C ρ1 σ B1 H1 Q (k b ρ1) → Q' b H1) : t σ H Q' := by
  refine l ρ σ B H Q' S ?_
  cases e : f ρ with
  | stuck => rw [e] at g; exact g
  | exc x ρ1 => rw [e] at g; exact g
  | ok hd ρ1 =>
    rw [e] at g
    cases hd with
    | sh d =>
      cases d with
      | bool b => exact fun B1 H1 s x => h b ρ1 B1 H1 s x (GoodE.ext x g)
      | _ => exact g
    | _ => exact g
theorem LkT.bindT {t : TT} {f : EF} (l : LkT C t f) {ρ : Rho} {σ : St} {B H : Hp} (S : Sim C.K ρ σ B H) {Q : Bool → Hp → Prop} {k : Bool → Rho → RE} {Q' : Bool → Hp → Prop} (g : GoodT C ρ σ B H Q (bindB (f ρ) k))
    (h : ∀ b ρ1 B1 H1, Sim C.K ρ1 σ B1 H1 → Ext ρ σ B H ρ1 σ B1 H1 → GoodT C ρ1 σ B1 H1 Q (k b ρ1) → Q' b H1) : t σ H Q' := by
  refine l ρ σ B H Q' S ?_
  cases e : f ρ with
  | stuck => rw [e] at g; exact g
  | exc x ρ1 => rw [e] at g; exact g
  | ok hd ρ1 =>
    rw [e] at g
    cases hd with
    | sh d =>
      cases d with
      | bool b => exact fun B1 H1 s x => h b ρ1 B1 H1 s x (GoodT.ext x g)
      | _ => exact g
    | _ => exact g
def eNot (f : EF) : EF := fun ρ => bindB (f ρ) fun b ρ1 => .ok (.sh (.bool (!b))) ρ1
def eAnd (f g : EF) : EF := fun ρ => bindB (f ρ) fun b ρ1 => if b then g ρ1 else .ok (.sh (.bool false)) ρ1
def eOr (f g : EF) : EF := fun ρ => bindB (f ρ) fun b ρ1 => if b then .ok (.sh (.bool true)) ρ1 else g ρ1
def eIf (f g h : EF) : EF := fun ρ => bindB (f ρ) fun b ρ1 => if b then g ρ1 else h ρ1
variable {t u w : TT} {f g h : EF}
theorem st_not (l : ST X C a t f) : ST X C (.UnaryOp .Not a pos) (tNot t) (eNot f) := ⟨pt_not l.pt, fun ρ σ B H Q S g => l.lk.bindT S g fun b ρ1 B1 H1 S1 e1 g1 => g1 B1 H1 S1 Ext.refl⟩
theorem sw_one {op : BoolOp} (l : ST X C a t f) : SW X C (.BoolOp op [a] pos) t f := by
  cases op
  · exact ⟨pw_and1 l.pt, l.lk⟩
  · exact ⟨pw_or1 l.pt, l.lk⟩
theorem sw_and {rest : List Expr} (l : ST X C a t f) (m : SW X C (.BoolOp .And (b :: rest) pos) u g) : SW X C (.BoolOp .And (a :: b :: rest) pos) (tAnd t u) (eAnd f g) :=
  ⟨pw_and l.pt m.pw, fun ρ σ B H Q S gd => l.lk.bindT S gd fun b ρ1 B1 H1 S1 e1 g1 => by
    cases b with
    | true => exact m.lk ρ1 σ B1 H1 Q S1 g1
    | false => exact g1 B1 H1 S1 Ext.refl⟩
theorem sw_or {rest : List Expr} (l : ST X C a t f) (m : SW X C (.BoolOp .Or (b :: rest) pos) u g) : SW X C (.BoolOp .Or (a :: b :: rest) pos) (tOr t u) (eOr f g) :=
  ⟨pw_or l.pt m.pw, fun ρ σ B H Q S gd => l.lk.bindT S gd fun b ρ1 B1 H1 S1 e1 g1 => by
    cases b with
    | false => exact m.lk ρ1 σ B1 H1 Q S1 g1
    | true => exact g1 B1 H1 S1 Ext.refl⟩
theorem se_if (l : ST X C c t f) (la : SE X C a ta fa) (lb : SE X C b tb fb) : SE X C (.IfExp c a b pos) (tIf t ta tb) (eIf f fa fb) := ⟨pe_ifExp l.pt la.pe lb.pe, fun ρ σ B H Q S g => l.lk.bindE S g fun b ρ1 B1 H1 S1 e1 g1 => by
  cases b with
  | true => exact la.lk ρ1 σ B1 H1 Q S1 g1
  | false => exact lb.lk ρ1 σ B1 H1 Q S1 g1⟩
def eChain (o o' : D → D → Option Hd) (fa fb fc : EF) : EF := fun ρ => bindE (eSet fa ρ) fun ha ρ1 => bindE (eSet fb ρ1) fun hb ρ2 => match getH ρ2 ha, getH ρ2 hb with
  | some da, some db => match o da db with
    | some (.sh (.bool b)) => if b then bindE (eSet fc ρ2) (fun hc ρ3 => match getH ρ3 hb, getH ρ3 hc with
      | some db', some dc => match o' db' dc with
        | some h => .ok h ρ3
        | none => .stuck
      | _, _ => .stuck) else .ok (.sh (.bool false)) ρ2
    | _ => .stuck
  | _, _ => .stuck
theorem lk_chain {r r' : R2} {o o' : D → D → Option Hd} (hr : OpL C.K r o) (hr' : OpL C.K r' o') (la : LkE C ta fa) (lb : LkE C tb fb) (lc : LkE C tc fc) : LkE C (tChain r r' ta tb tc) (eChain o o' fa fb fc) := fun ρ σ B H Q S g => by
  refine la.setBind S g fun ha ρ1 x B1 H1 S1 e1 y1 g1 => ?_
  refine lb.setBind S1 g1 fun hb ρ2 y B2 H2 S2 e2 y2 g2 => ?_
  split at g2
  · rename_i da db ea eb
    split at g2
    · rename_i b eh
      refine hr ρ2 σ B2 H2 x y da db _ _ S2 (S2.tp (N := fun _ => True) (HdOk.ext e2 y1) ea) (S2.tp y2 eb) eh fun v B3 H3 S3 e3 y3 => ?_
      cases (show Rp C.K B3 v (.bool b) from y3)
      refine ⟨b, rfl, ?_⟩
      cases b with
      | true =>
        rw [if_pos rfl] at g2 ⊢
        refine lc.setBind S3 (GoodE.ext e3 g2) fun hc ρ4 z B4 H4 S4 e4 y4 g4 => ?_
        split at g4
        · rename_i db' dc eb' ec
          split at g4
          · rename_i h eh'
            exact hr' ρ4 σ B4 H4 y z db' dc h Q S4 (S4.tp (N := fun _ => True) (HdOk.ext (e3.trans e4) y2) eb') (S4.tp y4 ec) eh' g4
          · exact g4.elim
        · exact g4.elim
      | false =>
        rw [if_neg Bool.false_ne_true] at g2 ⊢
        exact g2 (.bl false) B3 H3 S3 e3 (.bl _)
    · exact g2.elim
  · exact g2.elim
theorem st_chain {op op' : CmpOp} {r r' : R2} {o o' : D → D → Option Hd} (hr : OpL C.K r o) (ho : OpR X (compareOp op) r) (hr' : OpL C.K r' o') (ho' : OpR X (compareOp op') r') (la : SE X C a ta fa) (lb : SE X C b tb fb) (lc : SE X C c tc fc)
    (hm : lastMarks [op, op'] [b, c] = false := by with_unfolding_all rfl) : ST X C (.Compare a [op, op'] [b, c] pos) (tTest (tChain r r' ta tb tc)) (eB (eChain o o' fa fb fc)) := ⟨pt_chain ho ho' la.pe lb.pe lc.pe hm, lk_B (lk_chain hr hr' la.lk lb.lk lc.lk)⟩
end
end GS
namespace GS
open PySem L2
section
variable {X : Cx} {C : Ct} {e : Expr} {es : List Expr} {te : TE} {fe : EF} {pos : Pos}
/-- a name, looked at -/
def eVb (i : Nat) : EF := fun ρ => match slot ρ i with
  | some _ => .ok (.bw i) ρ
  | none => .stuck
/-- a name whose datum is shared from here on -/
def eMv (i : Nat) : EF := fun ρ => match slot ρ i with
  | some ⟨d, .sh⟩ => .ok (.sh d) ρ
  | some ⟨d, .ow⟩ => .ok (.sh d) (ρ.set i (some ⟨d, .sh⟩))
  | _ => .stuck
def eC (d : D) : EF := fun ρ => .ok (.sh d) ρ
theorem lk_vb {i : Nat} : LkE C (tVar i) (eVb i) := fun ρ σ B H Q S g => by
  unfold eVb at g
  cases h : slot ρ i with
  | none => rw [h] at g; exact g.elim
  | some c =>
    rw [h] at g
    obtain ⟨v, e, q⟩ := S.sl i c (slot_some h)
    exact ⟨v, e, g v B H S Ext.refl e⟩
theorem set_get {ρ : Rho} {i j : Nat} {c : Option Cel} {x : Option Cel} (h : (ρ.set i c)[j]? = some x) : (i = j ∧ x = c) ∨ (i ≠ j ∧ ρ[j]? = some x) := by
  rw [List.getElem?_set] at h
  by_cases e : i = j
  · rw [if_pos e] at h
    split at h
    · cases h; exact .inl ⟨e, rfl⟩
    · cases h
  · rw [if_neg e] at h
    exact .inr ⟨e, h⟩
theorem set_at {ρ : Rho} {i : Nat} {c : Option Cel} (h : i < ρ.length) : (ρ.set i c)[i]? = some c := by
  rw [List.getElem?_set, if_pos rfl, if_pos h]
theorem set_other {ρ : Rho} {i j : Nat} {c : Option Cel} (h : i ≠ j) : (ρ.set i c)[j]? = ρ[j]? := by
  rw [List.getElem?_set, if_neg h]
theorem lt_of {ρ : Rho} {i : Nat} {x : Option Cel} (h : ρ[i]? = some x) : i < ρ.length := (List.getElem?_eq_some_iff.mp h).1
/-- an owned slot is given up: the datum is shared from here on -/
theorem Sim.freeze {K : KW} {ρ : Rho} {σ : St} {B H : Hp} (S : Sim K ρ σ B H) {i : Nat} {d : D} (hi : ρ[i]? = some (some ⟨d, .ow⟩)) :
    ∃ v B1, σ[i]? = some (some v) ∧ Sim K (ρ.set i (some ⟨d, .sh⟩)) σ B1 H ∧ Ext ρ σ B H (ρ.set i (some ⟨d, .sh⟩)) σ B1 H ∧ Rp K B1 v d := by
  obtain ⟨v, e, q⟩ := S.sl i _ hi
  rcases q with ⟨q, _⟩ | ⟨_, a, rfl, hb, ho⟩
  · cases q
  obtain ⟨o, eo⟩ := ho.some
  have own : OwnA ρ σ a := ⟨i, _, hi, by simp, e⟩
  have sB : Same B (upd B a o) := fun b u e => by rw [upd_ne (ne_of_none e hb)]; exact e
  have rp : Rp K (upd B a o) (.ref a) d := by
    rw [eo] at ho
    have ho := ho.mono sB
    cases d with
    | list ds =>
      obtain ⟨vs, e1, e2⟩ := ho
      cases e1
      exact .lst (.inl (.inl upd_same)) e2
    | dict ps =>
      obtain ⟨ep, b, xs, e1, e2⟩ := ho
      cases e1
      exact .dct upd_same e2
    | _ => exact ho.elim
  refine ⟨.ref a, upd B a o, e, ⟨fun b u z => ?_, by rw [List.length_set]; exact S.len, fun j c hj => ?_, fun j k cj ck b hj hk nj nk ej ek => ?_⟩, ⟨sB, fun b u z => ?_, fun b u z _ => z, fun b z => ?_, fun j c hj hc => ?_, fun j c hj hc => ?_⟩, rp⟩
  · by_cases h : b = a
    · subst h; rw [upd_same] at z; cases z; exact eo
    · rw [upd_ne h] at z; exact S.bh _ _ z
  · rcases set_get hj with ⟨rfl, ec⟩ | ⟨ne, hj⟩
    · cases ec
      exact ⟨.ref a, e, .inl ⟨rfl, rp⟩⟩
    · obtain ⟨v, ev, q⟩ := S.sl j c hj
      refine ⟨v, ev, q.mono sB fun b hv hb' ho' hf => ⟨?_, rfl⟩⟩
      have nb : b ≠ a := fun z => by
        subst z hv
        exact ne (S.dj i j _ c b hi hj (by simp) hf e ev)
      rw [upd_ne nb]; exact hb'
  · rcases set_get hj with ⟨rfl, ec⟩ | ⟨_, hj⟩
    · cases ec; exact absurd rfl nj
    · rcases set_get hk with ⟨rfl, ec⟩ | ⟨_, hk⟩
      · cases ec; exact absurd rfl nk
      · exact S.dj j k cj ck b hj hk nj nk ej ek
  · by_cases h : b = a
    · subst h; exact .inr (.inr own)
    · rw [upd_ne h] at z; exact .inl z
  · obtain ⟨j, c, hj, hc, ej⟩ := z
    rcases set_get hj with ⟨rfl, ec⟩ | ⟨_, hj⟩
    · cases ec; exact absurd rfl hc
    · exact .inr ⟨j, c, hj, hc, ej⟩
  · have ne : i ≠ j := fun z => by
      subst z
      rw [hi] at hj
      cases hj
      cases hc
    exact ⟨rfl, c, by rw [set_other ne]; exact hj, hc⟩
  · rcases set_get hj with ⟨rfl, ec⟩ | ⟨_, hj⟩
    · cases ec; cases hc
    · exact ⟨c, hj, hc⟩
/-- .. it is nobody's from here on -/
theorem Sim.give {K : KW} {ρ : Rho} {σ : St} {B H : Hp} (S : Sim K ρ σ B H) {i : Nat} {d : D} (hi : ρ[i]? = some (some ⟨d, .ow⟩)) :
    ∃ a, σ[i]? = some (some (.ref a)) ∧ Sim K (ρ.set i none) σ B H ∧ Ext ρ σ B H (ρ.set i none) σ B H ∧ HdOk K (New ρ σ H) (ρ.set i none) σ B H (.ref a) (.fr d) := by
  obtain ⟨v, e, q⟩ := S.sl i _ hi
  rcases q with ⟨q, _⟩ | ⟨_, a, rfl, hb, ho⟩
  · cases q
  have own : OwnA ρ σ a := ⟨i, _, hi, by simp, e⟩
  refine ⟨a, e, ⟨S.bh, by rw [List.length_set]; exact S.len, fun j c hj => ?_, fun j k cj ck b hj hk nj nk ej ek => ?_⟩, ⟨Same.refl B, fun b u z => .inl z, fun b u z _ => z, fun b z => ?_, fun j c hj hc => ?_, fun j c hj hc => ?_⟩, a, rfl, hb, ho, fun z => ?_, .inr own⟩
  · rcases set_get hj with ⟨rfl, ec⟩ | ⟨ne, hj⟩
    · cases ec
    · exact S.sl j c hj
  · rcases set_get hj with ⟨rfl, ec⟩ | ⟨_, hj⟩
    · cases ec
    · rcases set_get hk with ⟨rfl, ec⟩ | ⟨_, hk⟩
      · cases ec
      · exact S.dj j k cj ck b hj hk nj nk ej ek
  · obtain ⟨j, c, hj, hc, ej⟩ := z
    rcases set_get hj with ⟨rfl, ec⟩ | ⟨_, hj⟩
    · cases ec
    · exact .inr ⟨j, c, hj, hc, ej⟩
  · have ne : i ≠ j := fun z => by
      subst z
      rw [hi] at hj
      cases hj
      cases hc
    exact ⟨rfl, c, by rw [set_other ne]; exact hj, hc⟩
  · rcases set_get hj with ⟨rfl, ec⟩ | ⟨_, hj⟩
    · cases ec
    · exact ⟨c, hj, hc⟩
  · obtain ⟨j, c, hj, hc, ej⟩ := z
    rcases set_get hj with ⟨rfl, ec⟩ | ⟨ne, hj⟩
    · cases ec
    · exact ne (S.dj i j _ c a hi hj (by simp) hc e ej)
theorem lk_mv {i : Nat} : LkE C (tVar i) (eMv i) := fun ρ σ B H Q S g => by
  unfold eMv at g
  cases h : slot ρ i with
  | none => rw [h] at g; exact g.elim
  | some c =>
    rw [h] at g
    obtain ⟨d, fl⟩ := c
    have hi := slot_some h
    cases fl with
    | sh =>
      obtain ⟨v, e, q⟩ := S.sl i _ hi
      rcases q with ⟨_, q⟩ | ⟨q, _⟩
      · exact ⟨v, e, g v B H S Ext.refl q⟩
      · exact absurd rfl q
    | ow =>
      obtain ⟨v, B1, e, S1, x1, r⟩ := S.freeze hi
      exact ⟨v, e, g v B1 H S1 x1 r⟩
    | io => exact g.elim
theorem se_vb (i : Nat) {x : Str} (hN : X.N[i]? = some x := by rfl) (hv : Vis X.env.scope x := by first | exact Or.inl rfl | exact Or.inr (Or.inl rfl) | exact Or.inr (Or.inr rfl)) (hd : (x == ("__debug__" : Str)) = false := by decide)
    (hcd : (x == ("__classdict__" : Str)) = false := by decide) : SE X C (.Name x pos) (tVar i) (eVb i) := ⟨pe_var hN hv hd hcd, lk_vb⟩
theorem se_mv (i : Nat) {x : Str} (hN : X.N[i]? = some x := by rfl) (hv : Vis X.env.scope x := by first | exact Or.inl rfl | exact Or.inr (Or.inl rfl) | exact Or.inr (Or.inr rfl)) (hd : (x == ("__debug__" : Str)) = false := by decide)
    (hcd : (x == ("__classdict__" : Str)) = false := by decide) : SE X C (.Name x pos) (tVar i) (eMv i) := ⟨pe_var hN hv hd hcd, lk_mv⟩
theorem lk_c {v : V} {d : D} (h : ∀ B, Rp C.K B v d) : LkE C (tC v) (eC d) := fun ρ σ B H Q S g => g v B H S Ext.refl (h B)
theorem se_int {i : Int} {j : Nat} : SE X C (.Constant (.int i) j pos) (tC (.int i)) (eC (.int i)) := ⟨pe_int, lk_c fun _ => .int i⟩
theorem se_str {i : Str} {j : Nat} : SE X C (.Constant (.str i) j pos) (tC (.str i)) (eC (.str i)) := ⟨pe_str, lk_c fun _ => .str i⟩
theorem se_bl {i : Bool} {j : Nat} : SE X C (.Constant (.bool i) j pos) (tC (.bl i)) (eC (.bool i)) := ⟨pe_bl, lk_c fun _ => .bl i⟩
theorem se_non {j : Nat} : SE X C (.Constant .none j pos) (tC .non) (eC .none) := ⟨pe_non, lk_c fun _ => .non⟩
def eNeg (f : EF) : EF := fun ρ => bindE (eSet f ρ) fun h ρ1 => match getH ρ1 h with
  | some (.int i) => .ok (.sh (.int (-i))) ρ1
  | _ => .stuck
theorem se_neg (l : SE X C e te fe) : SE X C (.UnaryOp .USub e pos) (tUn (rU fun i => .int (-i)) te) (eNeg fe) := ⟨pe_un un_neg l.pe, fun ρ σ B H Q S g => by
  refine l.lk.setBind S g fun hd ρ1 x B1 H1 S1 e1 y1 g1 => ?_
  split at g1
  · rename_i i ei
    exact ⟨i, (S1.tp y1 ei).int, g1 _ B1 H1 S1 Ext.refl (.int _)⟩
  · exact g1.elim⟩
inductive RA where | stuck | ok (hs : List Hd) (ρ : Rho) | exc (x : Xc) (ρ : Rho)
abbrev AF := Rho → RA
def HsOk (K : KW) (σ : St) (B : Hp) (v : V) : Hd → Prop
  | .sh d => Rp K B v d
  | .fr _ => False
  | .bw i => σ[i]? = some (some v)
inductive HdL (K : KW) (σ : St) (B : Hp) : List V → List Hd → Prop
  | nil : HdL K σ B [] []
  | cons {v : V} {vs : List V} {h : Hd} {hs : List Hd} : HsOk K σ B v h → HdL K σ B vs hs → HdL K σ B (v :: vs) (h :: hs)
theorem HsOk.mono {K : KW} {σ : St} {B B1 : Hp} (e : Same B B1) {v : V} : ∀ {h : Hd}, HsOk K σ B v h → HsOk K σ B1 v h
  | .sh _, q => Rp.mono e q
  | .fr _, q => q
  | .bw _, q => q
theorem HdL.mono {K : KW} {σ : St} {B B1 : Hp} (e : Same B B1) : ∀ {vs : List V} {hs : List Hd}, HdL K σ B vs hs → HdL K σ B1 vs hs
  | _, _, .nil => .nil
  | _, _, .cons h t => .cons (h.mono e) (HdL.mono e t)
theorem HdL.length {K : KW} {σ : St} {B : Hp} : ∀ {vs : List V} {hs : List Hd}, HdL K σ B vs hs → vs.length = hs.length
  | _, _, .nil => rfl
  | _, _, .cons h t => by rw [List.length_cons, List.length_cons, HdL.length t]
def GoodA (C : Ct) (ρ : Rho) (σ : St) (B H : Hp) (Q : List V → Hp → Prop) : RA → Prop
  | .stuck => False
  | .ok hs ρ' => ∀ vs B' H', Sim C.K ρ' σ B' H' → Ext ρ σ B H ρ' σ B' H' → HdL C.K σ B' vs hs → Q vs H'
  | .exc x ρ' => ∀ cls dct B' H', Sim C.K ρ' σ B' H' → Ext ρ σ B H ρ' σ B' H' → XcOk C B' x cls dct → C.W cls dct σ H'
def LkA (C : Ct) (t : TA) (f : AF) : Prop := ∀ ρ σ B H Q, Sim C.K ρ σ B H → GoodA C ρ σ B H Q (f ρ) → t σ H Q
structure SA (X : Cx) (C : Ct) (es : List Expr) (t : TA) (f : AF) : Prop where
  pa : PA X es t
  lk : LkA C t f
def aNil : AF := fun ρ => .ok [] ρ
def aCons (f : EF) (g : AF) : AF := fun ρ => match eSet f ρ with
  | .stuck => .stuck
  | .exc x ρ1 => .exc x ρ1
  | .ok h ρ1 => match g ρ1 with
    | .stuck => .stuck
    | .exc x ρ2 => .exc x ρ2
    | .ok hs ρ2 => .ok (h :: hs) ρ2
theorem GoodA.ext {ρ ρ1 : Rho} {σ : St} {B H B1 H1 : Hp} {Q : List V → Hp → Prop} (x : Ext ρ σ B H ρ1 σ B1 H1) : ∀ {r : RA}, GoodA C ρ σ B H Q r → GoodA C ρ1 σ B1 H1 Q r
  | .stuck, g => g
  | .ok _ _, g => fun vs B' H' s y z => g vs B' H' s (x.trans y) z
  | .exc _ _, g => fun c d B' H' s y z => g c d B' H' s (x.trans y) z
theorem hs_of {K : KW} {N : Addr → Prop} {ρ : Rho} {σ : St} {B H : Hp} {v : V} {h : Hd} (y : HdOk K N ρ σ B H v (setl h)) : HsOk K σ B v (setl h) := by
  cases h <;> exact y
theorem sa_nil : SA X C [] tNil aNil := ⟨pa_nil, fun ρ σ B H Q S g => g [] B H S Ext.refl .nil⟩
theorem sa_cons {t : TA} {g : AF} (l : SE X C e te fe) (m : SA X C es t g) (hs : starEach (e :: es) X.env = (false, eval e X.env) :: starEach es X.env := by rfl) : SA X C (e :: es) (tCons te t) (aCons fe g) := ⟨pa_cons l.pe m.pa hs, fun ρ σ B H Q S gd => by
  refine l.lk.set ρ σ B H _ S ?_
  unfold aCons at gd
  cases e : eSet fe ρ with
  | stuck => rw [e] at gd; exact gd
  | exc x ρ1 => rw [e] at gd; exact gd
  | ok h ρ1 =>
    rw [e] at gd
    intro v B1 H1 S1 x1 y1
    have y2 : HsOk C.K σ B1 v h := by
      unfold eSet bindE at e
      split at e
      · cases e
      · rename_i h' ρ' e'
        cases e
        exact hs_of y1
      · cases e
    refine m.lk ρ1 σ B1 H1 _ S1 ?_
    cases e2 : g ρ1 with
    | stuck => simp only [e2] at gd; exact gd
    | exc x ρ2 => simp only [e2] at gd; exact GoodA.ext x1 (r := .exc x ρ2) gd
    | ok hs ρ2 =>
      simp only [e2] at gd
      exact fun vs B2 H2 S2 x2 y3 => gd (v :: vs) B2 H2 S2 (x1.trans x2) (.cons (y2.mono x2.bb) y3)⟩
def bindA (r : RA) (k : List Hd → Rho → RE) : RE := match r with
  | .stuck => .stuck
  | .ok hs ρ => k hs ρ
  | .exc x ρ => .exc x ρ
theorem LkA.bind {t : TA} {f : AF} (l : LkA C t f) {ρ : Rho} {σ : St} {B H : Hp} (S : Sim C.K ρ σ B H) {Q : VK} {k : List Hd → Rho → RE} {Q' : List V → Hp → Prop} (g : GoodE C ρ σ B H Q (bindA (f ρ) k))
    (h : ∀ hs ρ1 vs B1 H1, Sim C.K ρ1 σ B1 H1 → Ext ρ σ B H ρ1 σ B1 H1 → HdL C.K σ B1 vs hs → GoodE C ρ1 σ B1 H1 Q (k hs ρ1) → Q' vs H1) : t σ H Q' := by
  refine l ρ σ B H Q' S ?_
  cases e : f ρ with
  | stuck => rw [e] at g; exact g
  | exc x ρ1 => rw [e] at g; exact g
  | ok hs ρ1 =>
    rw [e] at g
    exact fun vs B1 H1 s x y => h hs ρ1 vs B1 H1 s x y (GoodE.ext x g)
/-- all are data of their own -/
def shs : List Hd → Option (List D)
  | [] => some []
  | .sh d :: hs => (shs hs).map (d :: ·)
  | _ :: _ => none
theorem shs_ok {K : KW} {σ : St} {B : Hp} : ∀ {vs : List V} {hs : List Hd} {ds : List D}, HdL K σ B vs hs → shs hs = some ds → RpL K B vs ds
  | _, _, _, .nil, e => by cases e; exact .nil
  | _, .sh d :: hs, _, .cons h t, e => by
    obtain ⟨r, er, rfl⟩ := Option.map_eq_some_iff.mp (show (shs hs).map (d :: ·) = some _ from e)
    exact .cons h (shs_ok t er)
/-- what they are, looked at -/
def gets (ρ : Rho) : List Hd → Option (List D)
  | [] => some []
  | h :: hs => match getH ρ h, gets ρ hs with
    | some d, some ds => some (d :: ds)
    | _, _ => none
inductive TpL (K : KW) (B H : Hp) : List V → List D → Prop
  | nil : TpL K B H [] []
  | cons {v : V} {vs : List V} {d : D} {ds : List D} : Tp K B H v d → TpL K B H vs ds → TpL K B H (v :: vs) (d :: ds)
theorem hd_hs {K : KW} {N : Addr → Prop} {ρ : Rho} {σ : St} {B H : Hp} {v : V} : ∀ {h : Hd}, HsOk K σ B v h → HdOk K N ρ σ B H v h
  | .sh _, q => q
  | .bw _, q => q
theorem gets_ok {ρ : Rho} {σ : St} {B H : Hp} (S : Sim C.K ρ σ B H) : ∀ {vs : List V} {hs : List Hd} {ds : List D}, HdL C.K σ B vs hs → gets ρ hs = some ds → TpL C.K B H vs ds
  | _, _, _, .nil, e => by cases e; exact .nil
  | _, h :: hs, _, .cons y t, e => by
    unfold gets at e
    split at e
    · rename_i d ds e1 e2
      cases e
      exact .cons (S.tp (N := fun _ => True) (hd_hs y) e1) (gets_ok S t e2)
    · cases e
def eTup (f : AF) : EF := fun ρ => bindA (f ρ) fun hs ρ1 => match shs hs with
  | some ds => if ds.length ≤ 1000 then .ok (.sh (.tuple ds)) ρ1 else .stuck
  | none => .stuck
def eLst (f : AF) : EF := fun ρ => bindA (f ρ) fun hs ρ1 => match shs hs with
  | some ds => if ds.length ≤ 1000 then .ok (.fr (.list ds)) ρ1 else .stuck
  | none => .stuck
theorem small {n : Nat} (h : n ≤ 1000) : n ≤ sizeLine := Nat.le_of_lt (small1000 h)
theorem se_tup {t : TA} {f : AF} {k : Nat} (l : SA X C es t f) : SE X C (.Tuple es k pos) (tTupX t) (eTup f) := ⟨pe_tupX l.pa, fun ρ σ B H Q S g => by
  refine l.lk.bind S g fun hs ρ1 vs B1 H1 S1 x1 y1 g1 => ?_
  split at g1
  · rename_i ds e
    split at g1
    · have r := shs_ok y1 e
      exact ⟨by rw [r.length]; exact small (by assumption), newT S1 r g1⟩
    · exact g1.elim
  · exact g1.elim⟩
theorem se_lst {t : TA} {f : AF} (l : SA X C es t f) : SE X C (.List es pos) (tLst t) (eLst f) := ⟨pe_lst l.pa, fun ρ σ B H Q S g => by
  refine l.lk.bind S g fun hs ρ1 vs B1 H1 S1 x1 y1 g1 => ?_
  split at g1
  · rename_i ds e
    split at g1
    · have r := shs_ok y1 e
      exact ⟨by rw [r.length]; exact small (by assumption), newL S1 r g1⟩
    · exact g1.elim
  · exact g1.elim⟩
def CalL (K : KW) (r : List V → Hp → VK → Prop) (o : List D → Option Hd) : Prop := ∀ ρ σ B H xs ds h Q, Sim K ρ σ B H → TpL K B H xs ds → o ds = some h →
  (∀ v B' H', Sim K ρ σ B' H' → Ext ρ σ B H ρ σ B' H' → HdOk K (New ρ σ H) ρ σ B' H' v h → Q v H') → r xs H Q
def eCB (o : List D → Option Hd) (f : AF) : EF := fun ρ => bindA (f ρ) fun hs ρ1 => match (gets ρ1 hs).bind o with
  | some h => .ok h ρ1
  | none => .stuck
theorem lk_cb {t : TA} {f : AF} {r : List V → Hp → VK → Prop} {o : List D → Option Hd} (hr : CalL C.K r o) (l : LkA C t f) : LkE C (tCB r t) (eCB o f) := fun ρ σ B H Q S g => by
  refine l.bind S g fun hs ρ1 vs B1 H1 S1 x1 y1 g1 => ?_
  split at g1
  · rename_i h e
    obtain ⟨ds, e1, e2⟩ := Option.bind_eq_some_iff.mp e
    exact hr ρ1 σ B1 H1 vs ds h Q S1 (gets_ok S1 y1 e1) e2 g1
  · exact g1.elim
theorem se_cb {x : Str} {id : String} {p : Pos} {t : TA} {f : AF} {r : List V → Hp → VK → Prop} {o : List D → Option Hd} (hr : CalL C.K r o) (hc : CallR X (.builtin id) r) (hm : X.mg x = none) (l : SA X C (e :: es) t f) (hv : bootBuiltins x = some (.builtin id) := by decide +kernel) (hg : Gl X x := by rfl)
    (hn : x ≠ "__name__" := by decide) (hdb : (x == ("__debug__" : Str)) = false := by decide) (he : starEach (e :: es) X.env = (false, eval e X.env) :: starEach es X.env := by rfl) (hpl : (backTo pos (starEach es X.env)).any (·.1) = false := by rfl) :
    SE X C (.Call (.Name x p) (e :: es) [] pos) (tCB r t) (eCB o f) := ⟨pe_callB hc hg hm hv l.pa hn hdb he hpl, lk_cb hr l.lk⟩
theorem se_ct {x : Str} {T : String} {p : Pos} {t : TA} {f : AF} {r : List V → Hp → VK → Prop} {o : List D → Option Hd} (hr : CalL C.K r o) (hc : CallR X (.type T) r) (hm : X.mg x = none) (l : SA X C (e :: es) t f) (hv : bootBuiltins x = some (.type T) := by decide +kernel) (hg : Gl X x := by rfl)
    (hn : x ≠ "__name__" := by decide) (hdb : (x == ("__debug__" : Str)) = false := by decide) (he : starEach (e :: es) X.env = (false, eval e X.env) :: starEach es X.env := by rfl) (hpl : (backTo pos (starEach es X.env)).any (·.1) = false := by rfl) :
    SE X C (.Call (.Name x p) (e :: es) [] pos) (tCB r t) (eCB o f) := ⟨pe_callTy hc hg hm hv l.pa hn hdb he hpl, lk_cb hr l.lk⟩
end
section
variable {K : KW}
/-- one argument, two -/
def un1 (o : D → Option Hd) : List D → Option Hd
  | [d] => o d
  | _ => none
def un2 (o : D → D → Option Hd) : List D → Option Hd
  | [d, e] => o d e
  | _ => none
theorem CalL.one {r : List V → Hp → VK → Prop} {o : D → Option Hd} (k : ∀ ρ σ B H x d h Q, Sim K ρ σ B H → Tp K B H x d → o d = some h →
    (∀ v B' H', Sim K ρ σ B' H' → Ext ρ σ B H ρ σ B' H' → HdOk K (New ρ σ H) ρ σ B' H' v h → Q v H') → r [x] H Q) : CalL K r (un1 o) := fun ρ σ B H xs ds h Q S y e q => by
  cases y with
  | nil => cases e
  | cons t u =>
    cases u with
    | nil => exact k ρ σ B H _ _ h Q S t e q
    | cons _ _ => cases e
theorem CalL.two {r : List V → Hp → VK → Prop} {o : D → D → Option Hd} (k : ∀ ρ σ B H x y d d' h Q, Sim K ρ σ B H → Tp K B H x d → Tp K B H y d' → o d d' = some h →
    (∀ v B' H', Sim K ρ σ B' H' → Ext ρ σ B H ρ σ B' H' → HdOk K (New ρ σ H) ρ σ B' H' v h → Q v H') → r [x, y] H Q) : CalL K r (un2 o) := fun ρ σ B H xs ds h Q S y e q => by
  cases y with
  | nil => cases e
  | cons t u =>
    cases u with
    | nil => cases e
    | cons u w =>
      cases w with
      | nil => exact k ρ σ B H _ _ _ _ h Q S t u e q
      | cons _ _ => cases e
def lenD : D → Option Hd
  | .list ds => some (.sh (.int ds.length))
  | .tuple ds => some (.sh (.int ds.length))
  | .str z => if z.length ≤ sizeLine then some (.sh (.int z.length)) else none
  | _ => none
def rLen (K : PySem.W.Frag) : List V → Hp → VK → Prop := fun xs H Q => ∃ x n, xs = [x] ∧ LenV K x H n ∧ Q (.int n) H
theorem cl_len : CalL K (rLen K) (un1 lenD) := CalL.one fun ρ σ B H x d h Q S t e k => by
  cases d with
  | list ds =>
    cases e
    obtain ⟨a, vs, rfl, ha, ra⟩ := t
    refine ⟨_, vs.length, rfl, .inl ⟨vs, ha, rfl⟩, ?_⟩
    rw [ra.length]
    exact now S (.int _) k
  | tuple ds =>
    cases e
    obtain ⟨a, vs, rfl, ha, ra⟩ := Tp.tup t
    refine ⟨_, vs.length, rfl, .inr ⟨vs, same_t S.bh ha, rfl⟩, ?_⟩
    rw [ra.length]
    exact now S (.int _) k
  | str z =>
    obtain ⟨c, rfl⟩ := if_some e
    rw [Tp.str t]
    exact ⟨_, z.length, rfl, ⟨c, rfl⟩, now S (.int _) k⟩
  | _ => cases e
def listD : D → Option Hd
  | .list ds => some (.fr (.list ds))
  | .tuple ds => some (.fr (.list ds))
  | _ => none
def rListA (K : PySem.W.Frag) : List V → Hp → VK → Prop := fun xs H Q => ∃ p ys, xs = [.ref p] ∧ (SqL K H p ys ∨ SqT K H p ys) ∧ ∀ l, H l = none → Q (.ref l) (upd H l (.lst ys))
theorem cl_list : CalL K (rListA K) (un1 listD) := CalL.one fun ρ σ B H x d h Q S t e k => by
  cases d with
  | list ds =>
    cases e
    obtain ⟨a, vs, rfl, ha, ra⟩ := t
    exact ⟨a, vs, rfl, .inl ha, newL S ra k⟩
  | tuple ds =>
    cases e
    obtain ⟨a, vs, rfl, ha, ra⟩ := Tp.tup t
    exact ⟨a, vs, rfl, .inr (same_t S.bh ha), newL S ra k⟩
  | _ => cases e
def tupleD : D → Option Hd
  | .list ds => some (.sh (.tuple ds))
  | .tuple ds => some (.sh (.tuple ds))
  | _ => none
abbrev rTupleA := rTupX
theorem cl_tuple : CalL K (rTupleA K) (un1 tupleD) := CalL.one fun ρ σ B H x d h Q S t e k => by
  cases d with
  | list ds =>
    cases e
    obtain ⟨a, vs, rfl, ha, ra⟩ := t
    exact ⟨a, vs, rfl, .inl ⟨ha, newT S ra k⟩⟩
  | tuple ds =>
    cases e
    obtain ⟨a, vs, rfl, ha, ra⟩ := Tp.tupX t
    exact ⟨a, vs, rfl, .inr ⟨(same_x S.bh ha).sq, now S (.tup ha ra) k⟩⟩
  | _ => cases e
def strD : D → Option Hd
  | .int i => if i.natAbs.log2 < 1920 then some (.sh (.str (toString i))) else none
  | _ => none
/-- isinstance of a built-in type -/
def tyOf : D → String
  | .none => "NoneType"
  | .bool _ => "bool"
  | .int _ => "int"
  | .str _ => "str"
  | .list _ => "list"
  | .tuple _ => "tuple"
  | .dict ps => if xnB ps then "Exception" else "dict"
def isXn : D → Bool | .dict ps => xnB ps | _ => false
theorem tyX {B H : Hp} (s : Same B H) {v : V} {d : D} (h : Tp K B H v d) (hx : isXn d = false) : TyX K H v (.type (tyOf d)) ∨ ∃ a w ep xs, v = .ref a ∧ H a = some (dX w a ep xs) ∧ tyOf d = "dict" := by
  cases d with
  | none => rw [h.non]; exact .inl (.base .non)
  | bool b => rw [h.bl]; exact .inl (.base (.bl b))
  | int i => rw [h.int]; exact .inl (.base (.int i))
  | str z => rw [h.str]; exact .inl (.base (.str z))
  | list ds =>
    obtain ⟨a, vs, rfl, ha, _⟩ := h
    rcases ha with (ha | ⟨o, ha⟩) | ⟨o, its, n, e, c, _⟩
    · exact .inl (.base (.lst ha))
    · exact .inl (.base (.frz ha))
    · exact .inl (.kList e c)
  | tuple ds =>
    obtain ⟨a, vs, rfl, ha, _⟩ := h.tup
    rcases same_t s ha with (ha | ⟨o, ha⟩) | ⟨o, its, n, e, c, _⟩
    · exact .inl (.base (.tup ha))
    · exact .inl (.fTuple ha)
    · exact .inl (.kTuple e c)
  | dict ps =>
    have hx : xnB ps = false := hx
    have et : tyOf (.dict ps) = "dict" := by show (if xnB ps then "Exception" else "dict") = _; rw [hx]; rfl
    rcases h with ⟨a, ep, b, xs, rfl, ha, _⟩ | ⟨z, _⟩
    · exact .inr ⟨a, K.w, ep, xs, rfl, ha, et⟩
    · rw [hx] at z; cases z
end
theorem xcB_ok {K : PySem.W.Frag} {cls : Value} (h : xcB K cls = true) : ∃ D, cls = .ref D ∧ (PySem.W.clsIn K D).isSome = true ∧ PySem.W.findIn K (.ref D) "__getattribute__" = some (some (.builtin "BaseException.__getattribute__")) ∧ PySem.W.findIn K (.ref D) "__getattr__" = some none ∧
    PySem.W.subIn K (.ref D) (.type "BaseException") = some true ∧ PySem.W.hasDictIn K D = true ∧ PySem.W.findIn K (.ref D) "__class__" = some (some (.builtin "object.__class__")) ∧ PySem.W.specialIn K (.builtin "object.__class__") "__get__" = some (some (.builtin "getset_descriptor.__get__")) ∧
    PySem.W.takesIn K (.builtin "object.__class__") = some true ∧ PySem.W.mroIn K D (.type "object") = some true ∧ ∀ T ∈ ["tuple", "str", "bool", "int", "list", "dict"], PySem.W.kitOne K (.ref D) (.type T) = some false := by
  unfold xcB at h
  split at h
  · rename_i D
    simp only [Bool.and_eq_true, decide_eq_true_eq] at h
    obtain ⟨h1, h2, h3, h4, h5, h6, h7, h8, h9, h10⟩ := h
    exact ⟨D, rfl, h1, h2, h3, h4, h5, h6, h7, h8, h9, fun T hT => of_decide_eq_true (List.all_eq_true.mp h10 T hT)⟩
  · cases h
theorem exV_at {P : Program} {w : World} {H : Hp} {h : Heap} {a : Addr} {cls : Value} {d : Option Addr} (hok : HOk P w H h) (e : H a = some (exV a cls d)) : ∃ (oe : Obj) (vs : Array Value), h.get? a = some oe ∧ Zc cls d oe ∧ oe.data = .fields vs := by
  have x : ObjOk P w H h a (.ext fun h => ∃ (oe : Obj) (vs : Array Value), h.get? a = some oe ∧ Zc cls d oe ∧ oe.data = .fields vs) := hok a _ e
  exact x.1
theorem exV_inst {X : Cx} {pins : List (Addr × Obj)} {σ : St} {H : Hp} {s : Shared} {a D : Addr} {d : Option Addr} {fs : List (Str × V)} (I : Inv X pins σ H s) (e : H a = some (exV a (.ref D) d)) (x : XdB H d fs) :
    ∃ (oe : Obj) (od : Option Obj), PySem.W.InstAt s.heap a oe D od := by
  obtain ⟨oe, vs, ha, hz, hd⟩ := exV_at I.hok e
  rcases x with ⟨rfl, _⟩ | ⟨dd, rfl, ed⟩
  · exact ⟨oe, none, ha, hz.1, by unfold PySem.W.notCls; rw [hd] <;> rfl, by rw [hz.2]; trivial⟩
  · have hx : ObjOk X.prog X.w H s.heap dd (.xd fs) := I.hok dd _ ed
    obtain ⟨mA, hns, hr⟩ := hx
    obtain ⟨od, ho, hl⟩ := lookIn_ns hns
    exact ⟨oe, some od, ha, hz.1, by unfold PySem.W.notCls; rw [hd] <;> rfl, by rw [hz.2]; exact ho⟩
def rIsX (K : PySem.W.Frag) : List V → Hp → VK → Prop := fun xs H Q => ∃ (a : Addr) (c : V) (D : Addr) (d : Option Addr) (fs : List (Str × V)) (u : Value) (b : Bool), xs = [.ref a, c] ∧ ClsV c u ∧ H a = some (exV a (.ref D) d) ∧ XdB H d fs ∧ xcB K (.ref D) = true ∧ PySem.W.kitOne K (.ref D) u = some b ∧ Q (.bl b) H
theorem call_isX {X : Cx} : CallR X (.builtin "isinstance") (rIsX X.K) := by
  intro pins s σ H xs us Q I r h
  obtain ⟨a, c, D, d, fs, u, b, rfl, k, ea, xd, xb, e, q⟩ := h
  obtain ⟨u1, u2, rfl, r1, r2⟩ := vals2 r
  have e2 := k.eq r2
  subst e2
  obtain rfl : u1 = Value.ref a := r1
  obtain ⟨oe, od, J⟩ := exV_inst I ea xd
  obtain ⟨D', eD, h1, h2, h3, h4, h5, h6, h7, h8, h9, _⟩ := xcB_ok xb
  cases eD
  exact PySem.W.kia_one (PySem.W.kitx_exc h1 h2 h3 h4 h6 h7 h8 h9) I.kIn J e (fun z => nomatch z) fun tk => ⟨.bl b, H, I.tok tk, rfl, q⟩
/-- of a dict whose keys are tuples -/
def rIsD (K : PySem.W.Frag) : List V → Hp → VK → Prop := fun xs H Q => ∃ (a : Addr) (c : V) (w : World) (ep : Nat) (es : List (NestedKey × Value × Value)) (u : Value) (b : Bool), xs = [.ref a, c] ∧ ClsV c u ∧ H a = some (dX w a ep es) ∧ PySem.W.kitOne K (.type "dict") u = some b ∧ Q (.bl b) H
theorem call_isD {X : Cx} : CallR X (.builtin "isinstance") (rIsD X.K) := by
  rintro pins s σ H xs us Q I r ⟨a, c, w, ep, es, u, b, rfl, k, ea, e, q⟩
  obtain ⟨u1, u2, rfl, r1, r2⟩ := vals2 r
  obtain rfl := k.eq r2
  obtain rfl : u1 = Value.ref a := r1
  obtain ⟨⟨o, _, h1, h2, _⟩, _⟩ := I.hok a _ ea
  exact PySem.W.kia_one PySem.W.kitx_dict I.kIn ⟨o, h1, h2.1⟩ e (fun z => nomatch z) fun tk => ⟨.bl b, H, I.tok tk, rfl, q⟩
def rIsiA (K : PySem.W.Frag) : List V → Hp → VK → Prop := fun xs H Q => rIsi K xs H Q ∨ (rIsX K xs H Q ∨ rIsD K xs H Q)
theorem call_isiA {X : Cx} : CallR X (.builtin "isinstance") (rIsiA X.K) := by
  intro pins s σ H xs us Q I r h
  rcases h with h | h | h
  · exact call_isi pins s σ H xs us Q I r h
  · exact call_isX pins s σ H xs us Q I r h
  · exact call_isD pins s σ H xs us Q I r h
/-- what is kept of an exception's datum -/
theorem Tp.xn {K : KW} {B H : Hp} {v : V} {d : D} (s : Same B H) (h : Tp K B H v d) (hx : isXn d = true) : ∃ (a : Addr) (c : Str) (dd : Option Addr) (fs : List (Str × V)) (ds : List D), v = .ref a ∧ d = xnD c (fs.map (·.1)) ds ∧ H a = some (exV a (cvK K c) dd) ∧ xcB K (cvK K c) = true ∧ XdB H dd fs ∧ RpL K B (fs.map (·.2)) ds := by
  cases d with
  | dict ps =>
    have hx : xnB ps = true := hx
    have no : ∀ {b xs}, RpX K B b xs ps → False := fun r => by
      cases r with
      | nil => cases hx
      | @cons _ _ _ _ _ _ _ kd _ _ h1 _ _ _ _ _ _ =>
        cases kd <;> first | (cases hx; done) | cases h1
    rcases h with ⟨_, _, _, _, _, _, r⟩ | ⟨_, h⟩
    · exact (no r).elim
    · cases h with
      | dct _ r => exact (no r).elim
      | exn h1 h2 h3 h4 => exact ⟨_, _, _, _, _, rfl, rfl, s _ _ h1, h2, h3.mono s, h4⟩
  | _ => cases hx
section
variable {X : Cx} {C : Ct} {e : Expr} {te : TE} {fe : EF} {pos : Pos}
def eIsi (p : D → Bool) (f : EF) : EF := fun ρ => bindE (eSet f ρ) fun h ρ1 => match getH ρ1 h with
  | some d => .ok (.sh (.bool (p d))) ρ1
  | none => .stuck
theorem lk_isi {T : String} {p : D → Bool} (hp : ∀ d, kitB (tyOf d) T = some (p d)) (hT : T ∈ ["tuple", "str", "bool", "int", "list", "dict"]) (hTx : kitB "Exception" T = some false) (l : LkE C te fe) : LkE C (tCB (rIsiA C.K) (tCons te (tCons (tC (.ty T)) tNil))) (eIsi p fe) := fun ρ σ B H Q S g => by
  refine l.setBind S g fun hd ρ1 x B1 H1 S1 e1 y1 g1 => ?_
  split at g1
  · rename_i d ed
    cases hx : isXn d with
    | false =>
      rcases tyX S1.bh (S1.tp y1 ed) hx with ty | ⟨a, w, ep, es, rfl, ha, et⟩
      · refine .inl ⟨x, .ty T, _, _, _, rfl,   .ty T, ty, kit_ty (hp d), ?_⟩
        exact g1 _ B1 H1 S1 Ext.refl (.bl _)
      · refine .inr (.inr ⟨a, .ty T, w, ep, es, _, _, rfl, .ty T, ha, kit_ty (by have := hp d; rw [et] at this; exact this), ?_⟩)
        exact g1 _ B1 H1 S1 Ext.refl (.bl _)
    | true =>
      obtain ⟨a, c, dd, fs, ds, rfl, rfl, h1, h2, h3, h4⟩ := (S1.tp y1 ed).xn S1.bh hx
      obtain ⟨D, eD, _, _, _, _, _, _, _, _, _, hk⟩ := xcB_ok h2
      rw [eD] at h1 h2
      refine .inr (.inl ⟨a, .ty T, D, dd, fs, _, _, rfl, .ty T, h1, h3, h2, hk T hT, ?_⟩)
      have e : p (xnD c (fs.map (·.1)) ds) = false := by
        have z := hp (xnD c (fs.map (·.1)) ds)
        rw [show tyOf (xnD c (fs.map (·.1)) ds) = "Exception" from rfl, hTx] at z
        exact (Option.some.inj z).symm
      rw [e] at g1
      exact g1 _ B1 H1 S1 Ext.refl (.bl _)
  · exact g1.elim
theorem se_isi {x : Str} {T : String} {p : D → Bool} {q1 q2 : Pos} (hp : ∀ d, kitB (tyOf d) T = some (p d)) (hm : X.mg "isinstance" = none) (hmT : X.mg x = none) (l : SE X C e te fe) (hvT : bootBuiltins x = some (.type T) := by decide +kernel) (hT : T ∈ ["tuple", "str", "bool", "int", "list", "dict"] := by decide) (hTx : kitB "Exception" T = some false := by decide +kernel) (hk : X.K = C.K := by rfl) (hg : Gl X "isinstance" := by rfl) (hgT : Gl X x := by rfl)
    (hnT : x ≠ "__name__" := by decide) (hdT : (x == ("__debug__" : Str)) = false := by decide)
    (he : starEach (e :: [.Name x q2]) X.env = (false, eval e X.env) :: starEach [.Name x q2] X.env := by rfl) :
    SE X C (.Call (.Name "isinstance" q1) [e, .Name x q2] [] pos) (tCB (rIsiA C.K) (tCons te (tCons (tC (.ty T)) tNil))) (eIsi p fe) :=
  ⟨by rw [← hk]; exact pe_callB call_isiA hg hm (by decide +kernel) (pa_cons l.pe (pa_cons (pe_bltn hgT hmT hvT rfl hnT hdT) pa_nil) he) (by decide) (by decide) he, lk_isi hp hT hTx l.lk⟩
def isLst : D → Bool | .list _ => true | _ => false
theorem kit_lst : ∀ d, kitB (tyOf d) "list" = some (isLst d)
  | .none => by show kitB "NoneType" "list" = some false; decide +kernel
  | .tuple _ => by show kitB "tuple" "list" = some false; decide +kernel
  | .bool _ => by show kitB "bool" "list" = some false; decide +kernel
  | .int _ => by show kitB "int" "list" = some false; decide +kernel
  | .str _ => by show kitB "str" "list" = some false; decide +kernel
  | .list _ => by show kitB "list" "list" = some true; decide +kernel
  | .dict ps => by
    show kitB (if xnB ps then "Exception" else "dict") "list" = some false
    cases xnB ps <;> decide +kernel
end
end GS
namespace GS
open PySem L2
/-- what a def does: of its parameters' cells what comes back, and the lent cell behind -/
abbrev FF := Rho → RE
def spF (K : KW) (cv : Str → Value) (n : Nat) (F : FF) : Sp := fun vs H Q E => ∃ ρ B, ρ.length = n ∧ Sim K ρ (vs.map some) B H ∧
  GoodE ⟨K, cv, fun cls d _ H' => E cls d H'⟩ ρ (vs.map some) B H Q (F ρ)
def argC (ρ : Rho) (io : Bool) : Hd → Option Cel
  | .sh d => if io then none else some ⟨d, .sh⟩
  | .bw i => if io then (match slot ρ i with
    | some ⟨d, .ow⟩ => some ⟨d, .io⟩
    | some ⟨d, .io⟩ => some ⟨d, .io⟩
    | _ => none) else none
  | .fr _ => none
/-- the callee's cells; io: the place of the lent argument -/
def args (ρ : Rho) (io : Option Nat) : Nat → List Hd → Option Rho
  | _, [] => some []
  | k, h :: hs => match argC ρ (decide (io = some k)) h, args ρ io (k + 1) hs with
    | some c, some r => some (some c :: r)
    | _, _ => none
def putB (ρ : Rho) (io : Option Nat) (hs : List Hd) (outs : Rho) : Option Rho := match io with
  | none => some ρ
  | some j => match hs[j]? with
    | some (.bw i) => match slot ρ i, slot outs j with
      | some c, some c' => some (ρ.set i (some ⟨c'.d, c.fl⟩))
      | _, _ => none
    | _ => none
def eCall (n : Nat) (io : Option Nat) (F : FF) (fs : AF) : EF := fun ρ => bindA (fs ρ) fun hs ρ1 => match args ρ1 io 0 hs with
  | none => .stuck
  | some ρ0 => if ρ0.length ≠ n then .stuck else match F ρ0 with
    | .stuck => .stuck
    | .ok h outs => match h, putB ρ1 io hs outs with
      | .bw _, _ => .stuck
      | _, none => .stuck
      | _, some ρ2 => .ok h ρ2
    | .exc x outs => match putB ρ1 io hs outs with
      | none => .stuck
      | some ρ2 => .exc x ρ2
theorem argC_sh {ρ : Rho} {b : Bool} {d : D} {c : Cel} (h : argC ρ b (.sh d) = some c) : b = false ∧ c = ⟨d, .sh⟩ := by
  cases b
  · cases h; exact ⟨rfl, rfl⟩
  · cases h
theorem argC_bw {ρ : Rho} {b : Bool} {i : Nat} {c : Cel} (h : argC ρ b (.bw i) = some c) : b = true ∧ ∃ d fl, ρ[i]? = some (some ⟨d, fl⟩) ∧ fl ≠ .sh ∧ c = ⟨d, .io⟩ := by
  cases b
  · cases h
  · refine ⟨rfl, ?_⟩
    replace h : (match slot ρ i with | some ⟨d, .ow⟩ => some ⟨d, .io⟩ | some ⟨d, .io⟩ => some ⟨d, .io⟩ | _ => none) = some c := h
    split at h
    · rename_i d es
      cases h
      exact ⟨d, .ow, slot_some es, by simp, rfl⟩
    · rename_i d es
      cases h
      exact ⟨d, .io, slot_some es, by simp, rfl⟩
    · cases h
theorem args_at {ρ : Rho} {io : Option Nat} : ∀ {k : Nat} {hs : List Hd} {r : Rho}, args ρ io k hs = some r → r.length = hs.length ∧ ∀ (j : Nat) (c : Cel), r[j]? = some (some c) → ∃ h, hs[j]? = some h ∧ argC ρ (decide (io = some (k + j))) h = some c
  | _, [], _, e => by cases e; exact ⟨rfl, fun j c h => by simp at h⟩
  | k, h :: hs, r, e => by
    unfold args at e
    split at e
    · rename_i c r' e1 e2
      cases e
      obtain ⟨l, q⟩ := args_at e2
      refine ⟨by rw [List.length_cons, List.length_cons, l], fun j c' hj => ?_⟩
      cases j with
      | zero => simp at hj; subst hj; exact ⟨h, rfl, e1⟩
      | succ j =>
        obtain ⟨h', q1, q2⟩ := q j c' (by simpa using hj)
        exact ⟨h', by simpa using q1, by rw [show k + (j + 1) = k + 1 + j by omega]; exact q2⟩
    · cases e
theorem args_has {ρ : Rho} {io : Option Nat} : ∀ {k : Nat} {hs : List Hd} {r : Rho} {j : Nat} {h : Hd}, args ρ io k hs = some r → hs[j]? = some h → ∃ c, r[j]? = some (some c)
  | _, [], _, _, _, _, h => by simp at h
  | k, h :: hs, r, j, h', e, hj => by
    unfold args at e
    split at e
    · rename_i c r' e1 e2
      cases e
      cases j with
      | zero => exact ⟨c, rfl⟩
      | succ j =>
        obtain ⟨c', q⟩ := args_has (j := j) e2 (by simpa using hj)
        exact ⟨c', by simpa using q⟩
    · cases e
theorem HdL.get {K : KW} {σ : St} {B : Hp} : ∀ {vs : List V} {hs : List Hd} {j : Nat} {h : Hd}, HdL K σ B vs hs → hs[j]? = some h → ∃ v, vs[j]? = some v ∧ HsOk K σ B v h
  | _, _, _, _, .nil, e => by simp at e
  | _, _, 0, _, .cons h _, e => by simp at e; subst e; exact ⟨_, rfl, h⟩
  | _, _, j + 1, h, .cons _ t, e => by
    obtain ⟨v, q1, q2⟩ := HdL.get (j := j) (h := h) t (by simpa using e)
    exact ⟨v, by simpa using q1, q2⟩
section
variable {K : KW} {ρ ρ0 ρ0' ρ2 : Rho} {σ : St} {B H B' H' : Hp} {io : Option Nat} {hs : List Hd} {vs : List V}
/-- the callee's cell j that is lent is the caller's slot i -/
theorem args_own (e : args ρ io 0 hs = some ρ0) {j : Nat} {c : Cel} (hc : ρ0[j]? = some (some c)) (nf : c.fl ≠ .sh) : io = some j ∧ ∃ i d fl, hs[j]? = some (.bw i) ∧ ρ[i]? = some (some ⟨d, fl⟩) ∧ fl ≠ .sh ∧ c = ⟨d, .io⟩ := by
  obtain ⟨_, q⟩ := args_at e
  obtain ⟨h, h1, h2⟩ := q j c hc
  rw [Nat.zero_add] at h2
  cases h with
  | sh d =>
    obtain ⟨_, rfl⟩ := argC_sh h2
    exact absurd rfl nf
  | fr d => cases h2
  | bw i =>
    obtain ⟨b, d, fl, q1, q2, q3⟩ := argC_bw h2
    exact ⟨of_decide_eq_true b, i, d, fl, h1, q1, q2, q3⟩
theorem args_sim (S : Sim K ρ σ B H) (y : HdL K σ B vs hs) (e : args ρ io 0 hs = some ρ0) : Sim K ρ0 (vs.map some) B H := by
  obtain ⟨l, q⟩ := args_at e
  refine ⟨S.bh, by rw [l, List.length_map, y.length], fun j c hj => ?_, fun i j ci cj a hi hj ni nj _ _ => ?_⟩
  · obtain ⟨h, h1, h2⟩ := q j c hj
    obtain ⟨v, hv, ok⟩ := y.get h1
    refine ⟨v, by rw [List.getElem?_map, hv]; rfl, ?_⟩
    by_cases nf : c.fl = .sh
    · refine .inl ⟨nf, ?_⟩
      cases h with
      | sh d =>
        obtain ⟨_, rfl⟩ := argC_sh h2
        exact ok
      | fr d => cases h2
      | bw i =>
        obtain ⟨_, d, fl, _, _, rfl⟩ := argC_bw h2
        cases nf
    · obtain ⟨_, i, d, fl, h3, h4, h5, rfl⟩ := args_own e hj nf
      rw [h1] at h3
      cases h3
      obtain ⟨v', e1, cok⟩ := S.sl i _ h4
      have ok' : σ[i]? = some (some v) := ok
      rw [ok'] at e1
      cases e1
      rcases cok with ⟨z, _⟩ | ⟨_, z⟩
      · exact absurd z h5
      · exact .inr ⟨by simp, z⟩
  · obtain ⟨e1, _⟩ := args_own e hi ni
    obtain ⟨e2, _⟩ := args_own e hj nj
    rw [e1] at e2
    cases e2
    rfl
theorem args_ownA (y : HdL K σ B vs hs) (e : args ρ io 0 hs = some ρ0) {a : Addr} (h : OwnA ρ0 (vs.map some) a) : OwnA ρ σ a := by
  obtain ⟨j, c, h1, h2, h3⟩ := h
  obtain ⟨_, i, d, fl, q1, q2, q3, _⟩ := args_own e h1 h2
  obtain ⟨v, hv, ok⟩ := y.get q1
  rw [List.getElem?_map, hv] at h3
  cases h3
  exact ⟨i, _, q2, q3, ok⟩
/-- behind the call -/
theorem back_sim (S : Sim K ρ σ B H) (y : HdL K σ B vs hs) (e : args ρ io 0 hs = some ρ0) (S' : Sim K ρ0' (vs.map some) B' H') (x : Ext ρ0 (vs.map some) B H ρ0' (vs.map some) B' H') (p : putB ρ io hs ρ0' = some ρ2) :
    Sim K ρ2 σ B' H' ∧ Ext ρ σ B H ρ2 σ B' H' ∧ (∀ a, New ρ0 (vs.map some) H a → New ρ σ H a) ∧ ∀ a, ¬ OwnA ρ0' (vs.map some) a → New ρ0 (vs.map some) H a → ¬ OwnA ρ2 σ a := by
  -- a slot of the caller that is not lent
  have sub0 : ∀ a, OwnA ρ0 (vs.map some) a → OwnA ρ σ a := fun a h => args_ownA y e h
  have newN : ∀ a, New ρ0 (vs.map some) H a → New ρ σ H a := fun a h => h.elim .inl fun h => .inr (sub0 a h)
  -- what ρ2 is
  have key : (∀ (k : Nat) (c : Cel), ρ2[k]? = some (some c) → (ρ[k]? = some (some c) ∧ ∀ j, io = some j → hs[j]? ≠ some (.bw k)) ∨ ∃ j c0 c', io = some j ∧ hs[j]? = some (.bw k) ∧ ρ[k]? = some (some c0) ∧ ρ0'[j]? = some (some c') ∧ c = ⟨c'.d, c0.fl⟩) ∧
      ρ2.length = ρ.length ∧ (∀ (k : Nat) (c : Cel), ρ[k]? = some (some c) → ∃ c2, ρ2[k]? = some (some c2) ∧ c2.fl = c.fl) := by
    unfold putB at p
    split at p
    · cases p
      exact ⟨fun k c h => .inl ⟨h, fun j z => nomatch z⟩, rfl, fun k c h => ⟨c, h, rfl⟩⟩
    · rename_i j
      split at p
      · rename_i i hi
        split at p
        · rename_i c0 c' e1 e2
          cases p
          have e1 := slot_some e1
          have e2 := slot_some e2
          refine ⟨fun k c h => ?_, by rw [List.length_set], fun k c h => ?_⟩
          · rcases set_get h with ⟨rfl, ec⟩ | ⟨ne, h⟩
            · cases ec
              exact .inr ⟨j, c0, c', rfl, hi, e1, e2, rfl⟩
            · refine .inl ⟨h, fun j' z w => ?_⟩
              cases z
              rw [hi] at w
              cases w
              exact ne rfl
          · by_cases hk : i = k
            · subst hk
              rw [e1] at h
              cases h
              exact ⟨_, set_at (lt_of e1), rfl⟩
            · exact ⟨c, by rw [set_other hk]; exact h, rfl⟩
        · cases p
      · cases p
  obtain ⟨k1, k2, k3⟩ := key
  -- an owned slot that is not lent keeps its object
  have keep : ∀ (k : Nat) (c : Cel) (a : Addr), ρ[k]? = some (some c) → c.fl ≠ .sh → σ[k]? = some (some (.ref a)) → (∀ j, io = some j → hs[j]? ≠ some (.bw k)) → ¬ OwnA ρ0 (vs.map some) a := fun k c a hk hf hs' hn ho => by
    obtain ⟨j, c0, h1, h2, h3⟩ := ho
    obtain ⟨q0, i, d, fl, q1, q2, q3, _⟩ := args_own e h1 h2
    obtain ⟨v, hv, ok⟩ := y.get q1
    rw [List.getElem?_map, hv] at h3
    cases h3
    have := S.dj i k _ c a q2 hk q3 hf ok hs'
    subst this
    exact hn j q0 q1
  have ownBack : ∀ a, OwnA ρ2 σ a → OwnA ρ σ a := fun a ⟨k, c, h1, h2, h3⟩ => by
    rcases k1 k c h1 with ⟨h, _⟩ | ⟨j, c0, c', _, _, h, _, rfl⟩
    · exact ⟨k, c, h, h2, h3⟩
    · exact ⟨k, c0, h, h2, h3⟩
  refine ⟨⟨S'.bh, by rw [k2]; exact S.len, fun k c hk => ?_, fun i j ci cj a hi hj ni nj ei ej => ?_⟩, ⟨x.bb, fun a o h => (x.nw a o h).imp id (newN a), fun a o h n => x.kp a o h fun z => n (sub0 a z), fun a h => .inr (ownBack a h), fun k c hk hf => ?_, fun k c hk hf => ?_⟩, newN, fun a n1 n2 ho => ?_⟩
  · rcases k1 k c hk with ⟨h, hn⟩ | ⟨j, c0, c', hj, q1, h, q2, rfl⟩
    · obtain ⟨v, ev, ok⟩ := S.sl k c h
      refine ⟨v, ev, ok.mono x.bb fun a hv hb ho hf => ?_⟩
      subst hv
      obtain ⟨o, eo⟩ := ho
      obtain ⟨r1, r2, _⟩ := x.keepN eo hb (keep k c a h hf ev hn)
      exact ⟨r2, by rw [r1, eo]⟩
    · obtain ⟨v, ev, ok⟩ := y.get q1
      have ok' : σ[k]? = some (some v) := ok
      refine ⟨v, ok', ?_⟩
      -- the lent cell is lent at the start, so it is behind
      obtain ⟨cs, hcs⟩ := args_has e q1
      by_cases hsh : cs.fl = .sh
      · exfalso
        obtain ⟨_, qq⟩ := args_at e
        obtain ⟨h', w1, w2⟩ := qq j cs hcs
        rw [q1] at w1
        cases w1
        obtain ⟨_, d, fl, _, _, rfl⟩ := argC_bw w2
        cases hsh
      · obtain ⟨_, i, d, fl, r1, r2, r3, rfl⟩ := args_own e hcs hsh
        rw [q1] at r1
        cases r1
        rw [h] at r2
        cases r2
        obtain ⟨_, c2, w1, w2⟩ := x.io j _ hcs rfl
        rw [q2] at w1
        cases w1
        obtain ⟨v', e1, cok⟩ := S'.sl j c' q2
        rw [List.getElem?_map, ev] at e1
        cases e1
        rcases cok with ⟨z, _⟩ | ⟨_, z⟩
        · rw [w2] at z; cases z
        · exact .inr ⟨r3, z⟩
  · have f1 : ∃ c1, ρ[i]? = some (some c1) ∧ c1.fl ≠ .sh := by
      rcases k1 i ci hi with ⟨h, _⟩ | ⟨_, c0, _, _, _, h, _, rfl⟩
      · exact ⟨ci, h, ni⟩
      · exact ⟨c0, h, ni⟩
    have f2 : ∃ c1, ρ[j]? = some (some c1) ∧ c1.fl ≠ .sh := by
      rcases k1 j cj hj with ⟨h, _⟩ | ⟨_, c0, _, _, _, h, _, rfl⟩
      · exact ⟨cj, h, nj⟩
      · exact ⟨c0, h, nj⟩
    obtain ⟨c1, a1, a2⟩ := f1
    obtain ⟨c2, b1, b2⟩ := f2
    exact S.dj i j c1 c2 a a1 b1 a2 b2 ei ej
  · obtain ⟨c2, h1, h2⟩ := k3 k c hk
    exact ⟨rfl, c2, h1, by rw [h2, hf]⟩
  · rcases k1 k c hk with ⟨h, _⟩ | ⟨_, c0, _, _, _, h, _, rfl⟩
    · exact ⟨c, h, hf⟩
    · exact ⟨c0, h, hf⟩
  · obtain ⟨k, c, h1, h2, h3⟩ := ho
    rcases k1 k c h1 with ⟨h, hn⟩ | ⟨j, c0, c', hj, q1, h, q2, rfl⟩
    · have n0 := keep k c a h h2 h3 hn
      have := S.ownH ⟨k, c, h, h2, h3⟩
      obtain ⟨_, o, eo⟩ := this
      rcases n2 with z | z
      · rw [eo] at z; cases z
      · exact n0 z
    · obtain ⟨v, ev, ok⟩ := y.get q1
      have ok' : σ[k]? = some (some v) := ok
      rw [h3] at ok'
      cases ok'
      obtain ⟨cs, hcs⟩ := args_has e q1
      by_cases hsh : cs.fl = .sh
      · obtain ⟨_, qq⟩ := args_at e
        obtain ⟨h', w1, w2⟩ := qq j cs hcs
        rw [q1] at w1
        cases w1
        obtain ⟨_, d, fl, _, _, rfl⟩ := argC_bw w2
        cases hsh
      · obtain ⟨_, i, d, fl, r1, r2, r3, rfl⟩ := args_own e hcs hsh
        obtain ⟨_, c2, w1, w2⟩ := x.io j _ hcs rfl
        rw [q2] at w1
        cases w1
        exact n1 ⟨j, c', q2, by rw [w2]; simp, by rw [List.getElem?_map, ev]; rfl⟩
end
section
variable {X : Cx} {C : Ct} {e : Expr} {es : List Expr} {pos p : Pos} {x : Str} {k n : Nat} {f : Addr} {fd : FuncData} {ps : List Str} {io : Option Nat} {F : FF} {t : TA} {g : AF}
theorem lk_call (l : LkA C t g) : LkE C (tCallS (spF C.K C.cv n F) (WE C.W) t) (eCall n io F g) := fun ρ σ B H Q S gd => by
  refine l.bind S gd fun hs ρ1 vs B1 H1 S1 x1 y1 g1 => ?_
  split at g1
  · exact g1.elim
  · rename_i ρ0 ea
    split at g1
    · exact g1.elim
    · rename_i hl
      have hl : ρ0.length = n := Classical.not_not.mp hl
      refine ⟨ρ0, B1, hl, args_sim S1 y1 ea, ?_⟩
      cases ef : F ρ0 with
      | stuck => rw [ef] at g1; exact g1
      | exc c outs =>
        rw [ef] at g1
        dsimp only at g1
        split at g1
        · exact g1.elim
        · rename_i ρ2 ep
          intro cls dct B2 H2 S2 x2 ok
          obtain ⟨S3, x3, _, _⟩ := back_sim S1 y1 ea S2 x2 ep
          exact g1 cls dct B2 H2 S3 x3 ok
      | ok h outs =>
        rw [ef] at g1
        dsimp only at g1
        intro v B2 H2 S2 x2 y2
        cases ep : putB ρ1 io hs outs with
        | none => rw [ep] at g1; cases h <;> exact g1.elim
        | some ρ2 =>
          rw [ep] at g1
          obtain ⟨S3, x3, n1, n2⟩ := back_sim S1 y1 ea S2 x2 ep
          cases h with
          | sh d => exact g1 v B2 H2 S3 x3 y2
          | fr d =>
            obtain ⟨a, r1, r2, r3, r4, r5⟩ := y2
            exact g1 v B2 H2 S3 x3 ⟨a, r1, r2, r3, n2 a r4 r5, n1 a r5⟩
          | bw i => exact g1.elim
theorem se_call (FO : FnOk X.prog X.w X.K X.mg X.base (L2.CX X.prog X.w) k f fd ps (spF C.K C.cv n F)) (hr : Room k X.A) (hm : X.mg x = some (.ref f)) (hkp : PySem.W.keepIn X.K (.ref f) = true) (hb : Binds X.K fd ps []) (tk : Takes X C.W)
    (l : SA X C (e :: es) t g) (io : Option Nat) (hg : Gl X x := by rfl) (hdb : (x == ("__debug__" : Str)) = false := by decide) (he : starEach (e :: es) X.env = (false, eval e X.env) :: starEach es X.env := by rfl)
    (hpl : (backTo pos (starEach es X.env)).any (·.1) = false := by rfl) : SE X C (.Call (.Name x p) (e :: es) [] pos) (tCallS (spF C.K C.cv n F) (WE C.W) t) (eCall n io F g) :=
  ⟨pe_callS FO hr hg hm hkp hb (fun σ => passAt tk σ) l.pa hdb he hpl, lk_call l.lk⟩
end
end GS
namespace GS
open PySem L2
def GoodS (C : Ct) (ρ : Rho) (σ : St) (B H : Hp) (D : Ends) : RS → Prop
  | .stuck => False
  | .nx ρ' => ∀ σ' B' H', Sim C.K ρ' σ' B' H' → Ext ρ σ B H ρ' σ' B' H' → D.nx σ' H'
  | .bk ρ' => ∀ σ' B' H', Sim C.K ρ' σ' B' H' → Ext ρ σ B H ρ' σ' B' H' → D.bk σ' H'
  | .ct ρ' => ∀ σ' B' H', Sim C.K ρ' σ' B' H' → Ext ρ σ B H ρ' σ' B' H' → D.ct σ' H'
  | .rt h ρ' => ∀ v σ' B' H', Sim C.K ρ' σ' B' H' → Ext ρ σ B H ρ' σ' B' H' → HdOk C.K (New ρ σ H) ρ' σ' B' H' v h → D.rt v H'
  | .exc x ρ' => ∀ cls dct σ' B' H', Sim C.K ρ' σ' B' H' → Ext ρ σ B H ρ' σ' B' H' → XcOk C B' x cls dct → C.W cls dct σ' H'
def LkS (C : Ct) (t : TS) (g : SF) : Prop := ∀ ρ σ B H D, Sim C.K ρ σ B H → GoodS C ρ σ B H D (g ρ) → t D σ H
structure SS (X : Cx) (C : Ct) (st : Stmt) (t : TS) (g : SF) : Prop where
  ps : PS X st t
  lk : LkS C t g
structure SSs (X : Cx) (C : Ct) (st : List Stmt) (t : TS) (g : SF) : Prop where
  ps : PSs X st t
  lk : LkS C t g
section
variable {X : Cx} {C : Ct} {ρ ρ1 : Rho} {σ σ1 : St} {B H B1 H1 : Hp} {Ed : Ends} {t u : TS} {f g : SF} {st : Stmt} {rest : List Stmt} {pos : Pos}
theorem GoodS.ext (e : Ext ρ σ B H ρ1 σ1 B1 H1) : ∀ {r : RS}, GoodS C ρ σ B H Ed r → GoodS C ρ1 σ1 B1 H1 Ed r
  | .stuck, h => h
  | .nx _, h => fun σ' B' H' s x => h σ' B' H' s (e.trans x)
  | .bk _, h => fun σ' B' H' s x => h σ' B' H' s (e.trans x)
  | .ct _, h => fun σ' B' H' s x => h σ' B' H' s (e.trans x)
  | .rt _ _, h => fun v σ' B' H' s x y => h v σ' B' H' s (e.trans x) (y.mono fun _ z => e.back z)
  | .exc _ _, h => fun c d σ' B' H' s x => h c d σ' B' H' s (e.trans x)
def sNil : SF := fun ρ => .nx ρ
def bindS (r : RS) (k : Rho → RS) : RS := match r with
  | .nx ρ => k ρ
  | r => r
def sSeq (f g : SF) : SF := fun ρ => bindS (f ρ) g
theorem lk_seq (lf : LkS C t f) (lg : LkS C u g) : LkS C (tSeq t u) (sSeq f g) := fun ρ σ B H D S gd => by
  refine lf ρ σ B H _ S ?_
  unfold sSeq bindS at gd
  cases e : f ρ with
  | nx ρ1 =>
    rw [e] at gd
    exact fun σ' B' H' s x => lg ρ1 σ' B' H' D s (GoodS.ext x gd)
  | stuck => rw [e] at gd; exact gd
  | bk _ => rw [e] at gd; exact gd
  | ct _ => rw [e] at gd; exact gd
  | rt _ _ => rw [e] at gd; exact gd
  | exc _ _ => rw [e] at gd; exact gd
theorem sss_nil : SSs X C [] tNext sNil := ⟨pss_nil, fun ρ σ B H D S g => g σ B H S Ext.refl⟩
theorem sss_cons (a : SS X C st t f) (b : SSs X C rest u g) : SSs X C (st :: rest) (tSeq t u) (sSeq f g) := ⟨pss_cons a.ps b.ps, lk_seq a.lk b.lk⟩
theorem sss_one (a : SS X C st t f) : SSs X C [st] t f := ⟨pss_one a.ps, a.lk⟩
def bindES (r : RE) (k : Hd → Rho → RS) : RS := match r with
  | .stuck => .stuck
  | .ok h ρ => k h ρ
  | .exc x ρ => .exc x ρ
theorem LkE.bindS {te : TE} {fe : EF} (l : LkE C te fe) (S : Sim C.K ρ σ B H) {k : Hd → Rho → RS} {Q' : VK} (g : GoodS C ρ σ B H Ed (bindES (fe ρ) k))
    (h : ∀ hd ρ1 v B1 H1, Sim C.K ρ1 σ B1 H1 → Ext ρ σ B H ρ1 σ B1 H1 → HdOk C.K (New ρ σ H) ρ1 σ B1 H1 v hd → GoodS C ρ σ B H Ed (k hd ρ1) → Q' v H1) : te σ H Q' := by
  refine l ρ σ B H Q' S ?_
  cases e : fe ρ with
  | stuck => rw [e] at g; exact g
  | ok hd ρ1 => rw [e] at g; exact fun v B1 H1 s x y => h hd ρ1 v B1 H1 s x y g
  | exc x ρ1 => rw [e] at g; exact fun c d B' H' s x => g c d σ B' H' s x
variable {e : Expr} {te : TE} {fe : EF}
def sDrop (fe : EF) : SF := fun ρ => bindES (fe ρ) fun _ ρ1 => .nx ρ1
theorem ss_expr (l : SE X C e te fe) (hs : swapsWith e none pos.line X.env = pure false := by rfl) : SS X C (.Expr e pos) (tDrop te) (sDrop fe) := ⟨ps_expr l.pe hs, fun ρ σ B H D S g =>
  l.lk.bindS S g fun hd ρ1 v B1 H1 S1 x1 y1 g1 => g1 σ B1 H1 S1 x1⟩
def sRet (fe : EF) : SF := fun ρ => bindES (fe ρ) fun h ρ1 => match h with
  | .bw i => match capH ρ1 (.bw i) with
    | some d => .rt (.sh d) ρ1
    | none => .stuck
  | h => .rt h ρ1
theorem cap_bw (S : Sim C.K ρ σ B H) {i : Nat} {d : D} {v : V} (y : σ[i]? = some (some v)) (e : capH ρ (.bw i) = some d) : Rp C.K B v d := by
  replace e : (match slot ρ i with | some ⟨d, .sh⟩ => some d | _ => none) = some d := e
  split at e
  · rename_i d' e'
    cases e
    obtain ⟨v', q1, q2⟩ := S.sl i _ (slot_some e')
    rw [y] at q1
    cases q1
    rcases q2 with ⟨_, q2⟩ | ⟨q, _⟩
    · exact q2
    · exact absurd rfl q
  · cases e
theorem ss_ret (l : SE X C e te fe) : SS X C (.Return (some e) pos) (tRet te) (sRet fe) := ⟨ps_ret l.pe, fun ρ σ B H D S g => by
  refine l.lk.bindS S g fun hd ρ1 v B1 H1 S1 x1 y1 g1 => ?_
  cases hd with
  | sh d => exact g1 v σ B1 H1 S1 x1 y1
  | fr d => exact g1 v σ B1 H1 S1 x1 y1
  | bw i =>
    dsimp only at g1
    split at g1
    · rename_i d ed
      exact g1 v σ B1 H1 S1 x1 (cap_bw S1 y1 ed)
    · exact g1.elim⟩
def bindBS (r : RE) (k : Bool → Rho → RS) : RS := match r with
  | .ok (.sh (.bool b)) ρ => k b ρ
  | .exc x ρ => .exc x ρ
  | _ => .stuck
theorem LkT.bindS {tt : TT} {ft : EF} (l : LkT C tt ft) (S : Sim C.K ρ σ B H) {k : Bool → Rho → RS} {Q' : Bool → Hp → Prop} (g : GoodS C ρ σ B H Ed (bindBS (ft ρ) k))
    (h : ∀ b ρ1 B1 H1, Sim C.K ρ1 σ B1 H1 → Ext ρ σ B H ρ1 σ B1 H1 → GoodS C ρ1 σ B1 H1 Ed (k b ρ1) → Q' b H1) : tt σ H Q' := by
  refine l ρ σ B H Q' S ?_
  cases e : ft ρ with
  | stuck => rw [e] at g; exact g
  | exc x ρ1 => rw [e] at g; exact fun c d B' H' s x => g c d σ B' H' s x
  | ok hd ρ1 =>
    rw [e] at g
    cases hd with
    | sh d =>
      cases d with
      | bool b => exact fun B1 H1 s x => h b ρ1 B1 H1 s x (GoodS.ext x g)
      | _ => exact g
    | _ => exact g
def sIf (ft : EF) (f g : SF) : SF := fun ρ => bindBS (ft ρ) fun b ρ1 => if b then f ρ1 else g ρ1
theorem ss_if {c : Expr} {a b : List Stmt} {tt : TT} {ft : EF} (l : ST X C c tt ft) (la : SSs X C a t f) (lb : SSs X C b u g) : SS X C (.If c a b pos) (tIfS tt t u) (sIf ft f g) := ⟨ps_if l.pt la.ps lb.ps, fun ρ σ B H D S gd =>
  l.lk.bindS S gd fun b ρ1 B1 H1 S1 x1 g1 => by
    cases b with
    | true => exact la.lk ρ1 σ B1 H1 D S1 g1
    | false => exact lb.lk ρ1 σ B1 H1 D S1 g1⟩
def ioAt (ρ : Rho) (i : Nat) : Bool := match slot ρ i with
  | some ⟨_, .io⟩ => true
  | _ => false
theorem not_io {i : Nat} (h : ioAt ρ i = false) {c : Cel} (e : ρ[i]? = some (some c)) : c.fl ≠ .io := fun z => by
  unfold ioAt slot at h
  rw [e] at h
  obtain ⟨d, fl⟩ := c
  cases z
  cases h
/-- what may be put into slot i of the state behind -/
theorem store_ok {K : KW} (S : Sim K ρ1 σ B1 H1) (x : Ext ρ σ B H ρ1 σ B1 H1) {i : Nat} {c : Cel} {v : V} (hi : i < ρ1.length) (hn : ioAt ρ1 i = false) (hf : c.fl ≠ .io) (ok : COk K B1 H1 c v)
    (hnew : c.fl ≠ .sh → ∀ a, v = .ref a → New ρ σ H a ∧ ∀ j cj, i ≠ j → ρ1[j]? = some (some cj) → cj.fl ≠ .sh → σ[j]? ≠ some (some (.ref a))) :
    Sim K (ρ1.set i (some c)) (σ.set i (some v)) B1 H1 ∧ Ext ρ σ B H (ρ1.set i (some c)) (σ.set i (some v)) B1 H1 := by
  have hl := S.len
  have ats : (σ.set i (some v))[i]? = some (some v) := by rw [List.getElem?_set, if_pos rfl, if_pos (by omega)]
  have oth : ∀ j, i ≠ j → (σ.set i (some v))[j]? = σ[j]? := fun j h => by rw [List.getElem?_set, if_neg h]
  refine ⟨⟨S.bh, by rw [List.length_set, List.length_set]; exact hl, fun j cj hj => ?_, fun j k cj ck a hj hk nj nk ej ek => ?_⟩, ⟨x.bb, x.nw, x.kp, fun a ha => ?_, fun j cj hj hjf => ?_, fun j cj hj hjf => ?_⟩⟩
  · rcases set_get hj with ⟨rfl, ec⟩ | ⟨ne, hj⟩
    · cases ec; exact ⟨v, ats, ok⟩
    · rw [oth j ne]; exact S.sl j cj hj
  · rcases set_get hj with ⟨rfl, ec⟩ | ⟨ne, hj⟩
    · rcases set_get hk with ⟨rfl, _⟩ | ⟨ne', hk⟩
      · rfl
      · cases ec
        rw [ats] at ej
        cases ej
        rw [oth k ne'] at ek
        exact absurd ek ((hnew nj a rfl).2 k ck ne' hk nk)
    · rcases set_get hk with ⟨rfl, ec⟩ | ⟨ne', hk⟩
      · cases ec
        rw [ats] at ek
        cases ek
        rw [oth j ne] at ej
        exact absurd ej ((hnew nk a rfl).2 j cj ne hj nj)
      · rw [oth j ne] at ej
        rw [oth k ne'] at ek
        exact S.dj j k cj ck a hj hk nj nk ej ek
  · obtain ⟨j, cj, hj, nj, ej⟩ := ha
    rcases set_get hj with ⟨rfl, ec⟩ | ⟨ne, hj⟩
    · cases ec
      rw [ats] at ej
      cases ej
      exact (hnew nj a rfl).1
    · rw [oth j ne] at ej
      exact x.sub a ⟨j, cj, hj, nj, ej⟩
  · obtain ⟨e1, c1, q1, q2⟩ := x.io j cj hj hjf
    have ne : i ≠ j := fun z => by subst z; exact not_io hn q1 q2
    exact ⟨(oth j ne).trans e1, c1, (set_other ne).trans q1, q2⟩
  · rcases set_get hj with ⟨rfl, ec⟩ | ⟨ne, hj⟩
    · cases ec; exact absurd hjf hf
    · exact x.oi j cj hj hjf
def setR (ρ : Rho) (i : Nat) (c : Cel) : RS := if i < ρ.length && !ioAt ρ i then .nx (ρ.set i (some c)) else .stuck
def setHd (ρ1 : Rho) (i : Nat) : Hd → RS
  | .sh d => setR ρ1 i ⟨d, .sh⟩
  | .fr d => setR ρ1 i ⟨d, .ow⟩
  | .bw j => match capH ρ1 (.bw j) with
    | some d => setR ρ1 i ⟨d, .sh⟩
    | none => .stuck
def sSet (i : Nat) (fe : EF) : SF := fun ρ => bindES (fe ρ) fun h ρ1 => setHd ρ1 i h
theorem setR_ok {i : Nat} {c : Cel} (g : GoodS C ρ σ B H Ed (setR ρ1 i c)) : i < ρ1.length ∧ ioAt ρ1 i = false ∧ ∀ σ' B' H', Sim C.K (ρ1.set i (some c)) σ' B' H' → Ext ρ σ B H (ρ1.set i (some c)) σ' B' H' → Ed.nx σ' H' := by
  unfold setR at g
  split at g
  · rename_i h
    simp only [Bool.and_eq_true, decide_eq_true_eq, Bool.not_eq_true'] at h
    exact ⟨h.1, h.2, g⟩
  · exact g.elim
/-- storing what an expression gave -/
theorem put_hd (S1 : Sim C.K ρ1 σ B1 H1) (x1 : Ext ρ σ B H ρ1 σ B1 H1) {hd : Hd} {v : V} (y1 : HdOk C.K (New ρ σ H) ρ1 σ B1 H1 v hd) {i : Nat} (g : GoodS C ρ σ B H Ed (setHd ρ1 i hd)) : Ed.nx (σ.set i (some v)) H1 := by
  cases hd with
  | sh d =>
    obtain ⟨h1, h2, h3⟩ := setR_ok g
    obtain ⟨S2, x2⟩ := store_ok S1 x1 (c := ⟨d, .sh⟩) h1 h2 (by simp) (.inl ⟨rfl, y1⟩) fun z => absurd rfl z
    exact h3 _ _ _ S2 x2
  | fr d =>
    obtain ⟨h1, h2, h3⟩ := setR_ok g
    obtain ⟨a, rfl, q1, q2, q3, q4⟩ := y1
    obtain ⟨S2, x2⟩ := store_ok S1 x1 (c := ⟨d, .ow⟩) h1 h2 (by simp) (.inr ⟨by simp, a, rfl, q1, q2⟩) fun _ b e => by
      cases e
      exact ⟨q4, fun j cj _ hj nj ej => q3 ⟨j, cj, hj, nj, ej⟩⟩
    exact h3 _ _ _ S2 x2
  | bw j =>
    unfold setHd at g
    dsimp only at g
    split at g
    · rename_i d ed
      obtain ⟨h1, h2, h3⟩ := setR_ok g
      obtain ⟨S2, x2⟩ := store_ok S1 x1 (c := ⟨d, .sh⟩) h1 h2 (by simp) (.inl ⟨rfl, cap_bw S1 y1 ed⟩) fun z => absurd rfl z
      exact h3 _ _ _ S2 x2
    · exact g.elim
theorem lk_set {i : Nat} (l : LkE C te fe) : LkS C (tAsg te (gName i)) (sSet i fe) := fun ρ σ B H D S g =>
  l.bindS S g fun hd ρ1 v B1 H1 S1 x1 y1 g1 => put_hd S1 x1 y1 g1
theorem ss_set {i : Nat} {x : Str} {pos' : Pos} (hN : X.N.Nodup) (l : SE X C e te fe) (hi : X.N[i]? = some x := by rfl) (hx : Loc X.env.scope x := by first | exact Or.inl rfl | exact Or.inr rfl) (hs : swapsWith e (some (.Name x pos')) pos.line X.env = pure false := by rfl)
    (hf : X.fn x = true ∨ X.env.scope.names.lookup x = some .local := by first | exact .inl rfl | exact .inr rfl | assumption) : SS X C (.Assign [.Name x pos'] e pos) (tAsg te (gName i)) (sSet i fe) := ⟨ps_set hN hi hx l.pe hs hf, lk_set l.lk⟩
def LkG (C : Ct) (g : TG) (f : D → Rho → Option Rho) : Prop := ∀ ρ σ B H v d ρ' Q, Sim C.K ρ σ B H → Rp C.K B v d → f d ρ = some ρ' → (∀ σ' B' H', Sim C.K ρ' σ' B' H' → Ext ρ σ B H ρ' σ' B' H' → Q σ' H') → g v σ H Q
def LkGs (C : Ct) (g : TGs) (f : List D → Rho → Option Rho) : Prop := ∀ ρ σ B H vs ds ρ' Q, Sim C.K ρ σ B H → RpL C.K B vs ds → f ds ρ = some ρ' → (∀ σ' B' H', Sim C.K ρ' σ' B' H' → Ext ρ σ B H ρ' σ' B' H' → Q σ' H') → g vs σ H Q
structure SG (X : Cx) (C : Ct) (tg : Expr) (t : TG) (f : D → Rho → Option Rho) : Prop where
  pg : PG X tg t
  lk : LkG C t f
structure SGs (X : Cx) (C : Ct) (tg : List Expr) (t : TGs) (f : List D → Rho → Option Rho) : Prop where
  pg : PGs X tg t
  lk : LkGs C t f
def gN (i : Nat) : D → Rho → Option Rho := fun d ρ => if i < ρ.length && !ioAt ρ i then some (ρ.set i (some ⟨d, .sh⟩)) else none
theorem lk_gN {i : Nat} : LkG C (gName i) (gN i) := fun ρ σ B H v d ρ' Q S r e k => by
  unfold gN at e
  obtain ⟨h, rfl⟩ := if_some e
  simp only [Bool.and_eq_true, decide_eq_true_eq, Bool.not_eq_true'] at h
  obtain ⟨S2, x2⟩ := store_ok S Ext.refl (c := ⟨d, .sh⟩) h.1 h.2 (by simp) (.inl ⟨rfl, r⟩) fun z => absurd rfl z
  exact k _ _ _ S2 x2
def gsN : List D → Rho → Option Rho := fun ds ρ => match ds with
  | [] => some ρ
  | _ => none
def gsC (f : D → Rho → Option Rho) (g : List D → Rho → Option Rho) : List D → Rho → Option Rho := fun ds ρ => match ds with
  | d :: ds => (f d ρ).bind (g ds)
  | [] => none
def gT (n : Nat) (f : List D → Rho → Option Rho) : D → Rho → Option Rho := fun d ρ => match d with
  | .tuple ds => if ds.length = n then f ds ρ else none
  | _ => none
theorem sg_name {i : Nat} {x : Str} (hN : X.N.Nodup) (hi : X.N[i]? = some x := by rfl) (hx : Loc X.env.scope x := by first | exact Or.inl rfl | exact Or.inr rfl)
    (hf : X.fn x = true ∨ X.env.scope.names.lookup x = some .local := by first | exact .inl rfl | exact .inr rfl | assumption) : SG X C (.Name x pos) (gName i) (gN i) := ⟨pg_name hN hi hx hf, lk_gN⟩
theorem sgs_nil : SGs X C [] gNil gsN := ⟨pgs_nil, fun ρ σ B H vs ds ρ' Q S r e k => by
  cases r with
  | nil => cases e; exact ⟨rfl, k _ _ _ S Ext.refl⟩
  | cons _ _ => cases e⟩
theorem lk_gC {tg : TG} {tgs : TGs} {f : D → Rho → Option Rho} {g : List D → Rho → Option Rho} (a : LkG C tg f) (b : LkGs C tgs g) : LkGs C (gCons tg tgs) (gsC f g) := fun ρ σ B H vs ds ρ' Q S r e k => by
  cases r with
  | nil => cases e
  | cons h t =>
    obtain ⟨ρ1, e1, e2⟩ := Option.bind_eq_some_iff.mp (show (f _ ρ).bind (g _) = some ρ' from e)
    refine ⟨_, _, rfl, a ρ σ B H _ _ ρ1 _ S h e1 fun σ1 B1 H1 S1 x1 => ?_⟩
    exact b ρ1 σ1 B1 H1 _ _ ρ' Q S1 (t.mono x1.bb) e2 fun σ2 B2 H2 S2 x2 => k _ _ _ S2 (x1.trans x2)
theorem sgs_cons {a : Expr} {as : List Expr} {tg : TG} {tgs : TGs} {f : D → Rho → Option Rho} {g : List D → Rho → Option Rho} (h : SG X C a tg f) (t : SGs X C as tgs g) (hs : (assignEach (a :: as) X.env).map (·.2) = assign a X.env :: (assignEach as X.env).map (·.2) := by rfl) : SGs X C (a :: as) (gCons tg tgs) (gsC f g) := ⟨pgs_cons h.pg t.pg hs, lk_gC h.lk t.lk⟩
theorem lk_gT {tgs : TGs} {n : Nat} {g : List D → Rho → Option Rho} (b : LkGs C tgs g) : LkG C (gTup C.K n tgs) (gT n g) := fun ρ σ B H v d ρ' Q S r e k => by
  cases d with
  | tuple ds =>
    replace e : (if ds.length = n then g ds ρ else none) = some ρ' := e
    split at e
    · obtain ⟨a, vs, rfl, ha, ra⟩ := r.tupE
      exact ⟨a, vs, rfl, same_t S.bh ha, by rw [ra.length]; assumption, b ρ σ B H vs ds ρ' Q S ra e k⟩
    · cases e
  | _ => cases e
theorem sg_tup {as : List Expr} {tgs : TGs} {n k : Nat} {g : List D → Rho → Option Rho} (hc : X.calm = true) (t : SGs X C as tgs g) (hk : X.K = C.K := by rfl) (hn : (assignEach as X.env).length = n := by rfl) (hst : (assignEach as X.env).findIdx? (·.1) = none := by rfl) : SG X C (.Tuple as k pos) (gTup C.K n tgs) (gT n g) := ⟨by rw [← hk]; exact pg_tup hc t.pg hn hst, lk_gT t.lk⟩
end
end GS
namespace GS
open PySem L2
/-- a list, a tuple, a text: whichever comes -/
def iSeq (K : PySem.W.Frag) (w : World) (te : TE) : TI := fun σ H R => te σ H fun x H1 =>
  (∃ a, x = .ref a ∧ (∃ xs, SqL K H1 a xs) ∧ R (Itl K a) H1) ∨ (∃ a, x = .ref a ∧ (∃ xs, SqT K H1 a xs) ∧ R (Itt K a) H1) ∨ (∃ z, x = .str z ∧ R (Its z) H1) ∨ ∃ a ep xs vs, x = .ref a ∧ H1 a = some (dX w a ep xs) ∧ Vals vs (xs.map (·.2.1)) ∧ R (Itx w a ep xs vs) H1
theorem pi_seq {X : Cx} {tg e : Expr} {te : TE} (he : PE X e te) : PI X tg e (iSeq X.K X.w te) := by
  refine ⟨fun pins s σ H R I h => ?_⟩
  refine thn (he.run pins s σ H _ I h) fun v s1 ⟨x, H1, I1, r1, q1⟩ => ?_
  rcases q1 with ⟨a, e, ⟨xs, hq⟩, q⟩ | ⟨a, e, ⟨xs, hq⟩, q⟩ | ⟨x, ex, q⟩ | ⟨d, ep, xs, vs, ex, hd, rv, q⟩
  · subst e
    cases r1
    obtain ⟨its, rv, p, hz⟩ := I1.list hq
    refine wpAny_pyIter_list p.isList ?_
    exact pi_one (tk := s1.toks) I1 _ (turn_list a _) ⟨_, Heap.get?_push_size _ rfl, rfl, rfl⟩ q
  · subst e
    cases r1
    obtain ⟨its, rv, p, hz⟩ := I1.tuple hq
    refine wpAny_pyIter_tuple (show s1.heap.IsTuple a its.toArray from p) ?_
    exact pi_one (tk := s1.toks) I1 _ (turn_tuple a _) ⟨_, Heap.get?_push_size _ rfl, rfl, rfl⟩ q
  · subst ex
    obtain ⟨t, rfl⟩ := r1
    cases ha : x.cps.all (· < 128)
    · exact wpAny_pyIter_wide ha (pi_one (tk := s1.toks) I1 _ (turn_str _ x t "str_iterator" (.inr rfl)) ⟨_, Heap.get?_push_size _ rfl, rfl, rfl⟩ q)
    · exact wpAny_pyIter_ascii ha (pi_one (tk := s1.toks) I1 _ (turn_str _ x t "str_ascii_iterator" (.inl rfl)) ⟨_, Heap.get?_push_size _ rfl, rfl, rfl⟩ q)
  · subst ex
    obtain rfl : v = Value.ref d := r1
    obtain ⟨es, hm, he, _, hs⟩ := dX_raw I1.hok hd
    have ls : es.size = vs.length := by rw [← Array.length_toList, he, List.length_map, rv.length, List.length_map]
    refine wpAny_pyIter_dict_raw hs hm (pi_one (tk := s1.toks) I1 _ (turn_dX _ rv) ⟨_, Heap.get?_push_size _ rfl, rfl, ?_⟩ q)
    rw [ls] <;> rfl
/-- what the i-th turn gives -/
def YOk (K : KW) (B : Hp) (ds : List D) : Nat → Hp → V → Hp → Prop := fun i H x H' => ∃ d, ds[i]? = some d ∧
  ((H' = H ∧ Rp K B x d) ∨ ∃ T o vs es, x = .ref T ∧ H T = none ∧ o.dict = none ∧ H' = upd H T (.frz o (.tup vs)) ∧ d = .tuple es ∧ RpL K B vs es)
def ItOk (K : KW) (B : Hp) (ds : List D) (J : It) : Prop := Walk J ds.length (fun H => Same B H) (YOk K B ds)
inductive RI where | stuck | ok (ds : List D) (ρ : Rho) | exc (x : Xc) (ρ : Rho)
abbrev IF := Rho → RI
def GoodI (C : Ct) (ρ : Rho) (σ : St) (B H : Hp) (R : It → Hp → Prop) : RI → Prop
  | .stuck => False
  | .ok ds ρ' => ∀ J B' H', Sim C.K ρ' σ B' H' → Ext ρ σ B H ρ' σ B' H' → ItOk C.K B' ds J → R J H'
  | .exc x ρ' => ∀ cls dct B' H', Sim C.K ρ' σ B' H' → Ext ρ σ B H ρ' σ B' H' → XcOk C B' x cls dct → C.W cls dct σ H'
def LkI (C : Ct) (w : TI) (f : IF) : Prop := ∀ ρ σ B H R, Sim C.K ρ σ B H → GoodI C ρ σ B H R (f ρ) → w σ H R
structure SI (X : Cx) (C : Ct) (tg it : Expr) (w : TI) (f : IF) : Prop where
  pi : PI X tg it w
  lk : LkI C w f
def bindEI (r : RE) (k : Hd → Rho → RI) : RI := match r with
  | .stuck => .stuck
  | .ok h ρ => k h ρ
  | .exc x ρ => .exc x ρ
def items : D → Option (List D)
  | .list ds => some ds
  | .tuple ds => some ds
  | .str z => some (z.cps.toList.map fun c => .str ⟨#[c]⟩)
  | .dict ps => if xnB ps then none else some (ps.map (·.1))
  | _ => none
/-- for over a list, a tuple or a text that is shared -/
def iSq (fe : EF) : IF := fun ρ => bindEI (eCap fe ρ) fun h ρ1 => match h with
  | .sh d => match items d with
    | some ds => .ok ds ρ1
    | none => .stuck
  | _ => .stuck
section
variable {X : Cx} {C : Ct} {ρ ρ1 : Rho} {σ σ1 : St} {B H B1 H1 : Hp} {e tg : Expr} {te : TE} {fe : EF} {pos p : Pos}
theorem LkE.bindI (l : LkE C te fe) (S : Sim C.K ρ σ B H) {k : Hd → Rho → RI} {R : It → Hp → Prop} {Q' : VK} (g : GoodI C ρ σ B H R (bindEI (fe ρ) k))
    (h : ∀ hd ρ1 v B1 H1, Sim C.K ρ1 σ B1 H1 → Ext ρ σ B H ρ1 σ B1 H1 → HdOk C.K (New ρ σ H) ρ1 σ B1 H1 v hd → GoodI C ρ σ B H R (k hd ρ1) → Q' v H1) : te σ H Q' := by
  refine l ρ σ B H Q' S ?_
  cases e : fe ρ with
  | stuck => rw [e] at g; exact g
  | ok hd ρ1 => rw [e] at g; exact fun v B1 H1 s x y => h hd ρ1 v B1 H1 s x y g
  | exc x ρ1 => rw [e] at g; exact g
theorem it_list {K : KW} {a : Addr} {vs : List V} {ds : List D} (h : SqL K B a vs) (r : RpL K B vs ds) : ItOk K B ds (Itl K a) := by
  unfold ItOk
  rw [← r.length]
  refine (walk_list (K := K) (a := a) (xs := vs)).mono (fun H s => same_l s h) fun i H x H' hi s y => ?_
  obtain ⟨rfl, hv⟩ := y
  obtain ⟨d, q1, q2⟩ := r.getV hv
  exact ⟨d, q1, .inl ⟨rfl, q2⟩⟩
theorem it_tup {K : KW} {a : Addr} {vs : List V} {ds : List D} (h : SqT K B a vs) (r : RpL K B vs ds) : ItOk K B ds (Itt K a) := by
  unfold ItOk
  rw [← r.length]
  refine (walk_tup (K := K) (a := a) (xs := vs)).mono (fun H s => same_t s h) fun i H x H' hi s y => ?_
  obtain ⟨rfl, hv⟩ := y
  obtain ⟨d, q1, q2⟩ := r.getV hv
  exact ⟨d, q1, .inl ⟨rfl, q2⟩⟩
theorem it_str {K : KW} {z : Str} : ItOk K B (z.cps.toList.map fun c => .str ⟨#[c]⟩) (Its z) := by
  unfold ItOk
  rw [List.length_map, Array.length_toList]
  refine (walk_str (z := z)).mono (fun H _ => trivial) fun i H x H' hi s y => ?_
  obtain ⟨rfl, c, hc, rfl⟩ := y
  refine ⟨.str ⟨#[c]⟩, ?_, .inl ⟨rfl, .str _⟩⟩
  rw [List.getElem?_map, Array.getElem?_toList, hc]
  rfl
theorem rpx_keys {K : KW} {b : Bool} : ∀ {xs : List (NestedKey × Value × Value)} {ps : List (D × D)}, RpX K B b xs ps → ∃ vs, Vals vs (xs.map (·.2.1)) ∧ RpL K B vs (ps.map (·.1))
  | _, _, .nil => ⟨[], .nil, .nil⟩
  | _, _, .cons (kv := kv) _ _ h3 h4 _ _ h7 => by
    obtain ⟨vs, q1, q2⟩ := rpx_keys h7
    exact ⟨kv :: vs, .cons h4 q1, .cons h3 q2⟩
theorem it_dct {K : KW} {a : Addr} {ep : Nat} {xs : List (NestedKey × Value × Value)} {vs : List V} {ds : List D} (h : B a = some (dX K.w a ep xs)) (r : RpL K B vs ds) : ItOk K B ds (Itx K.w a ep xs vs) := by
  unfold ItOk
  rw [← r.length]
  refine walk_dX.mono (fun H s => s _ _ h) fun i H x H' hi s y => ?_
  obtain ⟨rfl, hv⟩ := y
  obtain ⟨d, q1, q2⟩ := r.getV hv
  exact ⟨d, q1, .inl ⟨rfl, q2⟩⟩
theorem lk_sq (l : LkE C te fe) : LkI C (iSeq C.K C.K.w te) (iSq fe) := fun ρ σ B H R S g => by
  refine l.cap.bindI S g fun hd ρ1 v B1 H1 S1 x1 y1 g1 => ?_
  cases hd with
  | sh d =>
    dsimp only at g1
    split at g1
    · rename_i ds ed
      cases d with
      | list es =>
        cases ed
        obtain ⟨a, vs, rfl, ha, ra⟩ := Rp.lstE y1
        exact .inl ⟨a, rfl, ⟨vs, same_l S1.bh ha⟩, g1 _ _ _ S1 x1 (it_list ha ra)⟩
      | tuple es =>
        cases ed
        obtain ⟨a, vs, rfl, ha, ra⟩ := Rp.tupE y1
        exact .inr (.inl ⟨a, rfl, ⟨vs, same_t S1.bh ha⟩, g1 _ _ _ S1 x1 (it_tup ha ra)⟩)
      | str z =>
        cases ed
        cases (show Rp C.K B1 v (.str z) from y1)
        exact .inr (.inr (.inl ⟨z, rfl, g1 _ _ _ S1 x1 it_str⟩))
      | dict ps =>
        obtain ⟨c, rfl⟩ : xnB ps = false ∧ ds = ps.map (·.1) := by
          replace ed : (if xnB ps then none else some (ps.map (·.1))) = some ds := ed
          split at ed
          · cases ed
          · rename_i c
            exact ⟨by simpa using c, (Option.some.inj ed).symm⟩
        cases (show Rp C.K B1 v (.dict ps) from y1) with
        | dct h r =>
          obtain ⟨vs, q1, q2⟩ := rpx_keys r
          exact .inr (.inr (.inr ⟨_, _, _, vs, rfl, S1.bh _ _ h, q1, g1 _ _ _ S1 x1 (it_dct h q2)⟩))
        | exn _ _ _ _ => cases c
      | _ => cases ed
    · exact g1.elim
  | _ => exact g1.elim
theorem si_sq (l : SE X C e te fe) (hk : X.K = C.K := by rfl) (hw : X.w = C.K.w := by rfl) : SI X C tg e (iSeq C.K C.K.w te) (iSq fe) := ⟨by rw [← hk, ← hw]; exact pi_seq l.pe, lk_sq l.lk⟩
def rgD (lo : Int) (n : Nat) : List D := (List.range n).map fun (i : Nat) => PyData.int (lo + (i : Int))
theorem it_range {K : KW} {lo : Int} {n : Nat} : ItOk K B (rgD lo n) (Itr lo n) := by
  unfold ItOk rgD
  rw [List.length_map, List.length_range]
  refine (walk_range (lo := lo) (n := n)).mono (fun H _ => trivial) fun i H x H' hi s y => ?_
  obtain ⟨rfl, rfl⟩ := y
  refine ⟨.int (lo + i), ?_, .inl ⟨rfl, .int _⟩⟩
  rw [List.getElem?_map, List.getElem?_range hi]
  rfl
def okR (i : Int) : Bool := Nat.ble i.natAbs 1000000000
def iR1 (fe : EF) : IF := fun ρ => bindEI (eSet fe ρ) fun h ρ1 => match getH ρ1 h with
  | some (.int j) => if okR j then .ok (rgD 0 j.toNat) ρ1 else .stuck
  | _ => .stuck
theorem e62 : (2 : Int) ^ 62 = 4611686018427387904 := by decide +kernel
theorem okR_ok {i : Int} (h : okR i = true) : -(2 ^ 62) ≤ i ∧ i < 2 ^ 62 := by
  have := Nat.le_of_ble_eq_true h
  rw [e62]
  omega
theorem si_r1 (l : SE X C e te fe) (hm : X.mg "range" = none) (hg : Gl X "range" := by rfl) (hs : starEach [e] X.env = [(false, eval e X.env)] := by rfl) : SI X C tg (.Call (.Name "range" p) [e] [] pos) (iRng1 (tCons te tNil)) (iR1 fe) := ⟨pi_range1 hg hm (pa_cons l.pe pa_nil hs) hs, fun ρ σ B H R S g => by
  refine l.lk.set.bindI S g fun hd ρ1 v B1 H1 S1 x1 y1 g1 => ?_
  split at g1
  · rename_i j ej
    split at g1
    · rename_i ok
      obtain ⟨h1, h2⟩ := okR_ok ok
      exact ⟨j, by rw [(S1.tp y1 ej).int], h1, h2, g1 _ _ _ S1 x1 it_range⟩
    · exact g1.elim
  · exact g1.elim⟩
theorem GoodI.ext (x : Ext ρ σ B H ρ1 σ B1 H1) {R : It → Hp → Prop} : ∀ {r : RI}, GoodI C ρ σ B H R r → GoodI C ρ1 σ B1 H1 R r
  | .stuck, g => g
  | .ok _ _, g => fun J B' H' s y z => g J B' H' s (x.trans y) z
  | .exc _ _, g => fun c d B' H' s y z => g c d B' H' s (x.trans y) z
def forL (g : D → Rho → Option Rho) (b : SF) : List D → Rho → RS
  | [], ρ => .nx ρ
  | d :: ds, ρ => match g d ρ with
    | none => .stuck
    | some ρ1 => match b ρ1 with
      | .nx ρ2 => forL g b ds ρ2
      | .ct ρ2 => forL g b ds ρ2
      | .bk ρ2 => .nx ρ2
      | r => r
def sFor (fi : IF) (g : D → Rho → Option Rho) (b : SF) : SF := fun ρ => match fi ρ with
  | .stuck => .stuck
  | .exc x ρ1 => .exc x ρ1
  | .ok ds ρ1 => forL g b ds ρ1
theorem lk_for {w : TI} {tgt : TG} {tb : TS} {fi : IF} {g : D → Rho → Option Rho} {b : SF} (li : LkI C w fi) (lg : LkG C tgt g) (lb : LkS C tb b) : LkS C (tFor w tgt tb) (sFor fi g b) := fun ρ σ B H E S gd => by
  refine li ρ σ B H _ S ?_
  unfold sFor at gd
  cases e : fi ρ with
  | stuck => rw [e] at gd; exact gd
  | exc x ρ1 => rw [e] at gd; exact fun c d B' H' s x => gd c d σ B' H' s x
  | ok ds ρ1 =>
    rw [e] at gd
    replace gd : GoodS C ρ σ B H E (forL g b ds ρ1) := gd
    intro J B1 H1 S1 x1 ok
    refine for_it ok (fun i σ' H' => ∃ ρ' B', Sim C.K ρ' σ' B' H' ∧ Ext ρ σ B H ρ' σ' B' H' ∧ Same B1 B' ∧ GoodS C ρ σ B H E (forL g b (ds.drop i) ρ')) ⟨ρ1, B1, S1, x1, Same.refl _, gd⟩ (fun i σ' H' _ ⟨ρ', B', S', _, s', _⟩ => s'.trans S'.bh) ?_ ?_
    · rintro i v σ' H' H2 hi ⟨ρ', B', S', x', s', g'⟩ ⟨d, ed, y⟩
      have hd : ds.drop i = d :: ds.drop (i + 1) := by
        have := List.drop_eq_getElem_cons hi
        rw [this]
        congr 1
        exact Option.some.inj ((List.getElem?_eq_getElem hi).symm.trans ed)
      rw [hd] at g'
      have step : ∃ B2, Sim C.K ρ' σ' B2 H2 ∧ Ext ρ σ B H ρ' σ' B2 H2 ∧ Same B1 B2 ∧ Rp C.K B2 v d := by
        rcases y with ⟨rfl, r⟩ | ⟨T, o, vs, es, rfl, hT, ho, rfl, rfl, r⟩
        · exact ⟨B', S', x', s', r.mono s'⟩
        · obtain ⟨S2, x2⟩ := S'.newB hT (.frz o (.tup vs))
          exact ⟨_, S2, x'.trans x2, s'.trans x2.bb, .tup (XT.new ho) (r.mono (s'.trans x2.bb))⟩
      obtain ⟨B2, S2, x2, s2, r2⟩ := step
      unfold forL at g'
      cases eg : g d ρ' with
      | none => rw [eg] at g'; exact g'.elim
      | some ρ3 =>
        rw [eg] at g'
        refine lg ρ' σ' B2 H2 v d ρ3 _ S2 r2 eg fun σ3 B3 H3 S3 x3 => ?_
        refine lb ρ3 σ3 B3 H3 _ S3 ?_
        have x3' := x2.trans x3
        cases eb : b ρ3 with
        | stuck => simp only [eb] at g'; exact g'
        | nx ρ4 => simp only [eb] at g'; exact fun σ4 B4 H4 S4 x4 => ⟨ρ4, B4, S4, x3'.trans x4, (s2.trans x3.bb).trans x4.bb, g'⟩
        | ct ρ4 => simp only [eb] at g'; exact fun σ4 B4 H4 S4 x4 => ⟨ρ4, B4, S4, x3'.trans x4, (s2.trans x3.bb).trans x4.bb, g'⟩
        | bk ρ4 => simp only [eb] at g'; exact fun σ4 B4 H4 S4 x4 => g' σ4 B4 H4 S4 (x3'.trans x4)
        | rt h ρ4 => simp only [eb] at g'; exact GoodS.ext (r := .rt h ρ4) x3' g'
        | exc c ρ4 => simp only [eb] at g'; exact GoodS.ext (r := .exc c ρ4) x3' g'
    · rintro σ' H' ⟨ρ', B', S', x', _, g'⟩
      rw [List.drop_length] at g'
      exact g' σ' B' H' S' x'
theorem ss_for {it : Expr} {body : List Stmt} {w : TI} {tgt : TG} {tb : TS} {fi : IF} {g : D → Rho → Option Rho} {b : SF} (hp : PassesOwn (model X.prog X.w) X.A X.env X.xe) (hc : X.calm = true) (li : SI X C tg it w fi) (lg : SG X C tg tgt g) (lb : SSs X C body tb b)
    (hs : ∀ x, foldedSetIterable it X.env x = pure x := by intro _; rfl) : SS X C (.For tg it body [] pos) (tFor w tgt tb) (sFor fi g b) := ⟨ps_for hp hc li.pi lg.pg lb.ps hs, lk_for li.lk lg.lk lb.lk⟩
def wipeR (ρ : Rho) : List Nat → Rho
  | [] => ρ
  | v :: vs => (wipeR ρ vs).set v none
/-- the turns: acc what is made so far -/
def lcL (vs : List Nat) (g : D → Rho → Option Rho) (ft fe : EF) : List D → List D → Rho → RE
  | [], acc, ρ => .ok (.fr (.list acc)) ρ
  | d :: ds, acc, ρ => match g d ρ with
    | none => .stuck
    | some ρ1 => bindB (ft ρ1) fun c ρ2 => if c then bindE (eCap fe ρ2) fun h ρ3 => match h with
        | .sh y => if acc.length < sizeLine then lcL vs g ft fe ds (acc ++ [y]) (wipeR ρ3 vs) else .stuck
        | _ => .stuck
      else lcL vs g ft fe ds acc (wipeR ρ2 vs)
def eLc (vs : List Nat) (fi : IF) (g : D → Rho → Option Rho) (ft fe : EF) : EF := fun ρ => match fi ρ with
  | .stuck => .stuck
  | .exc x ρ1 => .exc x ρ1
  | .ok ds ρ1 => if vs.all fun i => !ioAt ρ1 i then lcL vs g ft fe ds [] (wipeR ρ1 vs) else .stuck
theorem wipeR_len (ρ : Rho) : ∀ vs : List Nat, (wipeR ρ vs).length = ρ.length
  | [] => rfl
  | v :: vs => by unfold wipeR; rw [List.length_set, wipeR_len ρ vs]
theorem wipeR_some {ρ : Rho} {i : Nat} {c : Cel} : ∀ {vs : List Nat}, (wipeR ρ vs)[i]? = some (some c) → ρ[i]? = some (some c) ∧ i ∉ vs
  | [], h => ⟨h, by simp⟩
  | v :: vs, h => by
    unfold wipeR at h
    rcases set_get h with ⟨_, ec⟩ | ⟨ne, h⟩
    · cases ec
    · obtain ⟨h1, h2⟩ := wipeR_some h
      exact ⟨h1, by simp only [List.mem_cons, not_or]; exact ⟨fun e => ne e.symm, h2⟩⟩
theorem wipeR_keep {ρ : Rho} {i : Nat} : ∀ {vs : List Nat}, i ∉ vs → (wipeR ρ vs)[i]? = ρ[i]?
  | [], _ => rfl
  | v :: vs, h => by
    simp only [List.mem_cons, not_or] at h
    unfold wipeR
    rw [set_other (fun e => h.1 e.symm)]
    exact wipeR_keep h.2
theorem wipe_keep {σ : St} {i : Nat} : ∀ {vs : List Nat}, i ∉ vs → (wipe σ vs)[i]? = σ[i]?
  | [], _ => rfl
  | v :: vs, h => by
    simp only [List.mem_cons, not_or] at h
    unfold wipe
    rw [List.getElem?_set, if_neg (fun e => h.1 e.symm)]
    exact wipe_keep h.2
/-- slots are forgotten on both sides -/
theorem Sim.wipe {K : KW} {σ' : St} (S : Sim K ρ σ B H) (vs : List Nat) (hl : σ'.length = σ.length) (he : ∀ i, i ∉ vs → σ'[i]? = σ[i]?) : Sim K (wipeR ρ vs) σ' B H := by
  refine ⟨S.bh, by rw [wipeR_len, hl]; exact S.len, fun i c h => ?_, fun i j ci cj a hi hj ni nj ei ej => ?_⟩
  · obtain ⟨h1, h2⟩ := wipeR_some h
    rw [he i h2]
    exact S.sl i c h1
  · obtain ⟨h1, h2⟩ := wipeR_some hi
    obtain ⟨h3, h4⟩ := wipeR_some hj
    rw [he i h2] at ei
    rw [he j h4] at ej
    exact S.dj i j ci cj a h1 h3 ni nj ei ej
theorem Ext.wipe {σ' : St} (x : Ext ρ σ B H ρ1 σ1 B1 H1) (vs : List Nat) (hn : ∀ i ∈ vs, ∀ c, ρ[i]? = some (some c) → c.fl ≠ .io) (he : ∀ i, i ∉ vs → σ'[i]? = σ1[i]?) : Ext ρ σ B H (wipeR ρ1 vs) σ' B1 H1 := by
  refine ⟨x.bb, x.nw, x.kp, fun a ⟨i, c, h1, h2, h3⟩ => ?_, fun i c h1 h2 => ?_, fun i c h1 h2 => ?_⟩
  · obtain ⟨q1, q2⟩ := wipeR_some h1
    rw [he i q2] at h3
    exact x.sub a ⟨i, c, q1, h2, h3⟩
  · have ni : i ∉ vs := fun z => hn i z c h1 h2
    obtain ⟨e1, c1, q1, q2⟩ := x.io i c h1 h2
    exact ⟨(he i ni).trans e1, c1, (wipeR_keep ni).trans q1, q2⟩
  · obtain ⟨q1, _⟩ := wipeR_some h1
    exact x.oi i c q1 h2
end
end GS
namespace GS
open PySem L2
section
variable {X : Cx} {C : Ct} {ρ ρ1 : Rho} {σ σ1 σ' : St} {B H B1 H1 : Hp} {e tg : Expr} {te : TE} {fe : EF} {pos p : Pos} {vs : List Nat} {K : KW}
theorem wipe_get (σ : St) (j : Nat) : ∀ vs : List Nat, (wipe σ vs)[j]? = if j ∈ vs then (if j < σ.length then some none else none) else σ[j]?
  | [] => by simp [wipe]
  | v :: vs => by
    unfold wipe
    rw [List.getElem?_set, wipe_get σ j vs, wipe_length]
    by_cases h : v = j
    · subst h; simp
    · have h' : ¬ j = v := fun z => h z.symm
      simp [h, h']
theorem wipe_set {i : Nat} {x : Option V} (h : i ∈ vs) : wipe (σ.set i x) vs = wipe σ vs := by
  apply List.ext_getElem?
  intro j
  rw [wipe_get, wipe_get, List.length_set]
  by_cases hj : j ∈ vs
  · simp [hj]
  · rw [if_neg hj, if_neg hj, List.getElem?_set, if_neg (fun (z : i = j) => hj (z ▸ h))]
theorem of_wipe (h : wipe σ1 vs = wipe σ vs) : σ1.length = σ.length ∧ ∀ i, i ∉ vs → σ1[i]? = σ[i]? := by
  refine ⟨by rw [← wipe_length σ1 vs, h, wipe_length], fun i hi => ?_⟩
  rw [← wipe_keep hi, h, wipe_keep hi]
/-- targets of a comprehension -/
def LkGw (C : Ct) (vs : List Nat) (g : TG) (f : D → Rho → Option Rho) : Prop := ∀ ρ σ B H v d ρ' Q, Sim C.K ρ σ B H → Rp C.K B v d → f d ρ = some ρ' → (∀ σ' B' H', Sim C.K ρ' σ' B' H' → Ext ρ σ B H ρ' σ' B' H' → wipe σ' vs = wipe σ vs → Q σ' H') → g v σ H Q
def LkGws (C : Ct) (vs : List Nat) (g : TGs) (f : List D → Rho → Option Rho) : Prop := ∀ ρ σ B H ws ds ρ' Q, Sim C.K ρ σ B H → RpL C.K B ws ds → f ds ρ = some ρ' → (∀ σ' B' H', Sim C.K ρ' σ' B' H' → Ext ρ σ B H ρ' σ' B' H' → wipe σ' vs = wipe σ vs → Q σ' H') → g ws σ H Q
theorem lkw_N {i : Nat} (hi : i ∈ vs) : LkGw C vs (gName i) (gN i) := fun ρ σ B H v d ρ' Q S r e k => by
  unfold gN at e
  obtain ⟨h, rfl⟩ := if_some e
  simp only [Bool.and_eq_true, decide_eq_true_eq, Bool.not_eq_true'] at h
  obtain ⟨S2, x2⟩ := store_ok S Ext.refl (c := ⟨d, .sh⟩) h.1 h.2 (by simp) (.inl ⟨rfl, r⟩) fun z => absurd rfl z
  exact k _ _ _ S2 x2 (wipe_set hi)
theorem lkw_nil : LkGws C vs gNil gsN := fun ρ σ B H ws ds ρ' Q S r e k => by
  cases r with
  | nil => cases e; exact ⟨rfl, k _ _ _ S Ext.refl rfl⟩
  | cons _ _ => cases e
theorem lkw_C {tg : TG} {tgs : TGs} {f : D → Rho → Option Rho} {g : List D → Rho → Option Rho} (a : LkGw C vs tg f) (b : LkGws C vs tgs g) : LkGws C vs (gCons tg tgs) (gsC f g) := fun ρ σ B H ws ds ρ' Q S r e k => by
  cases r with
  | nil => cases e
  | cons h t =>
    obtain ⟨ρ1, e1, e2⟩ := Option.bind_eq_some_iff.mp (show (f _ ρ).bind (g _) = some ρ' from e)
    refine ⟨_, _, rfl, a ρ σ B H _ _ ρ1 _ S h e1 fun σ1 B1 H1 S1 x1 w1 => ?_⟩
    exact b ρ1 σ1 B1 H1 _ _ ρ' Q S1 (t.mono x1.bb) e2 fun σ2 B2 H2 S2 x2 w2 => k _ _ _ S2 (x1.trans x2) (w2.trans w1)
theorem lkw_T {tgs : TGs} {n : Nat} {g : List D → Rho → Option Rho} (b : LkGws C vs tgs g) : LkGw C vs (gTup C.K n tgs) (gT n g) := fun ρ σ B H v d ρ' Q S r e k => by
  cases d with
  | tuple ds =>
    replace e : (if ds.length = n then g ds ρ else none) = some ρ' := e
    split at e
    · obtain ⟨a, ws, rfl, ha, ra⟩ := r.tupE
      exact ⟨a, ws, rfl, same_t S.bh ha, by rw [ra.length]; assumption, b ρ σ B H ws ds ρ' Q S ra e k⟩
    · cases e
  | _ => cases e
/-- without exceptions -/
def eNox (f : EF) : EF := fun ρ => match f ρ with
  | .exc _ _ => .stuck
  | r => r
abbrev Ct.nox (C : Ct) : Ct := { C with W := fun _ _ _ _ => False }
theorem LkE.ofNox {t : TE} {f : EF} (l : LkE C.nox t f) : LkE C t (eNox f) := fun ρ σ B H Q S g => by
  refine l ρ σ B H Q S ?_
  unfold eNox at g
  cases e : f ρ with
  | stuck => rw [e] at g; exact g
  | ok h ρ1 => rw [e] at g; exact g
  | exc x ρ1 => rw [e] at g; exact g.elim
theorem LkT.ofNox {t : TT} {f : EF} (l : LkT C.nox t f) : LkT C t (eNox f) := fun ρ σ B H Q S g => by
  refine l ρ σ B H Q S ?_
  unfold eNox at g
  cases e : f ρ with
  | stuck => rw [e] at g; exact g
  | ok h ρ1 =>
    rw [e] at g
    cases h with
    | sh d => cases d <;> exact g
    | _ => exact g
  | exc x ρ1 => rw [e] at g; exact g.elim
theorem eNox_ne (f : EF) (ρ : Rho) {x : Xc} {ρ1 : Rho} : eNox f ρ ≠ .exc x ρ1 := fun h => by
  unfold eNox at h
  split at h
  · cases h
  · rename_i z; exact z _ _ h
theorem cap_nox_ne (f : EF) (ρ : Rho) {x : Xc} {ρ1 : Rho} : eCap (eNox f) ρ ≠ .exc x ρ1 := fun h => by
  unfold eCap bindE at h
  split at h
  · cases h
  · dsimp only at h
    split at h <;> cases h
  · rename_i e; exact eNox_ne _ _ e
def NoV (ρ : Rho) (vs : List Nat) : Prop := ∀ (i : Nat) (c : Cel), ρ[i]? = some (some c) → i ∉ vs
theorem noV_wipe : NoV (wipeR ρ vs) vs := fun i c h => (wipeR_some h).2
theorem Sim.swap (S : Sim K ρ σ B H) (n : NoV ρ vs) (hl : σ'.length = σ.length) (he : ∀ i, i ∉ vs → σ'[i]? = σ[i]?) : Sim K ρ σ' B H := by
  refine ⟨S.bh, by rw [hl]; exact S.len, fun i c h => ?_, fun i j ci cj a hi hj ni nj ei ej => ?_⟩
  · rw [he i (n i c h)]; exact S.sl i c h
  · rw [he i (n i ci hi)] at ei
    rw [he j (n j cj hj)] at ej
    exact S.dj i j ci cj a hi hj ni nj ei ej
theorem Sim.tweak (S : Sim K ρ σ B H) {q : Addr} {o : HO} (hb : B q = none) (hn : ¬ OwnA ρ σ q) : Sim K ρ σ B (upd H q o) := by
  refine ⟨fun b u z => ?_, S.len, fun i c h => ?_, S.dj⟩
  · rw [upd_ne (ne_of_none z hb)]; exact S.bh _ _ z
  · obtain ⟨v, ev, ok⟩ := S.sl i c h
    refine ⟨v, ev, ok.mono (Same.refl B) fun a hv ha ho hf => ⟨ha, ?_⟩⟩
    have ne : a ≠ q := fun z => by subst z hv; exact hn ⟨i, c, h, hf, ev⟩
    rw [upd_ne ne]
theorem Ext.tweak (x : Ext ρ σ B H ρ1 σ1 B1 H1) {q : Addr} {o : HO} (hn : New ρ σ H q) : Ext ρ σ B H ρ1 σ1 B1 (upd H1 q o) := by
  refine ⟨x.bb, x.nw, fun a u h n => ?_, x.sub, x.io, x.oi⟩
  have ne : a ≠ q := fun z => by
    subst z
    rcases hn with z | z
    · rw [h] at z; cases z
    · exact n z
  rw [upd_ne ne]
  exact x.kp a u h n
theorem OwnA.swap {a : Addr} (n : NoV ρ vs) (he : ∀ i, i ∉ vs → σ'[i]? = σ[i]?) (h : OwnA ρ σ' a) : OwnA ρ σ a := by
  obtain ⟨i, c, h1, h2, h3⟩ := h
  exact ⟨i, c, h1, h2, (he i (n i c h1)).symm.trans h3⟩
theorem Ext.swapL (x : Ext ρ σ' B H ρ1 σ1 B1 H1) (n : NoV ρ vs) (he : ∀ i, i ∉ vs → σ'[i]? = σ[i]?) (ho : ∀ (i : Nat) c, ρ[i]? = some (some c) → c.fl = .io → σ1[i]? = σ[i]?) : Ext ρ σ B H ρ1 σ1 B1 H1 := by
  have own : ∀ a, OwnA ρ σ' a → OwnA ρ σ a := fun a h => h.swap n he
  have own' : ∀ a, OwnA ρ σ a → OwnA ρ σ' a := fun a h => h.swap n fun i hi => (he i hi).symm
  exact ⟨x.bb, fun a o h => (x.nw a o h).imp id fun z => z.elim .inl fun z => .inr (own a z), fun a o h z => x.kp a o h fun w => z (own a w), fun a h => (x.sub a h).elim .inl fun z => .inr (own a z),
    fun i c h1 h2 => ⟨ho i c h1 h2, (x.io i c h1 h2).2⟩, x.oi⟩
theorem lk_lc {w : TI} {tgt : TG} {tt : TT} {fi : IF} {g : D → Rho → Option Rho} {ft : EF} (li : LkI C w fi) (lg : LkGw C vs tgt g) (lt : LkT C.nox tt ft) (le : LkE C.nox te fe) : LkE C (tLc w tgt tt te vs) (eLc vs fi g (eNox ft) (eNox fe)) := fun ρ σ B H Q S gd => by
  have lt' := lt.ofNox
  have le' := le.ofNox
  refine li ρ σ B H _ S ?_
  unfold eLc at gd
  cases e : fi ρ with
  | stuck => rw [e] at gd; exact gd
  | exc x ρ1 => rw [e] at gd; exact gd
  | ok ds ρ1 =>
    rw [e] at gd
    replace gd : GoodE C ρ σ B H Q (if vs.all fun i => !ioAt ρ1 i then lcL vs g (eNox ft) (eNox fe) ds [] (wipeR ρ1 vs) else .stuck) := gd
    by_cases hio : (vs.all fun i => !ioAt ρ1 i) = true
    case neg => rw [if_neg hio] at gd; exact gd.elim
    rw [if_pos hio] at gd
    intro J B1 H1 S1 x1 ok Dd hD
    have hio' : ∀ i ∈ vs, ∀ c, ρ1[i]? = some (some c) → c.fl ≠ .io := fun i hi c hc => by
      have := List.all_eq_true.mp hio i hi
      exact not_io (by simpa using this) hc
    have hio0 : ∀ i ∈ vs, ∀ c, ρ[i]? = some (some c) → c.fl ≠ .io := fun i hi c hc hf => by
      obtain ⟨_, c', q1, q2⟩ := x1.io i c hc hf
      exact hio' i hi c' q1 q2
    obtain ⟨bD, nD⟩ := S1.free hD
    have newD : New ρ σ H Dd := x1.back (.inl hD)
    have wk : ∀ i, i ∉ vs → (wipe σ vs)[i]? = σ[i]? := fun i hi => wipe_keep hi
    have wl : (wipe σ vs).length = σ.length := wipe_length σ vs
    -- the start
    have S0 : Sim C.K (wipeR ρ1 vs) σ B1 (upd H1 Dd (.lst [])) := (S1.wipe vs rfl fun _ _ => rfl).tweak bD fun ⟨i, c, h1, h2, h3⟩ => nD ⟨i, c, (wipeR_some h1).1, h2, h3⟩
    have x0 : Ext ρ σ B H (wipeR ρ1 vs) σ B1 (upd H1 Dd (.lst [])) := (x1.wipe vs hio0 fun _ _ => rfl).tweak newD
    refine lc_it ok (fun i Hc => ∃ ρ' B' vacc acc, Sim C.K ρ' σ B' Hc ∧ NoV ρ' vs ∧ Ext ρ σ B H ρ' σ B' Hc ∧ Same B1 B' ∧ Hc Dd = some (.lst vacc) ∧ B' Dd = none ∧ ¬ OwnA ρ' σ Dd ∧ RpL C.K B' vacc acc ∧ GoodE C ρ σ B H Q (lcL vs g (eNox ft) (eNox fe) (ds.drop i) acc ρ'))
      ⟨wipeR ρ1 vs, B1, [], [], S0, noV_wipe, x0, Same.refl _, upd_same, bD, fun ⟨i, c, h1, h2, h3⟩ => nD ⟨i, c, (wipeR_some h1).1, h2, h3⟩, .nil, gd⟩ (fun i Hc _ ⟨ρ', B', _, _, S', _, _, s', _⟩ => s'.trans S'.bh) ?_ ?_
    · rintro i v Hc H2 hi ⟨ρ', B', vacc, acc, S', nv, x', s', hacc, bacc, nacc, racc, g'⟩ ⟨d, ed, y⟩
      have hd : ds.drop i = d :: ds.drop (i + 1) := by
        have := List.drop_eq_getElem_cons hi
        rw [this]
        congr 1
        exact Option.some.inj ((List.getElem?_eq_getElem hi).symm.trans ed)
      rw [hd] at g'
      -- the turn's item
      have step : ∃ B2, Sim C.K ρ' σ B2 H2 ∧ Ext ρ σ B H ρ' σ B2 H2 ∧ Same B1 B2 ∧ Rp C.K B2 v d ∧ H2 Dd = some (.lst vacc) ∧ B2 Dd = none ∧ RpL C.K B2 vacc acc := by
        rcases y with ⟨rfl, r⟩ | ⟨T, o, ws, es, rfl, hT, ho, rfl, rfl, r⟩
        · exact ⟨B', S', x', s', r.mono s', hacc, bacc, racc⟩
        · obtain ⟨S2, x2⟩ := S'.newB hT (.frz o (.tup ws))
          have ne : Dd ≠ T := ne_of_none hacc hT
          exact ⟨_, S2, x'.trans x2, s'.trans x2.bb, .tup (XT.new ho) (r.mono (s'.trans x2.bb)), by rw [upd_ne ne]; exact hacc, by rw [upd_ne ne]; exact bacc, racc.mono x2.bb⟩
      obtain ⟨B2, S2, x2, s2, r2, hacc2, bacc2, racc2⟩ := step
      unfold lcL at g'
      cases eg : g d ρ' with
      | none => rw [eg] at g'; exact g'.elim
      | some ρ3 =>
        rw [eg] at g'
        have S2w : Sim C.K ρ' (wipe σ vs) B2 H2 := S2.swap nv wl wk
        refine lg ρ' (wipe σ vs) B2 H2 v d ρ3 _ S2w r2 eg fun σ3 B3 H3 S3 x3 w3 => ?_
        have w3' : wipe σ3 vs = wipe σ vs := by
          rw [w3]
          apply List.ext_getElem?
          intro j
          rw [wipe_get, wl, wipe_get]
          by_cases hj : j ∈ vs <;> simp [hj]
        obtain ⟨l3, k3⟩ := of_wipe w3'
        refine ⟨w3', ?_⟩
        have nacc' : ¬ OwnA ρ' (wipe σ vs) Dd := fun z => nacc (z.swap nv wk)
        obtain ⟨hacc3, bacc3, nacc3⟩ := x3.keepN hacc2 bacc2 nacc'
        -- from the start to here, at σ3
        have x3s : Ext ρ σ B H ρ3 σ3 B3 H3 := x2.trans (x3.swapL nv wk fun j c h1 h2 => k3 j (nv j c h1))
        dsimp only at g'
        refine lt' ρ3 σ3 B3 H3 _ S3 ?_
        cases et : eNox ft ρ3 with
        | stuck => rw [et] at g'; exact g'.elim
        | exc c ρ4 => exact absurd et (eNox_ne _ _)
        | ok h ρ4 =>
          rw [et] at g'
          cases h with
          | fr _ => exact g'.elim
          | bw _ => exact g'.elim
          | sh dd =>
            cases dd with
            | bool b =>
              replace g' : GoodE C ρ σ B H Q (if b then bindE (eCap (eNox fe) ρ4) fun h ρ3 => match h with
                | .sh y => if acc.length < sizeLine then lcL vs g (eNox ft) (eNox fe) (ds.drop (i + 1)) (acc ++ [y]) (wipeR ρ3 vs) else .stuck
                | _ => .stuck
                else lcL vs g (eNox ft) (eNox fe) (ds.drop (i + 1)) acc (wipeR ρ4 vs)) := g'
              intro B4 H4 S4 x4
              obtain ⟨hacc4, bacc4, nacc4⟩ := x4.keepN hacc3 bacc3 nacc3
              have x4s : Ext ρ σ B H ρ4 σ3 B4 H4 := x3s.trans x4
              have racc4 := (racc2.mono x3.bb).mono x4.bb
              have s4 : Same B1 B4 := (s2.trans x3.bb).trans x4.bb
              cases b with
              | false =>
                rw [if_neg Bool.false_ne_true] at g' ⊢
                exact ⟨wipeR ρ4 vs, B4, vacc, acc, S4.wipe vs l3.symm fun j hj => (k3 j hj).symm, noV_wipe, x4s.wipe vs hio0 fun j hj => (k3 j hj).symm, s4, hacc4, bacc4,
                  fun ⟨j, c, h1, h2, h3⟩ => nacc4 ⟨j, c, (wipeR_some h1).1, h2, (k3 j (wipeR_some h1).2).trans h3⟩, racc4, g'⟩
              | true =>
                rw [if_pos rfl] at g' ⊢
                refine le'.cap ρ4 σ3 B4 H4 _ S4 ?_
                cases ee : eCap (eNox fe) ρ4 with
                | stuck => rw [ee] at g'; exact g'.elim
                | exc c ρ5 => exact absurd ee (cap_nox_ne _ _)
                | ok h ρ5 =>
                  rw [ee] at g'
                  cases h with
                  | fr _ => exact g'.elim
                  | bw _ => exact g'.elim
                  | sh y =>
                    replace g' : GoodE C ρ σ B H Q (if acc.length < sizeLine then lcL vs g (eNox ft) (eNox fe) (ds.drop (i + 1)) (acc ++ [y]) (wipeR ρ5 vs) else .stuck) := g'
                    intro u B5 H5 S5 x5 y5
                    obtain ⟨hacc5, bacc5, nacc5⟩ := x5.keepN hacc4 bacc4 nacc4
                    by_cases hsz : acc.length < sizeLine
                    case neg => rw [if_neg hsz] at g'; exact g'.elim
                    rw [if_pos hsz] at g'
                    have nown : ¬ OwnA (wipeR ρ5 vs) σ Dd := fun ⟨j, c, h1, h2, h3⟩ => nacc5 ⟨j, c, (wipeR_some h1).1, h2, (k3 j (wipeR_some h1).2).trans h3⟩
                    refine ⟨vacc, hacc5, by rw [racc.length]; exact hsz, wipeR ρ5 vs, B5, vacc ++ [u], acc ++ [y], (S5.wipe vs l3.symm fun j hj => (k3 j hj).symm).tweak bacc5 nown, noV_wipe,
                      ((x4s.trans x5).wipe vs hio0 fun j hj => (k3 j hj).symm).tweak newD, s4.trans x5.bb, upd_same, bacc5, nown, (racc4.mono x5.bb).append (.cons y5 .nil), g'⟩
            | _ => exact g'.elim
    · rintro Hc ⟨ρ', B', vacc, acc, S', nv, x', s', hacc, bacc, nacc, racc, g'⟩
      rw [List.drop_length] at g'
      exact g' _ B' Hc S' x' ⟨Dd, rfl, bacc, ⟨vacc, hacc, racc⟩, nacc, newD⟩
/-- a comprehension with one for -/
theorem se_lc {elt it : Expr} {ifs : List Expr} {scope : Scope} {own : List (Str × Nat)} {w : TI} {tgt : TG} {tt : TT} {fi : IF} {g : D → Rho → Option Rho} {ft : EF} (hc : X.calm = true) (hN : X.N.Nodup) (li : SI X C tg it w fi) (ok : BlkOk X.N X.env.scope scope own)
    (hg : ∀ (s : Shared) (H : Hp) (c : Addr) (cl : List (Str × Addr)) (fp : List Addr), PG (X.blk s H scope (compEnvC scope cl c X.env) fp) tg tgt) (lg : LkGw C (own.map (·.2)) tgt g)
    (ht : ∀ (s : Shared) (H : Hp) (c : Addr) (cl : List (Str × Addr)) (fp : List Addr), PTs (X.blk s H scope (compEnvC scope cl c X.env) fp) ifs tt) (lt : LkT C.nox tt ft)
    (he : ∀ (s : Shared) (H : Hp) (c : Addr) (cl : List (Str × Addr)) (fp : List Addr), PE (X.blk s H scope (compEnvC scope cl c X.env) fp) elt te) (le : LkE C.nox te fe)
    (hs : ∀ x, foldedSetIterable it X.env x = pure x := by intro _; rfl) : SE X C (.ListComp elt [⟨tg, it, ifs, 0⟩] scope pos) (tLc w tgt tt te (own.map (·.2))) (eLc (own.map (·.2)) fi g (eNox ft) (eNox fe)) :=
  ⟨pe_lc hc hN li.pi ok hg ht he hs, lk_lc li.lk lg lt le⟩
end
end GS
namespace GS
open PySem L2
section
variable {X : Cx} {C : Ct} {ρ ρ1 : Rho} {σ σ1 σ' : St} {B H B1 H1 : Hp} {e tg : Expr} {te : TE} {fe : EF} {pos p : Pos} {vs : List Nat} {K : KW}
theorem Sim.mut (S : Sim K ρ σ B H) {i : Nat} {c : Cel} {a : Addr} {o : HO} {d : D} (hi : ρ[i]? = some (some c)) (hf : c.fl ≠ .sh) (ha : σ[i]? = some (some (.ref a))) (ow : Ow K B a (some o) d) :
    Sim K (ρ.set i (some ⟨d, c.fl⟩)) σ B (upd H a o) ∧ Ext ρ σ B H (ρ.set i (some ⟨d, c.fl⟩)) σ B (upd H a o) := by
  obtain ⟨v, ev, ok⟩ := S.sl i c hi
  rw [ha] at ev
  cases ev
  rcases ok with ⟨z, _⟩ | ⟨_, b, eb, hb, _⟩
  · exact absurd z hf
  cases eb
  refine ⟨⟨fun b u z => ?_, by rw [List.length_set]; exact S.len, fun j cj hj => ?_, fun j k cj ck b hj hk nj nk ej ek => ?_⟩, ⟨Same.refl B, fun b u z => .inl z, fun b u z n => ?_, fun b z => ?_, fun j cj hj hjf => ?_, fun j cj hj hjf => ?_⟩⟩
  · rw [upd_ne (ne_of_none z hb)]; exact S.bh _ _ z
  · rcases set_get hj with ⟨rfl, ec⟩ | ⟨ne, hj⟩
    · cases ec
      exact ⟨.ref a, ha, .inr ⟨hf, a, rfl, hb, by rw [upd_same]; exact ow⟩⟩
    · obtain ⟨v, ev, ok⟩ := S.sl j cj hj
      refine ⟨v, ev, ok.mono (Same.refl B) fun b hv hb' ho' hf' => ⟨hb', ?_⟩⟩
      have nb : b ≠ a := fun z => by
        subst z hv
        exact ne (S.dj i j c cj b hi hj hf hf' ha ev)
      rw [upd_ne nb]
  · have f1 : ∃ c1, ρ[j]? = some (some c1) ∧ c1.fl ≠ .sh := by
      rcases set_get hj with ⟨rfl, ec⟩ | ⟨_, hj⟩
      · cases ec; exact ⟨c, hi, hf⟩
      · exact ⟨cj, hj, nj⟩
    have f2 : ∃ c1, ρ[k]? = some (some c1) ∧ c1.fl ≠ .sh := by
      rcases set_get hk with ⟨rfl, ec⟩ | ⟨_, hk⟩
      · cases ec; exact ⟨c, hi, hf⟩
      · exact ⟨ck, hk, nk⟩
    obtain ⟨c1, a1, a2⟩ := f1
    obtain ⟨c2, b1, b2⟩ := f2
    exact S.dj j k c1 c2 b a1 b1 a2 b2 ej ek
  · have nb : b ≠ a := fun q => by subst q; exact n ⟨i, c, hi, hf, ha⟩
    rw [upd_ne nb]; exact z
  · obtain ⟨j, cj, hj, nj, ej⟩ := z
    rcases set_get hj with ⟨rfl, ec⟩ | ⟨_, hj⟩
    · cases ec; exact .inr ⟨i, c, hi, hf, ej⟩
    · exact .inr ⟨j, cj, hj, nj, ej⟩
  · by_cases hij : i = j
    · subst hij
      rw [hi] at hj
      cases hj
      exact ⟨rfl, _, set_at (lt_of hi), hjf⟩
    · exact ⟨rfl, cj, by rw [set_other hij]; exact hj, hjf⟩
  · rcases set_get hj with ⟨rfl, ec⟩ | ⟨_, hj⟩
    · cases ec; exact ⟨c, hi, hjf⟩
    · exact ⟨cj, hj, hjf⟩
/-- the object of an owned slot -/
theorem Sim.own (S : Sim K ρ σ B H) {i : Nat} {c : Cel} (hi : ρ[i]? = some (some c)) (hf : c.fl ≠ .sh) : ∃ a, σ[i]? = some (some (.ref a)) ∧ B a = none ∧ Ow K B a (H a) c.d := by
  obtain ⟨v, ev, ok⟩ := S.sl i c hi
  rcases ok with ⟨z, _⟩ | ⟨_, b, rfl, hb, ho⟩
  · exact absurd z hf
  · exact ⟨b, ev, hb, ho⟩
/-- a slot that may be changed -/
def mutS (ρ : Rho) (i : Nat) (k : D → Option D) : RS := match slot ρ i with
  | some ⟨d, .ow⟩ => match k d with
    | some d' => .nx (ρ.set i (some ⟨d', .ow⟩))
    | none => .stuck
  | some ⟨d, .io⟩ => match k d with
    | some d' => .nx (ρ.set i (some ⟨d', .io⟩))
    | none => .stuck
  | _ => .stuck
theorem mutS_ok {E : Ends} {i : Nat} {k : D → Option D} (g : GoodS C ρ σ B H E (mutS ρ1 i k)) : ∃ c d', ρ1[i]? = some (some c) ∧ c.fl ≠ .sh ∧ k c.d = some d' ∧ GoodS C ρ σ B H E (.nx (ρ1.set i (some ⟨d', c.fl⟩))) := by
  unfold mutS at g
  split at g
  · rename_i d es
    split at g
    · rename_i d' ek
      exact ⟨_, d', slot_some es, by simp, ek, g⟩
    · exact g.elim
  · rename_i d es
    split at g
    · rename_i d' ek
      exact ⟨_, d', slot_some es, by simp, ek, g⟩
    · exact g.elim
  · exact g.elim
def appD (y : D) : D → Option D
  | .list ds => if ds.length < sizeLine then some (.list (ds ++ [y])) else none
  | _ => none
def isL (ρ : Rho) (i : Nat) : Bool := match slot ρ i with
  | some ⟨.list _, _⟩ => true
  | _ => false
def sApp (i : Nat) (fe : EF) : SF := fun ρ => if isL ρ i then bindES (eCap fe ρ) fun h ρ1 => match h with
  | .sh y => mutS ρ1 i (appD y)
  | _ => .stuck else .stuck
theorem isL_ok (S : Sim K ρ σ B H) {i : Nat} (h : isL ρ i = true) : ∃ a vs, σ[i]? = some (some (.ref a)) ∧ SqL K H a vs := by
  unfold isL at h
  split at h
  · rename_i ds fl es
    obtain ⟨v, ev, ok⟩ := S.sl i _ (slot_some es)
    rcases ok with ⟨_, q⟩ | ⟨_, a, rfl, _, vs, q, _⟩
    · obtain ⟨a, vs, rfl, ha, _⟩ := Rp.lstE q
      exact ⟨a, vs, ev, same_l S.bh ha⟩
    · exact ⟨a, vs, ev, .inl (.inl q)⟩
  · cases h
theorem tyL {a : Addr} {vs : List V} (h : SqL K H a vs) : tyV K "list" (.ref a) H := .inl ⟨rfl, _, h⟩
theorem ss_app {i : Nat} {x : Str} {q1 q2 q3 : Pos} (l : SE X C e te fe) (hN : X.N[i]? = some x := by rfl) (hv : Vis X.env.scope x := by first | exact Or.inl rfl | exact Or.inr (Or.inl rfl) | exact Or.inr (Or.inr rfl)) (hd : (x == ("__debug__" : Str)) = false := by decide)
    (hcd : (x == ("__classdict__" : Str)) = false := by decide) (hk : X.K = C.K := by rfl) (hs : starEach [e] X.env = (false, eval e X.env) :: starEach [] X.env := by rfl)
    (hfew : ((backTo q3 (starEach [e] X.env)).all (fun x => !x.1) && (backToKw q3 (keywordEach [] X.env)).all (fun x => x.1.isSome) && decide ([e].length + ([] : List Keyword).length + (if ([] : List Keyword).isEmpty then 0 else 1) < 30)) = true := by rfl)
    (hline : (q2.endLine == q3.line) = true := by rfl) :
    SS X C (.Expr (.Call (.Attribute (.Name x q1) "append" q2) [e] [] q3) pos) (tDrop (tBM C.K "list" rAppend (tVar i) (tCons te tNil))) (sApp i fe) := by
  refine ⟨by rw [← hk]; exact ps_expr (pe_bm PySem.F.plainAttrs_list PySem.F.slot_list_append PySem.F.type_list_append mt_append (pe_var hN hv hd hcd) (pa_cons l.pe pa_nil hs) rfl hfew hline hs), fun ρ σ B H E S g => ?_⟩
  unfold sApp at g
  by_cases hl : isL ρ i = true
  case neg => rw [if_neg hl] at g; exact g.elim
  rw [if_pos hl] at g
  obtain ⟨a, vs, ea, sq⟩ := isL_ok S hl
  refine ⟨.ref a, ea, tyL sq, ?_⟩
  refine l.lk.cap.bindS S g fun hd ρ1 v B1 H1 S1 x1 y1 g1 => ?_
  cases hd with
  | sh y =>
    obtain ⟨c, d', h1, h2, h3, h4⟩ := mutS_ok g1
    obtain ⟨a', ea', hb, ow⟩ := S1.own h1 h2
    rw [ea] at ea'
    cases ea'
    obtain ⟨d, fl⟩ := c
    cases d with
    | list ds =>
      obtain ⟨hc, rfl⟩ := if_some (show (if ds.length < sizeLine then some (.list (ds ++ [y])) else none) = some d' from h3)
      obtain ⟨ws, ew, rw'⟩ := ow
      have ow' : Ow C.K B1 a (some (.lst (ws ++ [v]))) (.list (ds ++ [y])) := ⟨_, rfl, rw'.append (.cons y1 .nil)⟩
      obtain ⟨S2, x2⟩ := S1.mut h1 h2 ea ow'
      exact ⟨a, ws, v, rfl, rfl, ew, by rw [rw'.length]; exact hc, h4 _ _ _ S2 (x1.trans x2)⟩
    | _ => cases h3
  | _ => exact g1.elim
end
def ioC : Option Cel → Option Cel
  | some ⟨d, .io⟩ => some ⟨d, .io⟩
  | _ => none
def outR (ρ : Rho) (n : Nat) : Rho := (List.range n).map fun i => ioC (slot ρ i)
def fnF (m n : Nat) (g : SF) : FF := fun ρ => match g (ρ ++ List.replicate (m - n) none) with
  | .rt (.bw _) _ => .stuck
  | .rt h ρ1 => .ok h (outR ρ1 n)
  | .nx ρ1 => .ok (.sh .none) (outR ρ1 n)
  | .exc x ρ1 => .exc x (outR ρ1 n)
  | _ => .stuck
theorem ioC_some {o : Option Cel} {c : Cel} (h : ioC o = some c) : o = some c ∧ c.fl = .io := by
  unfold ioC at h
  split at h
  · cases h; exact ⟨rfl, rfl⟩
  · cases h
theorem outR_at {ρ : Rho} {n i : Nat} {c : Cel} (h : (outR ρ n)[i]? = some (some c)) : i < n ∧ ρ[i]? = some (some c) ∧ c.fl = .io := by
  unfold outR at h
  rw [List.getElem?_map] at h
  by_cases hi : i < n
  · rw [List.getElem?_range hi] at h
    obtain ⟨q1, q2⟩ := ioC_some (Option.some.inj h)
    exact ⟨hi, slot_some q1, q2⟩
  · rw [List.getElem?_eq_none (by rw [List.length_range]; omega)] at h
    cases h
theorem slot_of {ρ : Rho} {i : Nat} {c : Cel} (h : ρ[i]? = some (some c)) : slot ρ i = some c := by
  unfold slot
  rw [h]
theorem outR_has {ρ : Rho} {n i : Nat} {c : Cel} (hi : i < n) (h : ρ[i]? = some (some c)) (hf : c.fl = .io) : (outR ρ n)[i]? = some (some c) := by
  unfold outR
  rw [List.getElem?_map, List.getElem?_range hi]
  show some (ioC (slot ρ i)) = _
  rw [slot_of h]
  obtain ⟨d, fl⟩ := c
  cases hf
  rfl
section
variable {K : KW} {ρ ρ1 : Rho} {σ1 : St} {B H B1 H1 : Hp} {N : List Str} {vs : List V} {n : Nat}
theorem start_get {i : Nat} (h : i < vs.length) : (L2.start N vs)[i]? = (vs.map some)[i]? := by
  unfold L2.start
  rw [List.getElem?_append_left (by simpa using h)]
theorem ap_get {m : Nat} {i : Nat} {c : Cel} (h : (ρ ++ List.replicate m none)[i]? = some (some c)) : i < ρ.length ∧ ρ[i]? = some (some c) := by
  by_cases hi : i < ρ.length
  · rw [List.getElem?_append_left hi] at h; exact ⟨hi, h⟩
  · rw [List.getElem?_append_right (by omega), List.getElem?_replicate] at h
    split at h <;> cases h
theorem ap_of {m : Nat} {i : Nat} {c : Cel} (h : ρ[i]? = some (some c)) : (ρ ++ List.replicate m none)[i]? = some (some c) := by
  rw [List.getElem?_append_left (lt_of h)]; exact h
theorem entry_own {m : Nat} (hl : ρ.length = vs.length) {a : Addr} : OwnA (ρ ++ List.replicate m none) (L2.start N vs) a ↔ OwnA ρ (vs.map some) a := by
  constructor
  · rintro ⟨i, c, h1, h2, h3⟩
    obtain ⟨q1, q2⟩ := ap_get h1
    exact ⟨i, c, q2, h2, by rw [← start_get (by omega)]; exact h3⟩
  · rintro ⟨i, c, h1, h2, h3⟩
    exact ⟨i, c, ap_of h1, h2, by rw [start_get (by have := lt_of h1; omega)]; exact h3⟩
theorem entry_sim (S : Sim K ρ (vs.map some) B H) (hN : vs.length ≤ N.length) : Sim K (ρ ++ List.replicate (N.length - vs.length) none) (L2.start N vs) B H := by
  have hl : ρ.length = vs.length := by rw [S.len, List.length_map]
  refine ⟨S.bh, ?_, fun i c h => ?_, fun i j ci cj a hi hj ni nj ei ej => ?_⟩
  · unfold L2.start
    rw [List.length_append, List.length_append, List.length_replicate, List.length_replicate, List.length_map, hl]
  · obtain ⟨q1, q2⟩ := ap_get h
    obtain ⟨v, ev, ok⟩ := S.sl i c q2
    exact ⟨v, by rw [start_get (by omega)]; exact ev, ok⟩
  · obtain ⟨q1, q2⟩ := ap_get hi
    obtain ⟨q3, q4⟩ := ap_get hj
    rw [start_get (by omega)] at ei ej
    exact S.dj i j ci cj a q2 q4 ni nj ei ej
/-- the body's end as the caller sees it -/
theorem exit_sim {m : Nat} (S : Sim K ρ (vs.map some) B H) (hn : ρ.length = n) (S1 : Sim K ρ1 σ1 B1 H1) (x : Ext (ρ ++ List.replicate m none) (L2.start N vs) B H ρ1 σ1 B1 H1) :
    Sim K (outR ρ1 n) (vs.map some) B1 H1 ∧ Ext ρ (vs.map some) B H (outR ρ1 n) (vs.map some) B1 H1 ∧ (∀ a, OwnA (outR ρ1 n) (vs.map some) a → OwnA ρ1 σ1 a) ∧ ∀ a, New (ρ ++ List.replicate m none) (L2.start N vs) H a → New ρ (vs.map some) H a := by
  have hl : ρ.length = vs.length := by rw [S.len, List.length_map]
  have hnew : ∀ a, New (ρ ++ List.replicate m none) (L2.start N vs) H a → New ρ (vs.map some) H a := fun a h => h.imp id (entry_own hl).mp
  -- a lent slot stands as at the entry
  have same : ∀ (i : Nat) (c : Cel), (outR ρ1 n)[i]? = some (some c) → i < vs.length ∧ ρ1[i]? = some (some c) ∧ c.fl = .io ∧ σ1[i]? = (vs.map some)[i]? := fun i c h => by
    obtain ⟨q1, q2, q3⟩ := outR_at h
    obtain ⟨c', r1, r2⟩ := x.oi i c q2 q3
    obtain ⟨w1, _⟩ := ap_get r1
    have e := (x.io i c' r1 r2).1
    rw [start_get (by omega)] at e
    exact ⟨by omega, q2, q3, e⟩
  have own : ∀ a, OwnA (outR ρ1 n) (vs.map some) a → OwnA ρ1 σ1 a := fun a ⟨i, c, h1, h2, h3⟩ => by
    obtain ⟨_, q2, _, q4⟩ := same i c h1
    exact ⟨i, c, q2, h2, q4.trans h3⟩
  refine ⟨⟨S1.bh, ?_, fun i c h => ?_, fun i j ci cj a hi hj ni nj ei ej => ?_⟩, ⟨x.bb, fun a o h => (x.nw a o h).imp id (hnew a), fun a o h z => x.kp a o h fun w => z ((entry_own hl).mp w), fun a h => hnew a (x.sub a (own a h)), fun i c h1 h2 => ?_, fun i c h1 h2 => ?_⟩, own, hnew⟩
  · unfold outR
    rw [List.length_map, List.length_range, List.length_map]
    omega
  · obtain ⟨_, q2, _, q4⟩ := same i c h
    obtain ⟨v, ev, ok⟩ := S1.sl i c q2
    exact ⟨v, q4.symm.trans ev, ok⟩
  · obtain ⟨_, q2, _, q4⟩ := same i ci hi
    obtain ⟨_, r2, _, r4⟩ := same j cj hj
    exact S1.dj i j ci cj a q2 r2 ni nj (q4.trans ei) (r4.trans ej)
  · obtain ⟨_, c', q1, q2⟩ := x.io i c (ap_of h1) h2
    exact ⟨rfl, c', outR_has (by have := lt_of h1; omega) q1 q2, q2⟩
  · obtain ⟨_, q2, q3, _⟩ := same i c h1
    obtain ⟨c', r1, r2⟩ := x.oi i c q2 q3
    exact ⟨c', (ap_get r1).2, r2⟩
end
section
variable {P : Program} {w : World} {K : KW} {mg : Str → Option Value} {base : Heap} {cv : Str → Value}
abbrev cxF (P : Program) (w : World) (K : PySem.W.Frag) (mg : Str → Option Value) (base : Heap) (N : List Str) (qual : Str) (st : Stmt) (f : Addr) (cdv : Value) (A : Around) (outer : List Env) (s : Shared) (H : Hp) (E : XK) : Cx :=
  cxOf (L2.CX P w) P w K mg base N qual (defScope st) f cdv A outer s H E
abbrev ctF (K : KW) (cv : Str → Value) (E : XK) : Ct := ⟨K, cv, fun cls d _ H' => E cls d H'⟩
/-- THE RULE for a def: from its body -/
theorem fn_mk {x qual : Str} {st : Stmt} {f : Addr} {fd : FuncData} {N ps : List Str} {k : Nat} {g : SF} (F : Fun K x qual st f fd) (S : FnScope N ps (defScope st))
    (hb : ∀ (cdv : Value) (A : Around) (outer : List Env) (s : Shared) (H : Hp) (E : XK), Room k (cxF P w K mg base N qual st f cdv A outer s H E).A → Takes (cxF P w K mg base N qual st f cdv A outer s H E) (ctF K cv E).W →
      PassesOwn (model P w) (cxF P w K mg base N qual st f cdv A outer s H E).A (cxF P w K mg base N qual st f cdv A outer s H E).env (cxF P w K mg base N qual st f cdv A outer s H E).xe →
      ∃ t, SSs (cxF P w K mg base N qual st f cdv A outer s H E) (ctF K cv E) (defBody st) t g) :
    FnOk P w K mg base (L2.CX P w) (k + 1) f fd ps (spF K cv ps.length (fnF N.length ps.length g)) := by
  have hpl : ps.length ≤ N.length := by have := congrArg List.length S.pre; rw [List.length_take] at this; omega
  refine F.okX S (fun vs H Q E h => ?_) (fun cdv A outer s H vs Q E hr h => ?_)
  · obtain ⟨ρ, B, hl, Sm, _⟩ := h
    have := Sm.len
    rw [List.length_map] at this
    omega
  · obtain ⟨ρ, B, hl, Sm, gd⟩ := h
    have hv : vs.length = ps.length := by
      have := Sm.len
      rw [List.length_map] at this
      omega
    obtain ⟨t, ht⟩ := hb cdv A outer s H E hr (takes_of rfl rfl rfl rfl) (passes_of rfl)
    refine ⟨t, ht.ps, ht.lk (ρ ++ List.replicate (N.length - ps.length) none) _ B H _ (by rw [← hv]; exact entry_sim Sm (by omega)) ?_⟩
    unfold fnF at gd
    cases eg : g (ρ ++ List.replicate (N.length - ps.length) none) with
    | stuck => rw [eg] at gd; exact gd
    | bk _ => rw [eg] at gd; exact gd.elim
    | ct _ => rw [eg] at gd; exact gd.elim
    | nx ρ1 =>
      rw [eg] at gd
      intro σ1 B1 H1 S1 x1
      obtain ⟨S2, x2, _, _⟩ := exit_sim Sm hl S1 x1
      exact gd .non B1 H1 S2 x2 .non
    | exc c ρ1 =>
      rw [eg] at gd
      intro cls dct σ1 B1 H1 S1 x1 ok
      obtain ⟨S2, x2, _, _⟩ := exit_sim Sm hl S1 x1
      exact gd cls dct B1 H1 S2 x2 ok
    | rt h ρ1 =>
      rw [eg] at gd
      intro v σ1 B1 H1 S1 x1 y1
      obtain ⟨S2, x2, n1, n2⟩ := exit_sim Sm hl S1 x1
      cases h with
      | sh d => exact gd v B1 H1 S2 x2 y1
      | fr d =>
        obtain ⟨a, r1, r2, r3, r4, r5⟩ := y1
        exact gd v B1 H1 S2 x2 ⟨a, r1, r2, r3, fun z => r4 (n1 a z), n2 a r5⟩
      | bw i => exact gd.elim
theorem fn_zero {f : Addr} {fd : FuncData} {ps : List Str} {n : Nat} (hn : n = ps.length) : FnOk P w K mg base (L2.CX P w) 0 f fd ps (spF K cv n fun _ => .stuck) :=
  ⟨fun vs H Q E ⟨_, _, _, _, h⟩ => h.elim, fun A outer s H args us vs Q E _ _ _ _ ⟨_, _, _, _, h⟩ => h.elim⟩
theorem rpl_ints {B : Hp} : ∀ ns : List Int, RpL K B (ns.map V.int) (ns.map PyData.int)
  | [] => .nil
  | n :: ns => .cons (.int n) (rpl_ints ns)
/-- the law's promise from what it computes -/
theorem law_sp {F : FF} {H : Hp} {a : Addr} {ns : List Int} {outs : Rho} (h : SqL K H a (ns.map V.int)) (e : F [some ⟨.list (ns.map .int), .sh⟩] = .ok (.sh (.bool true)) outs) {E : XK} :
    spF K cv 1 F [.ref a] H (fun v _ => v = .bl true) E := by
  refine ⟨[some ⟨.list (ns.map .int), .sh⟩], H, rfl, ⟨Same.refl H, rfl, fun i c hi => ?_, fun i j ci cj b hi hj ni nj _ _ => ?_⟩, ?_⟩
  · match i, hi with
    | 0, hi =>
      cases hi
      exact ⟨.ref a, rfl, .inl ⟨rfl, .lst h (rpl_ints ns)⟩⟩
    | i + 1, hi => simp at hi
  · match i, hi with
    | 0, hi =>
      cases hi
      exact absurd rfl ni
    | i + 1, hi => simp at hi
  · rw [e]
    intro v B' H' S x y
    cases (show Rp K B' v (.bool true) from y)
    rfl
end
end GS
namespace GS
open PySem L2
section
variable {X : Cx} {C : Ct} {ρ ρ1 : Rho} {σ σ1 σ' : St} {B H B1 H1 : Hp} {e tg : Expr} {te : TE} {fe : EF} {pos p : Pos} {vs : List Nat} {K : KW}
/-- a name handed back: its own list is given away -/
def eRv (i : Nat) : EF := fun ρ => match slot ρ i with
  | some ⟨d, .sh⟩ => .ok (.sh d) ρ
  | some ⟨d, .ow⟩ => .ok (.fr d) (ρ.set i none)
  | _ => .stuck
theorem lk_rv {i : Nat} : LkE C (tVar i) (eRv i) := fun ρ σ B H Q S g => by
  unfold eRv at g
  cases h : slot ρ i with
  | none => rw [h] at g; exact g.elim
  | some c =>
    rw [h] at g
    obtain ⟨d, fl⟩ := c
    have hi := slot_some h
    cases fl with
    | sh =>
      obtain ⟨v, e, q⟩ := S.sl i _ hi
      rcases q with ⟨_, q⟩ | ⟨q, _⟩
      · exact ⟨v, e, g v B H S Ext.refl q⟩
      · exact absurd rfl q
    | ow =>
      obtain ⟨a, e, S1, x1, r⟩ := S.give hi
      exact ⟨.ref a, e, g _ B H S1 x1 r⟩
    | io => exact g.elim
theorem se_rv (i : Nat) {x : Str} (hN : X.N[i]? = some x := by rfl) (hv : Vis X.env.scope x := by first | exact Or.inl rfl | exact Or.inr (Or.inl rfl) | exact Or.inr (Or.inr rfl)) (hd : (x == ("__debug__" : Str)) = false := by decide)
    (hcd : (x == ("__classdict__" : Str)) = false := by decide) : SE X C (.Name x pos) (tVar i) (eRv i) := ⟨pe_var hN hv hd hcd, lk_rv⟩
/-- targets and tests of a comprehension -/
structure SGw (X : Cx) (C : Ct) (vs : List Nat) (tg : Expr) (t : TG) (f : D → Rho → Option Rho) : Prop where
  pg : PG X tg t
  lk : LkGw C vs t f
structure SGws (X : Cx) (C : Ct) (vs : List Nat) (tg : List Expr) (t : TGs) (f : List D → Rho → Option Rho) : Prop where
  pg : PGs X tg t
  lk : LkGws C vs t f
theorem sgw_name {i : Nat} {x : Str} (hN : X.N.Nodup) (hm : i ∈ vs := by simp) (hi : X.N[i]? = some x := by rfl) (hx : Loc X.env.scope x := by first | exact Or.inl rfl | exact Or.inr rfl)
    (hf : X.fn x = true ∨ X.env.scope.names.lookup x = some .local := by first | exact .inl rfl | exact .inr rfl | assumption) : SGw X C vs (.Name x pos) (gName i) (gN i) := ⟨pg_name hN hi hx hf, lkw_N hm⟩
theorem sgws_nil : SGws X C vs [] gNil gsN := ⟨pgs_nil, lkw_nil⟩
theorem sgws_cons {a : Expr} {as : List Expr} {tg : TG} {tgs : TGs} {f : D → Rho → Option Rho} {g : List D → Rho → Option Rho} (h : SGw X C vs a tg f) (t : SGws X C vs as tgs g) (hs : (assignEach (a :: as) X.env).map (·.2) = assign a X.env :: (assignEach as X.env).map (·.2) := by rfl) : SGws X C vs (a :: as) (gCons tg tgs) (gsC f g) := ⟨pgs_cons h.pg t.pg hs, lkw_C h.lk t.lk⟩
theorem sgw_tup {as : List Expr} {tgs : TGs} {n k : Nat} {g : List D → Rho → Option Rho} (hc : X.calm = true) (t : SGws X C vs as tgs g) (hk : X.K = C.K := by rfl) (hn : (assignEach as X.env).length = n := by rfl) (hst : (assignEach as X.env).findIdx? (·.1) = none := by rfl) : SGw X C vs (.Tuple as k pos) (gTup C.K n tgs) (gT n g) := ⟨by rw [← hk]; exact pg_tup hc t.pg hn hst, lkw_T t.lk⟩
structure SP (X : Cx) (C : Ct) (ifs : List Expr) (t : TT) (f : EF) : Prop where
  pt : PTs X ifs t
  lk : LkT C t f
def eYes : EF := fun ρ => .ok (.sh (.bool true)) ρ
theorem sp_nil : SP X C [] tYes eYes := ⟨pts_nil, fun ρ σ B H Q S g => g B H S Ext.refl⟩
theorem sp_one {t : TT} {f : EF} (h : ST X C e t f) : SP X C [e] t f := ⟨pts_one h.pt, h.lk⟩
abbrev bk (X : Cx) (scope : Scope) (s : Shared) (H : Hp) (c : Addr) (cl : List (Str × Addr)) (fp : List Addr) : Cx := X.blk s H scope (compEnvC scope cl c X.env) fp
theorem se_comp {elt it : Expr} {ifs : List Expr} {scope : Scope} {own : List (Str × Nat)} {w : TI} {tgt : TG} {tt : TT} {fi : IF} {g : D → Rho → Option Rho} {ft : EF} (hc : X.calm = true) (hN : X.N.Nodup) (ok : BlkOk X.N X.env.scope scope own) (li : SI X C tg it w fi)
    (hg : ∀ s H c cl fp, SGw (bk X scope s H c cl fp) C (own.map (·.2)) tg tgt g) (ht : ∀ s H c cl fp, SP (bk X scope s H c cl fp) C.nox ifs tt ft) (he : ∀ s H c cl fp, SE (bk X scope s H c cl fp) C.nox elt te fe)
    (hs : ∀ x, foldedSetIterable it X.env x = pure x := by intro _; rfl) : SE X C (.ListComp elt [⟨tg, it, ifs, 0⟩] scope pos) (tLc w tgt tt te (own.map (·.2))) (eLc (own.map (·.2)) fi g (eNox ft) (eNox fe)) :=
  se_lc hc hN li ok (fun s H c cl fp => (hg s H c cl fp).pg) (hg X.s_0 X.H_0 0 [] []).lk (fun s H c cl fp => (ht s H c cl fp).pt) (ht X.s_0 X.H_0 0 [] []).lk (fun s H c cl fp => (he s H c cl fp).pe) (he X.s_0 X.H_0 0 [] []).lk hs
/-- x = [..] -/
theorem ss_setLc {i : Nat} {y : Str} {py spos : Pos} {elt it : Expr} {ifs : List Expr} {scope : Scope} {own : List (Str × Nat)} {w : TI} {tgt : TG} {tt : TT} {fi : IF} {g : D → Rho → Option Rho} {ft : EF} (hc : X.calm = true) (hN : X.N.Nodup) (ok : BlkOk X.N X.env.scope scope own) (li : SI X C tg it w fi)
    (hg : ∀ s H c cl fp, SGw (bk X scope s H c cl fp) C (own.map (·.2)) tg tgt g) (ht : ∀ s H c cl fp, SP (bk X scope s H c cl fp) C.nox ifs tt ft) (he : ∀ s H c cl fp, SE (bk X scope s H c cl fp) C.nox elt te fe)
    (hsw : swapsWith (.ListComp elt [⟨tg, it, ifs, 0⟩] scope pos) (some (.Name y py)) spos.line X.env = pure true) (hy : X.N[i]? = some y := by rfl) (hyl : X.env.scope.names.lookup y = some .local := by rfl)
    (hs : ∀ x, foldedSetIterable it X.env x = pure x := by intro _; rfl) : SS X C (.Assign [.Name y py] (.ListComp elt [⟨tg, it, ifs, 0⟩] scope pos) spos) (tAsg (tLc w tgt tt te (own.map (·.2))) (gName i)) (sSet i (eLc (own.map (·.2)) fi g (eNox ft) (eNox fe))) :=
  ⟨ps_setLc hc hN hy hyl hsw li.pi ok (fun s H c cl fp => (hg s H c cl fp).pg) (fun s H c cl fp => (ht s H c cl fp).pt) (fun s H c cl fp => (he s H c cl fp).pe) hs,
    lk_set (lk_lc li.lk (hg X.s_0 X.H_0 0 [] []).lk (ht X.s_0 X.H_0 0 [] []).lk (he X.s_0 X.H_0 0 [] []).lk)⟩
end
theorem fn_of' {P : Program} {w : World} {K : KW} {mg : Str → Option Value} {base : Heap} {cv : Str → Value} {x qual : Str} {st : Stmt} {f : Addr} {fd : FuncData} (N : List Str) {ps : List Str} {k m n : Nat} {g : SF} (hm : N.length = m) (hn : ps.length = n) (F : Fun K x qual st f fd) (S : FnScope N ps (defScope st))
    (hb : ∀ (cdv : Value) (A : Around) (outer : List Env) (s : Shared) (H : Hp) (E : XK), Room k (cxF P w K mg base N qual st f cdv A outer s H E).A → Takes (cxF P w K mg base N qual st f cdv A outer s H E) (ctF K cv E).W →
      PassesOwn (model P w) (cxF P w K mg base N qual st f cdv A outer s H E).A (cxF P w K mg base N qual st f cdv A outer s H E).env (cxF P w K mg base N qual st f cdv A outer s H E).xe →
      ∃ t, SSs (cxF P w K mg base N qual st f cdv A outer s H E) (ctF K cv E) (defBody st) t g) :
    FnOk P w K mg base (L2.CX P w) (k + 1) f fd ps (spF K cv n (fnF m n g)) := by
  subst hm hn
  exact fn_mk F S hb
end GS
namespace GS
open PySem L2
section
variable {ρ ρ1 : Rho} {c : Prop} [Decidable c]
@[simp] theorem bindE_ok (h : Hd) (k : Hd → Rho → RE) : bindE (.ok h ρ) k = k h ρ := rfl
@[simp] theorem bindE_st (k : Hd → Rho → RE) : bindE .stuck k = .stuck := rfl
@[simp] theorem bindE_ex (x : Xc) (k : Hd → Rho → RE) : bindE (.exc x ρ) k = .exc x ρ := rfl
@[simp] theorem bindE_if (a b : RE) (k : Hd → Rho → RE) : bindE (if c then a else b) k = if c then bindE a k else bindE b k := by split <;> rfl
@[simp] theorem bindB_ok (b : Bool) (k : Bool → Rho → RE) : bindB (.ok (.sh (.bool b)) ρ) k = k b ρ := rfl
@[simp] theorem bindB_st (k : Bool → Rho → RE) : bindB .stuck k = .stuck := rfl
@[simp] theorem bindB_ex (x : Xc) (k : Bool → Rho → RE) : bindB (.exc x ρ) k = .exc x ρ := rfl
@[simp] theorem bindB_if (a b : RE) (k : Bool → Rho → RE) : bindB (if c then a else b) k = if c then bindB a k else bindB b k := by split <;> rfl
@[simp] theorem bindA_ok (h : List Hd) (k : List Hd → Rho → RE) : bindA (.ok h ρ) k = k h ρ := rfl
@[simp] theorem bindA_st (k : List Hd → Rho → RE) : bindA .stuck k = .stuck := rfl
@[simp] theorem bindA_ex (x : Xc) (k : List Hd → Rho → RE) : bindA (.exc x ρ) k = .exc x ρ := rfl
@[simp] theorem bindA_if (a b : RA) (k : List Hd → Rho → RE) : bindA (if c then a else b) k = if c then bindA a k else bindA b k := by split <;> rfl
@[simp] theorem bindES_ok (h : Hd) (k : Hd → Rho → RS) : bindES (.ok h ρ) k = k h ρ := rfl
@[simp] theorem bindES_st (k : Hd → Rho → RS) : bindES .stuck k = .stuck := rfl
@[simp] theorem bindES_ex (x : Xc) (k : Hd → Rho → RS) : bindES (.exc x ρ) k = .exc x ρ := rfl
@[simp] theorem bindES_if (a b : RE) (k : Hd → Rho → RS) : bindES (if c then a else b) k = if c then bindES a k else bindES b k := by split <;> rfl
@[simp] theorem bindBS_ok (b : Bool) (k : Bool → Rho → RS) : bindBS (.ok (.sh (.bool b)) ρ) k = k b ρ := rfl
@[simp] theorem bindBS_st (k : Bool → Rho → RS) : bindBS .stuck k = .stuck := rfl
@[simp] theorem bindBS_ex (x : Xc) (k : Bool → Rho → RS) : bindBS (.exc x ρ) k = .exc x ρ := rfl
@[simp] theorem bindBS_if (a b : RE) (k : Bool → Rho → RS) : bindBS (if c then a else b) k = if c then bindBS a k else bindBS b k := by split <;> rfl
@[simp] theorem bindEI_ok (h : Hd) (k : Hd → Rho → RI) : bindEI (.ok h ρ) k = k h ρ := rfl
@[simp] theorem bindEI_st (k : Hd → Rho → RI) : bindEI .stuck k = .stuck := rfl
@[simp] theorem bindEI_ex (x : Xc) (k : Hd → Rho → RI) : bindEI (.exc x ρ) k = .exc x ρ := rfl
@[simp] theorem bindEI_if (a b : RE) (k : Hd → Rho → RI) : bindEI (if c then a else b) k = if c then bindEI a k else bindEI b k := by split <;> rfl
@[simp] theorem bindS_nx (k : Rho → RS) : bindS (.nx ρ) k = k ρ := rfl
@[simp] theorem bindS_st (k : Rho → RS) : bindS .stuck k = .stuck := rfl
@[simp] theorem bindS_rt (h : Hd) (k : Rho → RS) : bindS (.rt h ρ) k = .rt h ρ := rfl
@[simp] theorem bindS_ex (x : Xc) (k : Rho → RS) : bindS (.exc x ρ) k = .exc x ρ := rfl
@[simp] theorem bindS_bk (k : Rho → RS) : bindS (.bk ρ) k = .bk ρ := rfl
@[simp] theorem bindS_ct (k : Rho → RS) : bindS (.ct ρ) k = .ct ρ := rfl
@[simp] theorem bindS_if (a b : RS) (k : Rho → RS) : bindS (if c then a else b) k = if c then bindS a k else bindS b k := by split <;> rfl
@[simp] theorem slot_nil (i : Nat) : slot [] i = none := rfl
@[simp] theorem slot_zero (x : Option Cel) : slot (x :: ρ) 0 = x := by cases x <;> rfl
@[simp] theorem slot_succ (x : Option Cel) (i : Nat) : slot (x :: ρ) (i + 1) = slot ρ i := rfl
@[simp] theorem getH_sh (d : D) : getH ρ (.sh d) = some d := rfl
@[simp] theorem getH_fr (d : D) : getH ρ (.fr d) = some d := rfl
@[simp] theorem getH_bw (i : Nat) : getH ρ (.bw i) = (slot ρ i).map (·.d) := rfl
@[simp] theorem setl_sh (d : D) : setl (.sh d) = .sh d := rfl
@[simp] theorem setl_fr (d : D) : setl (.fr d) = .sh d := rfl
@[simp] theorem setl_bw (i : Nat) : setl (.bw i) = .bw i := rfl
@[simp] theorem capH_sh (d : D) : capH ρ (.sh d) = some d := rfl
@[simp] theorem capH_fr (d : D) : capH ρ (.fr d) = some d := rfl
@[simp] theorem capH_bw (i : Nat) : capH ρ (.bw i) = match slot ρ i with | some ⟨d, .sh⟩ => some d | _ => none := rfl
@[simp] theorem eC_eq (d : D) : eC d ρ = .ok (.sh d) ρ := rfl
@[simp] theorem eVb_eq (i : Nat) : eVb i ρ = match slot ρ i with | some _ => .ok (.bw i) ρ | none => .stuck := rfl
@[simp] theorem eMv_eq (i : Nat) : eMv i ρ = match slot ρ i with | some ⟨d, .sh⟩ => .ok (.sh d) ρ | some ⟨d, .ow⟩ => .ok (.sh d) (ρ.set i (some ⟨d, .sh⟩)) | _ => .stuck := rfl
@[simp] theorem eRv_eq (i : Nat) : eRv i ρ = match slot ρ i with | some ⟨d, .sh⟩ => .ok (.sh d) ρ | some ⟨d, .ow⟩ => .ok (.fr d) (ρ.set i none) | _ => .stuck := rfl
@[simp] theorem eCap_eq (f : EF) : eCap f ρ = bindE (f ρ) fun h ρ' => match capH ρ' h with | some d => .ok (.sh d) ρ' | none => .stuck := rfl
@[simp] theorem eSet_eq (f : EF) : eSet f ρ = bindE (f ρ) fun h ρ' => .ok (setl h) ρ' := rfl
/-- of two data -/
def resO (o : Option Hd) (ρ : Rho) : RE := match o with | some h => .ok h ρ | none => .stuck
@[simp] theorem resO_s (h : Hd) : resO (some h) ρ = .ok h ρ := rfl
@[simp] theorem resO_n : resO none ρ = .stuck := rfl
@[simp] theorem resO_if (a b : Option Hd) : resO (if c then a else b) ρ = if c then resO a ρ else resO b ρ := by split <;> rfl
def bin2 (o : D → D → Option Hd) (a b : Option D) (ρ : Rho) : RE := match a, b with
  | some x, some y => resO (o x y) ρ
  | _, _ => .stuck
@[simp] theorem bin2_s (o : D → D → Option Hd) (x y : D) : bin2 o (some x) (some y) ρ = resO (o x y) ρ := rfl
@[simp] theorem eBin_eq (o : D → D → Option Hd) (f g : EF) : eBin o f g ρ = bindE (eSet f ρ) fun ha ρ1 => bindE (eSet g ρ1) fun hb ρ2 => bin2 o (getH ρ2 ha) (getH ρ2 hb) ρ2 := by
  unfold eBin bin2 resO
  rfl
def chn (o' : D → D → Option Hd) (hb : Hd) (fc : EF) (r : Option Hd) (ρ2 : Rho) : RE := match r with
  | some (.sh (.bool b)) => if b then bindE (eSet fc ρ2) (fun hc ρ3 => bin2 o' (getH ρ3 hb) (getH ρ3 hc) ρ3) else .ok (.sh (.bool false)) ρ2
  | _ => .stuck
@[simp] theorem chn_b (o' : D → D → Option Hd) (hb : Hd) (fc : EF) (b : Bool) : chn o' hb fc (some (.sh (.bool b))) ρ = if b then bindE (eSet fc ρ) (fun hc ρ3 => bin2 o' (getH ρ3 hb) (getH ρ3 hc) ρ3) else .ok (.sh (.bool false)) ρ := rfl
def chn0 (o o' : D → D → Option Hd) (hb : Hd) (fc : EF) (a b : Option D) (ρ2 : Rho) : RE := match a, b with
  | some x, some y => chn o' hb fc (o x y) ρ2
  | _, _ => .stuck
@[simp] theorem chn0_s (o o' : D → D → Option Hd) (hb : Hd) (fc : EF) (x y : D) : chn0 o o' hb fc (some x) (some y) ρ = chn o' hb fc (o x y) ρ := rfl
@[simp] theorem eChain_eq (o o' : D → D → Option Hd) (fa fb fc : EF) : eChain o o' fa fb fc ρ = bindE (eSet fa ρ) fun ha ρ1 => bindE (eSet fb ρ1) fun hb ρ2 => chn0 o o' hb fc (getH ρ2 ha) (getH ρ2 hb) ρ2 := by
  unfold eChain chn0 chn bin2 resO
  rfl
def tst (d : Option D) (ρ : Rho) : RE := match d with
  | some (.bool b) => .ok (.sh (.bool b)) ρ
  | _ => .stuck
@[simp] theorem tst_b (b : Bool) : tst (some (.bool b)) ρ = .ok (.sh (.bool b)) ρ := rfl
@[simp] theorem eB_eq (f : EF) : eB f ρ = bindE (eSet f ρ) fun h ρ1 => tst (getH ρ1 h) ρ1 := by unfold eB tst; rfl
@[simp] theorem eNot_eq (f : EF) : eNot f ρ = bindB (f ρ) fun b ρ1 => .ok (.sh (.bool (!b))) ρ1 := rfl
@[simp] theorem eAnd_eq (f g : EF) : eAnd f g ρ = bindB (f ρ) fun b ρ1 => if b then g ρ1 else .ok (.sh (.bool false)) ρ1 := rfl
@[simp] theorem eOr_eq (f g : EF) : eOr f g ρ = bindB (f ρ) fun b ρ1 => if b then .ok (.sh (.bool true)) ρ1 else g ρ1 := rfl
@[simp] theorem eIf_eq (f g h : EF) : eIf f g h ρ = bindB (f ρ) fun b ρ1 => if b then g ρ1 else h ρ1 := rfl
def negR (d : Option D) (ρ : Rho) : RE := match d with
  | some (.int i) => .ok (.sh (.int (-i))) ρ
  | _ => .stuck
@[simp] theorem negR_i (i : Int) : negR (some (.int i)) ρ = .ok (.sh (.int (-i))) ρ := rfl
@[simp] theorem eNeg_eq (f : EF) : eNeg f ρ = bindE (eSet f ρ) fun h ρ1 => negR (getH ρ1 h) ρ1 := by unfold eNeg negR; rfl
@[simp] theorem ePart_n (k : Option Int → Rho → RE) : ePart none ρ k = k none ρ := rfl
def partR (d : Option D) (ρ : Rho) (k : Option Int → Rho → RE) : RE := match d with
  | some (.int i) => k (some i) ρ
  | _ => .stuck
@[simp] theorem partR_i (i : Int) (k : Option Int → Rho → RE) : partR (some (.int i)) ρ k = k (some i) ρ := rfl
@[simp] theorem ePart_s (f : EF) (k : Option Int → Rho → RE) : ePart (some f) ρ k = bindE (eSet f ρ) fun h ρ1 => partR (getH ρ1 h) ρ1 k := by unfold ePart partR; rfl
@[simp] theorem eSl_eq (fe : EF) (fl fh : Option EF) : eSl fe fl fh ρ = bindE (eSet fe ρ) fun h ρ1 => ePart fl ρ1 fun lo ρ2 => ePart fh ρ2 fun hi ρ3 => resO ((getH ρ3 h).bind (slD lo hi)) ρ3 := by unfold eSl resO; rfl
@[simp] theorem aNil_eq : aNil ρ = .ok [] ρ := rfl
def consA (h : Hd) (r : RA) : RA := match r with
  | .stuck => .stuck
  | .exc x ρ2 => .exc x ρ2
  | .ok hs ρ2 => .ok (h :: hs) ρ2
def bindEA (r : RE) (k : Hd → Rho → RA) : RA := match r with
  | .stuck => .stuck
  | .exc x ρ1 => .exc x ρ1
  | .ok h ρ1 => k h ρ1
@[simp] theorem bindEA_ok (h : Hd) (k : Hd → Rho → RA) : bindEA (.ok h ρ) k = k h ρ := rfl
@[simp] theorem bindEA_st (k : Hd → Rho → RA) : bindEA .stuck k = .stuck := rfl
@[simp] theorem bindEA_ex (x : Xc) (k : Hd → Rho → RA) : bindEA (.exc x ρ) k = .exc x ρ := rfl
@[simp] theorem bindEA_if (a b : RE) (k : Hd → Rho → RA) : bindEA (if c then a else b) k = if c then bindEA a k else bindEA b k := by split <;> rfl
@[simp] theorem consA_ok (h : Hd) (hs : List Hd) : consA h (.ok hs ρ) = .ok (h :: hs) ρ := rfl
@[simp] theorem consA_st (h : Hd) : consA h .stuck = .stuck := rfl
@[simp] theorem consA_if (h : Hd) (a b : RA) : consA h (if c then a else b) = if c then consA h a else consA h b := by split <;> rfl
@[simp] theorem aCons_eq (f : EF) (g : AF) : aCons f g ρ = bindEA (eSet f ρ) fun h ρ1 => consA h (g ρ1) := by unfold aCons bindEA consA; rfl
@[simp] theorem shs_nil : shs [] = some [] := rfl
@[simp] theorem shs_cons (d : D) (hs : List Hd) : shs (.sh d :: hs) = (shs hs).map (d :: ·) := rfl
def tupR (d : Option (List D)) (ρ : Rho) : RE := match d with
  | some ds => if ds.length ≤ 1000 then .ok (.sh (.tuple ds)) ρ else .stuck
  | none => .stuck
def lstR (d : Option (List D)) (ρ : Rho) : RE := match d with
  | some ds => if ds.length ≤ 1000 then .ok (.fr (.list ds)) ρ else .stuck
  | none => .stuck
@[simp] theorem tupR_s (ds : List D) : tupR (some ds) ρ = if ds.length ≤ 1000 then .ok (.sh (.tuple ds)) ρ else .stuck := rfl
@[simp] theorem lstR_s (ds : List D) : lstR (some ds) ρ = if ds.length ≤ 1000 then .ok (.fr (.list ds)) ρ else .stuck := rfl
@[simp] theorem eTup_eq (f : AF) : eTup f ρ = bindA (f ρ) fun hs ρ1 => tupR (shs hs) ρ1 := by unfold eTup tupR; rfl
@[simp] theorem eLst_eq (f : AF) : eLst f ρ = bindA (f ρ) fun hs ρ1 => lstR (shs hs) ρ1 := by unfold eLst lstR; rfl
@[simp] theorem gets_nil : gets ρ [] = some [] := rfl
def cons2 (a : Option D) (b : Option (List D)) : Option (List D) := match a, b with
  | some d, some ds => some (d :: ds)
  | _, _ => none
@[simp] theorem cons2_s (d : D) (ds : List D) : cons2 (some d) (some ds) = some (d :: ds) := rfl
@[simp] theorem gets_cons (h : Hd) (hs : List Hd) : gets ρ (h :: hs) = cons2 (getH ρ h) (gets ρ hs) := by
  unfold cons2
  rw [gets]
  try rfl
@[simp] theorem eCB_eq (o : List D → Option Hd) (f : AF) : eCB o f ρ = bindA (f ρ) fun hs ρ1 => resO ((gets ρ1 hs).bind o) ρ1 := by unfold eCB resO; rfl
@[simp] theorem un1_1 (o : D → Option Hd) (d : D) : un1 o [d] = o d := rfl
@[simp] theorem un2_2 (o : D → D → Option Hd) (d e : D) : un2 o [d, e] = o d e := rfl
def isiR (p : D → Bool) (d : Option D) (ρ : Rho) : RE := match d with
  | some d => .ok (.sh (.bool (p d))) ρ
  | none => .stuck
@[simp] theorem isiR_s (p : D → Bool) (d : D) : isiR p (some d) ρ = .ok (.sh (.bool (p d))) ρ := rfl
@[simp] theorem eIsi_eq (p : D → Bool) (f : EF) : eIsi p f ρ = bindE (eSet f ρ) fun h ρ1 => isiR p (getH ρ1 h) ρ1 := by unfold eIsi isiR; rfl
@[simp] theorem sNil_eq : sNil ρ = .nx ρ := rfl
@[simp] theorem sSeq_eq (f g : SF) : sSeq f g ρ = bindS (f ρ) g := rfl
@[simp] theorem sDrop_eq (f : EF) : sDrop f ρ = bindES (f ρ) fun _ ρ1 => .nx ρ1 := rfl
def retR (h : Hd) (ρ : Rho) : RS := match h with
  | .bw i => match capH ρ (.bw i) with
    | some d => .rt (.sh d) ρ
    | none => .stuck
  | h => .rt h ρ
@[simp] theorem retR_sh (d : D) : retR (.sh d) ρ = .rt (.sh d) ρ := rfl
@[simp] theorem retR_fr (d : D) : retR (.fr d) ρ = .rt (.fr d) ρ := rfl
@[simp] theorem sRet_eq (f : EF) : sRet f ρ = bindES (f ρ) retR := by unfold sRet; rfl
@[simp] theorem sIf_eq (ft : EF) (f g : SF) : sIf ft f g ρ = bindBS (ft ρ) fun b ρ1 => if b then f ρ1 else g ρ1 := rfl
@[simp] theorem ioAt_nil (i : Nat) : ioAt [] i = false := rfl
@[simp] theorem ioAt_zn : ioAt (none :: ρ) 0 = false := rfl
@[simp] theorem ioAt_zs (d : D) : ioAt (some ⟨d, .sh⟩ :: ρ) 0 = false := rfl
@[simp] theorem ioAt_zo (d : D) : ioAt (some ⟨d, .ow⟩ :: ρ) 0 = false := rfl
@[simp] theorem ioAt_succ (x : Option Cel) (i : Nat) : ioAt (x :: ρ) (i + 1) = ioAt ρ i := rfl
@[simp] theorem sSet_eq (i : Nat) (f : EF) : sSet i f ρ = bindES (f ρ) fun h ρ1 => setHd ρ1 i h := rfl
@[simp] theorem setHd_sh (i : Nat) (d : D) : setHd ρ i (.sh d) = setR ρ i ⟨d, .sh⟩ := rfl
@[simp] theorem setHd_fr (i : Nat) (d : D) : setHd ρ i (.fr d) = setR ρ i ⟨d, .ow⟩ := rfl
def bindI (r : RI) (k : List D → Rho → RS) : RS := match r with
  | .stuck => .stuck
  | .exc x ρ1 => .exc x ρ1
  | .ok ds ρ1 => k ds ρ1
@[simp] theorem bindI_ok (ds : List D) (k : List D → Rho → RS) : bindI (.ok ds ρ) k = k ds ρ := rfl
@[simp] theorem bindI_st (k : List D → Rho → RS) : bindI .stuck k = .stuck := rfl
@[simp] theorem bindI_if (a b : RI) (k : List D → Rho → RS) : bindI (if c then a else b) k = if c then bindI a k else bindI b k := by split <;> rfl
@[simp] theorem sFor_eq (fi : IF) (g : D → Rho → Option Rho) (b : SF) : sFor fi g b ρ = bindI (fi ρ) fun ds ρ1 => forL g b ds ρ1 := by unfold sFor bindI; rfl
def seqR (h : Hd) (ρ : Rho) : RI := match h with
  | .sh d => match items d with
    | some ds => .ok ds ρ
    | none => .stuck
  | _ => .stuck
@[simp] theorem seqR_l (ds : List D) : seqR (.sh (.list ds)) ρ = .ok ds ρ := rfl
@[simp] theorem seqR_t (ds : List D) : seqR (.sh (.tuple ds)) ρ = .ok ds ρ := rfl
@[simp] theorem seqR_s (z : Str) : seqR (.sh (.str z)) ρ = .ok (z.cps.toList.map fun c => .str ⟨#[c]⟩) ρ := rfl
@[simp] theorem iSq_eq (f : EF) : iSq f ρ = bindEI (eCap f ρ) seqR := by unfold iSq; rfl
def rgR (d : Option D) (ρ : Rho) : RI := match d with
  | some (.int j) => if okR j then .ok (rgD 0 j.toNat) ρ else .stuck
  | _ => .stuck
@[simp] theorem rgR_i (j : Int) : rgR (some (.int j)) ρ = if okR j then .ok (rgD 0 j.toNat) ρ else .stuck := rfl
@[simp] theorem iR1_eq (f : EF) : iR1 f ρ = bindEI (eSet f ρ) fun h ρ1 => rgR (getH ρ1 h) ρ1 := by unfold iR1 rgR; rfl
def bindIE (r : RI) (k : List D → Rho → RE) : RE := match r with
  | .stuck => .stuck
  | .exc x ρ1 => .exc x ρ1
  | .ok ds ρ1 => k ds ρ1
@[simp] theorem bindIE_ok (ds : List D) (k : List D → Rho → RE) : bindIE (.ok ds ρ) k = k ds ρ := rfl
@[simp] theorem bindIE_st (k : List D → Rho → RE) : bindIE .stuck k = .stuck := rfl
@[simp] theorem bindIE_if (a b : RI) (k : List D → Rho → RE) : bindIE (if c then a else b) k = if c then bindIE a k else bindIE b k := by split <;> rfl
@[simp] theorem eLc_eq (vs : List Nat) (fi : IF) (g : D → Rho → Option Rho) (ft fe : EF) : eLc vs fi g ft fe ρ = bindIE (fi ρ) fun ds ρ1 => if vs.all fun i => !ioAt ρ1 i then lcL vs g ft fe ds [] (wipeR ρ1 vs) else .stuck := by unfold eLc bindIE; rfl
@[simp] theorem eNox_eq (f : EF) : eNox f ρ = match f ρ with | .exc _ _ => .stuck | r => r := rfl
@[simp] theorem wipeR_nil : wipeR ρ [] = ρ := rfl
@[simp] theorem wipeR_cons (v : Nat) (vs : List Nat) : wipeR ρ (v :: vs) = (wipeR ρ vs).set v none := rfl
@[simp] theorem addD_i (i j : Int) : addD (.int i) (.int j) = some (.sh (.int (i + j))) := rfl
@[simp] theorem addD_s (i j : Str) : addD (.str i) (.str j) = if i.length + j.length ≤ sizeLine then some (.sh (.str (i ++ j))) else none := rfl
@[simp] theorem addD_t (i j : List D) : addD (.tuple i) (.tuple j) = if i.length + j.length ≤ sizeLine then some (.sh (.tuple (i ++ j))) else none := rfl
@[simp] theorem addD_l (i j : List D) : addD (.list i) (.list j) = if i.length + j.length ≤ sizeLine then some (.fr (.list (i ++ j))) else none := rfl
@[simp] theorem subD_i (i j : Int) : subD (.int i) (.int j) = some (.sh (.int (i - j))) := rfl
theorem mulD_i (i j : Int) : mulD (.int i) (.int j) = if cMul i j then some (.sh (.int (i * j))) else none := rfl
theorem divD_i (i j : Int) : divD (.int i) (.int j) = if decide (0 < j) && Nat.ble j.natAbs 1073741823 then some (.sh (.int (i / j))) else none := rfl
theorem modD_i (i j : Int) : modD (.int i) (.int j) = if decide (0 < j) then some (.sh (.int (i % j))) else none := rfl
@[simp] theorem resO_div {i j : Int} (h0 : 0 < j) (h1 : j < 1073741824) : resO (divD (.int i) (.int j)) ρ = .ok (.sh (.int (i / j))) ρ := by
  rw [divD_i, decide_eq_true h0, Nat.ble_eq_true_of_le (show j.natAbs ≤ 1073741823 by omega)]; rfl
@[simp] theorem resO_mod {i j : Int} (h0 : 0 < j) : resO (modD (.int i) (.int j)) ρ = .ok (.sh (.int (i % j))) ρ := by
  rw [modD_i, decide_eq_true h0]; rfl
@[simp] theorem resO_mul {i j : Int} (h : cMul i j = true) : resO (mulD (.int i) (.int j)) ρ = .ok (.sh (.int (i * j))) ρ := by
  rw [mulD_i, h]; rfl
theorem cMul_l {i j : Int} (h : i.natAbs < 18446744073709551616) : cMul i j = true := by
  unfold cMul
  rw [Nat.ble_eq_true_of_le (show i.natAbs ≤ 18446744073709551615 by omega), Bool.true_or]
theorem powD_i (i j : Int) : powD (.int i) (.int j) = if decide (0 ≤ j) && Nat.ble j.natAbs 1000000 && Nat.ble i.natAbs 18446744073709551615 then some (.sh (.int (i ^ j.toNat))) else none := rfl
@[simp] theorem resO_pow {i j : Int} (h0 : 0 ≤ j) (h1 : j ≤ 1000000) (h2 : i.natAbs < 18446744073709551616) : resO (powD (.int i) (.int j)) ρ = .ok (.sh (.int (i ^ j.toNat))) ρ := by
  rw [powD_i, decide_eq_true h0, Nat.ble_eq_true_of_le (show j.natAbs ≤ 1000000 by omega), Nat.ble_eq_true_of_le (show i.natAbs ≤ 18446744073709551615 by omega)]; rfl
@[simp] theorem ltI_i (f : Int → Int → Bool) (i j : Int) : ltI f (.int i) (.int j) = some (.sh (.bool (f i j))) := rfl
@[simp] theorem lenD_l (ds : List D) : lenD (.list ds) = some (.sh (.int ds.length)) := rfl
@[simp] theorem lenD_t (ds : List D) : lenD (.tuple ds) = some (.sh (.int ds.length)) := rfl
@[simp] theorem lenD_s (z : Str) : lenD (.str z) = if z.length ≤ sizeLine then some (.sh (.int z.length)) else none := rfl
@[simp] theorem ixD_l (ds : List D) (i : Int) : ixD (.list ds) (.int i) = (atI ds i).map Hd.sh := rfl
@[simp] theorem ixD_t (ds : List D) (i : Int) : ixD (.tuple ds) (.int i) = (atI ds i).map Hd.sh := rfl
@[simp] theorem ixD_s (z : Str) (i : Int) : ixD (.str z) (.int i) = if z.length ≤ sizeLine then (atI z.cps.toList i).map fun c => Hd.sh (.str ⟨#[c]⟩) else none := rfl
@[simp] theorem slD_l (lo hi : Option Int) (ds : List D) : slD lo hi (.list ds) = some (.fr (.list (cutD ds lo hi))) := rfl
@[simp] theorem slD_t (lo hi : Option Int) (ds : List D) : slD lo hi (.tuple ds) = some (.sh (.tuple (cutD ds lo hi))) := rfl
@[simp] theorem slD_s (lo hi : Option Int) (z : Str) : slD lo hi (.str z) = if z.length ≤ sizeLine then some (.sh (.str (cutS z lo hi))) else none := rfl
@[simp] theorem listD_l (ds : List D) : listD (.list ds) = some (.fr (.list ds)) := rfl
@[simp] theorem listD_t (ds : List D) : listD (.tuple ds) = some (.fr (.list ds)) := rfl
@[simp] theorem tupleD_l (ds : List D) : tupleD (.list ds) = some (.sh (.tuple ds)) := rfl
@[simp] theorem tupleD_t (ds : List D) : tupleD (.tuple ds) = some (.sh (.tuple ds)) := rfl
@[simp] theorem inD_c (neg : Bool) (c : Nat) (z : Str) : inD neg (.str ⟨#[c]⟩) (.str z) = some (.sh (.bool (neg ^^ decide (c ∈ z.cps.toList)))) := rfl
end
end GS
namespace GS
open PySem L2
section
variable {ρ ρ1 : Rho} {c : Prop} [Decidable c]
/-- a def's end -/
def finR (n : Nat) (r : RS) : RE := match r with
  | .rt (.bw _) _ => .stuck
  | .rt h ρ1 => .ok h (outR ρ1 n)
  | .nx ρ1 => .ok (.sh .none) (outR ρ1 n)
  | .exc x ρ1 => .exc x (outR ρ1 n)
  | _ => .stuck
@[simp] theorem finR_sh (n : Nat) (d : D) : finR n (.rt (.sh d) ρ) = .ok (.sh d) (outR ρ n) := rfl
@[simp] theorem finR_fr (n : Nat) (d : D) : finR n (.rt (.fr d) ρ) = .ok (.fr d) (outR ρ n) := rfl
@[simp] theorem finR_nx (n : Nat) : finR n (.nx ρ) = .ok (.sh .none) (outR ρ n) := rfl
@[simp] theorem finR_ex (n : Nat) (x : Xc) : finR n (.exc x ρ) = .exc x (outR ρ n) := rfl
@[simp] theorem finR_if (n : Nat) (a b : RS) : finR n (if c then a else b) = if c then finR n a else finR n b := by split <;> rfl
theorem fnF_eq (m n : Nat) (g : SF) : fnF m n g ρ = finR n (g (ρ ++ List.replicate (m - n) none)) := by unfold fnF finR; rfl
@[simp] theorem ioC_sh (d : D) : ioC (some ⟨d, .sh⟩) = none := rfl
@[simp] theorem ioC_ow (d : D) : ioC (some ⟨d, .ow⟩) = none := rfl
@[simp] theorem ioC_io (d : D) : ioC (some ⟨d, .io⟩) = some ⟨d, .io⟩ := rfl
@[simp] theorem ioC_no : ioC none = none := rfl
/-- a call -/
def backR (ρ1 : Rho) (io : Option Nat) (hs : List Hd) (r : RE) : RE := match r with
    | .stuck => .stuck
    | .ok h outs => match h, putB ρ1 io hs outs with
      | .bw _, _ => .stuck
      | _, none => .stuck
      | _, some ρ2 => .ok h ρ2
    | .exc x outs => match putB ρ1 io hs outs with
      | none => .stuck
      | some ρ2 => .exc x ρ2
@[simp] theorem backR_sh (d : D) (hs : List Hd) (outs : Rho) : backR ρ none hs (.ok (.sh d) outs) = .ok (.sh d) ρ := rfl
@[simp] theorem backR_fr (d : D) (hs : List Hd) (outs : Rho) : backR ρ none hs (.ok (.fr d) outs) = .ok (.fr d) ρ := rfl
@[simp] theorem backR_ex (x : Xc) (hs : List Hd) (outs : Rho) : backR ρ none hs (.exc x outs) = .exc x ρ := rfl
@[simp] theorem backR_if (io : Option Nat) (hs : List Hd) (a b : RE) : backR ρ io hs (if c then a else b) = if c then backR ρ io hs a else backR ρ io hs b := by split <;> rfl
def callR (n : Nat) (io : Option Nat) (F : FF) (hs : List Hd) (ρ1 : Rho) (a : Option Rho) : RE := match a with
  | none => .stuck
  | some ρ0 => if ρ0.length ≠ n then .stuck else backR ρ1 io hs (F ρ0)
@[simp] theorem callR_s (n : Nat) (io : Option Nat) (F : FF) (hs : List Hd) (ρ0 : Rho) : callR n io F hs ρ (some ρ0) = if ρ0.length ≠ n then .stuck else backR ρ io hs (F ρ0) := rfl
@[simp] theorem eCall_eq (n : Nat) (io : Option Nat) (F : FF) (fs : AF) : eCall n io F fs ρ = bindA (fs ρ) fun hs ρ1 => callR n io F hs ρ1 (args ρ1 io 0 hs) := by
  unfold eCall callR backR
  rfl
@[simp] theorem args_nil (io : Option Nat) (k : Nat) : args ρ io k [] = some [] := rfl
def consC (a : Option Cel) (b : Option Rho) : Option Rho := match a, b with
  | some c, some r => some (some c :: r)
  | _, _ => none
@[simp] theorem consC_s (c : Cel) (r : Rho) : consC (some c) (some r) = some (some c :: r) := rfl
@[simp] theorem args_cons (io : Option Nat) (k : Nat) (h : Hd) (hs : List Hd) : args ρ io k (h :: hs) = consC (argC ρ (decide (io = some k)) h) (args ρ io (k + 1) hs) := by
  unfold consC
  rw [args]
  try rfl
@[simp] theorem argC_shf (d : D) : argC ρ false (.sh d) = some ⟨d, .sh⟩ := rfl
theorem okR_nat {m : Nat} (h : m ≤ 1000000000) : okR (m : Int) = true := by
  unfold okR
  rw [Int.natAbs_natCast]
  exact Nat.ble_eq_true_of_le h
@[simp] theorem forL_nil (g : D → Rho → Option Rho) (b : SF) : forL g b [] ρ = .nx ρ := rfl
/-- one turn's end -/
def turnR (k : Rho → RS) (r : RS) : RS := match r with
  | .nx ρ2 => k ρ2
  | .ct ρ2 => k ρ2
  | .bk ρ2 => .nx ρ2
  | r => r
@[simp] theorem turnR_nx (k : Rho → RS) : turnR k (.nx ρ) = k ρ := rfl
@[simp] theorem turnR_ct (k : Rho → RS) : turnR k (.ct ρ) = k ρ := rfl
@[simp] theorem turnR_bk (k : Rho → RS) : turnR k (.bk ρ) = .nx ρ := rfl
@[simp] theorem turnR_rt (k : Rho → RS) (h : Hd) : turnR k (.rt h ρ) = .rt h ρ := rfl
@[simp] theorem turnR_ex (k : Rho → RS) (x : Xc) : turnR k (.exc x ρ) = .exc x ρ := rfl
@[simp] theorem turnR_st (k : Rho → RS) : turnR k .stuck = .stuck := rfl
@[simp] theorem turnR_if (k : Rho → RS) (a b : RS) : turnR k (if c then a else b) = if c then turnR k a else turnR k b := by split <;> rfl
def optR (o : Option Rho) (k : Rho → RS) : RS := match o with
  | none => .stuck
  | some ρ1 => k ρ1
@[simp] theorem optR_s (k : Rho → RS) : optR (some ρ) k = k ρ := rfl
theorem forL_cons (g : D → Rho → Option Rho) (b : SF) (d : D) (ds : List D) : forL g b (d :: ds) ρ = optR (g d ρ) fun ρ1 => turnR (forL g b ds) (b ρ1) := by
  unfold optR turnR
  rw [forL]
  try rfl
def optE (o : Option Rho) (k : Rho → RE) : RE := match o with
  | none => .stuck
  | some ρ1 => k ρ1
@[simp] theorem optE_s (k : Rho → RE) : optE (some ρ) k = k ρ := rfl
theorem lcL_nil (vs : List Nat) (g : D → Rho → Option Rho) (ft fe : EF) (acc : List D) : lcL vs g ft fe [] acc ρ = .ok (.fr (.list acc)) ρ := rfl
def lcR (acc : List D) (k : List D → Rho → RE) (h : Hd) (ρ3 : Rho) : RE := match h with
  | .sh y => if acc.length < sizeLine then k (acc ++ [y]) ρ3 else .stuck
  | _ => .stuck
@[simp] theorem lcR_s (acc : List D) (k : List D → Rho → RE) (y : D) : lcR acc k (.sh y) ρ = if acc.length < sizeLine then k (acc ++ [y]) ρ else .stuck := rfl
theorem lcL_cons (vs : List Nat) (g : D → Rho → Option Rho) (ft fe : EF) (d : D) (ds acc : List D) : lcL vs g ft fe (d :: ds) acc ρ = optE (g d ρ) fun ρ1 => bindB (ft ρ1) fun c ρ2 => if c then bindE (eCap fe ρ2) (lcR acc fun acc' ρ3 => lcL vs g ft fe ds acc' (wipeR ρ3 vs)) else lcL vs g ft fe ds acc (wipeR ρ2 vs) := by
  unfold optE lcR
  rw [lcL]
  try rfl
@[simp] theorem gN_eq (i : Nat) (d : D) : gN i d ρ = if i < ρ.length && !ioAt ρ i then some (ρ.set i (some ⟨d, .sh⟩)) else none := rfl
@[simp] theorem optR_if (a b : Option Rho) (k : Rho → RS) : optR (if c then a else b) k = if c then optR a k else optR b k := by split <;> rfl
@[simp] theorem optE_if (a b : Option Rho) (k : Rho → RE) : optE (if c then a else b) k = if c then optE a k else optE b k := by split <;> rfl
@[simp] theorem setR_eq (i : Nat) (c : Cel) : setR ρ i c = if i < ρ.length && !ioAt ρ i then .nx (ρ.set i (some c)) else .stuck := rfl
theorem rgD_mid {lo : Int} {n : Nat} {pre : List D} {d : D} {post : List D} (h : rgD lo n = pre ++ d :: post) : pre.length < n ∧ d = .int (lo + (pre.length : Int)) := by
  have hl : (rgD lo n).length = n := by unfold rgD; rw [List.length_map, List.length_range]
  have h2 : (rgD lo n)[pre.length]? = some d := by rw [h, List.getElem?_append_right (Nat.le_refl _), Nat.sub_self]; rfl
  have h3 : pre.length < n := by rw [← hl]; exact (List.getElem?_eq_some_iff.mp h2).1
  refine ⟨h3, ?_⟩
  unfold rgD at h2
  rw [List.getElem?_map, List.getElem?_range h3] at h2
  exact (Option.some.inj h2).symm
theorem rgD_len (lo : Int) (n : Nat) : (rgD lo n).length = n := by unfold rgD; rw [List.length_map, List.length_range]
@[simp] theorem atI_zero {α : Type} (x : α) (xs : List α) : atI (x :: xs) 0 = some x := by
  have := atI_nat (xs := x :: xs) (j := 0) (v := x) rfl
  exact this
theorem atI_lt {α : Type} {xs : List α} {i : Int} (h0 : 0 ≤ i) (h1 : i < xs.length) : ∃ x, atI xs i = some x ∧ x ∈ xs := by
  have hk : i.toNat < xs.length := by omega
  have e : i = ((i.toNat : Nat) : Int) := by omega
  have q := atI_nat (xs := xs) (List.getElem?_eq_getElem hk)
  rw [← e] at q
  exact ⟨_, q, List.getElem_mem hk⟩
end
end GS
namespace GS
open PySem L2
def kEq : D → D → Bool
  | .int i, .int j => decide (i = j)
  | .str i, .str j => decide (i = j)
  | .tuple xs, .tuple ys => match tkD xs, tkD ys with
    | some k, some l => decide (k = l)
    | _, _ => false
  | _, _ => false
/-- ints and texts -/
def isS : D → Bool
  | .int _ => true
  | .str _ => true
  | _ => false
/-- what may be a key -/
def isK : D → Bool
  | .int _ => true
  | .str _ => true
  | .tuple ds => (tkD ds).isSome
  | _ => false
/-- a key of another sort than the dict's first -/
def mixB (ps : List (D × D)) (k : D) : Bool := match ps with
  | [] => false
  | p :: _ => tupB p.1 != tupB k
def dGet : List (D × D) → D → Option D
  | [], _ => none
  | (a, d) :: r, k => if kEq a k then some d else dGet r k
def dPut (ps : List (D × D)) (k v : D) : List (D × D) := if ps.any (fun p => kEq p.1 k) then ps.map (fun p => if kEq p.1 k then (p.1, v) else p) else ps ++ [(k, v)]
theorem isS_k {d : D} (h : isS d = true) : ∃ k, d = kD k := by
  cases d <;> first | (cases h; done) | skip
  · exact ⟨.inl _, rfl⟩
  · exact ⟨.inr _, rfl⟩
theorem tkD_tup {ds : List D} {k : NestedKey} (h : tkD ds = some k) : ∃ ks, k = .tup ks ∧ nkL ds = some ks ∧ k.depth ≤ 8 := by
  obtain ⟨ks, e1, e2⟩ := Option.bind_eq_some_iff.mp h
  obtain ⟨c, rfl⟩ := if_some e2
  exact ⟨ks, rfl, e1, c⟩
theorem isK_key {d : D} (h : isK d = true) : ∃ k, keyD d = some k := by
  cases d <;> first | (cases h; done) | skip
  · exact ⟨_, rfl⟩
  · exact ⟨_, rfl⟩
  · exact ⟨_, Option.some_get h |>.symm⟩
theorem kEq_key {a b : D} {k l : NestedKey} (ha : keyD a = some k) (hb : keyD b = some l) : kEq a b = decide (k = l) := by
  cases a <;> first | (cases ha; done) | skip
  · cases b <;> first | (cases hb; done) | skip
    · cases ha; cases hb; simp [kEq]
    · cases ha; cases hb; simp [kEq]
    · cases ha
      obtain ⟨ks, rfl, _⟩ := tkD_tup hb
      simp [kEq]
  · cases b <;> first | (cases hb; done) | skip
    · cases ha; cases hb; simp [kEq]
    · cases ha; cases hb; simp [kEq]
    · cases ha
      obtain ⟨ks, rfl, _⟩ := tkD_tup hb
      simp [kEq]
  · cases b <;> first | (cases hb; done) | skip
    · cases hb
      obtain ⟨ks, rfl, _⟩ := tkD_tup ha
      simp [kEq]
    · cases hb
      obtain ⟨ks, rfl, _⟩ := tkD_tup ha
      simp [kEq]
    · rename_i xs ys
      show (match tkD xs, tkD ys with | some k, some l => decide (k = l) | _, _ => false) = _
      rw [show tkD xs = some k from ha, show tkD ys = some l from hb]
section
variable {K : KW} {B H : Hp} {ρ : Rho} {σ : St} {x y v : V} {Q : VK} {b : Bool}
theorem Tp.key {k : Key} (h : Tp K B H v (kD k)) : v = kV k := by
  cases k
  · exact h.int
  · exact h.str
theorem rpx_get {kd : D} {k : NestedKey} (hk : keyD kd = some k) : ∀ {xs : List (NestedKey × Value × Value)} {ps : List (D × D)}, RpX K B b xs ps → (∀ d, dGet ps kd = some d → ∃ u v, look xs k = some u ∧ RelV v u ∧ Rp K B v d) ∧ (dGet ps kd = none → look xs k = none)
  | _, _, .nil => ⟨fun d h => (by cases h), fun _ => rfl⟩
  | _, _, .cons (k := k') (ku := ku) (u := u') (v := v') (xs := xs) (kd := kd') (d := d') (ps := ps) h1 h2 h3 h4 h5 h6 h7 => by
    obtain ⟨q1, q2⟩ := rpx_get hk h7
    have e1 : dGet ((kd', d') :: ps) kd = if k' = k then some d' else dGet ps kd := by
      show (if kEq kd' kd then some d' else dGet ps kd) = _
      rw [kEq_key h1 hk]
      by_cases e : k' = k <;> simp [e]
    rw [e1]
    by_cases e : k' = k
    · rw [if_pos e]
      refine ⟨fun d hd => ?_, fun hd => (by cases hd)⟩
      cases hd
      exact ⟨u', v', by simp [look, e], h5, h6⟩
    · rw [if_neg e]
      have e2 : look ((k', ku, u') :: xs) k = look xs k := by simp [look, e]
      rw [e2]
      exact ⟨q1, q2⟩
theorem rpx_is {kd : D} {k : NestedKey} (hk : keyD kd = some k) {xs : List (NestedKey × Value × Value)} {ps : List (D × D)} (h : RpX K B b xs ps) : (look xs k).isSome = (dGet ps kd).isSome := by
  obtain ⟨q1, q2⟩ := rpx_get hk h
  cases e : dGet ps kd with
  | none => rw [q2 e]; rfl
  | some d => obtain ⟨u, v, q, _⟩ := q1 d e; rw [q]; rfl
theorem rpx_len : ∀ {xs : List (NestedKey × Value × Value)} {ps : List (D × D)}, RpX K B b xs ps → xs.length = ps.length
  | _, _, .nil => rfl
  | _, _, .cons _ _ _ _ _ _ h => by rw [List.length_cons, List.length_cons, rpx_len h]
mutual
theorem nk_of {H : Hp} (s : Same B H) : ∀ {v : V} (d : D) {k : NestedKey}, Rp K B v d → nkD d = some k → NK H v k
  | _, .none, _, .non, e => by cases e; exact .non
  | _, .bool _, _, .bl b, e => by cases e; exact .bl b
  | _, .int _, _, .int i, e => by cases e; exact .int i
  | _, .str _, _, .str x, e => by cases e; exact .str x
  | _, .tuple ds, _, .tup h t, e => by
    rw [nkD] at e
    obtain ⟨ks, e1, rfl⟩ := Option.map_eq_some_iff.mp e
    exact .tup (same_x s h) (nks_of s ds t e1)
  | _, .list _, _, .lst _ _, e => by rw [nkD] at e; cases e
  | _, .dict _, _, .dct _ _, e => by rw [nkD] at e; cases e
  | _, .dict _, _, .exn _ _ _ _, e => by rw [nkD] at e; cases e
theorem nks_of {H : Hp} (s : Same B H) : ∀ {vs : List V} (ds : List D) {ks : List NestedKey}, RpL K B vs ds → nkL ds = some ks → NKs H vs ks
  | _, [], _, .nil, e => by rw [nkL] at e; cases e; exact .nil
  | _, d :: ds, _, .cons h t, e => by
    rw [nkL] at e
    obtain ⟨k, e1, e2⟩ := Option.bind_eq_some_iff.mp e
    obtain ⟨ks, e3, rfl⟩ := Option.map_eq_some_iff.mp e2
    exact .cons (nk_of s d h e1) (nks_of s ds t e3)
end
/-- a key that is a tuple -/
theorem tk_of {H : Hp} (s : Same B H) {v : V} {kd : D} {k : NestedKey} (h : Rp K B v kd) (e : keyD kd = some k) (ht : tupB kd = true) : ∃ b, KeyAt H v b k := by
  cases kd <;> first | (cases ht; done) | skip
  rename_i ds
  obtain ⟨ks, rfl, e1, c⟩ := tkD_tup (show tkD ds = some k from e)
  cases h with
  | tup q t => exact ⟨_, rfl, .tup (same_x s q) (nks_of s ds t e1), c⟩
/-- a key that is none -/
theorem sk_of {v : V} {kd : D} {k : NestedKey} (h : Rp K B v kd) (e : keyD kd = some k) (ht : tupB kd = false) : ∃ kk, v = kV kk ∧ kd = kD kk ∧ k = nkK kk := by
  cases kd <;> first | (cases e; done) | (cases ht; done) | skip
  · cases e; cases h; exact ⟨.inl _, rfl, rfl, rfl⟩
  · cases e; cases h; exact ⟨.inr _, rfl, rfl, rfl⟩
theorem rpx_T {H : Hp} (s : Same B H) : ∀ {xs : List (NestedKey × Value × Value)} {ps : List (D × D)}, RpX K B true xs ps → ∃ ys : List (NestedKey × Addr × Value), xs = ys.map refK ∧ KOk H ys ∧ ∀ y ∈ ys, ∃ kd, Rp K B (.ref y.2.1) kd ∧ keyD kd = some y.1 ∧ tupB kd = true
  | _, _, .nil => ⟨[], rfl, (fun _ m => by cases m), fun _ m => by cases m⟩
  | _, _, .cons (k := k) (u := u) (kd := kd) h1 h2 h3 h4 h5 h6 h7 => by
    obtain ⟨ys, rfl, q2, q3⟩ := rpx_T s h7
    obtain ⟨b, rfl, q4, q5⟩ := tk_of s h3 h1 h2
    cases h4
    refine ⟨(k, b, u) :: ys, rfl, fun y m => ?_, fun y m => ?_⟩
    · cases m with
      | head => exact ⟨q4, q5⟩
      | tail _ m => exact q2 y m
    · cases m with
      | head => exact ⟨kd, h3, h1, h2⟩
      | tail _ m => exact q3 y m
/-- keys that are ints and texts, by key and value -/
def RpS (K : KW) (B : Hp) : List (Key × Value) → List (D × D) → Prop := Paired fun p q => q.1 = kD p.1 ∧ ∃ v, RelV v p.2 ∧ Rp K B v q.2
theorem rpx_S : ∀ {xs : List (NestedKey × Value × Value)} {ps : List (D × D)}, RpX K B false xs ps → ∃ ys, xs = ys.map valK ∧ SOk ys ∧ RpS K B (pairK ys) ps
  | _, _, .nil => ⟨[], rfl, (fun _ m => by cases m), .nil⟩
  | _, _, .cons (ku := ku) (u := u) h1 h2 h3 h4 h5 h6 h7 => by
    obtain ⟨ys, rfl, q2, q3⟩ := rpx_S h7
    obtain ⟨kk, rfl, rfl, rfl⟩ := sk_of h3 h1 h2
    refine ⟨(kk, ku, u) :: ys, rfl, fun y m => ?_, .cons ⟨rfl, _, h5, h6⟩ q3⟩
    cases m with
    | head => exact (by
        cases kk
        · obtain ⟨t, rfl⟩ := h4; exact keyIs_int _ t
        · obtain ⟨t, rfl⟩ := h4; exact keyIs_str _ t)
    | tail _ m => exact q2 y m
theorem rp_kV (k : Key) : Rp K B (kV k) (kD k) := by
  cases k
  · exact .int _
  · exact .str _
theorem relV_key {k : Key} {u : Value} (h : keyIs k u = true) : RelV (kV k) u := by
  rcases keyIs_shape h with ⟨i, t, rfl, rfl⟩ | ⟨x, t, rfl, rfl⟩
  · exact ⟨t, rfl⟩
  · exact ⟨t, rfl⟩
theorem keyD_k (k : Key) : keyD (kD k) = some (nkK k) ∧ tupB (kD k) = false := by cases k <;> exact ⟨rfl, rfl⟩
theorem rps_X : ∀ {ys : List (Key × Value × Value)} {ps : List (D × D)}, SOk ys → RpS K B (pairK ys) ps → RpX K B false (ys.map valK) ps
  | [], _, _, r => by cases r; exact .nil
  | y :: ys, _, h, r => by
    cases r with
    | @cons p q _ qs hq t =>
      obtain ⟨kd, d⟩ := q
      obtain ⟨e1, v, e2, e3⟩ := hq
      simp only at e1
      subst e1
      obtain ⟨e4, e5⟩ := keyD_k y.1
      exact .cons e4 e5 (rp_kV y.1) (relV_key (h y (by simp))) e2 e3 (rps_X (fun z m => h z (by simp [m])) t)
theorem kEq_k (a b : Key) : kEq (kD a) (kD b) = decide (a = b) := by
  cases a <;> cases b <;> simp [kD, kEq]
theorem rps_any {k : Key} : ∀ {vs : List (Key × Value)} {ps : List (D × D)}, RpS K B vs ps → (vs.any fun kv => decide (kv.1 = k)) = ps.any fun p => kEq p.1 (kD k)
  | _, _, .nil => rfl
  | _, _, .cons h t => by rw [List.any_cons, List.any_cons, rps_any t, h.1, kEq_k]
theorem rps_map {k : Key} {d : D} {v : V} {u : Value} (r : RelV v u) (q : Rp K B v d) : ∀ {vs : List (Key × Value)} {ps : List (D × D)}, RpS K B vs ps → RpS K B (vs.map fun kv => if kv.1 = k then (kv.1, u) else kv) (ps.map fun p => if kEq p.1 (kD k) then (p.1, d) else p)
  | _, _, .nil => .nil
  | _, _, .cons (a := p) (b := z) h t => by
    rw [List.map_cons, List.map_cons, h.1, kEq_k]
    by_cases e : p.1 = k
    · simp only [e, if_true, decide_true]
      exact .cons ⟨rfl, v, r, q⟩ (rps_map r q t)
    · simp only [e, if_false, decide_false, Bool.false_eq_true]
      exact .cons h (rps_map r q t)
theorem rps_app {k : Key} {d : D} {v : V} {u : Value} (r : RelV v u) (q : Rp K B v d) : ∀ {vs : List (Key × Value)} {ps : List (D × D)}, RpS K B vs ps → RpS K B (vs ++ [(k, u)]) (ps ++ [(kD k, d)])
  | _, _, .nil => .cons ⟨rfl, v, r, q⟩ .nil
  | _, _, .cons h t => .cons h (rps_app r q t)
theorem rps_put {k : Key} {d : D} {v : V} {u : Value} (r : RelV v u) (q : Rp K B v d) {vs : List (Key × Value)} {ps : List (D × D)} (h : RpS K B vs ps) : RpS K B (stored vs k u) (dPut ps (kD k) d) := by
  unfold stored dPut
  rw [rps_any h]
  split
  · exact rps_map r q h
  · exact rps_app r q h
/-- keys that are tuples, put -/
theorem rpx_any {kd : D} {k : NestedKey} (hk : keyD kd = some k) : ∀ {ys : List (NestedKey × Addr × Value)} {ps : List (D × D)}, RpX K B true (ys.map refK) ps → (ps.any fun p => kEq p.1 kd) = (atKey ys k).isSome
  | [], _, h => by cases h; rfl
  | y :: ys, _, h => by
    cases h with
    | cons h1 h2 h3 h4 h5 h6 h7 =>
      have ih := rpx_any hk h7
      rw [List.any_cons, kEq_key h1 hk, ih]
      by_cases e : y.1 = k <;> simp [atKey, e]
theorem rpx_map {kd d : D} {k : NestedKey} {u : Value} {v : V} (hk : keyD kd = some k) (r : RelV v u) (q : Rp K B v d) : ∀ {ys : List (NestedKey × Addr × Value)} {ps : List (D × D)}, RpX K B true (ys.map refK) ps → RpX K B true ((ys.map (putAt k u)).map refK) (ps.map fun p => if kEq p.1 kd then (p.1, d) else p)
  | [], _, h => by cases h; exact .nil
  | y :: ys, _, h => by
    cases h with
    | cons h1 h2 h3 h4 h5 h6 h7 =>
      have ih := rpx_map hk r q h7
      rw [List.map_cons, List.map_cons, List.map_cons, kEq_key h1 hk]
      by_cases e : y.1 = k
      · simp only [putAt, e, if_true, decide_true]
        exact .cons (e ▸ h1) h2 h3 h4 r q ih
      · simp only [putAt, e, if_false, decide_false, Bool.false_eq_true]
        exact .cons h1 h2 h3 h4 h5 h6 ih
theorem rpx_app {kd d : D} {k : NestedKey} {a : Addr} {u : Value} {v : V} (hk : keyD kd = some k) (ht : tupB kd = true) (ha : Rp K B (.ref a) kd) (r : RelV v u) (q : Rp K B v d) : ∀ {ys : List (NestedKey × Addr × Value)} {ps : List (D × D)}, RpX K B true (ys.map refK) ps → RpX K B true ((ys ++ [(k, a, u)]).map refK) (ps ++ [(kd, d)])
  | [], _, h => by cases h; exact .cons hk ht ha rfl r q .nil
  | y :: ys, _, h => by
    cases h with
    | cons h1 h2 h3 h4 h5 h6 h7 => exact .cons h1 h2 h3 h4 h5 h6 (rpx_app hk ht ha r q h7)
theorem rpx_put {kd d : D} {k : NestedKey} {a : Addr} {u : Value} {v : V} (hk : keyD kd = some k) (ht : tupB kd = true) (ha : Rp K B (.ref a) kd) (r : RelV v u) (q : Rp K B v d) {ys : List (NestedKey × Addr × Value)} {ps : List (D × D)} (h : RpX K B true (ys.map refK) ps) : RpX K B true ((storedH ys k a u).map refK) (dPut ps kd d) := by
  unfold storedH dPut
  rw [rpx_any hk h]
  split
  · exact rpx_map hk r q h
  · exact rpx_app hk ht ha r q h
/-- of the sort of the key asked for -/
theorem rpx_sort {xs : List (NestedKey × Value × Value)} {ps : List (D × D)} {kd : D} (h : RpX K B b xs ps) (m : mixB ps kd = false) : RpX K B (tupB kd) xs ps := by
  cases h with
  | nil => exact .nil
  | cons h1 h2 h3 h4 h5 h6 h7 =>
    have m : (tupB _ != tupB kd) = false := m
    rw [h2] at m
    have e : b = tupB kd := by simpa using m
    subst e
    exact .cons h1 h2 h3 h4 h5 h6 h7
theorem rpx_got {xs : List (NestedKey × Value × Value)} {ps : List (D × D)} {kd d : D} {k : NestedKey} (hk : keyD kd = some k) (h : RpX K B b xs ps) (e : dGet ps kd = some d) : b = tupB kd := by
  induction ps generalizing xs with
  | nil => cases e
  | cons p ps ih =>
    cases h with
    | @cons _ k' _ _ _ _ _ kd' _ _ h1 h2 h3 h4 h5 h6 h7 =>
      by_cases q : k' = k
      · subst q
        rw [← h2]
        cases kd' <;> first | (cases h1; done) | skip
        · cases h1
          cases kd <;> first | (cases hk; done) | rfl | skip
          obtain ⟨ks, z, _⟩ := tkD_tup hk
          cases z
        · cases h1
          cases kd <;> first | (cases hk; done) | rfl | skip
          obtain ⟨ks, z, _⟩ := tkD_tup hk
          cases z
        · obtain ⟨ks, rfl, _⟩ := tkD_tup h1
          cases kd <;> first | (cases hk; done) | rfl
      · refine ih h7 ?_
        have e : (if kEq kd' kd then some _ else dGet ps kd) = some d := e
        rw [kEq_key h1 hk] at e
        simpa [q] using e
/-- y may be asked of it -/
theorem look_of {H : Hp} (s : Same B H) {a : Addr} {ep : Nat} {xs : List (NestedKey × Value × Value)} {ps : List (D × D)} {kd : D} {k : NestedKey} (e : H a = some (dX K.w a ep xs)) (h : RpX K B (tupB kd) xs ps) (hk : keyD kd = some k) (r : Rp K B y kd) : LookX K.w H a y (look xs k) := by
  refine ⟨ep, xs, k, e, rfl, ?_⟩
  cases ht : tupB kd with
  | true =>
    rw [ht] at h
    obtain ⟨ys, rfl, q2, _⟩ := rpx_T s h
    obtain ⟨b, q⟩ := tk_of s r hk ht
    exact .inl ⟨b, ys, rfl, q2, q⟩
  | false =>
    rw [ht] at h
    obtain ⟨ys, rfl, q2, _⟩ := rpx_S h
    obtain ⟨kk, rfl, rfl, rfl⟩ := sk_of r hk ht
    exact .inr ⟨ys, kk, rfl, q2, rfl, rfl⟩
/-- what a dict stands as -/
theorem Tp.dcs {H : Hp} {v : V} {ps : List (D × D)} (h : Tp K B H v (.dict ps)) (hx : (∃ d, ps = [(.none, d)]) → False) : ∃ a ep b xs, v = .ref a ∧ H a = some (dX K.w a ep xs) ∧ RpX K B b xs ps := by
  rcases h with h | ⟨z, h⟩
  · exact h
  · cases h with
    | dct _ r =>
      cases r with
      | nil => cases z
      | @cons _ _ _ _ _ _ _ kd _ _ h1 _ _ _ _ _ _ => cases kd <;> first | (cases z; done) | cases h1
    | exn _ _ _ _ => exact (hx ⟨_, rfl⟩).elim
theorem dGet_xn {ps : List (D × D)} (h : ∃ d, ps = [(.none, d)]) (k : D) : dGet ps k = none := by
  obtain ⟨d, rfl⟩ := h
  cases k <;> rfl
/-- a key as it stands -/
theorem Tp.rpK {H : Hp} {v : V} {kd : D} {k : NestedKey} (h : Tp K B H v kd) (hk : keyD kd = some k) : Rp K B v kd := by
  cases kd <;> first | (cases hk; done) | exact h
def dgD : D → D → Option Hd
  | .dict ps, k => if isK k then (dGet ps k).map Hd.sh else none
  | _, _ => none
theorem ol_dg : OpL K (rXG K.w) dgD := fun ρ σ B H x y dx dy h Q S tx ty e k => by
  cases dx <;> first | (cases (show none = some h from e); done) | skip
  rename_i ps
  replace e : (if isK dy then (dGet ps dy).map Hd.sh else none) = some h := e
  split at e
  · rename_i hk
    obtain ⟨d, e1, rfl⟩ := Option.map_eq_some_iff.mp e
    obtain ⟨a, ep, b, xs, rfl, ha, ra⟩ := tx.dcs fun z => by
      rw [dGet_xn z dy] at e1
      cases e1
    obtain ⟨nk, hn⟩ := isK_key hk
    have eb := rpx_got hn ra e1
    subst eb
    obtain ⟨u, v, q1, q2, q3⟩ := (rpx_get hn ra).1 d e1
    have q4 := look_of S.bh ha ra hn (ty.rpK hn)
    rw [q1] at q4
    exact ⟨a, u, v, rfl, q4, q2, now S q3 k⟩
  · cases e
def ixA : D → D → Option Hd
  | .dict ps, k => dgD (.dict ps) k
  | d, k => ixD d k
def rIxA (K : PySem.W.Frag) (w : World) : R2 := fun x y H Q => rIx K x y H Q ∨ rXG w x y H Q
theorem ol_ixA : OpL K (rIxA K K.w) ixA := fun ρ σ B H x y dx dy h Q S tx ty e k => by
  cases dx with
  | dict ps => exact .inr (ol_dg ρ σ B H x y _ dy h Q S tx ty e k)
  | _ => exact .inl (ol_ix ρ σ B H x y _ dy h Q S tx ty e k)
def dinD (neg : Bool) : D → D → Option Hd
  | k, .dict ps => if isK k && !xnB ps && !mixB ps k then some (.sh (.bool (neg ^^ (dGet ps k).isSome))) else none
  | _, _ => none
theorem ol_din {neg : Bool} : OpL K (rXin neg K.w) (dinD neg) := fun ρ σ B H x y dx dy h Q S tx ty e k => by
  cases dy <;> first | (cases dx <;> cases (show none = some h from e); done) | skip
  rename_i ps
  replace e : (if isK dx && !xnB ps && !mixB ps dx then some (Hd.sh (.bool (neg ^^ (dGet ps dx).isSome))) else none) = some h := by cases dx <;> exact e
  obtain ⟨hk, rfl⟩ := if_some e
  rw [Bool.and_eq_true, Bool.and_eq_true] at hk
  obtain ⟨⟨hk, hx⟩, hm⟩ := hk
  have hm : mixB ps dx = false := by simpa using hm
  obtain ⟨a, ep, b, xs, rfl, ha, ra⟩ := ty.dcs fun z => by
    obtain ⟨d, rfl⟩ := z
    cases hx
  obtain ⟨nk, hn⟩ := isK_key hk
  have ra := rpx_sort ra hm
  refine ⟨a, _, rfl, look_of S.bh ha ra hn (tx.rpK hn), ?_⟩
  rw [rpx_is hn ra]
  exact now S (.bl _) k
def inB (neg : Bool) : D → D → Option Hd
  | k, .dict ps => dinD neg k (.dict ps)
  | a, b => inD neg a b
theorem op_inB {X : Cx} (hu : X.A.units + 65 < cLine) : OpR X (compareOp .In) (fun x y H Q => rInA X.K x y H Q ∨ rXin false X.w x y H Q) := OpR.or (op_inA hu) (op_Xin hu)
theorem ol_inB : OpL K (fun x y H Q => rInA K x y H Q ∨ rXin false K.w x y H Q) (inB false) := fun ρ σ B H x y dx dy h Q S tx ty e k => by
  cases dy with
  | dict ps => exact .inr (ol_din ρ σ B H x y dx _ h Q S tx ty (by cases dx <;> exact e) k)
  | _ => exact .inl (ol_in ρ σ B H x y dx _ h Q S tx ty (by cases dx <;> exact e) k)
end
section
variable {X : Cx} {C : Ct} {a b e : Expr} {ta tb te : TE} {fa fb fe : EF} {pos pos' q1 : Pos} {ρ ρ1 : Rho} {σ : St} {B H B1 H1 : Hp}
theorem se_ixA (hu : X.A.units + 65 < cLine) (la : SE X C a ta fa) (lb : SE X C b tb fb) (hk : X.K = C.K := by rfl) (hw : X.w = C.K.w := by rfl) (hs : PlainIx b := by intro _ _; rfl) : SE X C (.Subscript a b pos) (tOp (rIxA C.K C.K.w) ta tb) (eBin ixA fa fb) :=
  ⟨by rw [← hk, ← hw]; exact pe_ix (IxR.or ix_seq (ix_dX hu)) la.pe lb.pe hs, lk_op ol_ixA la.lk lb.lk⟩
def setD (k y : D) : D → Option D
  | .list ds => match k with
    | .int i => (ixN ds.length i).map fun j => .list (ds.set j y)
    | _ => none
  | .dict ps => if isK k && !mixB ps k && decide (ps.length < sizeLine) then some (.dict (dPut ps k y)) else none
  | _ => none
def rSetA (w : World) : TSet := fun o i v H Q => rSetL o i v H Q ∨ rXS w o i v H Q
theorem set_any (hu : X.A.units + 65 < cLine) : PSet X (rSetA X.w) := by
  intro pins s σ H o i v ov iv u Q I ro ri rv h
  rcases h with h | h
  · exact set_list pins s σ H o i v ov iv u Q I ro ri rv h
  · exact set_dX hu pins s σ H o i v ov iv u Q I ro ri rv h
def sPut (i : Nat) (fi fe : EF) : SF := fun ρ => bindES (eCap fe ρ) fun h ρ1 => match h with
  | .sh y => match slot ρ1 i with
    | none => .stuck
    | some _ => bindES (eCap fi ρ1) fun hi ρ2 => match hi with
      | .sh k => mutS ρ2 i (setD k y)
      | _ => .stuck
  | _ => .stuck
theorem ss_put {i : Nat} {x : Str} (hu : X.A.units + 65 < cLine) (lb : SE X C b tb fb) (l : SE X C e te fe) (hN : X.N[i]? = some x := by rfl) (hv : Vis X.env.scope x := by first | exact Or.inl rfl | exact Or.inr (Or.inl rfl) | exact Or.inr (Or.inr rfl)) (hd : (x == ("__debug__" : Str)) = false := by decide)
    (hcd : (x == ("__classdict__" : Str)) = false := by decide)
    (ha : ∀ v, assign (.Subscript (.Name x q1) b pos') X.env v = (do
      let ov ← holding [v] (eval (.Name x q1) X.env)
      let iv ← holding [v, ov] (eval b X.env)
      standAt pos'
      holding [v, ov, iv] (setItem ov iv v)
      release [v, ov, iv] []) := by intro _; rfl)
    (hs : swapsWithSole [.Subscript (.Name x q1) b pos'] e pos.line X.env = pure false := by rfl) (hw : X.w = C.K.w := by rfl) :
    SS X C (.Assign [.Subscript (.Name x q1) b pos'] e pos) (tAsg te (gSub (tVar i) tb (rSetA C.K.w))) (sPut i fb fe) := by
  refine ⟨by rw [← hw]; exact ps_asg l.pe (pg_sub (pe_var hN hv hd hcd) lb.pe (set_any hu) ha) hs, fun ρ σ B H E S g => ?_⟩
  refine l.lk.cap.bindS S g fun hd ρ1 v B1 H1 S1 x1 y1 g1 => ?_
  cases hd with
  | sh y =>
    dsimp only at g1
    split at g1
    · exact g1.elim
    rename_i c ec
    obtain ⟨v0, e0, _⟩ := S1.sl i c (slot_some ec)
    refine ⟨v0, e0, ?_⟩
    refine lb.lk.cap.bindS S1 (GoodS.ext x1 g1) fun hi ρ2 w B2 H2 S2 x2 y2 g2 => ?_
    cases hi with
    | sh k =>
      obtain ⟨c, d', h1, h2, h3, h4⟩ := mutS_ok g2
      obtain ⟨a', ea', hb, ow⟩ := S2.own h1 h2
      rw [e0] at ea'
      cases ea'
      obtain ⟨d, fl⟩ := c
      have y1' : Rp C.K B2 v y := Rp.mono x2.bb y1
      cases d with
      | list ds =>
        cases k <;> first | (cases h3; done) | skip
        rename_i ki
        obtain ⟨j, ej, rfl⟩ := Option.map_eq_some_iff.mp h3
        obtain ⟨ws, ew, rw'⟩ := ow
        have ow' : Ow C.K B2 a' (some (.lst (ws.set j v))) (.list (ds.set j y)) := ⟨_, rfl, RpL.set y1' j rw'⟩
        obtain ⟨S3, x3⟩ := S2.mut h1 h2 e0 ow'
        cases (show Rp C.K B2 w (.int ki) from y2)
        exact .inl ⟨a', ws, ki, j, rfl, rfl, ew, by rw [rw'.length]; exact ej, h4 _ _ _ S3 (x2.trans x3)⟩
      | dict ps =>
        obtain ⟨hc, rfl⟩ := if_some (show (if isK k && !mixB ps k && decide (ps.length < sizeLine) then some (PyData.dict (dPut ps k y)) else none) = some d' from h3)
        rw [Bool.and_eq_true, Bool.and_eq_true] at hc
        obtain ⟨⟨hk, hm⟩, hz⟩ := hc
        have hm : mixB ps k = false := by simpa using hm
        have hz := of_decide_eq_true hz
        obtain ⟨nk, hn⟩ := isK_key hk
        obtain ⟨ep, b, xs, ew, rk⟩ := ow
        have rk := rpx_sort rk hm
        refine .inr ⟨a', ep, xs, rfl, ew, by rw [rpx_len rk]; exact hz, ?_⟩
        cases ht : tupB k with
        | true =>
          rw [ht] at rk
          obtain ⟨ys, rfl, q2, _⟩ := rpx_T S2.bh rk
          obtain ⟨b, q⟩ := tk_of S2.bh y2 hn ht
          obtain rfl := q.1
          refine .inl ⟨b, ys, nk, rfl, q2, q, fun ep u ru => ?_⟩
          have ow' : Ow C.K B2 a' (some (dX C.K.w a' ep ((storedH ys nk b u).map refK))) (.dict (dPut ps k y)) := ⟨ep, true, _, rfl, rpx_put hn ht y2 ru y1' rk⟩
          obtain ⟨S3, x3⟩ := S2.mut h1 h2 e0 ow'
          exact h4 _ _ _ S3 (x2.trans x3)
        | false =>
          rw [ht] at rk
          obtain ⟨ys, rfl, q2, q3⟩ := rpx_S rk
          obtain ⟨kk, rfl, rfl, rfl⟩ := sk_of y2 hn ht
          refine .inr ⟨ys, kk, rfl, q2, rfl, fun ep u zs ru z1 z2 => ?_⟩
          have ow' : Ow C.K B2 a' (some (dX C.K.w a' ep (zs.map valK))) (.dict (dPut ps (kD kk) y)) := ⟨ep, false, _, rfl, rps_X z1 (by rw [z2]; exact rps_put ru y1' q3)⟩
          obtain ⟨S3, x3⟩ := S2.mut h1 h2 e0 ow'
          exact h4 _ _ _ S3 (x2.trans x3)
      | _ => cases h3
    | _ => exact g2.elim
  | _ => exact g1.elim
end
end GS
namespace GS
open PySem L2
inductive RP where | stuck | ok (ps : List (D × D)) (ρ : Rho) | exc (x : Xc) (ρ : Rho)
abbrev PF := Rho → RP
section
variable {X : Cx} {C : Ct} {a b e : Expr} {ta tb te tk tv : TE} {fa fb fe fk fv : EF} {pos pos' q1 : Pos} {ρ ρ1 : Rho} {σ : St} {B H B1 H1 : Hp} {K : KW}
def dNil : PF := fun ρ => .ok [] ρ
def dCons (fk fv : EF) (g : PF) : PF := fun ρ => match eCap fk ρ with
  | .stuck => .stuck
  | .exc x ρ1 => .exc x ρ1
  | .ok (.sh k) ρ1 => (match eCap fv ρ1 with
    | .stuck => .stuck
    | .exc x ρ2 => .exc x ρ2
    | .ok (.sh v) ρ2 => (match g ρ2 with
      | .stuck => .stuck
      | .exc x ρ3 => .exc x ρ3
      | .ok ps ρ3 => if isS k then .ok ((k, v) :: ps) ρ3 else .stuck)
    | .ok _ _ => .stuck)
  | .ok _ _ => .stuck
def GoodP (C : Ct) (ρ : Rho) (σ : St) (B H : Hp) (Q : List (V × V) → Hp → Prop) : RP → Prop
  | .stuck => False
  | .ok ps ρ' => ∀ kvs B' H', Sim C.K ρ' σ B' H' → Ext ρ σ B H ρ' σ B' H' → RpK C.K B' kvs ps → Q (kvs.map fun kv => (kV kv.1, kv.2)) H'
  | .exc x ρ' => ∀ cls dct B' H', Sim C.K ρ' σ B' H' → Ext ρ σ B H ρ' σ B' H' → XcOk C B' x cls dct → C.W cls dct σ H'
structure SD (X : Cx) (C : Ct) (pos : Pos) (keys : List (Option Expr)) (values : List Expr) (trs : List (TE × TE)) (g : PF) : Prop where
  pp : PPs X pos keys values trs
  lk : ∀ ρ σ B H Q, Sim C.K ρ σ B H → GoodP C ρ σ B H Q (g ρ) → tPairs trs σ H Q
theorem GoodP.ext {Q : List (V × V) → Hp → Prop} (x : Ext ρ σ B H ρ1 σ B1 H1) : ∀ {r : RP}, GoodP C ρ σ B H Q r → GoodP C ρ1 σ B1 H1 Q r
  | .stuck, g => g
  | .ok _ _, g => fun vs B' H' s y z => g vs B' H' s (x.trans y) z
  | .exc _ _, g => fun c d B' H' s y z => g c d B' H' s (x.trans y) z
theorem sd_nil : SD X C pos [] [] [] dNil := ⟨pps_nil, fun ρ σ B H Q S g => g [] B H S Ext.refl .nil⟩
theorem sd_cons {ks : List (Option Expr)} {vs : List Expr} {trs : List (TE × TE)} {g : PF} (lk : SE X C a tk fk) (lv : SE X C b tv fv) (r : SD X C pos ks vs trs g) : SD X C pos (some a :: ks) (b :: vs) ((tk, tv) :: trs) (dCons fk fv g) := by
  refine ⟨pps_cons lk.pe lv.pe r.pp, fun ρ σ B H Q S gd => ?_⟩
  refine lk.lk.cap ρ σ B H _ S ?_
  unfold dCons at gd
  cases e1 : eCap fk ρ with
  | stuck => rw [e1] at gd; exact gd
  | exc x ρ1 => rw [e1] at gd; exact gd
  | ok h1 ρ1 =>
    rw [e1] at gd
    cases h1 with
    | sh k =>
      intro x B1 H1 S1 x1 y1
      refine lv.lk.cap ρ1 σ B1 H1 _ S1 ?_
      dsimp only at gd
      cases e2 : eCap fv ρ1 with
      | stuck => rw [e2] at gd; exact gd
      | exc x ρ2 => rw [e2] at gd; exact fun c d B' H' s y z => gd c d B' H' s (x1.trans y) z
      | ok h2 ρ2 =>
        rw [e2] at gd
        cases h2 with
        | sh v =>
          intro y B2 H2 S2 x2 y2
          refine r.lk ρ2 σ B2 H2 _ S2 ?_
          dsimp only at gd
          cases e3 : g ρ2 with
          | stuck => rw [e3] at gd; exact gd
          | exc x ρ3 => rw [e3] at gd; exact fun c d B' H' s y z => gd c d B' H' s ((x1.trans x2).trans y) z
          | ok ps ρ3 =>
            rw [e3] at gd
            dsimp only at gd
            intro kvs B3 H3 S3 x3 y3
            split at gd
            · rename_i hk
              obtain ⟨ky, rfl⟩ := isS_k hk
              have ek : x = kV ky := (Tp.of S1.bh y1).key
              subst ek
              exact gd ((ky, y) :: kvs) B3 H3 S3 ((x1.trans x2).trans x3) (.cons (Rp.mono x3.bb y2) y3)
            · exact gd.elim
        | _ => exact gd.elim
    | _ => exact gd.elim
def dMerge (ps : List (D × D)) : List (D × D) := ps.foldl (fun acc p => dPut acc p.1 p.2) []
theorem rpk_S {kvs : List (Key × V)} {ps : List (D × D)} (h : RpK K B kvs ps) : ∀ {vs : List (Key × Value)}, KV kvs vs → RpS K B vs ps := by
  induction kvs generalizing ps with
  | nil => cases h; intro vs r; cases r; exact .nil
  | cons kv kvs ih =>
    cases h with
    | cons r t =>
      intro vs q
      cases q with
      | cons q1 q2 => exact .cons ⟨by rw [← q1.1], _, q1.2, r⟩ (ih t q2)
theorem rpk_any {k : Key} : ∀ {kvs : List (Key × V)} {ps : List (D × D)}, RpK K B kvs ps → (kvs.any fun kv => decide (kv.1 = k)) = ps.any fun p => kEq p.1 (kD k)
  | _, _, .nil => rfl
  | _, _, .cons h t => by rw [List.any_cons, List.any_cons, rpk_any t, kEq_k]
theorem rpk_map {k : Key} {v : V} {d : D} (r : Rp K B v d) : ∀ {kvs : List (Key × V)} {ps : List (D × D)}, RpK K B kvs ps → RpK K B (kvs.map fun kv => if kv.1 = k then (kv.1, v) else kv) (ps.map fun p => if kEq p.1 (kD k) then (p.1, d) else p)
  | _, _, .nil => .nil
  | _, _, .cons (k := k') h t => by
    rw [List.map_cons, List.map_cons, kEq_k]
    by_cases e : k' = k
    · simp only [e, if_true, decide_true]
      exact .cons r (rpk_map r t)
    · simp only [e, if_false, decide_false, Bool.false_eq_true]
      exact .cons h (rpk_map r t)
theorem rpk_app {k : Key} {v : V} {d : D} (r : Rp K B v d) : ∀ {kvs : List (Key × V)} {ps : List (D × D)}, RpK K B kvs ps → RpK K B (kvs ++ [(k, v)]) (ps ++ [(kD k, d)])
  | _, _, .nil => .cons r .nil
  | _, _, .cons h t => .cons h (rpk_app r t)
theorem rpk_len : ∀ {kvs : List (Key × V)} {ps : List (D × D)}, RpK K B kvs ps → kvs.length = ps.length
  | _, _, .nil => rfl
  | _, _, .cons _ t => by rw [List.length_cons, List.length_cons, rpk_len t]
theorem rpk_put {k : Key} {v : V} {d : D} {kvs : List (Key × V)} {ps : List (D × D)} (h : RpK K B kvs ps) (r : Rp K B v d) : RpK K B (putK kvs k v) (dPut ps (kD k) d) := by
  unfold putK dPut
  rw [rpk_any h]
  split
  · exact rpk_map r h
  · exact rpk_app r h
theorem rpk_merge {kvs : List (Key × V)} {ps : List (D × D)} (h : RpK K B kvs ps) : ∀ {k0 : List (Key × V)} {p0 : List (D × D)}, RpK K B k0 p0 → RpK K B (mergeK k0 kvs) (ps.foldl (fun acc p => dPut acc p.1 p.2) p0) := by
  induction kvs generalizing ps with
  | nil => cases h; exact fun h0 => h0
  | cons kv kvs ih =>
    cases h with
    | cons r t =>
      intro k0 p0 h0
      exact ih t (rpk_put h0 r)
def eDct (g : PF) : EF := fun ρ => match g ρ with
  | .stuck => .stuck
  | .exc x ρ1 => .exc x ρ1
  | .ok ps ρ1 => if ps.length ≤ 15 then .ok (.fr (.dict (dMerge ps))) ρ1 else .stuck
theorem se_dct {keys : List (Option Expr)} {values : List Expr} {trs : List (TE × TE)} {g : PF} (l : SD X C pos keys values trs g) (hall : keys.all (·.isSome) = true := by rfl) (hl : keys.length = values.length := by rfl) (h0 : keys ≠ [] := by intro h; cases h)
    (h15 : keys.length ≤ 15 := by decide) (hw : X.w = C.K.w := by rfl) : SE X C (.Dict keys values pos) (tRe C.K.w (tDisp trs)) (eDct g) := by
  refine ⟨by rw [← hw]; exact pe_re (pe_disp l.pp hall hl h0 h15), fun ρ σ B H Q S gd p hp => ?_⟩
  obtain ⟨S1, x1⟩ := S.newH hp (.dK [])
  obtain ⟨bp, np⟩ := S.free hp
  refine l.lk ρ σ B _ _ S1 ?_
  unfold eDct at gd
  cases e : g ρ with
  | stuck => rw [e] at gd; exact gd
  | exc x ρ1 => rw [e] at gd; exact fun c d B' H' s y z => gd c d B' H' s (x1.trans y) z
  | ok ps ρ1 =>
    rw [e] at gd
    dsimp only at gd
    split at gd
    · rename_i hlen
      intro kvs B2 H2 S2 x2 r2
      have hp1 : (upd H p (.dK [])) p = some (.dK []) := upd_same
      have nown : ¬ OwnA ρ σ p := np
      have h2p : H2 p = some (.dK []) := x2.kp p _ hp1 nown
      have notnew : ¬ New ρ σ (upd H p (.dK [])) p := fun z => by
        rcases z with z | z
        · rw [hp1] at z; cases z
        · exact nown z
      have b2p : B2 p = none := by
        cases eb : B2 p with
        | none => rfl
        | some o =>
          rcases x2.nw p o eb with z | z
          · rw [bp] at z; cases z
          · exact absurd z notnew
      have n2 : ¬ OwnA ρ1 σ p := fun z => notnew (x2.sub p z)
      refine ⟨h2p, kvs, rfl, by rw [rpk_len r2]; exact hlen, ?_⟩
      refine ⟨p, _, rfl, upd_same, fun ep ys y1 y2 => ?_⟩
      rw [upd_upd]
      have S3 := S2.tweak (o := dX C.K.w p ep (ys.map valK)) b2p n2
      have x3 : Ext ρ σ B H ρ1 σ B2 (upd H2 p (dX C.K.w p ep (ys.map valK))) := (x1.trans x2).tweak (.inl hp)
      exact gd _ _ _ S3 x3 ⟨p, rfl, b2p, ⟨ep, false, _, upd_same, rps_X y1 (rpk_S (rpk_merge r2 .nil) y2)⟩, n2, .inl hp⟩
    · exact gd.elim
end
end GS
namespace GS
open PySem L2
def shCs : List Hd → Option Rho
  | [] => some []
  | .sh d :: hs => (shCs hs).map fun r => some ⟨d, .sh⟩ :: r
  | _ :: _ => none
theorem shCs_ok {K : KW} {σ : St} {B : Hp} : ∀ {vs : List V} {hs : List Hd} {r : Rho}, HdL K σ B vs hs → shCs hs = some r → r.length = vs.length ∧ ∀ (i : Nat) (c : Cel), r[i]? = some (some c) → c.fl = .sh ∧ ∃ v, vs[i]? = some v ∧ Rp K B v c.d
  | _, _, r, .nil, e => by
    cases e
    exact ⟨rfl, fun i c h => by simp at h⟩
  | _, _, r, .cons (v := v) (h := h) (hs := hs) y t, e => by
    cases h with
    | sh d =>
      obtain ⟨r', e1, rfl⟩ := Option.map_eq_some_iff.mp e
      obtain ⟨q1, q2⟩ := shCs_ok t e1
      refine ⟨by rw [List.length_cons, List.length_cons, q1], fun i c hi => ?_⟩
      cases i with
      | zero => simp at hi; subst hi; exact ⟨rfl, v, rfl, y⟩
      | succ i =>
        obtain ⟨w1, v', w2, w3⟩ := q2 i c (by simpa using hi)
        exact ⟨w1, v', by simpa using w2, w3⟩
    | _ => cases e
def eCallF (n : Nat) (F : FF) (f0 : EF) (g : AF) : EF := fun ρ => bindE (f0 ρ) fun h ρ1 => match h with
  | .fr d => bindA (g ρ1) fun hs ρ2 => match shCs hs with
    | none => .stuck
    | some r => if r.length + 1 ≠ n then .stuck else match F (some ⟨d, .io⟩ :: r) with
      | .stuck => .stuck
      | .ok h _ => (match h with
        | .bw _ => .stuck
        | h => .ok h ρ2)
      | .exc x _ => .exc x ρ2
  | _ => .stuck
section
variable {X : Cx} {C : Ct} {e0 : Expr} {es : List Expr} {pos p : Pos} {x : Str} {k n : Nat} {f : Addr} {fd : FuncData} {ps : List Str} {F : FF} {t : TA} {g : AF} {t0 : TE} {f0 : EF}
theorem lk_callF (l0 : LkE C t0 f0) (l : LkA C t g) : LkE C (tCallS (spF C.K C.cv n F) (WE C.W) (tCons t0 t)) (eCallF n F f0 g) := fun ρ σ B H Q S gd => by
  refine l0.bind S gd fun h0 ρ1 v0 B1 H1 S1 x1 y1 g1 => ?_
  cases h0 with
  | sh d => exact g1.elim
  | bw i => exact g1.elim
  | fr d =>
    obtain ⟨a, rfl, b1, ow1, n1, nw1⟩ := y1
    obtain ⟨o, eo⟩ := ow1.some
    refine l ρ1 σ B1 H1 _ S1 ?_
    dsimp only at g1
    cases eg : g ρ1 with
    | stuck => rw [eg] at g1; exact g1
    | exc c ρ2 => rw [eg] at g1; exact fun cls dct B' H' s y z => g1 cls dct B' H' s (x1.trans y) z
    | ok hs ρ2 =>
      rw [eg] at g1
      replace g1 : GoodE C ρ σ B H Q (match shCs hs with
        | none => .stuck
        | some r => if r.length + 1 ≠ n then .stuck else match F (some ⟨d, .io⟩ :: r) with
          | .stuck => .stuck
          | .ok h _ => (match h with
            | .bw _ => .stuck
            | h => .ok h ρ2)
          | .exc x _ => .exc x ρ2) := g1
      intro vs B2 H2 S2 x2 y2
      cases er : shCs hs with
      | none => rw [er] at g1; exact g1.elim
      | some r =>
        rw [er] at g1
        dsimp only at g1
        split at g1
        · exact g1.elim
        rename_i hl
        have hl : r.length + 1 = n := Classical.not_not.mp hl
        obtain ⟨r1, r2⟩ := shCs_ok y2 er
        have nn : ¬ New ρ1 σ H1 a := fun z => z.elim (fun z => by rw [eo] at z; cases z) n1
        have h2a : H2 a = some o := x2.kp a o eo n1
        have b2a : B2 a = none := by
          cases eb : B2 a with
          | none => rfl
          | some o' =>
            rcases x2.nw a o' eb with z | z
            · rw [b1] at z; cases z
            · exact absurd z nn
        have n2 : ¬ OwnA ρ2 σ a := fun z => nn (x2.sub a z)
        have ow2 : Ow C.K B2 a (H2 a) d := by rw [h2a, ← eo]; exact ow1.mono x2.bb
        have x12 := x1.trans x2
        -- the callee's start
        have own0 : ∀ b, OwnA (some ⟨d, .io⟩ :: r) ((V.ref a :: vs).map some) b → b = a := fun b ⟨i, c, h1, h2, h3⟩ => by
          cases i with
          | zero => simp at h3; exact h3.symm
          | succ i => exact absurd (r2 i c (by simpa using h1)).1 h2
        have S0 : Sim C.K (some ⟨d, .io⟩ :: r) ((V.ref a :: vs).map some) B2 H2 := by
          refine ⟨S2.bh, by simp [r1], fun i c hi => ?_, fun i j ci cj b hi hj ni nj ei ej => ?_⟩
          · cases i with
            | zero =>
              simp at hi
              subst hi
              exact ⟨.ref a, rfl, .inr ⟨by simp, a, rfl, b2a, ow2⟩⟩
            | succ i =>
              obtain ⟨q1, v, q2, q3⟩ := r2 i c (by simpa using hi)
              exact ⟨v, by simp [q2], .inl ⟨q1, q3⟩⟩
          · cases i with
            | zero =>
              cases j with
              | zero => rfl
              | succ j => exact absurd (r2 j cj (by simpa using hj)).1 nj
            | succ i => exact absurd (r2 i ci (by simpa using hi)).1 ni
        have own1 : OwnA (some ⟨d, .io⟩ :: r) ((V.ref a :: vs).map some) a := ⟨0, _, rfl, by simp, rfl⟩
        have news : ∀ b, New (some ⟨d, .io⟩ :: r) ((V.ref a :: vs).map some) H2 b → New ρ σ H b := fun b z => by
          rcases z with z | z
          · exact x12.back (.inl z)
          · cases own0 b z; exact nw1
        have back : ∀ {ρ' B3 H3}, Sim C.K ρ' ((V.ref a :: vs).map some) B3 H3 → Ext (some ⟨d, .io⟩ :: r) ((V.ref a :: vs).map some) B2 H2 ρ' ((V.ref a :: vs).map some) B3 H3 → Sim C.K ρ2 σ B3 H3 ∧ Ext ρ σ B H ρ2 σ B3 H3 := fun {ρ' B3 H3} S3 x3 => by
          refine ⟨⟨S3.bh, S2.len, fun i c hi => ?_, S2.dj⟩, ⟨x12.bb.trans x3.bb, fun b u z => ?_, fun b u z n => ?_, x12.sub, x12.io, x12.oi⟩⟩
          · obtain ⟨v, ev, ok⟩ := S2.sl i c hi
            refine ⟨v, ev, ok.mono x3.bb fun b hv hb ho hf => ?_⟩
            subst hv
            obtain ⟨o', eo'⟩ := ho
            have nb : ¬ OwnA (some ⟨d, .io⟩ :: r) ((V.ref a :: vs).map some) b := fun z => by
              cases own0 b z
              exact n2 ⟨i, c, hi, hf, ev⟩
            obtain ⟨w1, w2, _⟩ := x3.keepN eo' hb nb
            exact ⟨w2, by rw [w1, eo']⟩
          · rcases x3.nw b u z with z | z
            · exact x12.nw b u z
            · exact .inr (news b z)
          · have nb : ¬ OwnA (some ⟨d, .io⟩ :: r) ((V.ref a :: vs).map some) b := fun w => by
              cases own0 b w
              rcases nw1 with w | w
              · rw [w] at z; cases z
              · exact n w
            exact x3.kp b u (x12.kp b u z n) nb
        refine ⟨some ⟨d, .io⟩ :: r, B2, by rw [List.length_cons]; exact hl, S0, ?_⟩
        cases ef : F (some ⟨d, .io⟩ :: r) with
        | stuck => rw [ef] at g1; exact g1
        | exc c outs =>
          rw [ef] at g1
          intro cls dct B3 H3 S3 x3 ok
          obtain ⟨S4, x4⟩ := back S3 x3
          exact g1 cls dct B3 H3 S4 x4 ok
        | ok h outs =>
          rw [ef] at g1
          dsimp only at g1
          intro v B3 H3 S3 x3 y3
          obtain ⟨S4, x4⟩ := back S3 x3
          cases h with
          | sh d' => exact g1 v B3 H3 S4 x4 y3
          | bw i => exact g1.elim
          | fr d' =>
            obtain ⟨a', w1, w2, w3, w4, w5⟩ := y3
            refine g1 v B3 H3 S4 x4 ⟨a', w1, w2, w3, fun z => ?_, news a' w5⟩
            rcases w5 with w | w
            · obtain ⟨_, o', eo'⟩ := S2.ownH z
              rw [w] at eo'; cases eo'
            · cases own0 a' w
              exact n2 z
theorem se_callF (FO : FnOk X.prog X.w X.K X.mg X.base (L2.CX X.prog X.w) k f fd ps (spF C.K C.cv n F)) (hr : Room k X.A) (hm : X.mg x = some (.ref f)) (hkp : PySem.W.keepIn X.K (.ref f) = true) (hb : Binds X.K fd ps []) (tk : Takes X C.W)
    (l0 : SE X C e0 t0 f0) (l : SA X C es t g) (hg : Gl X x := by rfl) (hdb : (x == ("__debug__" : Str)) = false := by decide) (he : starEach (e0 :: es) X.env = (false, eval e0 X.env) :: starEach es X.env := by rfl)
    (hpl : (backTo pos (starEach es X.env)).any (·.1) = false := by rfl) : SE X C (.Call (.Name x p) (e0 :: es) [] pos) (tCallS (spF C.K C.cv n F) (WE C.W) (tCons t0 t)) (eCallF n F f0 g) :=
  ⟨pe_callS FO hr hg hm hkp hb (fun σ => passAt tk σ) (pa_cons l0.pe l.pa he) hdb he hpl, lk_callF l0.lk l.lk⟩
end
end GS
namespace GS
open PySem L2
section
variable {K : KW} {ρ : Rho} {σ : St} {B H : Hp} {v x y : V} {Q : VK}
def intsL : List D → Option (List Int)
  | [] => some []
  | .int b :: ds => (intsL ds).map (b :: ·)
  | _ :: _ => none
theorem intsL_ok : ∀ {vs : List V} {ds : List D} {bs : List Int}, RpL K B vs ds → intsL ds = some bs → vs = bs.map V.int
  | _, _, _, .nil, e => by cases e; rfl
  | _, d :: ds, _, .cons h t, e => by
    cases d <;> first | (cases e; done) | skip
    obtain ⟨r, er, rfl⟩ := Option.map_eq_some_iff.mp e
    cases h
    rw [intsL_ok t er]; rfl
end
section
variable {X : Cx} {C : Ct} {a b e : Expr} {ta tb te : TE} {fa fb fe : EF} {pos p p1 p2 p3 : Pos}
end
end GS
namespace GS
open PySem L2
def mapR (k : Rho → Rho) : RS → RS
  | .stuck => .stuck
  | .nx ρ => .nx (k ρ)
  | .bk ρ => .bk (k ρ)
  | .ct ρ => .ct (k ρ)
  | .rt h ρ => .rt h (k ρ)
  | .exc x ρ => .exc x (k ρ)
/-- less is known -/
structure Weak (ρ ρ' : Rho) : Prop where
  len : ρ'.length = ρ.length
  sub : ∀ (i : Nat) (c : Cel), ρ'[i]? = some (some c) → ρ[i]? = some (some c)
  io : ∀ (i : Nat) (c : Cel), ρ[i]? = some (some c) → c.fl = .io → ρ'[i]? = some (some c)
section
variable {K : KW} {X : Cx} {C : Ct} {ρ ρ1 ρ2 : Rho} {σ σ1 : St} {B H B1 H1 : Hp} {Ed : Ends} {t u : TS} {f g : SF} {st : Stmt} {rest : List Stmt} {pos : Pos}
theorem OwnA.weak (w : Weak ρ ρ1) {a : Addr} (h : OwnA ρ1 σ a) : OwnA ρ σ a := by
  obtain ⟨i, c, h1, h2, h3⟩ := h
  exact ⟨i, c, w.sub i c h1, h2, h3⟩
theorem Sim.weak (S : Sim K ρ σ B H) (w : Weak ρ ρ1) : Sim K ρ1 σ B H :=
  ⟨S.bh, w.len.trans S.len, fun i c h => S.sl i c (w.sub i c h), fun i j ci cj a hi hj => S.dj i j ci cj a (w.sub i ci hi) (w.sub j cj hj)⟩
theorem Ext.weak (x : Ext ρ σ B H ρ1 σ1 B1 H1) (w : Weak ρ1 ρ2) : Ext ρ σ B H ρ2 σ1 B1 H1 :=
  ⟨x.bb, x.nw, x.kp, fun a h => x.sub a (OwnA.weak w h), fun i c h1 h2 => by
    obtain ⟨e1, c1, q1, q2⟩ := x.io i c h1 h2
    exact ⟨e1, c1, w.io i c1 q1 q2, q2⟩, fun i c h1 h2 => x.oi i c (w.sub i c h1) h2⟩
theorem HdOk.weak {N : Addr → Prop} {v : V} (w : Weak ρ ρ1) : ∀ {h : Hd}, HdOk K N ρ σ B H v h → HdOk K N ρ1 σ B H v h
  | .sh _, q => q
  | .fr _, ⟨a, h1, h2, h3, h4, h5⟩ => ⟨a, h1, h2, h3, fun z => h4 (OwnA.weak w z), h5⟩
  | .bw _, q => q
theorem lk_weak {k : Rho → Rho} {f : SF} (hk : ∀ ρ' σ' B' H', Ext ρ σ B H ρ' σ' B' H' → Weak ρ' (k ρ')) (g : GoodS C ρ σ B H Ed (mapR k (f ρ))) : GoodS C ρ σ B H Ed (f ρ) := by
  cases e : f ρ with
  | stuck => rw [e] at g; exact g
  | nx ρ' => rw [e] at g; exact fun σ' B' H' s x => g σ' B' H' (s.weak (hk _ _ _ _ x)) (x.weak (hk _ _ _ _ x))
  | bk ρ' => rw [e] at g; exact fun σ' B' H' s x => g σ' B' H' (s.weak (hk _ _ _ _ x)) (x.weak (hk _ _ _ _ x))
  | ct ρ' => rw [e] at g; exact fun σ' B' H' s x => g σ' B' H' (s.weak (hk _ _ _ _ x)) (x.weak (hk _ _ _ _ x))
  | rt h ρ' => rw [e] at g; exact fun v σ' B' H' s x y => g v σ' B' H' (s.weak (hk _ _ _ _ x)) (x.weak (hk _ _ _ _ x)) (y.weak (hk _ _ _ _ x))
  | exc y ρ' => rw [e] at g; exact fun c d σ' B' H' s x z => g c d σ' B' H' (s.weak (hk _ _ _ _ x)) (x.weak (hk _ _ _ _ x)) z
def sKill (vs : List Nat) (f : SF) : SF := fun ρ => if vs.all fun i => !ioAt ρ i then mapR (fun ρ => wipeR ρ vs) (f ρ) else .stuck
theorem weak_wipe {vs : List Nat} (h : ∀ i ∈ vs, ∀ c, ρ[i]? = some (some c) → c.fl ≠ .io) : Weak ρ (wipeR ρ vs) :=
  ⟨wipeR_len _ _, fun i c e => (wipeR_some e).1, fun i c e z => by
    have ni : i ∉ vs := fun q => h i q c e z
    rw [wipeR_keep ni]; exact e⟩
theorem lk_kill {vs : List Nat} (l : LkS C t f) : LkS C t (sKill vs f) := fun ρ σ B H D S g => by
  unfold sKill at g
  split at g
  · rename_i hv
    refine l ρ σ B H D S (lk_weak (fun ρ' σ' B' H' x => weak_wipe fun i hi c hc hf => ?_) g)
    have := List.all_eq_true.mp hv i hi
    obtain ⟨c', q1, q2⟩ := x.oi i c hc hf
    exact not_io (by simpa using this) q1 q2
  · exact g.elim
theorem ss_kill {vs : List Nat} (l : SS X C st t f) : SS X C st t (sKill vs f) := ⟨l.ps, lk_kill l.lk⟩
theorem sss_kill {vs : List Nat} {sts : List Stmt} (l : SSs X C sts t f) : SSs X C sts t (sKill vs f) := ⟨l.ps, lk_kill l.lk⟩
theorem weak_io : Weak ρ (ρ.map ioC) := by
  refine ⟨List.length_map _, fun i c e => ?_, fun i c e z => ?_⟩
  · rw [List.getElem?_map] at e
    obtain ⟨o, h1, h2⟩ := Option.map_eq_some_iff.mp e
    rw [h1, (ioC_some h2).1]
  · rw [List.getElem?_map, e]
    obtain ⟨d, fl⟩ := c
    cases z
    rfl
/-- only what is lent stays -/
def sEnd (f : SF) : SF := fun ρ => mapR (fun ρ => ρ.map ioC) (f ρ)
theorem lk_end (l : LkS C t f) : LkS C t (sEnd f) := fun ρ σ B H D S g => l ρ σ B H D S (lk_weak (fun _ _ _ _ _ => weak_io) g)
theorem ss_end (l : SS X C st t f) : SS X C st t (sEnd f) := ⟨l.ps, lk_end l.lk⟩
end
end GS
namespace GS
open PySem L2
def flatEq : D → D → Option Bool
  | .str i, .str j => some (decide (i = j))
  | .int i, .int j => some (decide (i = j))
  | .bool i, .bool j => some (decide (i = j))
  | .none, .none => some true
  | .none, .str _ => some false
  | .str _, .none => some false
  | .none, .int _ => some false
  | .int _, .none => some false
  | _, _ => none
/-- no dicts, at most 190 deep -/
def okW (d : D) : Bool := GS.plain d && PyData.canLay0 d && Nat.ble d.depth 190
def eqB (neg : Bool) : D → D → Option Hd := fun x y => match flatEq x y with
  | some b => some (.sh (.bool (neg ^^ b)))
  | none => if okW x && okW y then some (.sh (.bool (neg ^^ PyData.eqv x y))) else none
def rEqW (K : PySem.W.Frag) : R2 := fun x y H Q => ∃ d e, Dp K H x d ∧ Dp K H y e ∧ PyData.canLay0 d = true ∧ PyData.canLay0 e = true ∧ d.depth ≤ 190 ∧ Q (.bl (PyData.eqv d e)) H
def rNeW (K : PySem.W.Frag) : R2 := fun x y H Q => ∃ d e, Dp K H x d ∧ Dp K H y e ∧ PyData.canLay0 d = true ∧ PyData.canLay0 e = true ∧ d.depth ≤ 190 ∧ Q (.bl (!PyData.eqv d e)) H
theorem op_eqW {X : Cx} (hu : X.A.units + 199 < cLine) : OpR X (compareOp .Eq) (rEqW X.K) := by
  intro pins s σ H x y v u Q I rx ry h
  obtain ⟨d, e, hd, he, sd, se, dp, q⟩ := h
  obtain ⟨as, r1⟩ := Dp.reads I d x v hd rx
  obtain ⟨bs, r2⟩ := Dp.reads I e y u he ry
  exact SeqAt.compareEq_reads r1 r2 sd se (by omega) ⟨.bl _, H, I, rfl, q⟩
theorem op_neW {X : Cx} (hu : X.A.units + 199 < cLine) : OpR X (compareOp .NotEq) (rNeW X.K) := by
  intro pins s σ H x y v u Q I rx ry h
  obtain ⟨d, e, hd, he, sd, se, dp, q⟩ := h
  obtain ⟨as, r1⟩ := Dp.reads I d x v hd rx
  obtain ⟨bs, r2⟩ := Dp.reads I e y u he ry
  exact SeqAt.compareNe_reads r1 r2 sd se (by omega) ⟨.bl _, H, I, rfl, q⟩
section
variable {K : KW}
theorem flatEq_V {B H : Hp} {x y : V} {dx dy : D} {b : Bool} (tx : Tp K B H x dx) (ty : Tp K B H y dy) (e : flatEq dx dy = some b) : scal x y = true ∧ decide (x = y) = b := by
  cases dx <;> cases dy <;> first | (cases (show none = some b from e); done) | skip
  · cases e; rw [tx.non, ty.non]; exact ⟨rfl, rfl⟩
  · cases e; rw [tx.non, ty.int]; exact ⟨rfl, by simp⟩
  · cases e; rw [tx.non, ty.str]; exact ⟨rfl, by simp⟩
  · cases e; rw [tx.bl, ty.bl]; exact ⟨rfl, by simp⟩
  · cases e; rw [tx.int, ty.non]; exact ⟨rfl, by simp⟩
  · cases e; rw [tx.int, ty.int]; exact ⟨rfl, by simp⟩
  · cases e; rw [tx.str, ty.non]; exact ⟨rfl, by simp⟩
  · cases e; rw [tx.str, ty.str]; exact ⟨rfl, by simp⟩
theorem op_eqB {X : Cx} (hu : X.A.units + 199 < cLine) : OpR X (compareOp .Eq) (fun x y H Q => rEq x y H Q ∨ rEqW X.K x y H Q) := OpR.or op_eq (op_eqW hu)
theorem op_neB {X : Cx} (hu : X.A.units + 199 < cLine) : OpR X (compareOp .NotEq) (fun x y H Q => rNe x y H Q ∨ rNeW X.K x y H Q) := OpR.or op_ne (op_neW hu)
theorem okW_ok {d : D} (h : okW d = true) : GS.plain d = true ∧ PyData.canLay0 d = true ∧ d.depth ≤ 190 := by
  unfold okW at h
  rw [Bool.and_eq_true, Bool.and_eq_true] at h
  exact ⟨h.1.1, h.1.2, Nat.le_of_ble_eq_true h.2⟩
theorem ol_eqB : OpL K (fun x y H Q => rEq x y H Q ∨ rEqW K x y H Q) (eqB false) := fun ρ σ B H x y dx dy h Q S tx ty e k => by
  unfold eqB at e
  split at e
  · rename_i b eb
    cases e
    obtain ⟨q1, q2⟩ := flatEq_V tx ty eb
    refine .inl ⟨q1, ?_⟩
    rw [q2]
    have := now (v := .bl (false ^^ b)) S (.bl _) k
    rwa [Bool.false_xor] at this
  · obtain ⟨c, rfl⟩ := if_some e
    rw [Bool.and_eq_true] at c
    obtain ⟨p1, c1, d1⟩ := okW_ok c.1
    obtain ⟨p2, c2, d2⟩ := okW_ok c.2
    refine .inr ⟨dx, dy, (tx.rp S.bh).dp _ p1, (ty.rp S.bh).dp _ p2, c1, c2, d1, ?_⟩
    have := now (v := .bl (false ^^ PyData.eqv dx dy)) S (.bl _) k
    rwa [Bool.false_xor] at this
theorem ol_neB : OpL K (fun x y H Q => rNe x y H Q ∨ rNeW K x y H Q) (eqB true) := fun ρ σ B H x y dx dy h Q S tx ty e k => by
  unfold eqB at e
  split at e
  · rename_i b eb
    cases e
    obtain ⟨q1, q2⟩ := flatEq_V tx ty eb
    refine .inl ⟨q1, ?_⟩
    rw [q2]
    have := now (v := .bl (true ^^ b)) S (.bl _) k
    rwa [Bool.true_xor] at this
  · obtain ⟨c, rfl⟩ := if_some e
    rw [Bool.and_eq_true] at c
    obtain ⟨p1, c1, d1⟩ := okW_ok c.1
    obtain ⟨p2, c2, d2⟩ := okW_ok c.2
    refine .inr ⟨dx, dy, (tx.rp S.bh).dp _ p1, (ty.rp S.bh).dp _ p2, c1, c2, d1, ?_⟩
    have := now (v := .bl (true ^^ PyData.eqv dx dy)) S (.bl _) k
    rwa [Bool.true_xor] at this
end
end GS
namespace GS
open PySem L2
def stuckF : FF := fun _ => .stuck
section
variable {ρ ρ1 : Rho} {c : Prop} [Decidable c]
@[simp] theorem mapR_st (k : Rho → Rho) : mapR k .stuck = .stuck := rfl
@[simp] theorem mapR_nx (k : Rho → Rho) : mapR k (.nx ρ) = .nx (k ρ) := rfl
@[simp] theorem mapR_bk (k : Rho → Rho) : mapR k (.bk ρ) = .bk (k ρ) := rfl
@[simp] theorem mapR_ct (k : Rho → Rho) : mapR k (.ct ρ) = .ct (k ρ) := rfl
@[simp] theorem mapR_rt (k : Rho → Rho) (h : Hd) : mapR k (.rt h ρ) = .rt h (k ρ) := rfl
@[simp] theorem mapR_ex (k : Rho → Rho) (x : Xc) : mapR k (.exc x ρ) = .exc x (k ρ) := rfl
@[simp] theorem mapR_if (k : Rho → Rho) (a b : RS) : mapR k (if c then a else b) = if c then mapR k a else mapR k b := by split <;> rfl
@[simp] theorem sKill_eq (vs : List Nat) (f : SF) : sKill vs f ρ = if vs.all fun i => !ioAt ρ i then mapR (fun ρ => wipeR ρ vs) (f ρ) else .stuck := rfl
@[simp] theorem sEnd_eq (f : SF) : sEnd f ρ = mapR (fun ρ => ρ.map ioC) (f ρ) := rfl
@[simp] theorem ioAt_zi (d : D) : ioAt (some ⟨d, .io⟩ :: ρ) 0 = true := rfl
@[simp] theorem outR_zero : outR ρ 0 = [] := rfl
@[simp] theorem outR_succ (x : Option Cel) (n : Nat) : outR (x :: ρ) (n + 1) = ioC x :: outR ρ n := by
  unfold outR
  rw [List.range_succ_eq_map, List.map_cons, List.map_map, slot_zero]
  rfl
@[simp] theorem ixA_l (ds : List D) (i : Int) : ixA (.list ds) (.int i) = (atI ds i).map Hd.sh := rfl
@[simp] theorem ixA_t (ds : List D) (i : Int) : ixA (.tuple ds) (.int i) = (atI ds i).map Hd.sh := rfl
@[simp] theorem ixA_s (z : Str) (i : Int) : ixA (.str z) (.int i) = if z.length ≤ sizeLine then (atI z.cps.toList i).map fun c => Hd.sh (.str ⟨#[c]⟩) else none := rfl
@[simp] theorem ixA_d (ps : List (D × D)) (k : D) : ixA (.dict ps) k = if isK k then (dGet ps k).map Hd.sh else none := rfl
@[simp] theorem isS_s (z : Str) : isS (.str z) = true := rfl
@[simp] theorem isS_i (z : Int) : isS (.int z) = true := rfl
@[simp] theorem mixB_nil (k : D) : mixB [] k = false := rfl
@[simp] theorem mixB_ss (z w : Str) (d : D) (ps : List (D × D)) : mixB ((.str z, d) :: ps) (.str w) = false := rfl
@[simp] theorem mixB_ii (z w : Int) (d : D) (ps : List (D × D)) : mixB ((.int z, d) :: ps) (.int w) = false := rfl
@[simp] theorem mixB_tt (z w : List D) (d : D) (ps : List (D × D)) : mixB ((.tuple z, d) :: ps) (.tuple w) = false := rfl
@[simp] theorem xnB_tup (z : List D) (d : D) (ps : List (D × D)) : xnB ((.tuple z, d) :: ps) = false := rfl
@[simp] theorem isK_s (z : Str) : isK (.str z) = true := rfl
@[simp] theorem isK_i (z : Int) : isK (.int z) = true := rfl
@[simp] theorem kEq_s (z w : Str) : kEq (.str z) (.str w) = decide (z = w) := rfl
@[simp] theorem kEq_i (z w : Int) : kEq (.int z) (.int w) = decide (z = w) := rfl
@[simp] theorem dGet_nil (k : D) : dGet [] k = none := rfl
@[simp] theorem dGet_cons (a d : D) (r : List (D × D)) (k : D) : dGet ((a, d) :: r) k = if kEq a k then some d else dGet r k := rfl
@[simp] theorem ofS_inj (a b : String) : (Str.ofString a = Str.ofString b) ↔ a = b := by
  constructor
  · intro h
    rw [Str.ofString_eq_toList, Str.ofString_eq_toList, Str.mk.injEq] at h
    have h2 : a.toList.map Char.toNat = b.toList.map Char.toNat := by
      have := congrArg Array.toList h
      simpa using this
    have h3 : a.toList = b.toList := (List.map_inj_right (fun x y e => Char.toNat_inj.mp e)).mp h2
    exact String.toList_inj.mp h3
  · intro h; rw [h]
theorem ofS_len (a : String) : (Str.ofString a).length = a.toList.length := by
  rw [Str.ofString_eq_toList]
  show (List.toArray _).size = _
  simp
theorem ofS_cps (a : String) : (Str.ofString a).cps.toList = a.toList.map Char.toNat := by
  rw [Str.ofString_eq_toList]
@[simp] theorem xnB_nil : xnB [] = false := rfl
@[simp] theorem xnB_str (x : Str) (d : D) (ps : List (D × D)) : xnB ((.str x, d) :: ps) = false := rfl
@[simp] theorem xnB_int (x : Int) (d : D) (ps : List (D × D)) : xnB ((.int x, d) :: ps) = false := rfl
@[simp] theorem inB_d (neg : Bool) (k : D) (ps : List (D × D)) : inB neg k (.dict ps) = if isK k && !xnB ps && !mixB ps k then some (.sh (.bool (neg ^^ (dGet ps k).isSome))) else none := by cases k <;> rfl
@[simp] theorem inB_c (neg : Bool) (c : Nat) (z : Str) : inB neg (.str ⟨#[c]⟩) (.str z) = some (.sh (.bool (neg ^^ decide (c ∈ z.cps.toList)))) := rfl
@[simp] theorem inB_t (neg : Bool) (d : D) (ds : List D) : inB neg d (.tuple ds) = if flatD d && ds.all flatD then some (.sh (.bool (neg ^^ ds.any fun z => PyData.eqv z d))) else none := by cases d <;> rfl
@[simp] theorem inB_l (neg : Bool) (d : D) (ds : List D) : inB neg d (.list ds) = if okEq d && okEq (.list ds) then some (.sh (.bool (neg ^^ ds.any fun z => PyData.eqv z d))) else none := by cases d <;> rfl
@[simp] theorem eqB_i (neg : Bool) (i j : Int) : eqB neg (.int i) (.int j) = some (.sh (.bool (neg ^^ decide (i = j)))) := rfl
@[simp] theorem eqB_s (neg : Bool) (i j : Str) : eqB neg (.str i) (.str j) = some (.sh (.bool (neg ^^ decide (i = j)))) := rfl
@[simp] theorem eqB_b (neg : Bool) (i j : Bool) : eqB neg (.bool i) (.bool j) = some (.sh (.bool (neg ^^ decide (i = j)))) := rfl
@[simp] theorem eqB_nn (neg : Bool) : eqB neg .none .none = some (.sh (.bool (neg ^^ true))) := rfl
@[simp] theorem eqB_ns (neg : Bool) (j : Str) : eqB neg .none (.str j) = some (.sh (.bool (neg ^^ false))) := rfl
@[simp] theorem eqB_sn (neg : Bool) (j : Str) : eqB neg (.str j) .none = some (.sh (.bool (neg ^^ false))) := rfl
@[simp] theorem eqB_ni (neg : Bool) (j : Int) : eqB neg .none (.int j) = some (.sh (.bool (neg ^^ false))) := rfl
@[simp] theorem eqB_in (neg : Bool) (j : Int) : eqB neg (.int j) .none = some (.sh (.bool (neg ^^ false))) := rfl
/-- any two data that can be compared -/
theorem eqB_of {x y : D} (neg : Bool) (hx : okW x = true) (hy : okW y = true) : eqB neg x y = some (.sh (.bool (neg ^^ PyData.eqv x y))) := by
  unfold eqB
  split
  · rename_i b e
    congr 4
    cases x <;> cases y <;> first | (cases (show none = some b from e); done) | (cases e; simp [PyData.eqv]; done) | skip
    · cases e; simp [PyData.eqv]; rw [Bool.eq_iff_iff]; simp
    · cases e; simp [PyData.eqv]; rw [Bool.eq_iff_iff]; simp
    · cases e; simp [PyData.eqv]; rw [Bool.eq_iff_iff]; simp
  · rw [hx, hy]
    rfl
def mutO (fl : Fl) (o : Option D) (ρ : Rho) (i : Nat) : RS := match o with
  | some d' => .nx (ρ.set i (some ⟨d', fl⟩))
  | none => .stuck
def mutC (s : Option Cel) (ρ : Rho) (i : Nat) (k : D → Option D) : RS := match s with
  | some ⟨d, .ow⟩ => mutO .ow (k d) ρ i
  | some ⟨d, .io⟩ => mutO .io (k d) ρ i
  | _ => .stuck
@[simp] theorem mutO_s (fl : Fl) (d : D) (i : Nat) : mutO fl (some d) ρ i = .nx (ρ.set i (some ⟨d, fl⟩)) := rfl
@[simp] theorem mutO_if (fl : Fl) (a b : Option D) (i : Nat) : mutO fl (if c then a else b) ρ i = if c then mutO fl a ρ i else mutO fl b ρ i := by split <;> rfl
@[simp] theorem mutO_n (fl : Fl) (i : Nat) : mutO fl none ρ i = .stuck := rfl
@[simp] theorem mutC_ow (d : D) (i : Nat) (k : D → Option D) : mutC (some ⟨d, .ow⟩) ρ i k = mutO .ow (k d) ρ i := rfl
@[simp] theorem mutC_io (d : D) (i : Nat) (k : D → Option D) : mutC (some ⟨d, .io⟩) ρ i k = mutO .io (k d) ρ i := rfl
@[simp] theorem mutS_eq (i : Nat) (k : D → Option D) : mutS ρ i k = mutC (slot ρ i) ρ i k := by
  unfold mutS mutC mutO
  rfl
@[simp] theorem appD_l (y : D) (ds : List D) : appD y (.list ds) = if ds.length < sizeLine then some (.list (ds ++ [y])) else none := rfl
def isLC : Option Cel → Bool
  | some ⟨.list _, _⟩ => true
  | _ => false
@[simp] theorem isLC_l (ds : List D) (fl : Fl) : isLC (some ⟨.list ds, fl⟩) = true := rfl
@[simp] theorem isL_eq (i : Nat) : isL ρ i = isLC (slot ρ i) := rfl
def appR (i : Nat) (h : Hd) (ρ : Rho) : RS := match h with
  | .sh y => mutS ρ i (appD y)
  | _ => .stuck
@[simp] theorem appR_sh (i : Nat) (y : D) : appR i (.sh y) ρ = mutS ρ i (appD y) := rfl
@[simp] theorem sApp_eq (i : Nat) (f : EF) : sApp i f ρ = if isL ρ i then bindES (eCap f ρ) (appR i) else .stuck := by unfold sApp; rfl
def putK (i : Nat) (y : D) (h : Hd) (ρ : Rho) : RS := match h with
  | .sh k => mutS ρ i (setD k y)
  | _ => .stuck
def putC (s : Option Cel) (i : Nat) (fi : EF) (y : D) (ρ : Rho) : RS := match s with
  | none => .stuck
  | some _ => bindES (eCap fi ρ) (putK i y)
def putR (i : Nat) (fi : EF) (h : Hd) (ρ : Rho) : RS := match h with
  | .sh y => putC (slot ρ i) i fi y ρ
  | _ => .stuck
@[simp] theorem putK_sh (i : Nat) (k y : D) : putK i y (.sh k) ρ = mutS ρ i (setD k y) := rfl
@[simp] theorem putC_s (x : Cel) (i : Nat) (fi : EF) (y : D) : putC (some x) i fi y ρ = bindES (eCap fi ρ) (putK i y) := rfl
@[simp] theorem putR_sh (i : Nat) (fi : EF) (y : D) : putR i fi (.sh y) ρ = putC (slot ρ i) i fi y ρ := rfl
@[simp] theorem sPut_eq (i : Nat) (fi fe : EF) : sPut i fi fe ρ = bindES (eCap fe ρ) (putR i fi) := by
  unfold sPut putR putC putK
  rfl
@[simp] theorem setD_d (k y : D) (ps : List (D × D)) : setD k y (.dict ps) = if isK k && !mixB ps k && decide (ps.length < sizeLine) then some (.dict (dPut ps k y)) else none := rfl
@[simp] theorem setD_l (i : Int) (y : D) (ds : List D) : setD (.int i) y (.list ds) = (ixN ds.length i).map fun j => .list (ds.set j y) := rfl
@[simp] theorem gT_t (n : Nat) (f : List D → Rho → Option Rho) (ds : List D) : gT n f (.tuple ds) ρ = if ds.length = n then f ds ρ else none := rfl
@[simp] theorem gsN_n : gsN [] ρ = some ρ := rfl
@[simp] theorem gsC_c (f : D → Rho → Option Rho) (g : List D → Rho → Option Rho) (d : D) (ds : List D) : gsC f g (d :: ds) ρ = (f d ρ).bind (g ds) := rfl
def bindP (r : RP) (k : List (D × D) → Rho → RE) : RE := match r with
  | .stuck => .stuck
  | .exc x ρ1 => .exc x ρ1
  | .ok ps ρ1 => k ps ρ1
@[simp] theorem bindP_ok (ps : List (D × D)) (k : List (D × D) → Rho → RE) : bindP (.ok ps ρ) k = k ps ρ := rfl
@[simp] theorem eDct_eq (g : PF) : eDct g ρ = bindP (g ρ) fun ps ρ1 => if ps.length ≤ 15 then .ok (.fr (.dict (dMerge ps))) ρ1 else .stuck := by unfold eDct bindP; rfl
@[simp] theorem dNil_eq : dNil ρ = .ok [] ρ := rfl
def consP (k v : D) (r : RP) : RP := match r with
  | .stuck => .stuck
  | .exc x ρ3 => .exc x ρ3
  | .ok ps ρ3 => if isS k then .ok ((k, v) :: ps) ρ3 else .stuck
@[simp] theorem consP_ok (k v : D) (ps : List (D × D)) : consP k v (.ok ps ρ) = if isS k then .ok ((k, v) :: ps) ρ else .stuck := rfl
def valP (k : D) (g : PF) (r : RE) : RP := match r with
  | .stuck => .stuck
  | .exc x ρ2 => .exc x ρ2
  | .ok (.sh v) ρ2 => consP k v (g ρ2)
  | .ok _ _ => .stuck
@[simp] theorem valP_ok (k v : D) (g : PF) : valP k g (.ok (.sh v) ρ) = consP k v (g ρ) := rfl
def keyP (fv : EF) (g : PF) (r : RE) : RP := match r with
  | .stuck => .stuck
  | .exc x ρ1 => .exc x ρ1
  | .ok (.sh k) ρ1 => valP k g (eCap fv ρ1)
  | .ok _ _ => .stuck
@[simp] theorem keyP_ok (k : D) (fv : EF) (g : PF) : keyP fv g (.ok (.sh k) ρ) = valP k g (eCap fv ρ) := rfl
@[simp] theorem dCons_eq (fk fv : EF) (g : PF) : dCons fk fv g ρ = keyP fv g (eCap fk ρ) := by
  unfold dCons keyP valP consP
  rfl
def okF (ρ2 : Rho) (r : RE) : RE := match r with
      | .stuck => .stuck
      | .ok h _ => (match h with
        | .bw _ => .stuck
        | h => .ok h ρ2)
      | .exc x _ => .exc x ρ2
@[simp] theorem okF_sh (d : D) (outs : Rho) : okF ρ (.ok (.sh d) outs) = .ok (.sh d) ρ := rfl
@[simp] theorem okF_fr (d : D) (outs : Rho) : okF ρ (.ok (.fr d) outs) = .ok (.fr d) ρ := rfl
def callF2 (n : Nat) (F : FF) (d : D) (ρ2 : Rho) (o : Option Rho) : RE := match o with
    | none => .stuck
    | some r => if r.length + 1 ≠ n then .stuck else okF ρ2 (F (some ⟨d, .io⟩ :: r))
@[simp] theorem callF2_s (n : Nat) (F : FF) (d : D) (r : Rho) : callF2 n F d ρ (some r) = if r.length + 1 ≠ n then .stuck else okF ρ (F (some ⟨d, .io⟩ :: r)) := rfl
def callF1 (n : Nat) (F : FF) (g : AF) (h : Hd) (ρ1 : Rho) : RE := match h with
  | .fr d => bindA (g ρ1) fun hs ρ2 => callF2 n F d ρ2 (shCs hs)
  | _ => .stuck
@[simp] theorem callF1_fr (n : Nat) (F : FF) (g : AF) (d : D) : callF1 n F g (.fr d) ρ = bindA (g ρ) fun hs ρ2 => callF2 n F d ρ2 (shCs hs) := rfl
@[simp] theorem eCallF_eq (n : Nat) (F : FF) (f0 : EF) (g : AF) : eCallF n F f0 g ρ = bindE (f0 ρ) (callF1 n F g) := by
  unfold eCallF callF1 callF2 okF
  rfl
@[simp] theorem shCs_n : shCs [] = some [] := rfl
@[simp] theorem shCs_c (d : D) (hs : List Hd) : shCs (.sh d :: hs) = (shCs hs).map fun r => some ⟨d, .sh⟩ :: r := rfl
@[simp] theorem argC_bwo (i : Nat) : argC ρ true (.bw i) = match slot ρ i with
    | some ⟨d, .ow⟩ => some ⟨d, .io⟩
    | some ⟨d, .io⟩ => some ⟨d, .io⟩
    | _ => none := rfl
def putBC (ρ : Rho) (i : Nat) (a b : Option Cel) : Option Rho := match a, b with
  | some c, some c' => some (ρ.set i (some ⟨c'.d, c.fl⟩))
  | _, _ => none
@[simp] theorem putBC_s (i : Nat) (a b : Cel) : putBC ρ i (some a) (some b) = some (ρ.set i (some ⟨b.d, a.fl⟩)) := rfl
theorem putB_bw (i j : Nat) (hs : List Hd) (outs : Rho) (h : hs[j]? = some (.bw i)) : putB ρ (some j) hs outs = putBC ρ i (slot ρ i) (slot outs j) := by
  unfold putB putBC
  dsimp only
  rw [h]
  try rfl
/-- one argument lent, the first one -/
@[simp] theorem backR_io0 (i : Nat) (hs : List Hd) (d : D) (d' : D) (fl : Fl) (outs : Rho) : backR ρ (some 0) (.bw i :: hs) (.ok (.sh d) (some ⟨d', fl⟩ :: outs)) = match slot ρ i with
    | some c => .ok (.sh d) (ρ.set i (some ⟨d', c.fl⟩))
    | none => .stuck := by
  unfold backR
  dsimp only
  rw [putB_bw i 0 _ _ rfl, slot_zero]
  cases slot ρ i <;> rfl
@[simp] theorem backR_io0f (i : Nat) (hs : List Hd) (d : D) (d' : D) (fl : Fl) (outs : Rho) : backR ρ (some 0) (.bw i :: hs) (.ok (.fr d) (some ⟨d', fl⟩ :: outs)) = match slot ρ i with
    | some c => .ok (.fr d) (ρ.set i (some ⟨d', c.fl⟩))
    | none => .stuck := by
  unfold backR
  dsimp only
  rw [putB_bw i 0 _ _ rfl, slot_zero]
  cases slot ρ i <;> rfl
/-- a loop that only looks: it leaves with r at the first item that p does not hold of -/
theorem forL_look {α : Type} {g : D → Rho → Option Rho} {b : SF} (ρ ρ' : Rho) (it : α → D) (p : α → Bool) (r : Hd) : ∀ (as : List α),
    (∀ a, a ∈ as → optR (g (it a) ρ) b = if p a then .nx ρ else .rt r ρ') → forL g b (as.map it) ρ = if as.all p then .nx ρ else .rt r ρ'
  | [], _ => rfl
  | a :: as, k => by
    have h1 := k a (List.mem_cons_self ..)
    have q := forL_look ρ ρ' it p r as fun a m => k a (List.mem_cons_of_mem _ m)
    rw [List.map_cons, forL_cons]
    unfold optR at h1 ⊢
    split at h1
    · split at h1 <;> cases h1
    · dsimp only
      rw [h1]
      cases hp : p a <;> simp [hp, q]
/-- a loop by an invariant of its own state -/
theorem forL_by' {S : Type} {g : D → Rho → Option Rho} {b : SF} (emb : S → Rho) {all : List D} (P : List D → S → Prop) : ∀ (ds pre : List D) (s : S), pre ++ ds = all → P pre s →
    (∀ pre d post s, all = pre ++ d :: post → P pre s → ∃ s', optR (g d (emb s)) b = .nx (emb s') ∧ P (pre ++ [d]) s') → ∃ s', forL g b ds (emb s) = .nx (emb s') ∧ P all s'
  | [], pre, s, e, h, _ => ⟨s, rfl, by rw [← e, List.append_nil]; exact h⟩
  | a :: as, pre, s, e, h, k => by
    obtain ⟨s1, h1, h2⟩ := k pre a as s e.symm h
    obtain ⟨s2, q1, q2⟩ := forL_by' emb P as (pre ++ [a]) s1 (by rw [List.append_assoc]; exact e) h2 k
    refine ⟨s2, ?_, q2⟩
    rw [forL_cons]
    unfold optR at h1 ⊢
    split at h1
    · cases h1
    · dsimp only
      rw [h1, turnR_nx, q1]
theorem forL_by {S : Type} {g : D → Rho → Option Rho} {b : SF} (emb : S → Rho) (P : List D → S → Prop) (ds : List D) (s : S) (h : P [] s)
    (k : ∀ pre d post s, ds = pre ++ d :: post → P pre s → ∃ s', optR (g d (emb s)) b = .nx (emb s') ∧ P (pre ++ [d]) s') : ∃ s', forL g b ds (emb s) = .nx (emb s') ∧ P ds s' :=
  forL_by' emb P ds [] s rfl h k
/-- a comprehension over things, by a test and an element -/
theorem lcL_fm {α : Type} {vs : List Nat} {g : D → Rho → Option Rho} {ft fe : EF} (ρ : Rho) (it : α → D) (p : α → Bool) (el : α → D) : ∀ (as : List α) (acc : List D), acc.length + as.length ≤ sizeLine →
    (∀ a, a ∈ as → ∃ ρ1, g (it a) ρ = some ρ1 ∧ (∃ ρ2, ft ρ1 = .ok (.sh (.bool (p a))) ρ2 ∧ wipeR ρ2 vs = ρ ∧ (p a = true → ∃ ρ3, eCap fe ρ2 = .ok (.sh (el a)) ρ3 ∧ wipeR ρ3 vs = ρ))) →
    lcL vs g ft fe (as.map it) acc ρ = .ok (.fr (.list (acc ++ (as.filter p).map el))) ρ
  | [], acc, _, _ => by simp [lcL_nil]
  | a :: as, acc, hl, k => by
    rw [List.length_cons] at hl
    obtain ⟨ρ1, h1, ρ2, h2, h3, h4⟩ := k a (List.mem_cons_self ..)
    rw [List.map_cons, lcL_cons, h1, optE_s, h2, bindB_ok]
    cases hp : p a with
    | true =>
      obtain ⟨ρ3, h5, h6⟩ := h4 hp
      rw [if_pos rfl, h5, bindE_ok, lcR_s, if_pos (by omega), h6, lcL_fm ρ it p el as _ (by rw [List.length_append, List.length_singleton]; omega) fun a m => k a (List.mem_cons_of_mem _ m), List.filter_cons_of_pos hp]
      simp
    | false =>
      rw [if_neg Bool.false_ne_true, h3, lcL_fm ρ it p el as _ (by omega) fun a m => k a (List.mem_cons_of_mem _ m), List.filter_cons_of_neg (by rw [hp]; exact Bool.false_ne_true)]
/-- .. where nothing else changes; up: what a turn sees -/
theorem lcL_up {α : Type} {vs : List Nat} {g : D → Rho → Option Rho} {ft fe : EF} (ρ : Rho) (it : α → D) (up : α → Rho) (p : α → Bool) (el : α → D) (as : List α) (acc : List D) (hl : acc.length + as.length ≤ sizeLine)
    (k : ∀ a, a ∈ as → g (it a) ρ = some (up a) ∧ ft (up a) = .ok (.sh (.bool (p a))) (up a) ∧ wipeR (up a) vs = ρ ∧ (p a = true → eCap fe (up a) = .ok (.sh (el a)) (up a))) :
    lcL vs g ft fe (as.map it) acc ρ = .ok (.fr (.list (acc ++ (as.filter p).map el))) ρ :=
  lcL_fm ρ it p el as acc hl fun a m => by
    obtain ⟨h1, h2, h3, h4⟩ := k a m
    exact ⟨_, h1, _, h2, h3, fun h => ⟨_, h4 h, h3⟩⟩
/-- .. without a test -/
theorem lcL_all {α : Type} {vs : List Nat} {g : D → Rho → Option Rho} {fe : EF} (ρ : Rho) (it : α → D) (up : α → Rho) (el : α → D) (as : List α) (acc : List D) (hl : acc.length + as.length ≤ sizeLine)
    (k : ∀ a, a ∈ as → g (it a) ρ = some (up a) ∧ wipeR (up a) vs = ρ ∧ eCap fe (up a) = .ok (.sh (el a)) (up a)) :
    lcL vs g (eNox eYes) fe (as.map it) acc ρ = .ok (.fr (.list (acc ++ as.map el))) ρ := by
  have := lcL_up (ft := eNox eYes) (fe := fe) ρ it up (fun _ => true) el as acc hl fun a m => by
    obtain ⟨h1, h2, h3⟩ := k a m
    exact ⟨h1, rfl, h2, fun _ => h3⟩
  rw [this, List.filter_eq_self.mpr fun _ _ => rfl]
end
theorem fits {n : Nat} (h : n ≤ 1000000) : n ≤ sizeLine := Nat.le_trans h (by decide)
theorem fitsl {n : Nat} (h : n < 1000000) : n < sizeLine := Nat.lt_of_lt_of_le h (by decide)
theorem len_eq (s : Str) : s.length = s.cps.toList.length := by rw [Array.length_toList]; rfl
theorem app_len (a b : Str) : (a ++ b).length = a.length + b.length := by
  show (a.cps ++ b.cps).size = a.cps.size + b.cps.size
  exact Array.size_append
theorem app_cps (a b : Str) : (a ++ b).cps.toList = a.cps.toList ++ b.cps.toList := by
  show (a.cps ++ b.cps).toList = _
  simp
theorem one_len (c : Nat) : (⟨#[c]⟩ : Str).length = 1 := rfl
/-- a list of things of one form -/
theorem all_map {α : Type} {f : α → D} {ds : List D} (h : ∀ d ∈ ds, ∃ a, d = f a) : ∃ as : List α, ds = as.map f := by
  induction ds with
  | nil => exact ⟨[], rfl⟩
  | cons d ds ih =>
    obtain ⟨a, rfl⟩ := h d (by simp)
    obtain ⟨as, rfl⟩ := ih fun d m => h d (by simp [m])
    exact ⟨a :: as, rfl⟩
theorem cut_ints (ns : List Int) (lo hi : Option Int) : ∃ ms : List Int, cutD (ns.map .int) lo hi = ms.map .int ∧ ms.length ≤ ns.length := by
  refine ⟨(ns.drop (HT.sIx ns.length 0 lo)).take (HT.sIx ns.length ns.length hi - HT.sIx ns.length 0 lo), ?_, ?_⟩
  · unfold cutD
    rw [List.length_map, List.map_take, List.map_drop]
  · rw [List.length_take, List.length_drop]; omega
end GS
namespace GM
open PySem L2 GS
end GM
namespace GM
open PySem L2 GS
abbrev GRT : Str := Str.ofString "ABCDEFGHIJKLMNOPQRSTUVWXYZ"
abbrev SML : Str := Str.ofString "abcdefghijklmnopqrstuvwxyz"
abbrev FIG : Str := Str.ofString "0123456789"
theorem lG : GRT.length = 26 := by decide +kernel
theorem lF : FIG.length = 10 := by decide +kernel
def okN (F : Str) (c : Nat) : Bool := decide (c ∈ F.cps) || decide (c ∈ FIG.cps)
def nameL (F : Str) : List Nat → Bool
  | [] => false
  | c :: cs => decide ((c :: cs).length ≤ 24) && decide (c ∈ F.cps) && (c :: cs).all (okN F)
def nameB (s : Str) : Bool := nameL GRT s.cps.toList
def keyB (s : Str) : Bool := nameL SML s.cps.toList
def signB (s : Str) : Bool := decide (1 ≤ s.cps.toList.length) && decide (s.cps.toList.length ≤ 6) && s.cps.toList.all fun c => decide (c ∈ SML.cps)
theorem nameB_len {s : Str} (h : nameB s = true) : 1 ≤ s.length ∧ s.length ≤ 24 := by
  have hl := len_eq s
  unfold nameB at h
  cases hc : s.cps.toList with
  | nil => rw [hc] at h; cases h
  | cons c cs =>
    rw [hc] at h hl
    unfold nameL at h
    simp only [Bool.and_eq_true, decide_eq_true_eq] at h
    rw [hl]
    exact ⟨by simp, h.1.1⟩
end GM
namespace GM
open PySem L2 GS
end GM
namespace GM
open PySem L2 GS
end GM
namespace GM
open PySem L2 GS
inductive Tr where
  | sign (s : Str)
  | void
  | hole (n : Str)
  | foot (n : Str)
  | knot (n : Str) (tk : Option (Str × Bool)) (ks : List Tr)
  deriving Inhabited
def encTk : Option (Str × Bool) → D
  | none => .none
  | some (m, b) => .tuple [.str m, .bool b]
def okTk : Option (Str × Bool) → Bool
  | none => true
  | some (m, _) => nameB m
mutual
def Tr.enc : Tr → D
  | .sign s => .tuple [.str (Str.ofString "sign"), .str s]
  | .void => .tuple [.str (Str.ofString "void")]
  | .hole n => .tuple [.str (Str.ofString "hole"), .str n]
  | .foot n => .tuple [.str (Str.ofString "foot"), .str n]
  | .knot n tk ks => .tuple [.str (Str.ofString "knot"), .str n, encTk tk, .tuple (Tr.encL ks)]
def Tr.encL : List Tr → List D
  | [] => []
  | t :: ts => t.enc :: Tr.encL ts
end
mutual
def Tr.ok : Tr → Bool
  | .sign s => signB s
  | .void => true
  | .hole n => nameB n
  | .foot n => nameB n
  | .knot n tk ks => nameB n && (okTk tk && (decide (1 ≤ ks.length) && (decide (ks.length ≤ 8) && Tr.okL ks)))
def Tr.okL : List Tr → Bool
  | [] => true
  | t :: ts => t.ok && Tr.okL ts
end
mutual
def Tr.ht : Tr → Nat
  | .knot _ _ ks => Tr.htL ks + 1
  | _ => 0
def Tr.htL : List Tr → Nat
  | [] => 0
  | t :: ts => max t.ht (Tr.htL ts)
end
theorem encL_map (ts : List Tr) : Tr.encL ts = ts.map Tr.enc := by
  induction ts with
  | nil => rfl
  | cons t ts ih => rw [Tr.encL, ih, List.map_cons]
theorem okL_mem {ts : List Tr} (h : Tr.okL ts = true) : ∀ t ∈ ts, t.ok = true := by
  induction ts with
  | nil => intro t m; cases m
  | cons e ts ih =>
    rw [Tr.okL, Bool.and_eq_true] at h
    intro t m
    cases m with
    | head => exact h.1
    | tail _ m => exact ih h.2 t m
theorem okL_of {ts : List Tr} (h : ∀ t ∈ ts, t.ok = true) : Tr.okL ts = true := by
  induction ts with
  | nil => rfl
  | cons e ts ih => rw [Tr.okL, h e (by simp), ih fun t m => h t (by simp [m])]; rfl
theorem ht_mem {ts : List Tr} {t : Tr} (m : t ∈ ts) : t.ht ≤ Tr.htL ts := by
  induction ts with
  | nil => cases m
  | cons e ts ih =>
    rw [Tr.htL]
    cases m with
    | head => omega
    | tail _ m => have := ih m; omega
theorem htL_of {ts : List Tr} {n : Nat} (h : ∀ t ∈ ts, t.ht ≤ n) : Tr.htL ts ≤ n := by
  induction ts with
  | nil => rw [Tr.htL]; omega
  | cons e ts ih =>
    rw [Tr.htL]
    have := h e (by simp)
    have := ih fun t m => h t (by simp [m])
    omega
theorem depth_tk (tk : Option (Str × Bool)) : (encTk tk).depth ≤ 1 := by
  cases tk with
  | none => simp [encTk, PyData.depth]
  | some p => simp [encTk, PyData.depth, PyData.depthAll]
mutual
theorem depth_enc : ∀ t : Tr, t.enc.depth ≤ 2 * t.ht + 1
  | .sign s => by simp [Tr.enc, PyData.depth, PyData.depthAll]
  | .void => by simp [Tr.enc, PyData.depth, PyData.depthAll]
  | .hole n => by simp [Tr.enc, PyData.depth, PyData.depthAll]
  | .foot n => by simp [Tr.enc, PyData.depth, PyData.depthAll]
  | .knot n tk ks => by
    have h1 := depth_tk tk
    have h2 := depthL_enc ks
    simp only [Tr.enc, PyData.depth, PyData.depthAll, Tr.ht]
    omega
theorem depthL_enc : ∀ ts : List Tr, PyData.depthAll (Tr.encL ts) ≤ 2 * Tr.htL ts + 1
  | [] => by simp [Tr.encL, PyData.depthAll]
  | t :: ts => by
    have h1 := depth_enc t
    have h2 := depthL_enc ts
    simp only [Tr.encL, PyData.depthAll, Tr.htL]
    omega
end
mutual
/-- no dicts, texts of code points -/
def cleanB : D → Bool
  | .str x => PyData.strOk x
  | .list ds => cleanL ds
  | .tuple ds => cleanL ds
  | .dict _ => false
  | _ => true
def cleanL : List D → Bool
  | [] => true
  | d :: ds => cleanB d && cleanL ds
end
mutual
theorem clean_ok : ∀ d : D, cleanB d = true → plain d = true ∧ PyData.canLay0 d = true
  | .none, _ => ⟨rfl, rfl⟩
  | .bool _, _ => ⟨rfl, rfl⟩
  | .int _, _ => ⟨rfl, rfl⟩
  | .str x, h => ⟨rfl, h⟩
  | .list ds, h => by
    rw [cleanB] at h
    obtain ⟨h1, h2⟩ := cleanL_ok ds h
    exact ⟨by rw [GS.plain]; exact h1, by rw [PyData.canLay0]; exact h2⟩
  | .tuple ds, h => by
    rw [cleanB] at h
    obtain ⟨h1, h2⟩ := cleanL_ok ds h
    exact ⟨by rw [GS.plain]; exact h1, by rw [PyData.canLay0]; exact h2⟩
  | .dict _, h => by cases h
theorem cleanL_ok : ∀ ds : List D, cleanL ds = true → plainL ds = true ∧ PyData.canLayAll0 ds = true
  | [], _ => ⟨rfl, rfl⟩
  | d :: ds, h => by
    rw [cleanL, Bool.and_eq_true] at h
    obtain ⟨h1, h2⟩ := clean_ok d h.1
    obtain ⟨h3, h4⟩ := cleanL_ok ds h.2
    exact ⟨by rw [plainL, h1, h3]; rfl, by rw [PyData.canLayAll0, h2, h4]; rfl⟩
end
theorem okEq_of {d : D} (h : cleanB d = true) (hd : d.depth ≤ 64) : okEq d = true := by
  obtain ⟨h1, h2⟩ := clean_ok d h
  unfold okEq SeqAt.shaped
  rw [h1, h2, decide_eq_true hd]; rfl
theorem okW_of {d : D} (h : cleanB d = true) (hd : d.depth ≤ 190) : okW d = true := by
  obtain ⟨h1, h2⟩ := clean_ok d h
  unfold okW
  rw [h1, h2, Nat.ble_eq_true_of_le hd]; rfl
theorem cleanL_of {ds : List D} (h : ∀ d ∈ ds, cleanB d = true) : cleanL ds = true := by
  induction ds with
  | nil => rfl
  | cons e ds ih => rw [cleanL, h e (by simp), ih fun t m => h t (by simp [m])]; rfl
theorem depthAll_of {ds : List D} {n : Nat} (h : ∀ d ∈ ds, d.depth ≤ n) : PyData.depthAll ds ≤ n := by
  induction ds with
  | nil => rw [PyData.depthAll]; omega
  | cons e ds ih =>
    rw [PyData.depthAll]
    have := h e (by simp)
    have := ih fun t m => h t (by simp [m])
    omega
theorem lowG : ∀ c ∈ GRT.cps.toList, c < 0x110000 := by decide +kernel
theorem lowS : ∀ c ∈ SML.cps.toList, c < 0x110000 := by decide +kernel
theorem lowF : ∀ c ∈ FIG.cps.toList, c < 0x110000 := by decide +kernel
theorem strOk_of {s : Str} (h : ∀ c ∈ s.cps.toList, c < 0x110000) : PyData.strOk s = true := by
  unfold PyData.strOk
  rw [← Array.all_toList, List.all_eq_true]
  intro c m
  exact decide_eq_true (h c m)
theorem nameL_mem {F s : Str} (h : nameL F s.cps.toList = true) : ∀ c ∈ s.cps.toList, c ∈ F.cps.toList ∨ c ∈ FIG.cps.toList := by
  intro c m
  cases hc : s.cps.toList with
  | nil => rw [hc] at m; cases m
  | cons a as =>
    rw [hc] at h m
    simp only [nameL, Bool.and_eq_true] at h
    have := List.all_eq_true.mp h.2 c m
    simpa [okN] using this
theorem nameB_strOk {s : Str} (h : nameB s = true) : PyData.strOk s = true := strOk_of fun c m => (nameL_mem h c m).elim (lowG c) (lowF c)
theorem signB_mem {s : Str} (h : signB s = true) : ∀ c ∈ s.cps.toList, c ∈ SML.cps.toList := by
  intro c m
  unfold signB at h
  simp only [Bool.and_eq_true] at h
  have := List.all_eq_true.mp h.2 c m
  simpa using this
theorem signB_strOk {s : Str} (h : signB s = true) : PyData.strOk s = true := strOk_of fun c m => lowS c (signB_mem h c m)
mutual
theorem clean_enc : ∀ t : Tr, t.ok = true → cleanB t.enc = true
  | .sign s, h => by rw [Tr.enc, cleanB, cleanL, cleanL, cleanL, show cleanB (.str s) = true from signB_strOk h]; decide +kernel
  | .void, _ => by decide +kernel
  | .hole n, h => by rw [Tr.enc, cleanB, cleanL, cleanL, cleanL, show cleanB (.str n) = true from nameB_strOk h]; decide +kernel
  | .foot n, h => by rw [Tr.enc, cleanB, cleanL, cleanL, cleanL, show cleanB (.str n) = true from nameB_strOk h]; decide +kernel
  | .knot n tk ks, h => by
    rw [Tr.ok] at h
    simp only [Bool.and_eq_true, decide_eq_true_eq] at h
    have h2 : cleanB (encTk tk) = true := by
      cases tk with
      | none => rfl
      | some p => rw [encTk, cleanB, cleanL, cleanL, cleanL, show cleanB (.str p.1) = true from nameB_strOk h.2.1]; rfl
    rw [Tr.enc, cleanB, cleanL, cleanL, cleanL, cleanL, cleanL, show cleanB (.str n) = true from nameB_strOk h.1, h2, show cleanB (.tuple (Tr.encL ks)) = true from cleanL_enc ks h.2.2.2.2]; decide +kernel
theorem cleanL_enc : ∀ ts : List Tr, Tr.okL ts = true → cleanL (Tr.encL ts) = true
  | [], _ => rfl
  | t :: ts, h => by
    rw [Tr.okL, Bool.and_eq_true] at h
    rw [Tr.encL, cleanL, clean_enc t h.1, cleanL_enc ts h.2]; rfl
end
end GM
namespace GM
open PySem L2 GS
/-- _law_cell(state); slots 0:state -/
def m_law_cell : SF := (sSeq (sPut 0 (eC (.str (Str.ofString "at"))) (eBin addD (eBin ixA (eVb 0) (eC (.str (Str.ofString "at")))) (eC (.int 1)))) (sSeq (sIf (eB (eBin (ltI fun i j => decide (j < i)) (eBin ixA (eVb 0) (eC (.str (Str.ofString "at")))) (eCB (un1 lenD) (aCons (eBin ixA (eVb 0) (eC (.str (Str.ofString "script")))) aNil)))) (sRet (eC (.int 0))) sNil) (sEnd (sRet (eBin ixA (eBin ixA (eVb 0) (eC (.str (Str.ofString "script")))) (eBin subD (eBin ixA (eVb 0) (eC (.str (Str.ofString "at")))) (eC (.int 1))))))))
theorem m_law_cell_eq (ρ : Rho) : fnF 1 1 (m_law_cell) ρ = finR 1 (m_law_cell (ρ ++ [])) := fnF_eq 1 1 _
/-- _law_name(cell); slots 0:cell 1:great 2:letters 3:found 4:k -/
def m_law_name_b1 : SF := (sKill [4] (sSet 3 (eBin addD (eVb 3) (eBin ixA (eVb 2) (eBin modD (eBin addD (eBin divD (eVb 0) (eBin addD (eC (.int 156)) (eBin mulD (eC (.int 37)) (eVb 4)))) (eVb 4)) (eC (.int 36)))))))
def m_law_name : SF := (sSeq (sSet 1 (eC (.str (Str.ofString "ABCDEFGHIJKLMNOPQRSTUVWXYZ")))) (sSeq (sSet 2 (eBin addD (eVb 1) (eC (.str (Str.ofString "0123456789"))))) (sSeq (sSet 3 (eBin ixA (eVb 1) (eBin modD (eVb 0) (eC (.int 26))))) (sSeq (sFor (iR1 (eBin ixA (eLst (aCons (eC (.int 0)) (aCons (eC (.int 1)) (aCons (eC (.int 2)) (aCons (eC (.int 0)) (aCons (eC (.int 1)) (aCons (eC (.int 23)) aNil))))))) (eBin modD (eBin divD (eVb 0) (eC (.int 26))) (eC (.int 6))))) (gN 4) (m_law_name_b1)) (sEnd (sRet (eRv 3)))))))
theorem m_law_name_eq (ρ : Rho) : fnF 5 1 (m_law_name) ρ = finR 1 (m_law_name (ρ ++ [none, none, none, none])) := fnF_eq 5 1 _
/-- _law_leaf(cell); slots 0:cell 1:sign -/
def m_law_leaf (F__law_name : FF) : SF := (sSeq (sSet 1 (eBin ixA (eLst (aCons (eC (.str (Str.ofString "a"))) (aCons (eC (.str (Str.ofString "b"))) (aCons (eC (.str (Str.ofString "ab"))) (aCons (eC (.str (Str.ofString "top"))) (aCons (eC (.str (Str.ofString "abcdef"))) (aCons (eC (.str (Str.ofString "void"))) aNil))))))) (eBin modD (eBin divD (eVb 0) (eC (.int 4))) (eC (.int 6))))) (sEnd (sRet (eBin ixA (eLst (aCons (eTup (aCons (eC (.str (Str.ofString "sign"))) (aCons (eMv 1) aNil))) (aCons (eTup (aCons (eC (.str (Str.ofString "void"))) aNil)) (aCons (eTup (aCons (eC (.str (Str.ofString "hole"))) (aCons (eCall 1 none F__law_name (aCons (eBin divD (eVb 0) (eC (.int 4))) aNil)) aNil))) (aCons (eTup (aCons (eC (.str (Str.ofString "foot"))) (aCons (eCall 1 none F__law_name (aCons (eBin divD (eVb 0) (eC (.int 4))) aNil)) aNil))) aNil))))) (eBin modD (eVb 0) (eC (.int 4)))))))
theorem m_law_leaf_eq (F__law_name : FF) (ρ : Rho) : fnF 2 1 (m_law_leaf F__law_name) ρ = finR 1 (m_law_leaf F__law_name (ρ ++ [none])) := fnF_eq 2 1 _
/-- _law_tree(state, left); slots 0:state 1:left 2:cell 3:takes 4:kids 5:k -/
def m_law_tree_b1 (F__law_name F__law_tree F__law_leaf F__law_cell : FF) : SF := (sKill [5] (sApp 4 (eCall 2 (some 0) F__law_tree (aCons (eVb 0) (aCons (eBin subD (eVb 1) (eC (.int 1))) aNil)))))
def m_law_tree (F__law_name F__law_tree F__law_leaf F__law_cell : FF) : SF := (sSeq (sSet 2 (eCall 1 (some 0) F__law_cell (aCons (eVb 0) aNil))) (sSeq (sIf (eOr (eB (eBin (eqB false) (eVb 1) (eC (.int 0)))) (eB (eBin (eqB false) (eBin modD (eVb 2) (eC (.int 3))) (eC (.int 0))))) (sEnd (sRet (eCall 1 none F__law_leaf (aCons (eBin divD (eVb 2) (eC (.int 3))) aNil)))) sNil) (sSeq (sSet 3 (eBin ixA (eLst (aCons (eC .none) (aCons (eTup (aCons (eCall 1 none F__law_name (aCons (eBin divD (eVb 2) (eC (.int 36))) aNil)) (aCons (eC (.bool false)) aNil))) (aCons (eTup (aCons (eCall 1 none F__law_name (aCons (eBin divD (eVb 2) (eC (.int 36))) aNil)) (aCons (eC (.bool true)) aNil))) aNil)))) (eBin modD (eBin divD (eVb 2) (eC (.int 3))) (eC (.int 3))))) (sSeq (sSet 4 (eLst aNil)) (sSeq (sFor (iR1 (eBin ixA (eLst (aCons (eC (.int 1)) (aCons (eC (.int 2)) (aCons (eC (.int 3)) (aCons (eC (.int 8)) aNil))))) (eBin modD (eBin divD (eVb 2) (eC (.int 9))) (eC (.int 4))))) (gN 5) (m_law_tree_b1 F__law_name F__law_tree F__law_leaf F__law_cell)) (sEnd (sRet (eTup (aCons (eC (.str (Str.ofString "knot"))) (aCons (eCall 1 none F__law_name (aCons (eBin divD (eVb 2) (eC (.int 216))) aNil)) (aCons (eMv 3) (aCons (eCB (un1 tupleD) (aCons (eVb 4) aNil)) aNil))))))))))))
theorem m_law_tree_eq (F__law_name F__law_tree F__law_leaf F__law_cell : FF) (ρ : Rho) : fnF 6 2 (m_law_tree F__law_name F__law_tree F__law_leaf F__law_cell) ρ = finR 2 (m_law_tree F__law_name F__law_tree F__law_leaf F__law_cell (ρ ++ [none, none, none, none])) := fnF_eq 6 2 _
end GM
namespace GS
open PySem L2
/-- one of a list -/
def pick {α : Type} [Inhabited α] (xs : List α) (i : Int) : α := (atI xs i).getD default
theorem atI_pick {α : Type} [Inhabited α] {xs : List α} {i : Int} (h0 : 0 ≤ i) (h1 : i < xs.length) : atI xs i = some (pick xs i) ∧ pick xs i ∈ xs := by
  obtain ⟨x, h2, h3⟩ := atI_lt h0 h1
  unfold pick
  rw [h2]
  exact ⟨rfl, h3⟩
@[simp] theorem atI_mod {α : Type} [Inhabited α] {xs : List α} {c n : Int} (h0 : 0 < n) (h : n = xs.length) : atI xs (c % n) = some (pick xs (c % n)) :=
  (atI_pick (Int.emod_nonneg _ (by omega)) (by rw [← h]; exact Int.emod_lt_of_pos _ h0)).1
theorem pick_mem {α : Type} [Inhabited α] {xs : List α} {c n : Int} (h0 : 0 < n) (h : n = xs.length) : pick xs (c % n) ∈ xs :=
  (atI_pick (Int.emod_nonneg _ (by omega)) (by rw [← h]; exact Int.emod_lt_of_pos _ h0)).2
@[simp] theorem atI_1 {α : Type} (a b : α) (r : List α) : atI (a :: b :: r) 1 = some b := by
  have := atI_nat (xs := a :: b :: r) (j := 1) (v := b) rfl
  exact this
@[simp] theorem atI_2 {α : Type} (a b c : α) (r : List α) : atI (a :: b :: c :: r) 2 = some c := by
  have := atI_nat (xs := a :: b :: c :: r) (j := 2) (v := c) rfl
  exact this
@[simp] theorem atI_3 {α : Type} (a b c d : α) (r : List α) : atI (a :: b :: c :: d :: r) 3 = some d := by
  have := atI_nat (xs := a :: b :: c :: d :: r) (j := 3) (v := d) rfl
  exact this
instance : Inhabited D := ⟨.none⟩
@[simp] theorem strOk_ofS (a : String) : PyData.strOk (Str.ofString a) = true := by
  unfold PyData.strOk
  rw [← Array.all_toList, ofS_cps, List.all_eq_true]
  intro c m
  obtain ⟨ch, _, rfl⟩ := List.mem_map.mp m
  have := ch.valid
  refine decide_eq_true ?_
  unfold Char.toNat
  rcases this with h | h
  · have : ch.val.toNat < 0xd800 := h
    omega
  · exact h.2
end GS
namespace GM
open PySem L2 GS
/-- the state that cells are drawn from -/
def stD (ns : List Int) (a : Int) : Option Int → D
  | none => .dict [(.str (Str.ofString "script"), .list (ns.map .int)), (.str (Str.ofString "at"), .int a)]
  | some k => .dict [(.str (Str.ofString "script"), .list (ns.map .int)), (.str (Str.ofString "at"), .int a), (.str (Str.ofString "keys"), .int k)]
def CellSp (F : FF) : Prop := ∀ (ns : List Int) (a : Nat) (ex : Option Int), ∃ (c : Int) (a' : Nat), F [some ⟨stD ns a ex, .io⟩] = .ok (.sh (.int c)) [some ⟨stD ns a' ex, .io⟩]
theorem law_cell_ok : CellSp (fnF 1 1 m_law_cell) := fun ns a ex => by
  have l2 : 2 < sizeLine := by decide
  have l3 : 3 < sizeLine := by decide
  by_cases h : a < ns.length
  · have h' : ¬ ((ns.length : Int) < a + 1) := by omega
    have e : L2.atI (ns.map PyData.int) (a : Int) = some (.int (ns[a])) := by
      rw [atI_nat (xs := ns.map PyData.int) (j := a) (v := .int (ns[a])) (by simp [h])]
    refine ⟨ns[a], a + 1, ?_⟩
    rw [m_law_cell_eq]
    cases ex <;> simp [m_law_cell, stD, dPut, h', e, l2, l3]
  · have h' : (ns.length : Int) < a + 1 := by omega
    refine ⟨0, a + 1, ?_⟩
    rw [m_law_cell_eq]
    cases ex <;> simp [m_law_cell, stD, dPut, h', l2, l3]
def NameGen (F : FF) : Prop := ∀ c : Int, ∃ s : Str, F [some ⟨.int c, .sh⟩] = .ok (.sh (.str s)) [none] ∧ nameB s = true
theorem law_name_ok : NameGen (fnF 5 1 m_law_name) := fun cell => by
  obtain ⟨L, hL, lL⟩ : ∃ L : Str, GRT ++ FIG = L ∧ L.length = 36 := ⟨_, rfl, by rw [app_len, lG, lF]⟩
  have mL : ∀ c ∈ L.cps.toList, okN GRT c = true := by
    subst hL
    intro c m
    rw [app_cps] at m
    rcases List.mem_append.mp m with m | m
    · simp at m; simp [okN, m]
    · simp at m; simp [okN, m]
  have w1 : GRT.length + FIG.length ≤ sizeLine := by rw [lG, lF]; decide
  have w2 : GRT.length ≤ sizeLine := by rw [lG]; decide
  have w3 : L.length ≤ sizeLine := by rw [lL]; decide
  have g1 : (26 : Int) = GRT.cps.toList.length := by rw [← len_eq, lG]; rfl
  have m1 := pick_mem (xs := GRT.cps.toList) (c := cell) (by decide) g1
  have e1 : L2.atI GRT.cps.toList (cell % 26) = some (pick GRT.cps.toList (cell % 26)) := atI_mod (by decide) g1
  generalize pick GRT.cps.toList (cell % 26) = c0 at m1 e1
  have m6 := pick_mem (xs := [PyData.int 0, .int 1, .int 2, .int 0, .int 1, .int 23]) (c := cell / 26) (n := 6) (by decide) rfl
  obtain ⟨m, hm, em⟩ : ∃ m : Nat, m ≤ 23 ∧ pick [PyData.int 0, .int 1, .int 2, .int 0, .int 1, .int 23] (cell / 26 % 6) = .int (m : Int) := by
    simp only [List.mem_cons, List.not_mem_nil, or_false] at m6
    rcases m6 with e | e | e | e | e | e <;> rw [e]
    · exact ⟨0, by decide, rfl⟩
    · exact ⟨1, by decide, rfl⟩
    · exact ⟨2, by decide, rfl⟩
    · exact ⟨0, by decide, rfl⟩
    · exact ⟨1, by decide, rfl⟩
    · exact ⟨23, by decide, rfl⟩
  have hf := forL_by (S := Str) (g := gN 4) (b := m_law_name_b1) (fun f => [some ⟨.int cell, .sh⟩, some ⟨.str GRT, .sh⟩, some ⟨.str L, .sh⟩, some ⟨.str f, .sh⟩, none])
    (fun pre f => f.length = pre.length + 1 ∧ ∃ cs, f.cps.toList = c0 :: cs ∧ ∀ c ∈ cs, okN GRT c = true) (rgD 0 m) (⟨#[c0]⟩ : Str) ⟨rfl, [], rfl, by simp⟩ (fun pre d post f hd ⟨h1, cs, h2, h3⟩ => by
      obtain ⟨hk, rfl⟩ := rgD_mid hd
      generalize hkk : pre.length = k at hk h1
      rw [show (0 : Int) + (k : Int) = k by omega]
      have hp : (0 : Int) < 156 + 37 * (k : Int) := by omega
      have hp2 : (156 + 37 * (k : Int)) < 1073741824 := by omega
      have hc : cMul 37 (k : Int) = true := cMul_l (by decide)
      have g2 : (36 : Int) = L.cps.toList.length := by rw [← len_eq, lL]; rfl
      have m2 := pick_mem (xs := L.cps.toList) (c := cell / (156 + 37 * (k : Int)) + k) (by decide) g2
      have e2 : L2.atI L.cps.toList ((cell / (156 + 37 * (k : Int)) + k) % 36) = some (pick L.cps.toList ((cell / (156 + 37 * (k : Int)) + k) % 36)) := atI_mod (by decide) g2
      generalize pick L.cps.toList ((cell / (156 + 37 * (k : Int)) + k) % 36) = c1 at m2 e2
      have hz : f.length + 1 ≤ sizeLine := fits (by omega)
      refine ⟨f ++ ⟨#[c1]⟩, ?_, by rw [app_len, h1, one_len, List.length_append, hkk]; rfl, cs ++ [c1], by rw [app_cps, h2]; rfl, fun c mc => ?_⟩
      · simp [m_law_name_b1, hc, hp, hp2, w3, e2, one_len, hz]
      · rcases List.mem_append.mp mc with mc | mc
        · exact h3 c mc
        · simp at mc; subst mc; exact mL _ m2)
  obtain ⟨f, hf1, hf2, cs, hf3, hf4⟩ := hf
  rw [rgD_len] at hf2
  refine ⟨f, ?_, ?_⟩
  · rw [m_law_name_eq]
    have ok : okR (m : Int) = true := okR_nat (by omega)
    simp [m_law_name, w1, w2, hL, e1, em, ok, hf1]
  · unfold nameB
    rw [hf3]
    simp only [nameL, Bool.and_eq_true, decide_eq_true_eq, List.all_eq_true]
    have hl := len_eq f
    rw [hf3] at hl
    refine ⟨⟨by omega, by simpa using m1⟩, fun c mc => ?_⟩
    rcases List.mem_cons.mp mc with rfl | mc
    · simp at m1; simp [okN, m1]
    · exact hf4 c mc
/-- drawn leaves and trees -/
def LeafGen (F : FF) : Prop := ∀ c : Int, ∃ t : Tr, F [some ⟨.int c, .sh⟩] = .ok (.sh t.enc) [none] ∧ t.ok = true ∧ t.ht = 0
theorem law_leaf_ok {F : FF} (hn : NameGen F) : LeafGen (fnF 2 1 (m_law_leaf F)) := fun c => by
  obtain ⟨s, hs, ns⟩ := hn (c / 4)
  have ms := pick_mem (xs := [PyData.str (Str.ofString "a"), .str (Str.ofString "b"), .str (Str.ofString "ab"), .str (Str.ofString "top"), .str (Str.ofString "abcdef"), .str (Str.ofString "void")]) (c := c / 4) (n := 6) (by decide) rfl
  obtain ⟨z, ez, hz⟩ : ∃ z : Str, pick [PyData.str (Str.ofString "a"), .str (Str.ofString "b"), .str (Str.ofString "ab"), .str (Str.ofString "top"), .str (Str.ofString "abcdef"), .str (Str.ofString "void")] (c / 4 % 6) = .str z ∧ signB z = true := by
    simp only [List.mem_cons, List.not_mem_nil, or_false] at ms
    rcases ms with e | e | e | e | e | e <;> rw [e] <;> exact ⟨_, rfl, by decide +kernel⟩
  have mt := pick_mem (xs := [Tr.enc (.sign z), Tr.enc .void, Tr.enc (.hole s), Tr.enc (.foot s)]) (c := c) (n := 4) (by decide) rfl
  obtain ⟨t, et, ht, h0⟩ : ∃ t : Tr, pick [Tr.enc (.sign z), Tr.enc .void, Tr.enc (.hole s), Tr.enc (.foot s)] (c % 4) = t.enc ∧ t.ok = true ∧ t.ht = 0 := by
    simp only [List.mem_cons, List.not_mem_nil, or_false] at mt
    rcases mt with e | e | e | e <;> rw [e]
    · exact ⟨_, rfl, hz, rfl⟩
    · exact ⟨_, rfl, rfl, rfl⟩
    · exact ⟨_, rfl, ns, rfl⟩
    · exact ⟨_, rfl, ns, rfl⟩
  refine ⟨t, ?_, ht, h0⟩
  simp only [Tr.enc] at et
  rw [m_law_leaf_eq]
  simp [m_law_leaf, hs, ez, et]
def TreeGen (n : Nat) (F : FF) : Prop := ∀ (ns : List Int) (a : Nat) (ex : Option Int) (l : Nat), l ≤ n → ∃ (t : Tr) (a' : Nat), F [some ⟨stD ns a ex, .io⟩, some ⟨.int l, .sh⟩] = .ok (.sh t.enc) [some ⟨stD ns a' ex, .io⟩, none] ∧ t.ok = true ∧ t.ht ≤ l
theorem law_tree_ok {n : Nat} {Fn Ft Fl Fc : FF} (hn : NameGen Fn) (hl : LeafGen Fl) (hc : CellSp Fc) (ht : ∀ m, m + 1 = n → TreeGen m Ft) : TreeGen n (fnF 6 2 (m_law_tree Fn Ft Fl Fc)) := fun ns a ex l hle => by
  obtain ⟨c, a0, h1⟩ := hc ns a ex
  obtain ⟨s, hs, os⟩ := hn (c / 36)
  obtain ⟨s2, hs2, os2⟩ := hn (c / 216)
  by_cases q : l = 0 ∨ c % 3 = 0
  · obtain ⟨t, e, o, z⟩ := hl (c / 3)
    refine ⟨t, a0, ?_, o, by omega⟩
    rw [m_law_tree_eq]
    by_cases q1 : l = 0
    · simp [m_law_tree, h1, q1, e]
    · have q2 : c % 3 = 0 := by omega
      simp [m_law_tree, h1, q1, q2, e]
  · have q1 : ¬ l = 0 := by omega
    have q2 : ¬ c % 3 = 0 := by omega
    have mk := pick_mem (xs := [PyData.none, .tuple [.str s, .bool false], .tuple [.str s, .bool true]]) (c := c / 3) (n := 3) (by decide) rfl
    obtain ⟨tk, etk, otk⟩ : ∃ tk : Option (Str × Bool), pick [PyData.none, .tuple [.str s, .bool false], .tuple [.str s, .bool true]] (c / 3 % 3) = encTk tk ∧ okTk tk = true := by
      simp only [List.mem_cons, List.not_mem_nil, or_false] at mk
      rcases mk with e | e | e <;> rw [e]
      · exact ⟨none, rfl, rfl⟩
      · exact ⟨some (s, false), rfl, os⟩
      · exact ⟨some (s, true), rfl, os⟩
    have mm := pick_mem (xs := [PyData.int 1, .int 2, .int 3, .int 8]) (c := c / 9) (n := 4) (by decide) rfl
    obtain ⟨m, em, m1, m8⟩ : ∃ m : Nat, pick [PyData.int 1, .int 2, .int 3, .int 8] (c / 9 % 4) = .int (m : Int) ∧ 1 ≤ m ∧ m ≤ 8 := by
      simp only [List.mem_cons, List.not_mem_nil, or_false] at mm
      rcases mm with e | e | e | e <;> rw [e]
      · exact ⟨1, rfl, by decide, by decide⟩
      · exact ⟨2, rfl, by decide, by decide⟩
      · exact ⟨3, rfl, by decide, by decide⟩
      · exact ⟨8, rfl, by decide, by decide⟩
    have ht' := ht (n - 1) (by omega)
    obtain ⟨⟨ts, a'⟩, hf, hf1, hf2⟩ := forL_by (S := List Tr × Nat) (g := gN 5) (b := m_law_tree_b1 Fn Ft Fl Fc) (fun p => [some ⟨stD ns p.2 ex, .io⟩, some ⟨.int l, .sh⟩, some ⟨.int c, .sh⟩, some ⟨encTk tk, .sh⟩, some ⟨.list (p.1.map Tr.enc), .ow⟩, none])
      (fun pre p => p.1.length = pre.length ∧ ∀ t ∈ p.1, t.ok = true ∧ t.ht + 1 ≤ l) (rgD 0 m) ([], a0) ⟨rfl, by simp⟩ (fun pre d post ⟨ts, a1⟩ hd ⟨g1, g2⟩ => by
        obtain ⟨hk, rfl⟩ := rgD_mid hd
        obtain ⟨t, a2, e, o, z⟩ := ht' ns a1 ex (l - 1) (by omega)
        rw [show ((l - 1 : Nat) : Int) = (l : Int) - 1 by omega] at e
        dsimp only at g1 g2
        have hz : ts.length < sizeLine := fitsl (by omega)
        refine ⟨(ts ++ [t], a2), ?_, by simp [g1], fun t' mt => ?_⟩
        · simp [m_law_tree_b1, e, hz]
        · rcases List.mem_append.mp mt with mt | mt
          · exact g2 t' mt
          · simp at mt; subst mt; exact ⟨o, by omega⟩)
    rw [rgD_len] at hf1
    dsimp only at hf hf1 hf2
    rw [List.map_nil] at hf
    have ok : okR (m : Int) = true := okR_nat (by omega)
    refine ⟨.knot s2 tk ts, a', ?_, ?_, ?_⟩
    · rw [m_law_tree_eq]
      simp [m_law_tree, h1, q1, q2, hs, hs2, etk, em, ok, hf, Tr.enc, encL_map]
    · simp only [Tr.ok, Bool.and_eq_true, decide_eq_true_eq]
      exact ⟨os2, otk, by omega, by omega, okL_of fun t mt => (hf2 t mt).1⟩
    · have := htL_of (ts := ts) (n := l - 1) fun t mt => by have := (hf2 t mt).2; omega
      rw [Tr.ht]; omega
end GM
namespace GS
open PySem L2
theorem cutD_to (ds : List D) (i : Nat) : cutD ds none (some (i : Int)) = ds.take i := by
  unfold cutD
  rw [HT.sIx_none, HT.sIx_nat]
  simp only [List.drop_zero, Nat.sub_zero]
  by_cases h : i ≤ ds.length
  · rw [Nat.min_eq_left h]
  · rw [Nat.min_eq_right (by omega), List.take_of_length_le (Nat.le_refl _), List.take_of_length_le (by omega)]
theorem cutD_from (ds : List D) (i : Nat) : cutD ds (some (i : Int)) none = ds.drop i := by
  unfold cutD
  rw [HT.sIx_none, HT.sIx_nat]
  by_cases h : i ≤ ds.length
  · rw [Nat.min_eq_left h, List.take_of_length_le (by rw [List.length_drop]; omega)]
  · rw [Nat.min_eq_right (by omega), List.drop_of_length_le (Nat.le_refl _), List.drop_of_length_le (by omega), List.take_nil]
end GS
namespace PySem
open Sem (wp)
open AutoSeq1 (wpAny_loadPart')
theorem meets_enumerate_newT (l : Addr) (items : Array Value) (n : Nat) (dct : Option Addr) (sl : Array (Option Value)) :
    Meets (Builtin.«enumerate.__new__» ⟨[.type "enumerate", .ref l], []⟩) (fun _ R s => s.heap.get? l = some { cls := .type "tuple", dict := dct, data := .seq items n, slots := sl } ∧
      R (.ok (.ret (.ref (s.heap.push { cls := .type "tuple_iterator", data := .fields #[.ref l, .int 0 0] }).objs.size)))
        { s with heap := (s.heap.push { cls := .type "tuple_iterator", data := .fields #[.ref l, .int 0 0] }).push { cls := .type "enumerate", data := .fields #[.none, .bool false, .ref s.heap.objs.size, rawInt 0, .none, .none] } }) :=
  .of_wp fun prog w A R s h => by
    obtain ⟨hp, g, d, tk, os⟩ := s; obtain ⟨hl, h⟩ := h
    have hsub := sub_enumerate
    have hL : Heap.IsTuple (Shared.heap ⟨hp, g, d, tk, os⟩) l items := ⟨_, hl, rfl, n, rfl⟩
    wp_walk using wpAny_loadPart' hl
    refine wpAny_stack_any fun st => wpAny_pure ?_
    split
    · rename_i c _ _ _ _ _
      cases (c == Value.type "enumerate")
      · wp_walk using wpAny_loadPart' hl, wpAny_pyIter_tuple hL
        exact ⟨_, rfl, h⟩
      · wp_walk using wpAny_loadPart' hl, wpAny_pyIter_tuple hL
        exact ⟨_, rfl, h⟩
    · wp_walk using wpAny_loadPart' hl, wpAny_pyIter_tuple hL
      exact ⟨_, rfl, h⟩
section
variable {prog : Program} {w : World} {A : Around} {E : Value → Shared → Prop} {s : Shared}
theorem call_enumerate_tuple {l : Addr} {items : Array Value} {Q : Value → Shared → Prop} (hL : s.heap.IsTuple l items)
    (h : ∀ h', IsEnum h' (s.heap.objs.size + 1) s.heap.objs.size 0 .none → h'.IsTupleIter s.heap.objs.size l 0 → h'.objs.size = s.heap.objs.size + 2 →
      (∀ b o, s.heap.get? b = some o → h'.get? b = some o) → Q (.ref (s.heap.objs.size + 1)) { s with heap := h' }) :
    wpAny (model prog w) A (call (.type "enumerate") [.ref l]) Q E s := by
  obtain ⟨⟨c, dct, dt, sl⟩, hl, hc, n, hd⟩ := hL
  replace hc : c = .type "tuple" := hc
  replace hd : dt = .seq items n := hd
  subst hc hd
  refine callType_new F.called_enumerate (by decide) (F.typeCall_enumerate_1 _) (F.newCall_enumerate_1 _) (fun obj => F.args_object_init_2 obj _) F.entry_enumerate_new
    (meets_enumerate_newT l items n dct sl) ⟨hl, ?_⟩
  have hz : (s.heap.push { cls := .type "tuple_iterator", data := .fields #[.ref l, .int 0 0] }).objs.size = s.heap.objs.size + 1 := Heap.size_push ..
  show _ ∧ _
  rw [hz]
  have he : IsEnum ((s.heap.push { cls := .type "tuple_iterator", data := .fields #[.ref l, .int 0 0] }).push
      { cls := .type "enumerate", data := .fields #[.none, .bool false, .ref s.heap.objs.size, rawInt 0, .none, .none] }) (s.heap.objs.size + 1) s.heap.objs.size 0 .none := by
    have := Heap.get?_push_size (s.heap.push { cls := .type "tuple_iterator", data := .fields #[.ref l, .int 0 0] })
      (o := { cls := .type "enumerate", data := .fields #[.none, .bool false, .ref s.heap.objs.size, rawInt 0, .none, .none] }) rfl
    rw [hz] at this; exact this
  refine ⟨⟨_, he, rfl⟩, h _ he ⟨_, Heap.get?_push_of_some _ (Heap.get?_push_size _ rfl), rfl, rfl⟩ (by rw [Heap.size_push, hz]) fun b o x => Heap.get?_push_of_some _ (Heap.get?_push_of_some _ x)⟩
theorem wpAny_pyNext_enumT_end {e it l : Addr} {i : Nat} {items : Array Value} {old : Value} {Q : Option Value → Shared → Prop} (hh : A.handled = none)
    (he : IsEnum s.heap e it i old) (hit : s.heap.IsTupleIter it l i) (hl : s.heap.IsTuple l items) (hx : items[i]? = none)
    (hQ : ∀ h', Heap.ExtBut it s.heap h' → Q none { s with heap := h' }) : wpAny (model prog w) A (pyNext (.ref e)) Q E s := by
  have hT : s.TypeIs (.ref e) "enumerate" := ⟨_, he, rfl⟩
  unfold pyNext
  refine wpAny_bind (wpAny_attempt (wpAny_callSpecial?_slot (name := Str.ofString "__next__") hT F.slot_enumerate_next
    (wpAny_call_entry F.slot_enumerate_next hT F.entry_enumerate_next ?_ (F.args_enumerate_next_1 _))))
  show wpAny _ _ (field (.ref e) 2 >>= _) _ _ _
  refine wpAny_bind (wpAny_field he rfl (x := .ref it) rfl ?_)
  refine wpAny_bind (wpAny_nextOf_tuple_end hh hit hl hx fun h' x he' hx' => ?_)
  obtain ⟨o, ho, hc⟩ := hx'
  refine wpAny_bind (wpAny_isInstance (T := "StopIteration") (b := true) ⟨o, ho, hc⟩ isSubtype_stop ?_)
  exact wpAny_pure (hQ _ he')
end
end PySem
namespace L2
open PySem PySem.Spec PyProof.Rows
def Iet (K : PySem.W.Frag) (a : Addr) : It :=
  ⟨fun i H => ∃ (xs : List V) (x : V), SqT K H a xs ∧ xs[i]? = some x, fun i H v H' => ∃ T o x, v = .ref T ∧ H T = none ∧ o.dict = none ∧ H' = upd H T (.frz o (.tup [.int (i : Nat), x])) ∧ ∀ xs, SqT K H a xs → xs[i]? = some x, fun i H => ∃ xs : List V, SqT K H a xs ∧ xs.length ≤ i⟩
theorem turn_enumT {P : Program} {w : World} {K : PySem.W.Frag} {elts : List Expr} {kk : Nat} {tpos : Pos} (a e it : Addr) :
    Turn P w K (.Tuple elts kk tpos) (Iet K a) [e, it] e (fun i h => (∃ old, IsEnum h e it ((i : Nat) : Int) old) ∧ h.IsTupleIter it a i ∧ e ≠ it) where
  mem := by simp
  obj := fun i h st b hb => by
    obtain ⟨⟨old, he⟩, ⟨o, ho, hc, hd⟩, _⟩ := st
    have e' : b = e ∨ b = it := by simpa using hb
    rcases e' with z | z
    · rw [z]; exact ⟨_, he, fun v q => nomatch q⟩
    · rw [z]; exact ⟨o, ho, fun v q => by rw [hd] at q; cases q⟩
  keep := fun i h h' st k => let ⟨⟨old, he⟩, hi, hne⟩ := st; ⟨⟨old, k e (by simp) _ he⟩, hi.at fun o q => k it (by simp) o q, hne⟩
  item := by
    intro X hP hw hK hc i pins s σ H E I hf st hg
    subst hP hw hK
    obtain ⟨⟨old, he⟩, hit, hne⟩ := st
    obtain ⟨xs, x, hq, hx⟩ := hg
    obtain ⟨its, rv, p, hz⟩ := I.tuple hq
    obtain ⟨u, hu, ru⟩ := rv.get hx
    have hel : e < s.heap.objs.size := Heap.lt_size he
    have hil : it < s.heap.objs.size := by obtain ⟨_, q, _⟩ := hit; exact Heap.lt_size q
    have pt : s.heap.IsTuple a its.toArray := p
    have hea : e ≠ a := fun z => by
      obtain ⟨o, ho, hc', _⟩ := pt
      rw [← z] at ho
      have he' : s.heap.get? e = _ := he
      rw [he'] at ho
      cases ho
      simp at hc'
    have hai : a ≠ it := fun z => by
      obtain ⟨o, ho, hc', _⟩ := pt
      obtain ⟨o2, ho2, hc2, _⟩ := hit
      rw [z, ho2] at ho
      cases ho
      rw [hc2] at hc'
      simp at hc'
    have hlen : i < its.toArray.size := by
      have := (List.getElem?_eq_some_iff.mp hu).1
      simpa using this
    refine wpAny_pyNext_enum_itemD (Draws.tuple (show X.A.in1.handled = none from I.ok.hd hc) it a hai its.toArray) he ⟨hit, pt⟩ hlen hne (by simp; exact ⟨hne, hea⟩) fun u' h' tk hu' ho hst hT hsz hk => ?_
    have eu : u' = u := by
      have h1 : its.toArray[i]? = some u' := hu'
      have h2 : its[i]? = some u' := by simpa using h1
      rw [hu] at h2
      cases h2; rfl
    subst eu
    obtain ⟨hit', _⟩ := hst
    refine ⟨_, rfl, wpAny_letOwnedTupleGo_enum (s := { s with heap := h', toks := tk + 1 }) ho fun h'' he' sb => ?_⟩
    have hT2 : h''.get? s.heap.objs.size = some { cls := .type "tuple", data := .seq #[.int i tk, u'] } := (sb.2 _ (Nat.ne_of_gt hel)).trans hT
    have new : ObjOk X.prog X.w (upd H s.heap.objs.size (.frz { cls := .type "tuple", data := .seq #[.int i tk, u'] } (.tup [.int (i : Nat), x]))) h'' s.heap.objs.size (.frz { cls := .type "tuple", data := .seq #[.int i tk, u'] } (.tup [.int (i : Nat), x])) :=
      ⟨hT2, by show 2 ≤ sizeLine; decide, [.int i tk, u'], .cons ⟨_, rfl⟩ (.cons ru .nil), ⟨_, hT2, rfl, _, rfl⟩⟩
    have I1 : Inv X pins σ (upd H s.heap.objs.size (.frz { cls := .type "tuple", data := .seq #[.int i tk, u'] } (.tup [.int (i : Nat), x]))) { s with heap := h'', toks := tk + 1 } :=
      I.turnedNew (ch := [e, it]) (fun b ob nb q => (sb.2 b (fun z => nb (by simp [z]))).trans (hk b ob (fun z => nb (by simp [z])) (fun z => nb (by simp [z])) q)) hf (Nat.le_refl _) new
    refine ⟨.ref s.heap.objs.size, _, I1, rfl, ⟨_, _, x, rfl, I.hok.fresh (Nat.le_refl _), rfl, rfl, fun ys hy => by rw [I.tuple_inj hy hq]; exact hx⟩, ⟨⟨u', ?_⟩, hit'.at fun o q => (sb.2 it (Ne.symm hne)).trans q, hne⟩, fun b hb => ?_⟩
    · have e1 : ((i + 1 : Nat) : Int) = (i : Int) + 1 := by omega
      rw [e1]; exact he'
    · have hb' : b < s.heap.objs.size := by
        have e' : b = e ∨ b = it := by simpa using hb
        rcases e' with z | z
        · rw [z]; exact hel
        · rw [z]; exact hil
      rw [upd_ne (Nat.ne_of_lt hb')]
      exact (hf b hb).1
  done := by
    intro X hP hw hK hc i pins s σ H E I hf st hg
    subst hP hw hK
    obtain ⟨⟨old, he⟩, hit, hne⟩ := st
    obtain ⟨xs, hq, hx⟩ := hg
    obtain ⟨its, rv, p, hz⟩ := I.tuple hq
    obtain ⟨f0, f1, f2, f3, f4, f5⟩ := hf it (by simp)
    have hl := rv.length
    exact wpAny_pyNext_enumT_end (I.ok.hd hc) he hit (show s.heap.IsTuple a its.toArray from p) (by simp; omega) fun h' eb => ⟨rfl, I.turned (t' := s.toks) (fun b o hb q => eb b o hb q) f0 f1 f3 f4 f5⟩
  self := fun A i s Q E st h => let ⟨⟨_, he⟩, _⟩ := st; wpAny_pyIter_enum he h
def IetL (K : PySem.W.Frag) (a : Addr) : It :=
  ⟨fun i H => ∃ (xs : List V) (x : V), SqL K H a xs ∧ xs[i]? = some x, fun i H v H' => ∃ T o x, v = .ref T ∧ H T = none ∧ o.dict = none ∧ H' = upd H T (.frz o (.tup [.int (i : Nat), x])) ∧ ∀ xs, SqL K H a xs → xs[i]? = some x, fun i H => ∃ xs : List V, SqL K H a xs ∧ xs.length ≤ i⟩
theorem turn_enumL {P : Program} {w : World} {K : PySem.W.Frag} {elts : List Expr} {kk : Nat} {tpos : Pos} (a e it : Addr) :
    Turn P w K (.Tuple elts kk tpos) (IetL K a) [e, it] e (fun i h => (∃ old, IsEnum h e it ((i : Nat) : Int) old) ∧ h.IsListIter it a i ∧ e ≠ it) where
  mem := by simp
  obj := fun i h st b hb => by
    obtain ⟨⟨old, he⟩, ⟨o, ho, hc, hd⟩, _⟩ := st
    have e' : b = e ∨ b = it := by simpa using hb
    rcases e' with z | z
    · rw [z]; exact ⟨_, he, fun v q => nomatch q⟩
    · rw [z]; exact ⟨o, ho, fun v q => by rw [hd] at q; cases q⟩
  keep := fun i h h' st k => let ⟨⟨old, he⟩, hi, hne⟩ := st; ⟨⟨old, k e (by simp) _ he⟩, hi.at fun o q => k it (by simp) o q, hne⟩
  item := by
    intro X hP hw hK hc i pins s σ H E I hf st hg
    subst hP hw hK
    obtain ⟨⟨old, he⟩, hit, hne⟩ := st
    obtain ⟨xs, x, hq, hx⟩ := hg
    obtain ⟨its, rv, p, hz⟩ := I.list hq
    obtain ⟨u, hu, ru⟩ := rv.get hx
    have hel : e < s.heap.objs.size := Heap.lt_size he
    have hil : it < s.heap.objs.size := by obtain ⟨_, q, _⟩ := hit; exact Heap.lt_size q
    have pt : s.heap.IsList a its.toArray := p.isList
    have hea : e ≠ a := fun z => by
      obtain ⟨o, ho, hc', _⟩ := pt
      rw [← z] at ho
      have he' : s.heap.get? e = _ := he
      rw [he'] at ho
      cases ho
      simp at hc'
    have hai : a ≠ it := fun z => by
      obtain ⟨o, ho, hc', _⟩ := pt
      obtain ⟨o2, ho2, hc2, _⟩ := hit
      rw [z, ho2] at ho
      cases ho
      rw [hc2] at hc'
      simp at hc'
    have hlen : i < its.toArray.size := by
      have := (List.getElem?_eq_some_iff.mp hu).1
      simpa using this
    refine wpAny_pyNext_enum_itemD (Draws.list (show X.A.in1.handled = none from I.ok.hd hc) it a hai its.toArray) he ⟨hit, pt⟩ hlen hne (by simp; exact ⟨hne, hea⟩) fun u' h' tk hu' ho hst hT hsz hk => ?_
    have eu : u' = u := by
      have h1 : its.toArray[i]? = some u' := hu'
      have h2 : its[i]? = some u' := by simpa using h1
      rw [hu] at h2
      cases h2; rfl
    subst eu
    obtain ⟨hit', _⟩ := hst
    refine ⟨_, rfl, wpAny_letOwnedTupleGo_enum (s := { s with heap := h', toks := tk + 1 }) ho fun h'' he' sb => ?_⟩
    have hT2 : h''.get? s.heap.objs.size = some { cls := .type "tuple", data := .seq #[.int i tk, u'] } := (sb.2 _ (Nat.ne_of_gt hel)).trans hT
    have new : ObjOk X.prog X.w (upd H s.heap.objs.size (.frz { cls := .type "tuple", data := .seq #[.int i tk, u'] } (.tup [.int (i : Nat), x]))) h'' s.heap.objs.size (.frz { cls := .type "tuple", data := .seq #[.int i tk, u'] } (.tup [.int (i : Nat), x])) :=
      ⟨hT2, by show 2 ≤ sizeLine; decide, [.int i tk, u'], .cons ⟨_, rfl⟩ (.cons ru .nil), ⟨_, hT2, rfl, _, rfl⟩⟩
    have I1 : Inv X pins σ (upd H s.heap.objs.size (.frz { cls := .type "tuple", data := .seq #[.int i tk, u'] } (.tup [.int (i : Nat), x]))) { s with heap := h'', toks := tk + 1 } :=
      I.turnedNew (ch := [e, it]) (fun b ob nb q => (sb.2 b (fun z => nb (by simp [z]))).trans (hk b ob (fun z => nb (by simp [z])) (fun z => nb (by simp [z])) q)) hf (Nat.le_refl _) new
    refine ⟨.ref s.heap.objs.size, _, I1, rfl, ⟨_, _, x, rfl, I.hok.fresh (Nat.le_refl _), rfl, rfl, fun ys hy => by rw [I.list_inj hy hq]; exact hx⟩, ⟨⟨u', ?_⟩, hit'.at fun o q => (sb.2 it (Ne.symm hne)).trans q, hne⟩, fun b hb => ?_⟩
    · have e1 : ((i + 1 : Nat) : Int) = (i : Int) + 1 := by omega
      rw [e1]; exact he'
    · have hb' : b < s.heap.objs.size := by
        have e' : b = e ∨ b = it := by simpa using hb
        rcases e' with z | z
        · rw [z]; exact hel
        · rw [z]; exact hil
      rw [upd_ne (Nat.ne_of_lt hb')]
      exact (hf b hb).1
  done := by
    intro X hP hw hK hc i pins s σ H E I hf st hg
    subst hP hw hK
    obtain ⟨⟨old, he⟩, hit, hne⟩ := st
    obtain ⟨xs, hq, hx⟩ := hg
    obtain ⟨its, rv, p, hz⟩ := I.list hq
    obtain ⟨f0, f1, f2, f3, f4, f5⟩ := hf it (by simp)
    have hl := rv.length
    exact wpAny_pyNext_enum_end (I.ok.hd hc) he hit p.isList (by simp; omega) fun h' eb => ⟨rfl, I.turned (t' := s.toks) (fun b o hb q => eb b o hb q) f0 f1 f3 f4 f5⟩
  self := fun A i s Q E st h => let ⟨⟨_, he⟩, _⟩ := st; wpAny_pyIter_enum he h
/-- enumerate of a list or a tuple -/
def iEnumA (K : PySem.W.Frag) (ta : TA) : TI := fun σ H R => ta σ H fun vs H1 => (∃ a, vs = [.ref a] ∧ (∃ xs, SqL K H1 a xs) ∧ R (IetL K a) H1) ∨ (∃ a, vs = [.ref a] ∧ (∃ xs, SqT K H1 a xs) ∧ R (Iet K a) H1)
theorem pi_enumA {X : Cx} {e : Expr} {ta : TA} {p pos tpos : Pos} {elts : List Expr} {kk : Nat} (hg : Gl X "enumerate") (hm : X.mg "enumerate" = none) (ha : PA X [e] ta) (hs : starEach [e] X.env = [(false, eval e X.env)] := by rfl) :
    PI X (.Tuple elts kk tpos) (.Call (.Name "enumerate" p) [e] [] pos) (iEnumA X.K ta) := by
  refine ⟨fun pins s σ H R I h => ?_⟩
  refine Call_ (ld_blt I hg hm boot_enumerate (PyProof.Rows.callWith_type1 (thn (ha.run pos pins s σ H _ I h) fun us s1 ⟨vs, H1, I1, r1, q1⟩ => ?_) hs rfl))
  rcases q1 with ⟨a, ex, ⟨xs, hq⟩, q⟩ | ⟨a, ex, ⟨xs, hq⟩, q⟩
  all_goals
    subst ex
    cases r1 with
    | cons r rr =>
      cases rr
      cases r
      first
        | (obtain ⟨its, rv, p', hz⟩ := I1.list hq
           refine call_enumerate_list p'.isList fun h' he hit hsz hk => wpAny_pyIter_enum he ?_
           have I2 : Inv X pins σ H1 { s1 with heap := h' } := I1.kept (t' := s1.toks) hk
           refine ⟨s1.heap.objs.size + 1, [s1.heap.objs.size + 1, s1.heap.objs.size], _, _, H1, rfl, I2, turn_enumL a (s1.heap.objs.size + 1) s1.heap.objs.size, ⟨⟨.none, he⟩, hit, Nat.succ_ne_self _⟩, fun b hb => ?_, q⟩)
        | (obtain ⟨its, rv, p', hz⟩ := I1.tuple hq
           refine call_enumerate_tuple (show s1.heap.IsTuple a its.toArray from p') fun h' he hit hsz hk => wpAny_pyIter_enum he ?_
           have I2 : Inv X pins σ H1 { s1 with heap := h' } := I1.kept (t' := s1.toks) hk
           refine ⟨s1.heap.objs.size + 1, [s1.heap.objs.size + 1, s1.heap.objs.size], _, _, H1, rfl, I2, turn_enumT a (s1.heap.objs.size + 1) s1.heap.objs.size, ⟨⟨.none, he⟩, hit, Nat.succ_ne_self _⟩, fun b hb => ?_, q⟩)
      have e' : b = s1.heap.objs.size + 1 ∨ b = s1.heap.objs.size := by simpa using hb
      have hle : s1.heap.objs.size ≤ b := by
        rcases e' with z | z
        · rw [z]; exact Nat.le_add_right _ _
        · rw [z]; exact Nat.le_refl _
      exact I1.fpOk hle (I1.hok.fresh hle)
/-- pairs in new tuples -/
def YPairX (f g : Nat → Option V) : Nat → Hp → V → Hp → Prop := fun i H v H' => ∃ T o x y, v = .ref T ∧ H T = none ∧ o.dict = none ∧ H' = upd H T (.frz o (.tup [x, y])) ∧ f i = some x ∧ g i = some y
theorem walk_enumT {K : PySem.W.Frag} {a : Addr} {xs : List V} : Walk (Iet K a) xs.length (fun H => SqT K H a xs) (YPairX (fun i => some (.int (i : Nat))) (fun i => xs[i]?)) := by
  refine ⟨fun i _ hi q => ⟨xs, xs[i], q, by simp [hi]⟩, fun _ q => ⟨xs, q, Nat.le_refl _⟩, fun i H v H' _ q y => ?_⟩
  obtain ⟨T, o, x, h1, h2, h0, h3, h4⟩ := y
  exact ⟨T, o, .int (i : Nat), x, h1, h2, h0, h3, rfl, h4 xs q⟩
theorem walk_enumL {K : PySem.W.Frag} {a : Addr} {xs : List V} : Walk (IetL K a) xs.length (fun H => SqL K H a xs) (YPairX (fun i => some (.int (i : Nat))) (fun i => xs[i]?)) := by
  refine ⟨fun i _ hi q => ⟨xs, xs[i], q, by simp [hi]⟩, fun _ q => ⟨xs, q, Nat.le_refl _⟩, fun i H v H' _ q y => ?_⟩
  obtain ⟨T, o, x, h1, h2, h0, h3, h4⟩ := y
  exact ⟨T, o, .int (i : Nat), x, h1, h2, h0, h3, rfl, h4 xs q⟩
end L2
namespace GS
open PySem L2
/-- numbered -/
def enD (ds : List D) : List D := ds.mapIdx fun i d => .tuple [.int (i : Int), d]
def seqs : D → Option (List D)
  | .list ds => some ds
  | .tuple ds => some ds
  | _ => none
def iEn (fe : EF) : IF := fun ρ => bindEI (eCap fe ρ) fun h ρ1 => match h with
  | .sh d => match seqs d with
    | some ds => .ok (enD ds) ρ1
    | none => .stuck
  | _ => .stuck
section
variable {X : Cx} {C : Ct} {ρ ρ1 : Rho} {σ σ1 : St} {B H B1 H1 : Hp} {e tg : Expr} {te : TE} {fe : EF} {pos p tpos : Pos}
theorem enD_get (ds : List D) (i : Nat) (d : D) (h : ds[i]? = some d) : (enD ds)[i]? = some (.tuple [.int (i : Int), d]) := by
  unfold enD
  rw [List.getElem?_mapIdx, h]
  rfl
theorem it_en {K : KW} {J : It} {xs : List V} {ds : List D} {G : Hp → Prop} (w : Walk J xs.length G (YPairX (fun i => some (.int (i : Nat))) (fun i => xs[i]?))) (hG : ∀ H, Same B H → G H) (r : RpL K B xs ds) : ItOk K B (enD ds) J := by
  unfold ItOk
  rw [show (enD ds).length = xs.length by unfold enD; rw [List.length_mapIdx, r.length]]
  refine w.mono hG fun i H x H' hi s y => ?_
  obtain ⟨T, o, a, b, h1, h2, h0, h3, h4, h5⟩ := y
  cases h4
  obtain ⟨d, q1, q2⟩ := r.getV h5
  exact ⟨_, enD_get ds i d q1, .inr ⟨T, o, _, _, h1, h2, h0, h3, rfl, .cons (.int _) (.cons q2 .nil)⟩⟩
theorem lk_en (l : LkE C te fe) : LkI C (iEnumA C.K (tCons te tNil)) (iEn fe) := fun ρ σ B H R S g => by
  refine l.cap.bindI S g fun hd ρ1 v B1 H1 S1 x1 y1 g1 => ?_
  cases hd with
  | sh d =>
    cases d with
    | list ds =>
      obtain ⟨a, vs, rfl, ha, ra⟩ := Rp.lstE y1
      exact .inl ⟨a, rfl, ⟨vs, same_l S1.bh ha⟩, g1 _ B1 H1 S1 x1 (it_en walk_enumL (fun H s => same_l s ha) ra)⟩
    | tuple ds =>
      obtain ⟨a, vs, rfl, ha, ra⟩ := Rp.tupE y1
      exact .inr ⟨a, rfl, ⟨vs, same_t S1.bh ha⟩, g1 _ B1 H1 S1 x1 (it_en walk_enumT (fun H s => same_t s ha) ra)⟩
    | _ => exact g1.elim
  | _ => exact g1.elim
theorem si_en {elts : List Expr} {kk : Nat} (l : SE X C e te fe) (hm : X.mg "enumerate" = none) (hg : Gl X "enumerate" := by rfl) (hk : X.K = C.K := by rfl) (hs : starEach [e] X.env = [(false, eval e X.env)] := by rfl) :
    SI X C (.Tuple elts kk tpos) (.Call (.Name "enumerate" p) [e] [] pos) (iEnumA C.K (tCons te tNil)) (iEn fe) := ⟨by rw [← hk]; exact pi_enumA hg hm (pa_cons l.pe pa_nil hs) hs, lk_en l.lk⟩
end
end GS
namespace GS
open PySem L2
section
variable {K : KW} {X : Cx} {C : Ct} {ρ ρ1 : Rho} {σ σ1 : St} {B H B1 H1 : Hp} {e e2 : Expr} {te ti : TE} {fe fi : EF} {pos : Pos} {st : Stmt}
def extD (zs : List D) : D → Option D
  | .list ds => if ds.length + zs.length ≤ sizeLine then some (.list (ds ++ zs)) else none
  | _ => none
def sExt (i : Nat) (fe : EF) : SF := fun ρ => if isL ρ i then bindES (fe ρ) fun h ρ1 => match h with
  | .fr (.list zs) => mutS ρ1 i (extD zs)
  | _ => .stuck else .stuck
theorem ss_ext {i : Nat} {x : Str} {q1 q2 q3 : Pos} (l : SE X C e te fe) (hN : X.N[i]? = some x := by rfl) (hv : Vis X.env.scope x := by first | exact Or.inl rfl | exact Or.inr (Or.inl rfl) | exact Or.inr (Or.inr rfl)) (hd : (x == ("__debug__" : Str)) = false := by decide)
    (hcd : (x == ("__classdict__" : Str)) = false := by decide) (hk : X.K = C.K := by rfl) (hs : starEach [e] X.env = (false, eval e X.env) :: starEach [] X.env := by rfl)
    (hfew : ((backTo q3 (starEach [e] X.env)).all (fun x => !x.1) && (backToKw q3 (keywordEach [] X.env)).all (fun x => x.1.isSome) && decide ([e].length + ([] : List Keyword).length + (if ([] : List Keyword).isEmpty then 0 else 1) < 30)) = true := by rfl)
    (hline : (q2.endLine == q3.line) = true := by rfl) :
    SS X C (.Expr (.Call (.Attribute (.Name x q1) "extend" q2) [e] [] q3) pos) (tDrop (tBM C.K "list" rExtend (tVar i) (tCons te tNil))) (sExt i fe) := by
  refine ⟨by rw [← hk]; exact ps_expr (pe_bm PySem.F.plainAttrs_list PySem.F.slot_list_extend PySem.F.type_list_extend mt_extend (pe_var hN hv hd hcd) (pa_cons l.pe pa_nil hs) rfl hfew hline hs), fun ρ σ B H E S g => ?_⟩
  unfold sExt at g
  by_cases hl : isL ρ i = true
  case neg => rw [if_neg hl] at g; exact g.elim
  rw [if_pos hl] at g
  obtain ⟨a, vs, ea, sq⟩ := isL_ok S hl
  refine ⟨.ref a, ea, tyL sq, ?_⟩
  refine l.lk.bindS S g fun hd ρ1 v B1 H1 S1 x1 y1 g1 => ?_
  cases hd with
  | fr y =>
    cases y with
    | list zs =>
      obtain ⟨c, d', h1, h2, h3, h4⟩ := mutS_ok g1
      obtain ⟨a', ea', hb, ow⟩ := S1.own h1 h2
      rw [ea] at ea'
      cases ea'
      obtain ⟨b, rfl, bb, owb, nb, _⟩ := y1
      obtain ⟨us, eu, ru⟩ := owb
      obtain ⟨d, fl⟩ := c
      cases d with
      | list ds =>
        obtain ⟨hc, rfl⟩ := if_some (show (if ds.length + zs.length ≤ sizeLine then some (.list (ds ++ zs)) else none) = some d' from h3)
        obtain ⟨ws, ew, rw'⟩ := ow
        have ow' : Ow C.K B1 a (some (.lst (ws ++ us))) (.list (ds ++ zs)) := ⟨_, rfl, rw'.append ru⟩
        obtain ⟨S2, x2⟩ := S1.mut h1 h2 ea ow'
        exact ⟨a, b, ws, us, rfl, rfl, ew, eu, by rw [rw'.length, ru.length]; exact hc, h4 _ _ _ S2 (x1.trans x2)⟩
      | _ => cases h3
    | _ => exact g1.elim
  | _ => exact g1.elim
end
end GS
namespace GS
open PySem L2
section
variable {ρ ρ1 : Rho} {c : Prop} [Decidable c]
def enR (h : Hd) (ρ : Rho) : RI := match h with
  | .sh d => match seqs d with
    | some ds => .ok (enD ds) ρ
    | none => .stuck
  | _ => .stuck
@[simp] theorem enR_l (ds : List D) : enR (.sh (.list ds)) ρ = .ok (enD ds) ρ := rfl
@[simp] theorem enR_t (ds : List D) : enR (.sh (.tuple ds)) ρ = .ok (enD ds) ρ := rfl
@[simp] theorem iEn_eq (f : EF) : iEn f ρ = bindEI (eCap f ρ) enR := by unfold iEn enR; rfl
theorem enD_len (ds : List D) : (enD ds).length = ds.length := by unfold enD; rw [List.length_mapIdx]
theorem enD_mid {ds pre post : List D} {d : D} (h : enD ds = pre ++ d :: post) : ∃ x, ds[pre.length]? = some x ∧ d = .tuple [.int (pre.length : Int), x] := by
  have h2 : (enD ds)[pre.length]? = some d := by rw [h, List.getElem?_append_right (Nat.le_refl _), Nat.sub_self]; rfl
  have h3 : pre.length < ds.length := by rw [← enD_len ds]; exact (List.getElem?_eq_some_iff.mp h2).1
  have h4 : ds[pre.length]? = some ds[pre.length] := List.getElem?_eq_getElem h3
  rw [enD_get ds _ _ h4] at h2
  exact ⟨_, h4, (Option.some.inj h2).symm⟩
def extR (i : Nat) (h : Hd) (ρ : Rho) : RS := match h with
  | .fr (.list zs) => mutS ρ i (extD zs)
  | _ => .stuck
@[simp] theorem extR_l (i : Nat) (zs : List D) : extR i (.fr (.list zs)) ρ = mutS ρ i (extD zs) := rfl
@[simp] theorem sExt_eq (i : Nat) (f : EF) : sExt i f ρ = if isL ρ i then bindES (f ρ) (extR i) else .stuck := by unfold sExt; rfl
@[simp] theorem extD_l (zs ds : List D) : extD zs (.list ds) = if ds.length + zs.length ≤ sizeLine then some (.list (ds ++ zs)) else none := rfl
/-- a loop that appends -/
theorem forL_app {α : Type} {g : D → Rho → Option Rho} {b : SF} (emb : List D → Rho) (it : α → D) (f : α → D) : ∀ (as : List α) (acc : List D), acc.length + as.length ≤ sizeLine →
    (∀ a acc, a ∈ as → acc.length < sizeLine → optR (g (it a) (emb acc)) b = .nx (emb (acc ++ [f a]))) → forL g b (as.map it) (emb acc) = .nx (emb (acc ++ as.map f))
  | [], acc, _, _ => by simp
  | a :: as, acc, hl, k => by
    rw [List.length_cons] at hl
    have h1 := k a acc (List.mem_cons_self ..) (by omega)
    have q := forL_app emb it f as (acc ++ [f a]) (by rw [List.length_append, List.length_singleton]; omega) fun a acc m => k a acc (List.mem_cons_of_mem _ m)
    rw [List.map_cons, forL_cons]
    unfold optR at h1 ⊢
    split at h1
    · cases h1
    · dsimp only
      rw [h1, turnR_nx, q]
      simp
end
end GS
namespace GS
open PySem L2
section
variable {K : KW} {X : Cx} {C : Ct} {a b : Expr} {ta tb : TE} {fa fb : EF} {apos pos : Pos}
def strsD : List D → Option (List Str)
  | [] => some []
  | .str z :: ds => (strsD ds).map (z :: ·)
  | _ :: _ => none
theorem strsD_ok {B : Hp} : ∀ {vs : List V} {ds : List D} {zs : List Str}, RpL K B vs ds → strsD ds = some zs → vs = zs.map V.str
  | _, _, _, .nil, e => by cases e; rfl
  | _, _, _, .cons (d := d) h t, e => by
    cases d with
    | str z =>
      rename_i ds
      obtain ⟨r, h1, rfl⟩ := Option.map_eq_some_iff.mp (show (strsD ds).map (z :: ·) = some _ from e)
      cases h
      rw [strsD_ok t h1]; rfl
    | _ => cases e
end
end GS
namespace GS
open PySem L2
section
variable {ρ ρ1 : Rho} {c : Prop} [Decidable c]
end
end GS
namespace GS
open PySem L2 PySem.Spec PyProof.Rows
theorem exV_ok {P : Program} {w : World} {H : Hp} {h : Heap} {a : Addr} {cls : Value} {d : Option Addr} {oe : Obj} {vs : Array Value} (e : h.get? a = some oe) (z : Zc cls d oe) (q : oe.data = .fields vs) : ObjOk P w H h a (exV a cls d) :=
  ⟨⟨oe, vs, e, z, q⟩, ⟨_, e⟩, fun h1 h2 x k => by
    obtain ⟨o, v, e1, e2⟩ := x
    exact ⟨o, v, k _ e1, e2⟩⟩
section
variable {X : Cx} {pins : List (Addr × Obj)} {σ : L2.St} {H : Hp} {s : Shared}
theorem inv_suite (I : Inv X pins σ H s) (a : Addr) : Inv (X.suite a (X.pn ++ pins)) [] σ H s :=
  ⟨I.ok.suite _ _, I.os, I.bare, I.base, I.loc, I.cell, I.free, I.freeC, fun p hp => I.pin p (by rw [List.append_nil] at hp; exact hp), I.hok, I.len⟩
theorem inv_unsuite {a : Addr} {pn' : List (Addr × Obj)} (I : Inv (X.suite a (X.pn ++ pins)) pn' σ H s) (ok : X.Ok) : Inv X pins σ H s :=
  ⟨ok, I.os, I.bare, I.base, I.loc, I.cell, I.free, I.freeC, fun p hp => I.pin p (List.mem_append_left _ hp), I.hok, I.len⟩
/-- the exception that has landed is tracked -/
theorem inv_caught {sI s' : Shared} {B h4 : Heap} {a : Addr} {cls : Value} {d : Option Addr} {l : List Env} (J : Inv X pins σ H sI) (nb : ∀ b o, sI.heap.get? b = some o → b ∉ frs X.stack → B.get? b = some o) (up : sI.heap.UpToSlots h4) (os : s'.os = sI.os) (ag : AllBare s'.gens)
    (na : H a = none) (nfr : a ∉ frs X.stack) (fl : HandSPX.FlyingZ B l a (Zc cls d) h4) : Inv X pins σ (upd H a (exV a cls d)) { s' with heap := h4 } := by
  obtain ⟨st, ba, _⟩ := id fl
  obtain ⟨oe, vs, he, hz, hd⟩ := fl.there
  have nI : sI.heap.get? a = none := by
    cases e : sI.heap.get? a with
    | none => rfl
    | some o => rw [nb a o e nfr] at ba; cases ba
  obtain ⟨G, g1, g2⟩ := restrict h4 fun b => decide (b ≠ a)
  have gk : ∀ b, b ≠ a → G.get? b = h4.get? b := fun b hb => g1 b (decide_eq_true hb)
  have ga : G.get? a = none := g2 a (by simp)
  have J1 : Inv X pins σ H { s' with heap := G } := by
    refine J.landed nb (fun b o e => ?_) (fun b o e k => ?_) os ag
    · have hb : b ≠ a := fun z => by rw [z, ba] at e; cases e
      show G.get? b = _
      rw [gk b hb]
      exact st b o e
    · have hb : b ≠ a := fun z => by rw [z, nI] at e; cases e
      obtain ⟨sl, q⟩ := up b o e k
      exact ⟨sl, by show G.get? b = _; rw [gk b hb]; exact q⟩
  have J2 := J1.laidN (t' := s'.toks) (h' := h4) (a := a) (o := exV a cls d) (fun b u e => by
    have e : G.get? b = some u := e
    have hb : b ≠ a := fun z => by rw [z, ga] at e; cases e
    rw [gk b hb] at e
    exact e) ga na (exV_ok he hz hd)
  exact J2
end
/-- what the clause wishes -/
def wAsV (K : PySem.W.Frag) (c : Value) (i : Nat) (ts : TS) (Wout : WX) (D : Ends) : WX := fun cls d σ H =>
  ∃ b, PySem.W.exmOne K cls c = some b ∧ (b = true → ∀ a, H a = none → ts { nx := fun σ' H' => D.nx (σ'.set i none) H', rt := D.rt, bk := fun σ' H' => D.bk (σ'.set i none) H', ct := fun σ' H' => D.ct (σ'.set i none) H' } (σ.set i (some (.ref a))) (upd H a (exV a cls d))) ∧
    (b = false → Wout cls d σ H)
section
variable {X : Cx} {x n : Str} {c : Value} {i : Nat} {body suite : List Stmt} {b₀ : Stmt} {np pos pos' : Pos} {R : TS} {ts : TS} {Wout : WX}
theorem ps_try_asV (hs : X.stack = X.env :: X.outer) (hf : X.env.frame = some X.env.locals) (hN : X.N.Nodup) (hi : X.N[i]? = some n) (hln : X.env.kindOf n = some .local) (hc : Names X x c) (tk : Takes X Wout)
    (hb : ∀ (D : Ends) (σ : L2.St) (H : Hp), R D σ H → ∀ (pn : List (Addr × Obj)) (xe : Value → Shared → Prop), Takes (X.tr pn xe) (wAsV X.K c i ts Wout D) → PassesOwn (model X.prog X.w) X.A X.env xe → ∃ t, PSs (X.tr pn xe) body t ∧ t D σ H)
    (hsu : ∀ (a : Addr) (pn : List (Addr × Obj)), PSs (X.suite a pn) (b₀ :: suite) ts) :
    PS X (.Try body [.ExceptHandler (some (.Name x np)) (some n) (b₀ :: suite) pos'] [] [] pos) R := by
  refine ⟨fun pins s σ H D I h => ?_⟩
  have ok := I.ok
  have hfr : X.A.frames = some (X.env :: X.outer) := by rw [ok.frames, hs]
  have hloc : Loc X.env.scope n := .inl hln
  refine wpAny_Try_except ?_
  obtain ⟨t, ht, hq⟩ := hb D σ H h (X.pn ++ pins) (fun e s₁ => wpAny (model X.prog X.w) X.A (noteFrame e X.env) (fun _ s₂ => wpAny (model X.prog X.w) X.A (setFlight e none) (fun _ s₃ =>
    wpAny (model X.prog X.w) X.A (handleBy e X.env [.ExceptHandler (some (.Name x np)) (some n) (b₀ :: suite) pos']) (L2.SP X pins D) X.xe s₃) X.xe s₂) X.xe s₁) (fun u s' xx => by
    obtain ⟨a, B, sI, pins', σ', H', cls, d, rfl, J', nb, up, sky, na, os, ag, b, hb1, hyes, hno⟩ := xx
    have J : Inv X pins σ' H' sI := J'.ofTry ok
    have sky' : Sky B (X.env :: X.outer) a (Zc cls d) X.env.locals s'.heap := by rw [← hs]; exact sky
    show wpAny (model X.prog X.w) X.A (noteFrame (.ref a) X.env) _ _ _
    refine Sky.land Zc.steady hfr hf sky' fun h3 fl3 up3 => ?_
    have J3 : Inv X pins σ' H' { s' with heap := h3 } := J.landed nb fl3.1 (up.trans up3) os ag
    obtain ⟨oe3, vs3, he3, hz3, hd3⟩ := fl3.there
    have nfr : a ∉ frs (X.env :: X.outer) := fun hm => by
      obtain ⟨_, o', e', hnf⟩ := fl3.2.2.1.mem hm
      rw [he3] at e'; cases e'
      exact hnf _ hd3
    have S3 := inv_suite J3 a
    refine wpAny_handleBy_cons (codeAny_handlers_test ?_) (by intro q; cases q)
    have LT : PySem.W.Looks (model X.prog X.w) h3 (typeOf (.ref a)) cls := fun A Q E s k q => wpAny_typeOf_ref (k _ _ he3) (by rw [hz3.1]; exact q)
    have LM := PySem.W.exm_one (M := model X.prog X.w) (J3.kIn) LT hb1
    have test : ∀ {Q : Value → Shared → Prop} {E : Value → Shared → Prop}, Q c { s' with heap := h3 } → wpAny (model X.prog X.w) (X.A.mark (some (.ref a))) (eval (.Name x np) X.env) Q E { s' with heap := h3 } := fun {Q E} q => by
      obtain ⟨hg, hdbg, hm | ⟨hm, hv, hnn⟩⟩ := hc
      · exact ld_glob (X := X.suite a (X.pn ++ pins)) S3 hg hm q hdbg
      · exact ld_blt (X := X.suite a (X.pn ++ pins)) S3 hg hm hv q hnn hdbg
    refine test (LM.here ?_)
    cases b with
    | true =>
      refine codeAny_handlers_suite_as ?_
      refine HandSPX.lands_againZ fl3 fun h4 fl4 up4 => ?_
      have J4 := inv_caught (s' := s') J nb ((up.trans up3).trans up4) os ag na (by rw [hs]; exact nfr) fl4
      have S4 := inv_suite J4 a
      refine L2.store_ok (X := X.suite a (X.pn ++ pins)) (v := .ref a) S4 hN hi hloc rfl (fun s5 S5 => ?_) (.inr hln)
      refine wpAny_mono ((hsu a (X.pn ++ pins)).run [] s5 _ _ _ S5 (hyes rfl a na)) (fun f s6 hsp => ?_) (fun _ _ z => False.elim z)
      have end_ : ∀ {σ6 : L2.St} {H6 : Hp} {Q : Shared → Prop}, Inv (X.suite a (X.pn ++ pins)) [] σ6 H6 s6 → (∀ s7, Inv X pins (σ6.set i none) H6 s7 → Q s7) →
          wpAny (model X.prog X.w) X.A (do bindName X.env n .none; unbindBehindTheSuite X.env n pos') (fun _ s7 => Q s7) X.xe s6 := fun {σ6 H6 Q} S6 hq => gone_ok (inv_unsuite S6 ok) hN hi hln hq
      cases f with
      | next =>
        obtain ⟨σ6, H6, S6, q6⟩ := hsp
        exact end_ S6 fun s7 J7 => ⟨_, _, J7, q6⟩
      | brk =>
        obtain ⟨σ6, H6, S6, q6⟩ := hsp
        exact end_ S6 fun s7 J7 => ⟨_, _, J7, q6⟩
      | cont =>
        obtain ⟨σ6, H6, S6, q6⟩ := hsp
        exact end_ S6 fun s7 J7 => ⟨_, _, J7, q6⟩
      | ret u =>
        obtain ⟨v6, σ6, H6, S6, r6, q6⟩ := hsp
        exact end_ S6 fun s7 J7 => ⟨_, _, _, J7, r6, q6⟩
    | false =>
      show wpAny _ X.A (handleBy (.ref a) X.env []) _ _ _
      refine wpAny_handleBy_nil ?_
      obtain ⟨k1, k2, k3, oe, vs, T, oT, ts', he, hz, hd, h1, hr⟩ := id fl3
      unfold PySem.passOn
      refine wpAny_bind (wpAny_field he hd h1 ?_)
      rw [if_neg (show ¬ ((Value.ref T == Value.none) = true) from by simp)]
      have fin : wpAny (model X.prog X.w) X.A (setFlight (.ref a) X.env.frame) (fun _ s4 => wpAny (model X.prog X.w) X.A (throw (.ref a) : Sem Flow) (L2.SP X pins D) X.xe s4) X.xe { s' with heap := h3 } := by
        rw [hf]
        refine HandSPX.setFlight_upZ fl3 fun h4 hh4 up4 => wpAny_throw (tk _ _ ?_)
        exact ⟨a, B, sI, pins, σ', H', cls, d, rfl, J, nb, (up.trans up3).trans up4, .inr (.inr (by rw [hs]; exact hh4)), na, os, ag, hno rfl⟩
      first
        | exact wpAny_bind (wpAny_pure (wpAny_bind fin))
        | exact wpAny_bind fin) PassesOwn.looking
  refine wpAny_mono (ht.run [] s σ H D (I.toTry _) hq) (fun f s1 hsp => ?_) (fun e s1 he => he)
  · cases f with
    | next =>
      obtain ⟨σ', H', J', q⟩ := hsp
      exact wpAny_execs_nil ⟨σ', H', J'.ofTry ok, q⟩
    | brk =>
      obtain ⟨σ', H', J', q⟩ := hsp
      exact ⟨σ', H', J'.ofTry ok, q⟩
    | cont =>
      obtain ⟨σ', H', J', q⟩ := hsp
      exact ⟨σ', H', J'.ofTry ok, q⟩
    | ret u =>
      obtain ⟨v, σ', H', J', r, q⟩ := hsp
      exact ⟨v, σ', H', J'.ofTry ok, r, q⟩
end
end GS
namespace GS
open PySem L2
/-- an exception as a datum -/
def xD (x : Xc) : D := xnD x.cls (x.fs.map (·.1)) (x.fs.map (·.2))
def unE (i : Nat) : RS → RS
  | .nx ρ => if ioAt ρ i then .stuck else .nx (ρ.set i none)
  | .bk ρ => if ioAt ρ i then .stuck else .bk (ρ.set i none)
  | .ct ρ => if ioAt ρ i then .stuck else .ct (ρ.set i none)
  | .rt h ρ => .rt h ρ
  | _ => .stuck
/-- ns: the classes that are told of; cs: those that the clause takes -/
def sTry (ns cs : List Str) (i : Nat) (fb fh : SF) : SF := fun ρ => match fb ρ with
  | .exc x ρ1 => if ns.contains x.cls then (if cs.contains x.cls then (if i < ρ1.length && !ioAt ρ1 i then unE i (fh (ρ1.set i (some ⟨xD x, .sh⟩))) else .stuck) else .exc x ρ1) else .stuck
  | r => r
section
variable {K : KW} {ρ ρ1 : Rho} {σ σ1 : St} {B H B1 H1 : Hp}
theorem clr_ok (S : Sim K ρ1 σ1 B1 H1) (x : Ext ρ σ B H ρ1 σ1 B1 H1) {i : Nat} (hn : ioAt ρ1 i = false) :
    Sim K (ρ1.set i none) (σ1.set i none) B1 H1 ∧ Ext ρ σ B H (ρ1.set i none) (σ1.set i none) B1 H1 := by
  have get : ∀ {j : Nat} {c : Cel}, (ρ1.set i none)[j]? = some (some c) → i ≠ j ∧ ρ1[j]? = some (some c) := fun {j c} h => by
    rcases set_get h with ⟨rfl, e⟩ | h
    · cases e
    · exact h
  have oth : ∀ {j : Nat}, i ≠ j → (σ1.set i none)[j]? = σ1[j]? := fun {j} h => by rw [List.getElem?_set, if_neg h]
  refine ⟨⟨S.bh, by rw [List.length_set, List.length_set]; exact S.len, fun j c h => ?_, fun j k cj ck a hj hk nj nk ej ek => ?_⟩, ⟨x.bb, x.nw, x.kp, fun a ha => ?_, fun j c h1 h2 => ?_, fun j c h1 h2 => ?_⟩⟩
  · obtain ⟨ne, h⟩ := get h
    rw [oth ne]; exact S.sl j c h
  · obtain ⟨n1, hj⟩ := get hj
    obtain ⟨n2, hk⟩ := get hk
    rw [oth n1] at ej
    rw [oth n2] at ek
    exact S.dj j k cj ck a hj hk nj nk ej ek
  · obtain ⟨j, c, hj, nj, ej⟩ := ha
    obtain ⟨n1, hj⟩ := get hj
    rw [oth n1] at ej
    exact x.sub a ⟨j, c, hj, nj, ej⟩
  · obtain ⟨e1, c1, q1, q2⟩ := x.io j c h1 h2
    have ne : i ≠ j := fun z => by subst z; exact not_io hn q1 q2
    exact ⟨(oth ne).trans e1, c1, (set_other ne).trans q1, q2⟩
  · exact x.oi j c (get h1).2 h2
end
/-- what the written part says of the exception classes ns: they are own ones, and the clause's class c takes those of cs -/
def tryB (K : PySem.W.Frag) (c : Value) (ns cs : List Str) : Bool := ns.all fun n => xcB K (cvK K n) && decide (PySem.W.exmOne K (cvK K n) c = some (cs.contains n))
theorem rp_xn {C : Ct} {B : Hp} {x : Xc} {cls : Value} {d : Option Addr} {a : Addr} (hcv : C.cv = cvK C.K) (hx : xcB C.K (cvK C.K x.cls) = true) (sB : Same B (upd B a (exV a cls d))) (ok : XcOk C B x cls d) : Rp C.K (upd B a (exV a cls d)) (.ref a) (xD x) := by
  obtain ⟨e, ok⟩ := ok
  rw [hcv] at e
  subst e
  rcases ok with ⟨e1, rfl⟩ | ⟨dd, fs, rfl, e1, e2, e3⟩
  · unfold xD
    rw [e1]
    exact .exn (fs := []) (ds := []) upd_same hx (.inl ⟨rfl, rfl⟩) .nil
  · unfold xD
    rw [← e2]
    exact .exn (fs := fs) upd_same hx (.inr ⟨dd, rfl, sB _ _ e1⟩) (e3.mono sB)
section
variable {X : Cx} {C : Ct} {x n : Str} {c : Value} {i : Nat} {body suite : List Stmt} {b₀ : Stmt} {np pos pos' : Pos} {ts : TS} {fb fh : SF} {ns cs : List Str}
def tTry (C : Ct) (f : SF) : TS := fun D σ H => ∃ ρ B, Sim C.K ρ σ B H ∧ GoodS C ρ σ B H D (f ρ)
theorem ss_try (ht : tryB C.K c ns cs = true) (hm : X.mg x = some c) (hN : X.N.Nodup) (tk : Takes X C.W)
    (hb : ∀ (W : WX) (pn : List (Addr × Obj)) (xe : Value → Shared → Prop), Takes (X.tr pn xe) W → PassesOwn (model X.prog X.w) X.A X.env xe → ∃ t, SSs (X.tr pn xe) ⟨C.K, C.cv, W⟩ body t fb)
    (hsu : ∀ (a : Addr) (pn : List (Addr × Obj)), SSs (X.suite a pn) ⟨C.K, C.cv, fun _ _ _ _ => False⟩ (b₀ :: suite) ts fh)
    (hcv : C.cv = cvK C.K := by rfl) (hk : X.K = C.K := by rfl) (hs : X.stack = X.env :: X.outer := by rfl) (hf : X.env.frame = some X.env.locals := by rfl) (hi : X.N[i]? = some n := by rfl) (hln : X.env.kindOf n = some .local := by rfl) (hg : Gl X x := by rfl) (hdb : (x == ("__debug__" : Str)) = false := by decide) :
    SS X C (.Try body [.ExceptHandler (some (.Name x np)) (some n) (b₀ :: suite) pos'] [] [] pos) (tTry C (sTry ns cs i fb fh)) (sTry ns cs i fb fh) := by
  refine ⟨ps_try_asV (i := i) (c := c) (ts := ts) hs hf hN hi hln ⟨hg, hdb, .inl hm⟩ tk (fun D σ H h pn xe tk' po => ?_) fun a pn => (hsu a pn).ps, fun ρ σ B H D S g => ⟨ρ, B, S, g⟩⟩
  obtain ⟨ρ, B, S, g⟩ := h
  obtain ⟨t, hT⟩ := hb _ pn xe tk' po
  refine ⟨t, hT.ps, hT.lk ρ σ B H D S ?_⟩
  unfold sTry at g
  cases e : fb ρ with
  | stuck => rw [e] at g; exact g
  | nx ρ1 => rw [e] at g; exact g
  | bk ρ1 => rw [e] at g; exact g
  | ct ρ1 => rw [e] at g; exact g
  | rt h ρ1 => rw [e] at g; exact g
  | exc y ρ1 =>
    rw [e] at g
    dsimp only at g
    intro cls dct σ1 B1 H1 S1 x1 ok
    have ok' : XcOk C B1 y cls dct := ok
    split at g
    · rename_i hn
      have hf := List.all_eq_true.mp ht y.cls (by simpa using hn)
      rw [Bool.and_eq_true, decide_eq_true_eq] at hf
      obtain ⟨f1, f2⟩ := hf
      refine ⟨cs.contains y.cls, by rw [hk, ok'.1, hcv]; exact f2, fun hc a na => ?_, fun hc => ?_⟩
      · rw [if_pos hc] at g
        split at g
        · rename_i hi2
          simp only [Bool.and_eq_true, decide_eq_true_eq, Bool.not_eq_true'] at hi2
          obtain ⟨S2, x2⟩ := S1.newB na (exV a cls dct)
          obtain ⟨S3, x3'⟩ := store_ok S2 x2 (c := ⟨xD y, .sh⟩) (v := .ref a) hi2.1 hi2.2 (by simp) (.inl ⟨rfl, rp_xn hcv f1 x2.bb ok'⟩) fun z => absurd rfl z
          have x3 := x1.trans x3'
          refine (hsu a []).lk _ _ _ _ _ S3 ?_
          cases e2 : fh (ρ1.set i (some ⟨xD y, .sh⟩)) with
          | stuck => rw [e2] at g; exact g
          | exc z ρ2 => rw [e2] at g; exact g.elim
          | rt h ρ2 => rw [e2] at g; exact GoodS.ext (C := ⟨C.K, C.cv, fun _ _ _ _ => False⟩) (Ed := D) (r := .rt h ρ2) x3 g
          | nx ρ2 =>
            rw [e2] at g
            unfold unE at g
            dsimp only at g
            split at g
            · exact g.elim
            · rename_i hio
              intro σ3 B3 H3 S4 x4
              obtain ⟨S5, x5⟩ := clr_ok S4 (x3.trans x4) (i := i) (by simpa using hio)
              exact g _ _ _ S5 x5
          | bk ρ2 =>
            rw [e2] at g
            unfold unE at g
            dsimp only at g
            split at g
            · exact g.elim
            · rename_i hio
              intro σ3 B3 H3 S4 x4
              obtain ⟨S5, x5⟩ := clr_ok S4 (x3.trans x4) (i := i) (by simpa using hio)
              exact g _ _ _ S5 x5
          | ct ρ2 =>
            rw [e2] at g
            unfold unE at g
            dsimp only at g
            split at g
            · exact g.elim
            · rename_i hio
              intro σ3 B3 H3 S4 x4
              obtain ⟨S5, x5⟩ := clr_ok S4 (x3.trans x4) (i := i) (by simpa using hio)
              exact g _ _ _ S5 x5
        · exact g.elim
      · rw [if_neg (by rw [hc]; exact Bool.false_ne_true)] at g
        exact g cls dct σ1 B1 H1 S1 x1 ok'
    · exact g.elim
end
end GS
namespace GS
open PySem L2
def lookX (f : Str) : List D → List D → Option D
  | .str g :: ns, d :: ds => if f = g then some d else lookX f ns ds
  | _, _ => none
theorem lookX_ok {K : KW} {B : Hp} {f : Str} {d : D} : ∀ {fs : List (Str × V)} {ds : List D}, RpL K B (fs.map (·.2)) ds → lookX f ((fs.map (·.1)).map PyData.str) ds = some d → ∃ v, fs.lookup f = some v ∧ Rp K B v d
  | [], ds, _, e => by cases ds <;> cases e
  | (g, v) :: fs, _, .cons (d := d') h t, e => by
    replace e : (if f = g then some d' else lookX f ((fs.map (·.1)).map PyData.str) _) = some d := e
    by_cases hf : f = g
    · rw [if_pos hf] at e
      cases e
      exact ⟨v, by rw [hf]; simp [List.lookup], h⟩
    · rw [if_neg hf] at e
      obtain ⟨v', q1, q2⟩ := lookX_ok t e
      have eb : (f == g) = false := by simpa using hf
      exact ⟨v', by simp [List.lookup, eb]; exact q1, q2⟩
/-- the class's name -/
def clsX : D → Option Str
  | .dict [(.none, .tuple (.str c :: .tuple _ :: _))] => some c
  | _ => none
def fldX (f : Str) : D → Option D
  | .dict [(.none, .tuple (.str _ :: .tuple ns :: ds))] => lookX f ns ds
  | _ => none
def eXf (ns : List Str) (f : Str) (fe : EF) : EF := fun ρ => bindE (eSet fe ρ) fun h ρ1 => match getH ρ1 h with
  | some d => match clsX d, fldX f d with
    | some c, some y => if ns.contains c then .ok (.sh y) ρ1 else .stuck
    | _, _ => .stuck
  | none => .stuck
def tXF (K : PySem.W.Frag) (f : Str) (te : TE) : TE := fun σ H Q => te σ H fun x H1 => ∃ (a C dd : Addr) (fs : List (Str × V)) (v : V), x = .ref a ∧ H1 a = some (exV a (.ref C) (some dd)) ∧ xcB K (.ref C) = true ∧ PySem.W.findIn K (.ref C) f = some none ∧ H1 dd = some (.xd fs) ∧ fs.lookup f = some v ∧ Q v H1
def fldB (K : PySem.W.Frag) (f : Str) (ns : List Str) : Bool := ns.all fun n => decide (PySem.W.findIn K (cvK K n) f = some none)
theorem clsX_xn {d : D} {c : Str} (h : clsX d = some c) : isXn d = true := by
  unfold clsX at h
  split at h
  · rfl
  · cases h
section
variable {X : Cx} {C : Ct} {e : Expr} {te : TE} {fe : EF} {pos : Pos} {ns cs : List Str}
open PySem.Spec PyProof.Rows in
theorem pe_XF {f : Str} (he : PE X e te) (hb : attributeBase e f X.env (eval e X.env) = eval e X.env := by rfl) : PE X (.Attribute e f pos) (tXF X.K f te) := by
  refine ⟨fun pins s σ H Q I h => ?_⟩
  refine attr_of hb (thn (he.run pins s σ H _ I h) fun u s1 hh => ?_)
  obtain ⟨x, H1, I1, rx, a, C, dd, fs, v, ex, ea, xb, hno, ed, l, q⟩ := hh
  subst ex
  obtain rfl : u = Value.ref a := rx
  obtain ⟨oe, vs, ha, hz, hd⟩ := exV_at I1.hok ea
  obtain ⟨D', eD, h1, h2, h3, h4, h5, _⟩ := xcB_ok xb
  cases eD
  have hx : ObjOk X.prog X.w H1 s1.heap dd (.xd fs) := I1.hok dd _ ed
  obtain ⟨mA, hns, hr⟩ := hx
  obtain ⟨od, ho, hl⟩ := lookIn_ns hns
  obtain ⟨u, hu, ru⟩ := RelO.some_of (v := v) (o := mA f) (by rw [← l]; exact hr f)
  have J : PySem.W.InstAt s1.heap a oe C (some od) := ⟨ha, hz.1, by unfold PySem.W.notCls; rw [hd] <;> rfl, by rw [hz.2]; exact ho⟩
  exact HandSPX.exc_get I1.kIn J h2 h3 h4 (PySem.W.findObj_own h5 hno rfl (by rw [hl, hu])) (handed_of ru) ⟨v, H1, I1.tok _, ru, q⟩
theorem lk_XF {f : Str} (hb : fldB C.K f ns = true) (l : LkE C te fe) : LkE C (tXF C.K f te) (eXf ns f fe) := fun ρ σ B H Q S g => by
  refine l.setBind S g fun hd ρ1 x B1 H1 S1 e1 y1 g1 => ?_
  split at g1
  · rename_i d ed
    split at g1
    · rename_i c y ec ey
      split at g1
      · rename_i hn
        obtain ⟨a, c', dd, fs, ds, rfl, rfl, h1, h2, h3, h4⟩ := (S1.tp y1 ed).xn S1.bh (clsX_xn ec)
        have hn : c ∈ ns := by simpa using hn
        cases ec
        have hno := of_decide_eq_true (List.all_eq_true.mp hb _ hn)
        obtain ⟨v, q1, q2⟩ := lookX_ok h4 ey
        obtain ⟨D, eD, _⟩ := xcB_ok h2
        rw [eD] at h1 h2 hno
        rcases h3 with ⟨rfl, rfl⟩ | ⟨d2, rfl, h3⟩
        · cases q1
        · exact ⟨a, D, d2, fs, v, rfl, h1, h2, hno, h3, q1, g1 v B1 H1 S1 Ext.refl q2⟩
      · exact g1.elim
    · exact g1.elim
  · exact g1.elim
theorem se_xf {f : Str} (hfb : fldB C.K f ns = true) (l : SE X C e te fe) (hk : X.K = C.K := by rfl) (hb : attributeBase e f X.env (eval e X.env) = eval e X.env := by rfl) : SE X C (.Attribute e f pos) (tXF C.K f te) (eXf ns f fe) :=
  ⟨by rw [← hk]; exact pe_XF l.pe hb, lk_XF hfb l.lk⟩
def dctB : D → Bool
  | .dict _ => true
  | _ => false
theorem tyX_no {K : KW} {B H : Hp} (s : Same B H) {v : V} {d : D} (h : Tp K B H v d) (hx : isXn d = false) (hd : dctB d = false) : TyX K H v (.type (tyOf d)) := by
  rcases tyX s h hx with q | ⟨_, _, _, _, _, _, e⟩
  · exact q
  · cases d with
    | dict ps => cases hd
    | none => exact absurd (show "NoneType" = "dict" from e) (by decide)
    | bool _ => exact absurd (show "bool" = "dict" from e) (by decide)
    | int _ => exact absurd (show "int" = "dict" from e) (by decide)
    | str _ => exact absurd (show "str" = "dict" from e) (by decide)
    | list _ => exact absurd (show "list" = "dict" from e) (by decide)
    | tuple _ => exact absurd (show "tuple" = "dict" from e) (by decide)
def isoX (ns cs : List Str) (d : D) : Option Bool := if isXn d then (match clsX d with
    | some c => if ns.contains c then some (cs.contains c) else none
    | none => none) else if dctB d then none else some false
def eIsC (ns cs : List Str) (f : EF) : EF := fun ρ => bindE (eSet f ρ) fun h ρ1 => match getH ρ1 h with
  | some d => match isoX ns cs d with
    | some b => .ok (.sh (.bool b)) ρ1
    | none => .stuck
  | none => .stuck
abbrev tyNames : List String := ["NoneType", "bool", "int", "str", "list", "tuple", "dict"]
/-- of the class c -/
def isoB (K : PySem.W.Frag) (c : Value) (ns cs : List Str) : Bool := (ns.all fun n => decide (PySem.W.kitOne K (cvK K n) c = some (cs.contains n))) && tyNames.all fun T => decide (PySem.W.kitOne K (.type T) c = some false)
/-- of a tuple of classes -/
def isoBs (K : PySem.W.Frag) (c : List Value) (ns cs : List Str) : Bool := (ns.all fun n => decide (PySem.W.kitAny K (cvK K n) c = some (cs.contains n))) && tyNames.all fun T => decide (PySem.W.kitAny K (.type T) c = some false)
theorem tyOf_in {d : D} (h : isXn d = false) : tyOf d ∈ tyNames := by
  cases d with
  | dict ps =>
    have h : xnB ps = false := h
    show (if xnB ps then "Exception" else "dict") ∈ tyNames
    rw [h]
    decide
  | none => show "NoneType" ∈ tyNames; decide
  | bool _ => show "bool" ∈ tyNames; decide
  | int _ => show "int" ∈ tyNames; decide
  | str _ => show "str" ∈ tyNames; decide
  | list _ => show "list" ∈ tyNames; decide
  | tuple _ => show "tuple" ∈ tyNames; decide
theorem isoX_xn {d : D} {b : Bool} (h : isoX ns cs d = some b) (hx : isXn d = true) : ∃ c, clsX d = some c ∧ c ∈ ns ∧ b = cs.contains c := by
  unfold isoX at h
  rw [if_pos hx] at h
  split at h
  · rename_i c e
    split at h
    · rename_i hn
      cases h
      exact ⟨c, e, by simpa using hn, rfl⟩
    · cases h
  · cases h
theorem isoX_no {d : D} {b : Bool} (h : isoX ns cs d = some b) (hx : isXn d = false) : b = false ∧ dctB d = false := by
  unfold isoX at h
  rw [if_neg (by rw [hx]; exact Bool.false_ne_true)] at h
  cases ht : dctB d <;> rw [ht] at h <;> cases h
  exact ⟨rfl, rfl⟩
theorem lk_iso {c : V} {u : Value} (hv : ClsV c u) (hb : isoB C.K u ns cs = true) (l : LkE C te fe) : LkE C (tCB (rIsiA C.K) (tCons te (tCons (tC c) tNil))) (eIsC ns cs fe) := fun ρ σ B H Q S g => by
  refine l.setBind S g fun hd ρ1 x B1 H1 S1 e1 y1 g1 => ?_
  unfold isoB at hb
  rw [Bool.and_eq_true] at hb
  split at g1
  · rename_i d ed
    split at g1
    · rename_i b eb
      cases hx : isXn d with
      | false =>
        obtain ⟨rfl, ht⟩ := isoX_no eb hx
        exact .inl ⟨x, c, _, _, _, rfl, hv, tyX_no S1.bh (S1.tp y1 ed) hx ht, of_decide_eq_true (List.all_eq_true.mp hb.2 _ (tyOf_in hx)), g1 _ B1 H1 S1 Ext.refl (.bl _)⟩
      | true =>
        obtain ⟨c0, ec, hn, rfl⟩ := isoX_xn eb hx
        obtain ⟨a, c', dd, fs, ds, rfl, rfl, h1, h2, h3, h4⟩ := (S1.tp y1 ed).xn S1.bh hx
        cases ec
        have hko := of_decide_eq_true (List.all_eq_true.mp hb.1 _ hn)
        obtain ⟨D, eD, _⟩ := xcB_ok h2
        rw [eD] at h1 h2 hko
        exact .inr (.inl ⟨a, c, D, dd, fs, _, _, rfl, hv, h1, h3, h2, hko, g1 _ B1 H1 S1 Ext.refl (.bl _)⟩)
    · exact g1.elim
  · exact g1.elim
/-- isinstance(e, C), C an own class -/
theorem se_isc {x : Str} {A : Addr} {q1 q2 : Pos} (hm : X.mg "isinstance" = none) (hmC : X.mg x = some (.ref A)) (hb : isoB C.K (.ref A) ns cs = true) (l : SE X C e te fe) (hk : X.K = C.K := by rfl) (hg : Gl X "isinstance" := by rfl) (hgC : Gl X x := by rfl) (hd : (x == ("__debug__" : Str)) = false := by decide)
    (he : starEach (e :: [.Name x q2]) X.env = (false, eval e X.env) :: starEach [.Name x q2] X.env := by rfl) :
    SE X C (.Call (.Name "isinstance" q1) [e, .Name x q2] [] pos) (tCB (rIsiA C.K) (tCons te (tCons (tC (.ref A)) tNil))) (eIsC ns cs fe) :=
  ⟨by rw [← hk]; exact pe_callB call_isiA hg hm (by decide +kernel) (pa_cons l.pe (pa_cons (pe_glob hgC hmC rfl hd) pa_nil) he) (by decide) (by decide) he, lk_iso (.own A) hb l.lk⟩
/-- .. by a built-in exception class -/
theorem se_ist {x : Str} {T : String} {q1 q2 : Pos} (hm : X.mg "isinstance" = none) (hmT : X.mg x = none) (hb : isoB C.K (.type T) ns cs = true) (l : SE X C e te fe) (hvT : bootBuiltins x = some (.type T) := by decide +kernel) (hk : X.K = C.K := by rfl) (hg : Gl X "isinstance" := by rfl) (hgT : Gl X x := by rfl)
    (hnT : x ≠ "__name__" := by decide) (hdT : (x == ("__debug__" : Str)) = false := by decide)
    (he : starEach (e :: [.Name x q2]) X.env = (false, eval e X.env) :: starEach [.Name x q2] X.env := by rfl) :
    SE X C (.Call (.Name "isinstance" q1) [e, .Name x q2] [] pos) (tCB (rIsiA C.K) (tCons te (tCons (tC (.ty T)) tNil))) (eIsC ns cs fe) :=
  ⟨by rw [← hk]; exact pe_callB call_isiA hg hm (by decide +kernel) (pa_cons l.pe (pa_cons (pe_bltn hgT hmT hvT rfl hnT hdT) pa_nil) he) (by decide) (by decide) he, lk_iso (.ty T) hb l.lk⟩
def rIsXT (K : PySem.W.Frag) : List V → Hp → VK → Prop := fun xs H Q => ∃ (a tp : Addr) (vs : List V) (D : Addr) (d : Option Addr) (fs : List (Str × V)) (us : List Value) (b : Bool), xs = [.ref a, .ref tp] ∧ H tp = some (.tup vs) ∧ Paired ClsV vs us ∧ H a = some (exV a (.ref D) d) ∧ XdB H d fs ∧ xcB K (.ref D) = true ∧ PySem.W.kitAny K (.ref D) us = some b ∧ Q (.bl b) H
theorem call_isXT : CallR X (.builtin "isinstance") (rIsXT X.K) := by
  intro pins s σ H xs us Q I r h
  obtain ⟨a, tp, vs, D, d, fs, ws, b, rfl, hT, k, ea, xd, xb, e, q⟩ := h
  obtain ⟨u1, u2, rfl, r1, r2⟩ := vals2 r
  cases (show u2 = Value.ref tp from r2)
  obtain rfl : u1 = Value.ref a := r1
  obtain ⟨oe, od, J⟩ := exV_inst I ea xd
  obtain ⟨D', eD, h1, h2, h3, h4, h5, h6, h7, h8, h9, _⟩ := xcB_ok xb
  cases eD
  obtain ⟨_, its, rv, o, g1, g2, n, g3⟩ := (show ObjOk X.prog X.w H s.heap tp (.tup vs) from I.hok tp _ hT)
  have e3 := ClsV.all k rv
  subst e3
  obtain ⟨oc, odd, dt, sl⟩ := o
  simp only at g2 g3
  subst g2 g3
  exact PySem.W.kia_tup (PySem.W.kitx_exc h1 h2 h3 h4 h6 h7 h8 h9) I.kIn J g1 e (fun z => nomatch z) fun tk => ⟨.bl b, H, I.tok tk, rfl, q⟩
def rIsiTA (K : PySem.W.Frag) : List V → Hp → VK → Prop := fun xs H Q => rIsiT K xs H Q ∨ rIsXT K xs H Q
theorem call_isiTA : CallR X (.builtin "isinstance") (rIsiTA X.K) := by
  intro pins s σ H xs us Q I r h
  rcases h with h | h
  · exact call_isiT pins s σ H xs us Q I r h
  · exact call_isXT pins s σ H xs us Q I r h
/-- the classes of a tuple display -/
structure PCs (X : Cx) (es : List Expr) (vs : List V) (us : List Value) : Prop where
  pa : PA X es (fun σ H Q => Q vs H)
  cl : Paired ClsV vs us
theorem pcs_nil : PCs X [] [] [] := ⟨pa_nil, .nil⟩
theorem pcs_cons {x : Str} {A : Addr} {es : List Expr} {vs : List V} {us : List Value} {q : Pos} (hm : X.mg x = some (.ref A)) (t : PCs X es vs us) (hg : Gl X x := by rfl) (hd : (x == ("__debug__" : Str)) = false := by decide)
    (he : starEach (.Name x q :: es) X.env = (false, eval (.Name x q) X.env) :: starEach es X.env := by rfl) : PCs X (.Name x q :: es) (.ref A :: vs) (.ref A :: us) :=
  ⟨pa_cons (pe_glob (v := .ref A) hg hm rfl hd) t.pa he, .cons (.own A) t.cl⟩
theorem lk_isoT {vs : List V} {us : List Value} (hv : Paired ClsV vs us) (hl : vs.length ≤ 50) (hb : isoBs C.K us ns cs = true) (l : LkE C te fe) : LkE C (tCB (rIsiTA C.K) (tCons te (tCons (tTup fun σ H Q => Q vs H) tNil))) (eIsC ns cs fe) := fun ρ σ B H Q S g => by
  refine l.setBind S g fun hd ρ1 x B1 H1 S1 e1 y1 g1 => ?_
  unfold isoBs at hb
  rw [Bool.and_eq_true] at hb
  refine ⟨by rw [sizeLine_eq]; omega, fun p hp => ?_⟩
  obtain ⟨S2, x2⟩ := S1.newH hp (.tup vs)
  have sH : Same H1 (upd H1 p (.tup vs)) := fun b u e => by rw [upd_ne (ne_of_none e hp)]; exact e
  split at g1
  · rename_i d ed
    split at g1
    · rename_i b eb
      have tp := S2.tp (HdOk.ext (N' := New ρ σ H) x2 y1) ed
      cases hx : isXn d with
      | false =>
        obtain ⟨rfl, ht⟩ := isoX_no eb hx
        exact .inl ⟨x, p, vs, _, us, _, rfl, upd_same, hv, tyX_no S2.bh tp hx ht, of_decide_eq_true (List.all_eq_true.mp hb.2 _ (tyOf_in hx)), g1 _ B1 _ S2 x2 (.bl _)⟩
      | true =>
        obtain ⟨c0, ec, hn, rfl⟩ := isoX_xn eb hx
        obtain ⟨a, c', dd, fs, ds, rfl, rfl, h1, h2, h3, h4⟩ := tp.xn S2.bh hx
        cases ec
        have hko := of_decide_eq_true (List.all_eq_true.mp hb.1 _ hn)
        obtain ⟨D, eD, _⟩ := xcB_ok h2
        rw [eD] at h1 h2 hko
        exact .inr ⟨a, p, vs, D, dd, fs, us, _, rfl, upd_same, hv, h1, h3, h2, hko, g1 _ B1 _ S2 x2 (.bl _)⟩
    · exact g1.elim
  · exact g1.elim
theorem se_iscT {es : List Expr} {vs : List V} {us : List Value} {k : Nat} {q1 q2 : Pos} (hm : X.mg "isinstance" = none) (hc : PCs X es vs us) (hb : isoBs C.K us ns cs = true) (l : SE X C e te fe) (hl : vs.length ≤ 50 := by simp) (hk : X.K = C.K := by rfl) (hg : Gl X "isinstance" := by rfl)
    (he : starEach (e :: [.Tuple es k q2]) X.env = (false, eval e X.env) :: starEach [.Tuple es k q2] X.env := by rfl) :
    SE X C (.Call (.Name "isinstance" q1) [e, .Tuple es k q2] [] pos) (tCB (rIsiTA C.K) (tCons te (tCons (tTup fun σ H Q => Q vs H) tNil))) (eIsC ns cs fe) :=
  ⟨by rw [← hk]; exact pe_callB call_isiTA hg hm (by decide +kernel) (pa_cons l.pe (pa_cons (pe_tup hc.pa) pa_nil) he) (by decide) (by decide) he, lk_isoT hc.cl hl hb l.lk⟩
end
end GS
namespace GS
open PySem L2
/-- what the written part says of G, whose __init__ is ValueError's -/
def giB (K : PySem.W.Frag) (G : Addr) : Bool := decide (PySem.W.specialIn K (.ref G) "__getattribute__" = some (some (.builtin "type.__getattribute__"))) && (PySem.W.readsIn K G (.type "type") && match PySem.W.findCls K (.ref G) (.type "type") "__init__" with
  | some (.val v) => decide (v = .builtin "ValueError.__init__")
  | _ => false)
theorem giB_ok {K : PySem.W.Frag} {G : Addr} (h : giB K G = true) : PySem.W.specialIn K (.ref G) "__getattribute__" = some (some (.builtin "type.__getattribute__")) ∧ PySem.W.readsIn K G (.type "type") = true ∧ PySem.W.findCls K (.ref G) (.type "type") "__init__" = some (.val (.builtin "ValueError.__init__")) := by
  unfold giB at h
  rw [Bool.and_eq_true, Bool.and_eq_true, decide_eq_true_eq] at h
  obtain ⟨h1, h2, h3⟩ := h
  refine ⟨h1, h2, ?_⟩
  split at h3
  · rename_i v e
    rw [e, of_decide_eq_true h3]
  · cases h3
section
variable {X : Cx} {e : Expr} {es : List Expr} {ta : TA} {p1 p2 pos : Pos} {x : Str} {G : Addr}
open PySem.Spec PyProof.Rows in
theorem pe_ginit {pl : Sem Bool} (hgi : giB X.K G = true) (hm : X.mg x = some (.ref G)) (ha : PA X (e :: es) ta) (hg : Gl X x := by rfl) (hdb : (x == ("__debug__" : Str)) = false := by decide)
    (hc : eval (.Call (.Attribute (.Name x p1) "__init__" p2) (e :: es) [] pos) X.env = (do
      let ov ← eval (.Name x p1) X.env
      standAt p2.atName
      let (f, first) ← holding [ov] (getMethod ov "__init__" pl)
      callWith pos f first (backTo pos (starEach (e :: es) X.env)) (backToKw pos (keywordEach [] X.env))) := by rfl)
    (he : starEach (e :: es) X.env = (false, eval e X.env) :: starEach es X.env := by rfl) (hpl : (backTo pos (starEach es X.env)).any (·.1) = false := by rfl) :
    PE X (.Call (.Attribute (.Name x p1) "__init__" p2) (e :: es) [] pos) (tVeI X.K ta) := by
  obtain ⟨h1, h2, h3⟩ := giB_ok hgi
  refine ⟨fun pins s σ H Q I h => ?_⟩
  refine PySem.W.methodCall_KW (ld_glob I hg hm ?_ hdb) hc
  refine PySem.W.method_cls I.kIn h1 (PySem.W.cls_value I.kIn h2 h3 (by decide +kernel) ?_)
  show wpAny _ _ (callWith pos (Value.builtin "ValueError.__init__") [] (backTo pos (starEach (e :: es) X.env)) []) _ _ _
  refine PyProof.Rows.callWith_method1 (thn (ha.run pos pins _ σ H _ (I.tok _) h) fun us s1 ⟨vs, H1, I1, r1, a, C, ws, ev, hl, T, ea, q⟩ => ?_) he hpl
  subst ev
  cases r1 with
  | @cons _ u0 _ ur ra rw' =>
    obtain rfl : u0 = Value.ref a := ra
    have hlen : ur.length ≤ sizeLine := by
      rw [← Paired.length rw', sizeLine_eq]
      omega
    exact oinit_ok T I1 ea hlen fun s' J => ⟨.non, H1, J, rfl, q⟩
end
/-- what an own __init__ that sets the fields fns keeps -/
def spI (K : PySem.W.Frag) (fns : List Str) : Sp := fun vs H Q _ => ∃ (a C : Addr) (ys : List V), vs = .ref a :: ys ∧ ys.length = fns.length ∧ H a = some (exo a C none) ∧ OexC K C ∧ (∀ f ∈ fns, PySem.W.findIn K (.ref C) f = some none) ∧
  ∀ (dx : Addr) (H' : Hp), H dx = none → dx ≠ a → H' a = some (exo a C (some dx)) → H' dx = some (exd dx (fns.zip ys).reverse) → (∀ b, b ≠ a → b ≠ dx → H' b = H b) → Q .non H'
section
variable {P : Program} {w : World} {K : PySem.W.Frag} {mg : Str → Option Value} {base : Heap}
theorem fn_init1 {f qual msg : Str} {st : Stmt} {fI : Addr} {fd : FuncData} {k : Nat} (F : Fun K "__init__" qual st fI fd) (S : FnScope ["self", f] ["self", f] (defScope st))
    (hok : ∀ cdv A outer s H E, PSs (cxOf (L2.CX P w) P w K mg base ["self", f] qual (defScope st) fI cdv A outer s H E) (defBody st) (tSeq (tDrop (tVeI K (tCons (tVar 0) (tCons (tC (.str msg)) tNil)))) (tOst K f (tVar 0) (tVar 1)))) :
    FnOk P w K mg base (L2.CX P w) (k + 1) fI fd ["self", f] (spI K [f]) := by
  refine F.okX S (fun vs H Q E h => ?_) (fun cdv A outer s H vs Q E hr h => ⟨_, hok cdv A outer s H E, ?_⟩)
  · obtain ⟨a, C, ys, rfl, hl, _⟩ := h
    rw [List.length_cons, hl]; rfl
  · obtain ⟨a, C, ys, rfl, hl, ea, T, hno, q⟩ := h
    match ys, hl with
    | [y], _ =>
      refine ⟨.ref a, rfl, a, C, [.str msg], rfl, by rw [List.length_singleton]; omega, T, ea, ?_⟩
      refine ⟨y, rfl, .ref a, rfl, a, C, rfl, T, hno f (List.mem_singleton.mpr rfl), .inl ⟨ea, fun dx n ne => q dx _ n ne upd_same ?_ fun b h1 h2 => ?_⟩⟩
      · rw [upd_ne ne, upd_same]; rfl
      · rw [upd_ne h1, upd_ne h2]
end
end GS
namespace GS
open PySem L2
abbrev spFv (K : KW) (n : Nat) (F : FF) : Sp := spF K (cvK K) n F
/-- the __init__ as a row of the table: it says only that there is room for it -/
def iniF (k : Nat) : FF := fun _ => if k < 2 then .stuck else .ok (.sh .none) []
/-- .. and what stands behind the row -/
def IniOk (P : Program) (w : World) (K : PySem.W.Frag) (mg : Str → Option Value) (base : Heap) (k : Nat) (fI : Addr) (fd : FuncData) (fns : List Str) (F : FF) : Prop := F [] = .stuck ∨ ∃ k', k = k' + 1 ∧ FnOk P w K mg base (L2.CX P w) k' fI fd ("self" :: fns) (spI K fns)
/-- what the written part says of a class C with its own __init__ at fI -/
def oeB (K : PySem.W.Frag) (C fI : Addr) (fns : List Str) : Bool := decide (PySem.W.findIn K (.ref C) "__setattr__" = some (some (.builtin "object.__setattr__"))) && (decide (PySem.W.subIn K (.ref C) (.type "BaseException") = some true) && (decide (PySem.W.typeIn K (.ref C) = some (.type "type")) &&
  (PySem.W.keepIn K (.ref C) && (decide (PySem.W.findIn K (.ref C) "__init__" = some (some (.ref fI))) && (decide (PySem.W.typeIn K (.ref fI) = some (.type "function")) && fns.all fun f => decide (PySem.W.findIn K (.ref C) f = some none))))))
theorem oeB_ok {K : PySem.W.Frag} {C fI : Addr} {fns : List Str} (h : oeB K C fI fns = true) : PySem.W.findIn K (.ref C) "__setattr__" = some (some (.builtin "object.__setattr__")) ∧ PySem.W.subIn K (.ref C) (.type "BaseException") = some true ∧ PySem.W.typeIn K (.ref C) = some (.type "type") ∧
    PySem.W.keepIn K (.ref C) = true ∧ PySem.W.findIn K (.ref C) "__init__" = some (some (.ref fI)) ∧ PySem.W.typeIn K (.ref fI) = some (.type "function") ∧ ∀ f ∈ fns, PySem.W.findIn K (.ref C) f = some none := by
  unfold oeB at h
  simp only [Bool.and_eq_true, decide_eq_true_eq] at h
  obtain ⟨h1, h2, h3, h4, h5, h6, h7⟩ := h
  exact ⟨h1, h2, h3, h4, h5, h6, fun f hf => of_decide_eq_true (List.all_eq_true.mp h7 f hf)⟩
def sRaise (F : FF) (c : Str) (fns : List Str) (fa : AF) : SF := fun ρ => match F [] with
  | .stuck => .stuck
  | _ => match fa ρ with
    | .stuck => .stuck
    | .exc x ρ1 => .exc x ρ1
    | .ok hs ρ1 => match shs hs with
      | some ds => if ds.length = fns.length ∧ ds.length ≤ 1000 then .exc ⟨c, (fns.zip ds).reverse⟩ ρ1 else .stuck
      | none => .stuck
theorem zip_fst {α β : Type} : ∀ (l : List α) (m : List β), l.length = m.length → (l.zip m).map (·.1) = l
  | [], [], _ => rfl
  | [], _ :: _, h => by cases h
  | _ :: _, [], h => by cases h
  | a :: l, b :: m, h => by
    rw [List.zip_cons_cons, List.map_cons, zip_fst l m (by simpa using h)]
theorem zip_snd {α β : Type} : ∀ (l : List α) (m : List β), l.length = m.length → (l.zip m).map (·.2) = m
  | [], [], _ => rfl
  | [], _ :: _, h => by cases h
  | _ :: _, [], h => by cases h
  | a :: l, b :: m, h => by
    rw [List.zip_cons_cons, List.map_cons, zip_snd l m (by simpa using h)]
section
variable {X : Cx} {C : Ct} {e : Expr} {es : List Expr} {ta : TA} {fa : AF} {p pos pos' : Pos} {x : Str} {fns : List Str}
def tRse (W : WX) (A : Addr) (K : PySem.W.Frag) (fns : List Str) (ta : TA) : TS := fun _ σ H => tMkO A (spI K fns) [] ta σ H fun cls d H' => W cls d σ H'
theorem lk_raise {F : FF} {A fI : Addr} (T : OexC C.K A) (hob : oeB C.K A fI fns = true) (hcx : C.cv x = .ref A) (hF : F [] ≠ .stuck) (l : LkA C ta fa) : LkS C (tRse C.W A C.K fns ta) (sRaise F x fns fa) := fun ρ σ B H D S g => by
  obtain ⟨_, _, _, _, _, _, hno⟩ := oeB_ok hob
  unfold sRaise at g
  have g : GoodS C ρ σ B H D (match fa ρ with
    | .stuck => .stuck
    | .exc x ρ1 => .exc x ρ1
    | .ok hs ρ1 => match shs hs with
      | some ds => if ds.length = fns.length ∧ ds.length ≤ 1000 then .exc ⟨x, (fns.zip ds).reverse⟩ ρ1 else .stuck
      | none => .stuck) := by
    cases eF : F [] with
    | stuck => exact absurd eF hF
    | ok h r => rw [eF] at g; exact g
    | exc y r => rw [eF] at g; exact g
  refine l ρ σ B H _ S ?_
  cases ea : fa ρ with
  | stuck => rw [ea] at g; exact g
  | exc y ρ1 => rw [ea] at g; exact fun cls d B' H' s z => g cls d σ B' H' s z
  | ok hs ρ1 =>
    rw [ea] at g
    dsimp only at g
    intro vs B1 H1 S1 x1 y1
    split at g
    · rename_i ds eds
      split at g
      · rename_i hl
        have r := shs_ok y1 eds
        have hvl : vs.length = fns.length := by rw [r.length]; exact hl.1
        refine ⟨by rw [r.length]; exact hl.2, fun a na => ⟨a, A, vs, by rw [List.append_nil], hvl, upd_same, T, hno, fun dx H' ndx ne e1 e2 e3 => ⟨rfl, dx, _, e1, e2, ?_, ?_⟩⟩⟩
        · rw [upd_ne ne] at ndx; exact ndx
        · rw [upd_ne ne] at ndx
          have eH : upd (del H' a) dx (.xd (fns.zip vs).reverse) = upd H1 dx (.xd (fns.zip vs).reverse) := by
            funext b
            by_cases hb : b = dx
            · rw [hb, upd_same, upd_same]
            · rw [upd_ne hb, upd_ne hb]
              by_cases hb2 : b = a
              · rw [hb2, del_same, na]
              · rw [del_ne hb2, e3 b hb2 hb, upd_ne hb2]
          rw [eH]
          obtain ⟨S2, x2⟩ := S1.newB ndx (.xd (fns.zip vs).reverse)
          refine g (.ref A) (some dx) σ _ _ S2 (x1.trans x2) ⟨hcx.symm, .inr ⟨dx, _, rfl, upd_same, ?_, ?_⟩⟩
          · show ((fns.zip vs).reverse).map (·.1) = ((fns.zip ds).reverse).map (·.1)
            rw [List.map_reverse, List.map_reverse, zip_fst _ _ hvl.symm, zip_fst _ _ hl.1.symm]
          · show RpL C.K _ (((fns.zip vs).reverse).map (·.2)) (((fns.zip ds).reverse).map (·.2))
            rw [List.map_reverse, List.map_reverse, zip_snd _ _ hvl.symm, zip_snd _ _ hl.1.symm]
            exact (r.mono x2.bb).reverse
      · exact g.elim
    · exact g.elim
theorem ss_sem {st : Stmt} {f : SF} (h : ∃ t, SS X C st t f) : SS X C st (tTry C f) f := by
  obtain ⟨t, ht⟩ := h
  refine ⟨⟨fun pins s σ H D I q => ?_⟩, fun ρ σ B H D S g => ⟨ρ, B, S, g⟩⟩
  obtain ⟨ρ, B, S, g⟩ := q
  exact ht.ps.run pins s σ H D I (ht.lk ρ σ B H D S g)
theorem ss_raise0 {F : FF} {A fI : Addr} {fd : FuncData} {k : Nat} (hi : IniOk X.prog X.w X.K X.mg X.base k fI fd fns F) (T : OexC C.K A) (hob : oeB C.K A fI fns = true) (hcx : C.cv x = .ref A) (hm : X.mg x = some (.ref A)) (hb : Binds X.K fd ("self" :: fns) []) (hr : Room k X.A) (tk : Takes X C.W) (hc : X.calm = true) (l : SA X C (e :: es) ta fa)
    (hk : X.K = C.K := by rfl) (hg : Gl X x := by rfl) (hdb : (x == ("__debug__" : Str)) = false := by decide) (he : starEach (e :: es) X.env = (false, eval e X.env) :: starEach es X.env := by rfl) (hpl : (backTo pos (starEach es X.env)).any (·.1) = false := by rfl) :
    ∃ t, SS X C (.Raise (some (.Call (.Name x p) (e :: es) [] pos)) none pos') t (sRaise F x fns fa) := by
  rcases hi with hi | ⟨k', rfl, FO⟩
  · refine ⟨fun _ _ _ => False, ⟨fun pins s σ H D I h => h.elim⟩, fun ρ σ B H D S g => ?_⟩
    unfold sRaise at g
    rw [hi] at g
    exact g
  · by_cases hF : F [] = .stuck
    · refine ⟨fun _ _ _ => False, ⟨fun pins s σ H D I h => h.elim⟩, fun ρ σ B H D S g => ?_⟩
      unfold sRaise at g
      rw [hF] at g
      exact g
    · obtain ⟨h1, h2, h3, h4, h5, h6, h7⟩ := oeB_ok hob
      refine ⟨_, ps_raise hc tk (pmk_oex (sp := spI C.K fns) (dvs := []) (ds := []) (by rw [hk]; exact T) (by rw [hk]; exact h5) (by rw [hk]; exact h6) (by rw [← hk]; exact FO) hr hb .nil (passes_call tk fun _ _ _ _ z => z.elim) hg hm l.pa hdb he hpl), lk_raise T hob hcx hF l.lk⟩
theorem ss_raise {F : FF} {A fI : Addr} {fd : FuncData} {k : Nat} (hi : IniOk X.prog X.w X.K X.mg X.base k fI fd fns F) (T : OexC C.K A) (hob : oeB C.K A fI fns = true) (hcx : C.cv x = .ref A) (hm : X.mg x = some (.ref A)) (hb : Binds X.K fd ("self" :: fns) []) (hr : Room k X.A) (tk : Takes X C.W) (hc : X.calm = true) (l : SA X C (e :: es) ta fa)
    (hk : X.K = C.K := by rfl) (hg : Gl X x := by rfl) (hdb : (x == ("__debug__" : Str)) = false := by decide) (he : starEach (e :: es) X.env = (false, eval e X.env) :: starEach es X.env := by rfl) (hpl : (backTo pos (starEach es X.env)).any (·.1) = false := by rfl) :
    SS X C (.Raise (some (.Call (.Name x p) (e :: es) [] pos)) none pos') (tTry C (sRaise F x fns fa)) (sRaise F x fns fa) := ss_sem (ss_raise0 hi T hob hcx hm hb hr tk hc l hk hg hdb he hpl)
end
end GS
namespace GS
open PySem L2 PySem.Spec PyProof.Rows
end GS
namespace GS
open PySem L2
section
variable {ρ ρ1 : Rho} {c : Prop} [Decidable c]
@[simp] theorem bindBS_ok' (d : D) (b : Bool) (k : Bool → Rho → RS) (h : d = .bool b) : bindBS (.ok (.sh d) ρ) k = k b ρ := by subst h; rfl
@[simp] theorem bindI_ex (x : Xc) (k : List D → Rho → RS) : bindI (.exc x ρ) k = .exc x ρ := rfl
@[simp] theorem bindIE_ex (x : Xc) (k : List D → Rho → RE) : bindIE (.exc x ρ) k = .exc x ρ := rfl
@[simp] theorem consA_ex (h : Hd) (x : Xc) : consA h (.exc x ρ) = .exc x ρ := rfl
/-- a class of exceptions that is raised -/
def Raises (F : FF) : Prop := F [] ≠ .stuck
theorem raises_ini {k : Nat} (h : 2 ≤ k) : Raises (iniF k) := by
  unfold Raises iniF
  rw [if_neg (by omega)]
  exact RE.noConfusion
def raD (x : Str) (fns : List Str) (d : Option (List D)) (ρ : Rho) : RS := match d with
  | some ds => if ds.length = fns.length ∧ ds.length ≤ 1000 then .exc ⟨x, (fns.zip ds).reverse⟩ ρ else .stuck
  | none => .stuck
def raA (x : Str) (fns : List Str) (r : RA) : RS := match r with
  | .stuck => .stuck
  | .exc y ρ1 => .exc y ρ1
  | .ok hs ρ1 => raD x fns (shs hs) ρ1
@[simp] theorem raA_ok (x : Str) (fns : List Str) (hs : List Hd) : raA x fns (.ok hs ρ) = raD x fns (shs hs) ρ := rfl
@[simp] theorem raA_ex (x : Str) (fns : List Str) (y : Xc) : raA x fns (.exc y ρ) = .exc y ρ := rfl
@[simp] theorem raD_s (x : Str) (fns : List Str) (ds : List D) : raD x fns (some ds) ρ = if ds.length = fns.length ∧ ds.length ≤ 1000 then .exc ⟨x, (fns.zip ds).reverse⟩ ρ else .stuck := rfl
theorem sRaise_eq {F : FF} (h : Raises F) (x : Str) (fns : List Str) (fa : AF) : sRaise F x fns fa ρ = raA x fns (fa ρ) := by
  unfold sRaise
  cases e : F [] with
  | stuck => exact absurd e h
  | ok _ _ => dsimp only; unfold raA raD; rfl
  | exc _ _ => dsimp only; unfold raA raD; rfl
def tryH (ns cs : List Str) (i : Nat) (fh : SF) (r : RS) : RS := match r with
  | .exc x ρ1 => if ns.contains x.cls then (if cs.contains x.cls then (if i < ρ1.length && !ioAt ρ1 i then unE i (fh (ρ1.set i (some ⟨xD x, .sh⟩))) else .stuck) else .exc x ρ1) else .stuck
  | r => r
@[simp] theorem sTry_eq (ns cs : List Str) (i : Nat) (fb fh : SF) : sTry ns cs i fb fh ρ = tryH ns cs i fh (fb ρ) := by unfold sTry tryH; rfl
@[simp] theorem tryH_nx (ns cs : List Str) (i : Nat) (fh : SF) : tryH ns cs i fh (.nx ρ) = .nx ρ := rfl
@[simp] theorem tryH_rt (ns cs : List Str) (i : Nat) (fh : SF) (h : Hd) : tryH ns cs i fh (.rt h ρ) = .rt h ρ := rfl
@[simp] theorem tryH_ex (ns cs : List Str) (i : Nat) (fh : SF) (x : Xc) : tryH ns cs i fh (.exc x ρ) = if ns.contains x.cls then (if cs.contains x.cls then (if i < ρ.length && !ioAt ρ i then unE i (fh (ρ.set i (some ⟨xD x, .sh⟩))) else .stuck) else .exc x ρ) else .stuck := rfl
@[simp] theorem tryH_if (ns cs : List Str) (i : Nat) (fh : SF) (a b : RS) : tryH ns cs i fh (if c then a else b) = if c then tryH ns cs i fh a else tryH ns cs i fh b := by split <;> rfl
@[simp] theorem unE_nx (i : Nat) : unE i (.nx ρ) = if ioAt ρ i then .stuck else .nx (ρ.set i none) := rfl
@[simp] theorem unE_rt (i : Nat) (h : Hd) : unE i (.rt h ρ) = .rt h ρ := rfl
def xfR (ns : List Str) (f : Str) (d : Option D) (ρ : Rho) : RE := match d with
  | some d => match clsX d, fldX f d with
    | some c, some y => if ns.contains c then .ok (.sh y) ρ else .stuck
    | _, _ => .stuck
  | none => .stuck
@[simp] theorem eXf_eq (ns : List Str) (f : Str) (fe : EF) : eXf ns f fe ρ = bindE (eSet fe ρ) fun h ρ1 => xfR ns f (getH ρ1 h) ρ1 := by unfold eXf xfR; rfl
theorem xfR_x (ns : List Str) (f : Str) (x : Xc) (y : D) (h1 : ns.contains x.cls = true) (h2 : fldX f (xD x) = some y) : xfR ns f (some (xD x)) ρ = .ok (.sh y) ρ := by
  unfold xfR
  have e : clsX (xD x) = some x.cls := rfl
  simp only [e, h2, h1, if_true]
def isR (ns cs : List Str) (d : Option D) (ρ : Rho) : RE := match d with
  | some d => match isoX ns cs d with
    | some b => .ok (.sh (.bool b)) ρ
    | none => .stuck
  | none => .stuck
@[simp] theorem eIsC_eq (ns cs : List Str) (f : EF) : eIsC ns cs f ρ = bindE (eSet f ρ) fun h ρ1 => isR ns cs (getH ρ1 h) ρ1 := by unfold eIsC isR; rfl
theorem isR_x (ns cs : List Str) (x : Xc) (h1 : ns.contains x.cls = true) : isR ns cs (some (xD x)) ρ = .ok (.sh (.bool (cs.contains x.cls))) ρ := by
  unfold isR
  have e : isoX ns cs (xD x) = some (cs.contains x.cls) := by
    show (if ns.contains x.cls then some (cs.contains x.cls) else none) = _
    rw [if_pos h1]
  dsimp only
  rw [e]
end
end GS
namespace GM
open PySem L2 GS
end GM
namespace GM
open PySem L2 GS
end GM
namespace GM
open PySem L2 GS
/-- kids_of(tree); slots 0:tree -/
def m_kids_of : SF := (sEnd (sRet (eIf (eB (eBin (eqB false) (eBin ixA (eVb 0) (eC (.int 0))) (eC (.str (Str.ofString "knot"))))) (eBin ixA (eVb 0) (eC (.int 3))) (eTup aNil))))
theorem m_kids_of_eq (ρ : Rho) : fnF 1 1 (m_kids_of) ρ = finR 1 (m_kids_of (ρ ++ [])) := fnF_eq 1 1 _
/-- places(tree); slots 0:tree 1:found 2:k 3:kid 4:place -/
def m_places_b1 (F_kids_of F_places : FF) : SF := (sKill [4] (sApp 1 (eBin addD (eTup (aCons (eMv 2) aNil)) (eVb 4))))
def m_places_b2 (F_kids_of F_places : FF) : SF := (sKill [2, 3, 4] (sFor (iSq (eCall 1 none F_places (aCons (eMv 3) aNil))) (gN 4) (m_places_b1 F_kids_of F_places)))
def m_places (F_kids_of F_places : FF) : SF := (sSeq (sSet 1 (eLst (aCons (eTup aNil) aNil))) (sSeq (sFor (iEn (eCall 1 none F_kids_of (aCons (eMv 0) aNil))) (gT 2 (gsC (gN 2) (gsC (gN 3) gsN))) (m_places_b2 F_kids_of F_places)) (sEnd (sRet (eRv 1)))))
theorem m_places_eq (F_kids_of F_places : FF) (ρ : Rho) : fnF 5 1 (m_places F_kids_of F_places) ρ = finR 1 (m_places F_kids_of F_places (ρ ++ [none, none, none, none])) := fnF_eq 5 1 _
end GM
namespace GM
open PySem L2 GS
def Tr.kids : Tr → List Tr
  | .knot _ _ ks => ks
  | _ => []
def Tr.isKnot : Tr → Bool
  | .knot _ _ _ => true
  | _ => false
mutual
def Tr.pieces : Tr → List Tr
  | .knot n tk ks => .knot n tk ks :: Tr.piecesL ks
  | t => [t]
def Tr.piecesL : List Tr → List Tr
  | [] => []
  | t :: ts => t.pieces ++ Tr.piecesL ts
end
mutual
def Tr.places : Tr → List (List Nat)
  | .knot _ _ ks => [] :: Tr.placesL 0 ks
  | _ => [[]]
def Tr.placesL : Nat → List Tr → List (List Nat)
  | _, [] => []
  | k, t :: ts => t.places.map (k :: ·) ++ Tr.placesL (k + 1) ts
end
def Tr.at : Tr → List Nat → Option Tr
  | t, [] => some t
  | t, k :: p => (t.kids[k]?).bind fun u => u.at p
def encP (p : List Nat) : D := .tuple (p.map fun n : Nat => PyData.int (n : Int))
theorem piecesL_flat (ts : List Tr) : Tr.piecesL ts = ts.flatMap Tr.pieces := by
  induction ts with
  | nil => rfl
  | cons t ts ih => rw [Tr.piecesL, ih, List.flatMap_cons]
theorem pieces_kids (t : Tr) : t.pieces = t :: t.kids.flatMap Tr.pieces := by
  cases t <;> simp [Tr.pieces, Tr.kids, piecesL_flat]
theorem places_kids (t : Tr) : t.places = [] :: Tr.placesL 0 t.kids := by
  cases t <;> simp [Tr.places, Tr.kids, Tr.placesL]
theorem ht_kids {t k : Tr} (h : k ∈ t.kids) : k.ht + 1 ≤ t.ht := by
  cases t with
  | knot n tk ks => have := ht_mem (show k ∈ ks from h); rw [Tr.ht]; omega
  | _ => cases h
theorem placesL_snoc (t : Tr) : ∀ (k : Nat) (ts : List Tr), Tr.placesL k (ts ++ [t]) = Tr.placesL k ts ++ t.places.map ((k + ts.length) :: ·)
  | k, [] => by simp [Tr.placesL]
  | k, u :: ts => by
    rw [List.cons_append, Tr.placesL, Tr.placesL, placesL_snoc t (k + 1) ts, List.append_assoc, List.length_cons]
    rw [show k + 1 + ts.length = k + (ts.length + 1) by omega]
mutual
theorem places_len : ∀ t : Tr, t.places.length = t.pieces.length
  | .sign _ => rfl
  | .void => rfl
  | .hole _ => rfl
  | .foot _ => rfl
  | .knot _ _ ks => by rw [Tr.places, Tr.pieces, List.length_cons, List.length_cons, placesL_len ks 0]
theorem placesL_len : ∀ (ts : List Tr) (k : Nat), (Tr.placesL k ts).length = (Tr.piecesL ts).length
  | [], _ => rfl
  | t :: ts, k => by rw [Tr.placesL, Tr.piecesL, List.length_append, List.length_append, List.length_map, places_len t, placesL_len ts (k + 1)]
end
theorem pieces_kid_le {t k : Tr} (h : k ∈ t.kids) : k.pieces.length ≤ t.pieces.length := by
  rw [pieces_kids t, List.length_cons]
  have : ∀ ts : List Tr, k ∈ ts → k.pieces.length ≤ (ts.flatMap Tr.pieces).length := by
    intro ts
    induction ts with
    | nil => intro m; cases m
    | cons u ts ih =>
      intro m
      rw [List.flatMap_cons, List.length_append]
      cases m with
      | head => omega
      | tail _ m => have := ih m; omega
  have := this _ h
  omega
mutual
theorem place_len : ∀ (t : Tr) (p : List Nat), p ∈ t.places → p.length ≤ t.ht
  | .sign _, p, m => by simp [Tr.places] at m; subst m; simp
  | .void, p, m => by simp [Tr.places] at m; subst m; simp
  | .hole _, p, m => by simp [Tr.places] at m; subst m; simp
  | .foot _, p, m => by simp [Tr.places] at m; subst m; simp
  | .knot n tk ks, p, m => by
    rw [Tr.places] at m
    rw [Tr.ht]
    rcases List.mem_cons.mp m with rfl | m
    · simp
    · exact placeL_len ks 0 p m
theorem placeL_len : ∀ (ts : List Tr) (k : Nat) (p : List Nat), p ∈ Tr.placesL k ts → p.length ≤ Tr.htL ts + 1
  | [], _, p, m => by cases m
  | t :: ts, k, p, m => by
    rw [Tr.placesL] at m
    rw [Tr.htL]
    rcases List.mem_append.mp m with m | m
    · obtain ⟨q, hq, rfl⟩ := List.mem_map.mp m
      have := place_len t q hq
      rw [List.length_cons]; omega
    · have := placeL_len ts (k + 1) p m
      omega
end
mutual
theorem at_places : ∀ t : Tr, t.places.map t.at = t.pieces.map some
  | .sign _ => rfl
  | .void => rfl
  | .hole _ => rfl
  | .foot _ => rfl
  | .knot n tk ks => by
    rw [Tr.places, Tr.pieces, List.map_cons, List.map_cons]
    congr 1
    exact at_placesL ks [] n tk ks rfl
theorem at_placesL : ∀ (ts pre : List Tr) (n : Str) (tk : Option (Str × Bool)) (ks : List Tr), pre ++ ts = ks → (Tr.placesL pre.length ts).map (Tr.knot n tk ks).at = (Tr.piecesL ts).map some
  | [], _, _, _, _, _ => rfl
  | t :: ts, pre, n, tk, ks, e => by
    rw [Tr.placesL, Tr.piecesL, List.map_append, List.map_append]
    have h1 := at_placesL ts (pre ++ [t]) n tk ks (by rw [List.append_assoc]; exact e)
    rw [List.length_append, List.length_singleton] at h1
    rw [h1, List.map_map]
    congr 1
    rw [← at_places t]
    apply List.map_congr_left
    intro p _
    show (Tr.at (.knot n tk ks) (pre.length :: p)) = t.at p
    rw [Tr.at, Tr.kids, ← e, List.getElem?_append_right (Nat.le_refl _), Nat.sub_self]
    rfl
end
def KidsSp (F : FF) : Prop := ∀ t : Tr, F [some ⟨t.enc, .sh⟩] = .ok (.sh (.tuple (t.kids.map Tr.enc))) [none]
theorem kids_of_ok : KidsSp (fnF 1 1 m_kids_of) := fun t => by
  rw [m_kids_of_eq]
  cases t <;> simp [m_kids_of, Tr.enc, Tr.kids, encL_map]
def PlacesSp (n : Nat) (F : FF) : Prop := ∀ t : Tr, t.ht ≤ n → t.pieces.length ≤ 100000 → F [some ⟨t.enc, .sh⟩] = .ok (.fr (.list (t.places.map encP))) [none]
theorem places_ok {n : Nat} {Fk Fp : FF} (hk : KidsSp Fk) (hn : n ≤ 1000) (hp : ∀ m, m + 1 = n → PlacesSp m Fp) : PlacesSp n (fnF 5 1 (m_places Fk Fp)) := fun t ht hz => by
  rw [m_places_eq]
  have ek := hk t
  have hpl := places_kids t
  have lpl := places_len t
  -- one kid's places
  have inner : ∀ (kid : Tr) (i : Nat) (acc : List D), kid.ht ≤ 1000 → acc.length + kid.places.length ≤ sizeLine → forL (gN 4) (m_places_b1 Fk Fp) (kid.places.map encP) [some ⟨t.enc, .sh⟩, some ⟨.list acc, .ow⟩, some ⟨.int i, .sh⟩, some ⟨kid.enc, .sh⟩, none] = .nx [some ⟨t.enc, .sh⟩, some ⟨.list (acc ++ kid.places.map fun p => encP (i :: p)), .ow⟩, some ⟨.int i, .sh⟩, some ⟨kid.enc, .sh⟩, none] := fun kid i acc hh ha => by
    refine forL_app (fun acc => [some ⟨t.enc, .sh⟩, some ⟨.list acc, .ow⟩, some ⟨.int i, .sh⟩, some ⟨kid.enc, .sh⟩, none]) encP (fun p => encP (i :: p)) kid.places acc ha fun p acc m hacc => ?_
    have hpz : 1 + p.length ≤ sizeLine := fits (by have := place_len kid p m; omega)
    simp [m_places_b1, encP, hacc, hpz]
  obtain ⟨ps, hf, hps⟩ := forL_by (S := List (List Nat)) (g := gT 2 (gsC (gN 2) (gsC (gN 3) gsN))) (b := m_places_b2 Fk Fp) (fun ps => [some ⟨t.enc, .sh⟩, some ⟨.list (ps.map encP), .ow⟩, none, none, none])
    (fun pre ps => ps = [] :: Tr.placesL 0 (t.kids.take pre.length)) (enD (t.kids.map Tr.enc)) [[]] (by simp [Tr.placesL]) (fun pre d post ps hd hps => by
      obtain ⟨x, hx, rfl⟩ := enD_mid hd
      rw [List.getElem?_map] at hx
      obtain ⟨kid, hkid, rfl⟩ := Option.map_eq_some_iff.mp hx
      have mk : kid ∈ t.kids := List.mem_of_getElem? hkid
      have h1 := ht_kids mk
      have h2 := hp (n - 1) (by omega) kid (by omega) (by have := pieces_kid_le mk; omega)
      have htk : t.kids.take (pre.length + 1) = t.kids.take pre.length ++ [kid] := by
        rw [List.take_succ, hkid]; rfl
      refine ⟨ps ++ kid.places.map (pre.length :: ·), ?_, ?_⟩
      · have hl : (ps.map encP).length + kid.places.length ≤ sizeLine := by
          rw [List.length_map, hps]
          have e := placesL_snoc kid 0 (t.kids.take pre.length)
          rw [← htk] at e
          have e2 := congrArg List.length e
          rw [List.length_append, List.length_map] at e2
          have e3 : (Tr.placesL 0 (t.kids.take (pre.length + 1))).length ≤ (Tr.placesL 0 t.kids).length := by
            rw [placesL_len, placesL_len, piecesL_flat, piecesL_flat]
            conv => rhs; rw [← List.take_append_drop (pre.length + 1) t.kids, List.flatMap_append, List.length_append]
            omega
          rw [hpl, List.length_cons] at lpl
          rw [List.length_cons]
          exact fits (by omega)
        have hi := inner kid pre.length (ps.map encP) (by omega) hl
        simp [m_places_b2, h2, hi]
      · rw [hps, List.length_append, List.length_singleton, htk, placesL_snoc, List.length_take]
        have : pre.length < t.kids.length := (List.getElem?_eq_some_iff.mp hkid).1
        simp
        intro p _
        omega)
  rw [enD_len, List.length_map, List.take_length] at hps
  rw [← hpl] at hps
  subst hps
  have hf' : forL (gT 2 (gsC (gN 2) (gsC (gN 3) gsN))) (m_places_b2 Fk Fp) (enD (t.kids.map Tr.enc)) [some ⟨t.enc, .sh⟩, some ⟨.list [.tuple []], .ow⟩, none, none, none] = _ := hf
  simp [m_places, ek, hf']
def PieceSp (F : FF) : Prop := ∀ (t : Tr) (p : List Nat) (u : Tr), t.at p = some u → F [some ⟨t.enc, .sh⟩, some ⟨encP p, .sh⟩] = .ok (.sh u.enc) [none, none]
def Tr.footN : Tr → Option Str
  | .foot n => some n
  | _ => none
def Tr.feet (t : Tr) : List Str := t.pieces.filterMap Tr.footN
def Tr.word : Tr → Str
  | .knot n _ _ => n
  | .foot n => n
  | .hole n => n
  | .sign s => s
  | .void => default
/-- the name of a start or a graft -/
def Tr.name (t : Tr) : Str := match t.feet with
  | [n] => n
  | _ => t.word
def Tr.signN : Tr → Option Str
  | .sign n => some n
  | _ => none
def Tr.signs (t : Tr) : List Str := t.pieces.filterMap Tr.signN
theorem signs_knot (n : Str) (tk : Option (Str × Bool)) (ks : List Tr) : (Tr.knot n tk ks).signs = ks.flatMap Tr.signs := by
  unfold Tr.signs
  rw [Tr.pieces, piecesL_flat, List.filterMap_cons]
  show List.filterMap _ _ = _
  induction ks with
  | nil => rfl
  | cons k ks ih => rw [List.flatMap_cons, List.flatMap_cons, List.filterMap_append, ih]
end GM
namespace GM
open PySem L2 GS
end GM
namespace GM
open PySem L2 GS
structure Bk where
  top : Str
  trees : List (Str × Tr)
def encKT (p : Str × Tr) : D := .tuple [.str p.1, p.2.enc]
def Bk.enc (b : Bk) : D := .tuple [.str b.top, .tuple (b.trees.map encKT)]
def Bk.treeOf (b : Bk) (key : Str) : Option Tr := b.trees.foldl (fun acc p => if p.1 = key then some p.2 else acc) none
def Tr.want : Tr → Option (Bool × Str × Bool)
  | .hole n => some (false, n, true)
  | .knot _ (some (m, b)) _ => some (true, m, b)
  | _ => none
def Tr.isGraft (t : Tr) : Bool := decide (t.feet.length = 1)
def Bk.takers (b : Bk) (u : Tr) : List Str := match u.want with
  | none => []
  | some (g, n, _) => (b.trees.filter fun p => decide (p.2.isGraft = g) && decide (p.2.name = n)).map (·.1)
structure BkOk (n : Nat) (b : Bk) : Prop where
  len : b.trees.length ≤ 1000
  ht : ∀ p ∈ b.trees, p.2.ht ≤ n
  sz : ∀ p ∈ b.trees, p.2.pieces.length ≤ 100000
  nv : ∀ p ∈ b.trees, p.2 ≠ .void
mutual
theorem eqv_refl : ∀ d : D, cleanB d = true → PyData.eqv d d = true
  | .none, _ => rfl
  | .bool b, _ => by simp [PyData.eqv]
  | .int i, _ => by simp [PyData.eqv]
  | .str x, _ => by simp [PyData.eqv]
  | .list ds, h => by rw [PyData.eqv]; exact eqvAll_refl ds (by rw [cleanB] at h; exact h)
  | .tuple ds, h => by rw [PyData.eqv]; exact eqvAll_refl ds (by rw [cleanB] at h; exact h)
  | .dict _, h => by cases h
theorem eqvAll_refl : ∀ ds : List D, cleanL ds = true → PyData.eqvAll ds ds = true
  | [], _ => rfl
  | d :: ds, h => by
    rw [cleanL, Bool.and_eq_true] at h
    rw [PyData.eqvAll, eqv_refl d h.1, eqvAll_refl ds h.2]; rfl
end
theorem eqB_same {d : D} (neg : Bool) (h : cleanB d = true) (hd : d.depth ≤ 190) : eqB neg d d = some (.sh (.bool (!neg))) := by
  rw [eqB_of neg (okW_of h hd) (okW_of h hd), eqv_refl d h]
  cases neg <;> rfl
end GM
namespace GM
open PySem L2 GS
end GM
namespace GM
open PySem L2 GS
theorem l1 (w : String) (h : w.toList.length = 1) (n : Str) (hn : n.length ≤ 100000) : (Str.ofString w).length + n.length ≤ sizeLine := fits (by rw [ofS_len, h]; omega)
theorem knot_parts {n : Str} {tk : Option (Str × Bool)} {ks : List Tr} (h : (Tr.knot n tk ks).ok = true) : nameB n = true ∧ okTk tk = true ∧ 1 ≤ ks.length ∧ ks.length ≤ 8 ∧ ∀ k ∈ ks, k.ok = true := by
  rw [Tr.ok] at h
  simp only [Bool.and_eq_true, decide_eq_true_eq] at h
  exact ⟨h.1, h.2.1, h.2.2.1, h.2.2.2.1, okL_mem h.2.2.2.2⟩
theorem enc_knot (n : Str) (tk : Option (Str × Bool)) (ks : List Tr) : Tr.enc (.knot n tk ks) = .tuple [.str (Str.ofString "knot"), .str n, encTk tk, .tuple (ks.map Tr.enc)] := by rw [Tr.enc, encL_map]
theorem map_mid {α : Type} {f : α → D} {xs : List α} {pre post : List D} {d : D} (h : xs.map f = pre ++ d :: post) : ∃ x, xs[pre.length]? = some x ∧ d = f x := by
  have h2 : (xs.map f)[pre.length]? = some d := by rw [h, List.getElem?_append_right (Nat.le_refl _), Nat.sub_self]; rfl
  rw [List.getElem?_map] at h2
  obtain ⟨k, h3, h4⟩ := Option.map_eq_some_iff.mp h2
  exact ⟨k, h3, h4.symm⟩
end GM
namespace GM
open PySem L2 GS
end GM
namespace GM
open PySem L2 GS
mutual
theorem pieces_pow : ∀ t : Tr, t.ok = true → t.pieces.length ≤ 9 ^ t.ht
  | .sign _, _ => by simp [Tr.pieces, Tr.ht]
  | .void, _ => by simp [Tr.pieces, Tr.ht]
  | .hole _, _ => by simp [Tr.pieces, Tr.ht]
  | .foot _, _ => by simp [Tr.pieces, Tr.ht]
  | .knot n tk ks, h => by
    rw [Tr.ok] at h
    simp only [Bool.and_eq_true, decide_eq_true_eq] at h
    have h1 := piecesL_pow ks h.2.2.2.2
    have h2 : ks.length * 9 ^ Tr.htL ks ≤ 8 * 9 ^ Tr.htL ks := Nat.mul_le_mul_right _ h.2.2.2.1
    have h3 : 1 ≤ 9 ^ Tr.htL ks := Nat.one_le_pow _ _ (by decide)
    rw [Tr.pieces, List.length_cons, Tr.ht, Nat.pow_succ]
    omega
theorem piecesL_pow : ∀ ts : List Tr, Tr.okL ts = true → (Tr.piecesL ts).length ≤ ts.length * 9 ^ Tr.htL ts
  | [], _ => by simp [Tr.piecesL]
  | t :: ts, h => by
    rw [Tr.okL, Bool.and_eq_true] at h
    have h1 := pieces_pow t h.1
    have h2 := piecesL_pow ts h.2
    have h3 : 9 ^ t.ht ≤ 9 ^ max t.ht (Tr.htL ts) := Nat.pow_le_pow_right (by decide) (Nat.le_max_left _ _)
    have h4 : ts.length * 9 ^ Tr.htL ts ≤ ts.length * 9 ^ max t.ht (Tr.htL ts) := Nat.mul_le_mul_left _ (Nat.pow_le_pow_right (by decide) (Nat.le_max_right _ _))
    rw [Tr.piecesL, List.length_append, Tr.htL, List.length_cons, Nat.succ_mul]
    omega
end
end GM
namespace GS
open PySem L2 GM
theorem forL_cons2 {ρ : Rho} (g : D → Rho → Option Rho) (b : SF) (d : D) (ds : List D) : forL g b (d :: ds) ρ = turnR (forL g b ds) (optR (g d ρ) b) := by
  rw [forL_cons]
  cases g d ρ <;> rfl
end GS
namespace GM
open PySem L2 GS
end GM
namespace GM
open PySem L2 GS
theorem keyB_len {s : Str} (h : keyB s = true) : 1 ≤ s.length ∧ s.length ≤ 24 := by
  rw [len_eq]
  unfold keyB at h
  cases hc : s.cps.toList with
  | nil => rw [hc] at h; cases h
  | cons c cs =>
    rw [hc] at h
    simp only [nameL, Bool.and_eq_true, decide_eq_true_eq] at h
    exact ⟨by simp, h.1.1⟩
def figs : List Str := [Str.ofString "0", Str.ofString "1", Str.ofString "2", Str.ofString "3", Str.ofString "4", Str.ofString "5", Str.ofString "6", Str.ofString "7"]
end GM
namespace GM
open PySem L2 GS
end GM
namespace GM
open PySem L2 GS
abbrev Rd := Except Nat (Str × List D × Nat)
section
variable {n : Nat} {Fw Ft Fx Fp Fk : FF}
end
section
variable {n : Nat} {Fd Fp Fk : FF}
end
end GM
namespace GM
open PySem L2 GS
end GM
namespace GS
open PySem L2
@[simp] theorem atI_last2 {α : Type} (xs : List α) (x : α) : atI (xs ++ [x]) (-1) = some x := by
  unfold L2.atI ixN
  have h1 : ¬ (0 : Int) ≤ -1 := by omega
  have h2 : -((xs ++ [x]).length : Int) ≤ -1 := by rw [List.length_append, List.length_singleton]; omega
  rw [if_neg h1, if_pos h2]
  have h3 : ((-1 : Int) + ((xs ++ [x]).length : Int)).toNat = xs.length := by rw [List.length_append, List.length_singleton]; omega
  rw [h3]
  simp
theorem sub_sum {l m : List Nat} (h : l.Sublist m) : l.sum ≤ m.sum := by
  induction h with
  | slnil => simp
  | cons a _ ih => rw [List.sum_cons]; omega
  | cons_cons a _ ih => rw [List.sum_cons, List.sum_cons]; omega
end GS
namespace GM
open PySem L2 GS
structure Wd (b : Nat) (w : Str) : Prop where
  len : w.length ≤ b
  chr : ∀ c ∈ w.cps.toList, c < 128
  one : w.cps.toList.count 40 ≤ 1
structure Ws (b k m : Nat) (ws : List Str) : Prop where
  all : ∀ w ∈ ws, Wd b w
  cnt : (ws.map fun w => w.cps.toList.count 40).sum ≤ k
  num : ws.length ≤ m
theorem Wd.up {b b' : Nat} {w : Str} (h : Wd b w) (l : b ≤ b') : Wd b' w := ⟨by have := h.len; omega, h.chr, h.one⟩
theorem Ws.up {b b' k k' m m' : Nat} {ws : List Str} (h : Ws b k m ws) (l : b ≤ b') (l2 : k ≤ k') (l3 : m ≤ m') : Ws b' k' m' ws := ⟨fun w q => (h.all w q).up l, Nat.le_trans h.cnt l2, Nat.le_trans h.num l3⟩
theorem Ws.one {b : Nat} {w : Str} (h : Wd b w) : Ws b 1 1 [w] := ⟨fun v q => by simp at q; subst q; exact h, by simpa using h.one, by simp⟩
theorem Ws.zero {b : Nat} {w : Str} (h : Wd b w) (z : w.cps.toList.count 40 = 0) : Ws b 0 1 [w] := ⟨fun v q => by simp at q; subst q; exact h, by rw [List.map_singleton, z]; simp, by simp⟩
theorem Ws.sub {b k m : Nat} {ws vs : List Str} (h : Ws b k m ws) (s : vs.Sublist ws) : Ws b k m vs :=
  ⟨fun w q => h.all w (s.subset q), Nat.le_trans (sub_sum (s.map _)) h.cnt, Nat.le_trans s.length_le h.num⟩
theorem str8 (x : Int) : ∃ f, strD (.int (x % 8)) = some (.sh (.str f)) ∧ f ∈ figs := by
  have h : x % 8 = 0 ∨ x % 8 = 1 ∨ x % 8 = 2 ∨ x % 8 = 3 ∨ x % 8 = 4 ∨ x % 8 = 5 ∨ x % 8 = 6 ∨ x % 8 = 7 := by omega
  rcases h with h | h | h | h | h | h | h | h <;> rw [h]
  · exact ⟨_, rfl, by decide +kernel⟩
  · exact ⟨_, rfl, by decide +kernel⟩
  · exact ⟨_, rfl, by decide +kernel⟩
  · exact ⟨_, rfl, by decide +kernel⟩
  · exact ⟨_, rfl, by decide +kernel⟩
  · exact ⟨_, rfl, by decide +kernel⟩
  · exact ⟨_, rfl, by decide +kernel⟩
  · exact ⟨_, rfl, by decide +kernel⟩
noncomputable def s8 (x : Int) : Str := (str8 x).choose
end GM
namespace GM
open PySem L2 GS
end GM
namespace GM
open PySem L2 GS
end GM
namespace GM
open PySem L2 GS
/-- no knot has more than three kids -/
def Nar (t : Tr) : Prop := ∀ u ∈ t.pieces, u.kids.length ≤ 3
theorem Nar.kid {t k : Tr} (h : Nar t) (m : k ∈ t.kids) : Nar k := fun u mu => h u (by
  rw [pieces_kids t]
  exact List.mem_cons_of_mem _ (List.mem_flatMap.mpr ⟨k, m, mu⟩))
theorem Nar.knot {n : Str} {tk : Option (Str × Bool)} {ks : List Tr} (hl : ks.length ≤ 3) (h : ∀ k ∈ ks, Nar k) : Nar (.knot n tk ks) := fun u mu => by
  rw [pieces_kids] at mu
  rcases List.mem_cons.mp mu with rfl | mu
  · exact hl
  · obtain ⟨k, mk, mu⟩ := List.mem_flatMap.mp mu
    exact h k mk u mu
/-- what must be put has one of three names -/
def nm3 : List Str := [Str.ofString "S", Str.ofString "S1", Str.ofString "S2"]
def wtk : Option (Str × Bool) → Bool
  | some (n, true) => decide (n ∈ nm3)
  | _ => true
def sg3 : List Str := [Str.ofString "a", Str.ofString "b", Str.ofString "ab"]
def WnB : Tr → Bool
  | .hole n => decide (n ∈ nm3)
  | .knot n tk _ => decide (n ∈ nm3) && wtk tk
  | .foot n => decide (n ∈ nm3)
  | .sign s => decide (s ∈ sg3)
  | .void => true
def Wn (t : Tr) : Prop := ∀ u ∈ t.pieces, WnB u = true
theorem Wn.knot {n : Str} {tk : Option (Str × Bool)} {ks : List Tr} (h : (decide (n ∈ nm3) && wtk tk) = true) (hk : ∀ k ∈ ks, Wn k) : Wn (.knot n tk ks) := fun u mu => by
  rw [pieces_kids] at mu
  rcases List.mem_cons.mp mu with rfl | mu
  · exact h
  · obtain ⟨k, mk, mu⟩ := List.mem_flatMap.mp mu
    exact hk k mk u mu
theorem Wn.kid {t k : Tr} (h : Wn t) (m : k ∈ t.kids) : Wn k := fun u mu => h u (by
  rw [pieces_kids]
  exact List.mem_cons_of_mem _ (List.mem_flatMap.mpr ⟨k, m, mu⟩))
theorem Wn.self {t : Tr} (h : Wn t) : WnB t = true := h t (by rw [pieces_kids]; simp)
theorem Wn.one {t : Tr} (h : t.kids = []) (hw : WnB t = true) : Wn t := fun u mu => by
  rw [pieces_kids, h] at mu
  simp at mu
  subst mu
  exact hw
/-- a start or a graft that is drawn -/
structure TreeOk (h : Nat) (t : Tr) : Prop where
  ok : t.ok = true
  kn : t.isKnot = true
  feet : t.feet.length ≤ 1
  ht : t.ht ≤ h
  sz : t.pieces.length ≤ 50
  sg : 1 ≤ t.signs.length
  wn : Wn t
def baseK : List Str := [Str.ofString "s", Str.ofString "g", Str.ofString "x0", Str.ofString "h1", Str.ofString "keytree", Str.ofString "graftofaone"]
def moreK : List Str := [Str.ofString "p", Str.ofString "qq", Str.ofString "r2", Str.ofString "tall", Str.ofString "u"]
theorem allK_ok : ∀ k ∈ baseK ++ moreK, keyB k = true := by decide +kernel
/-- the six trees that stand in each book -/
structure Base (ts : List (Str × Tr)) : Prop where
  st : ∀ n ∈ [Str.ofString "S", Str.ofString "S1", Str.ofString "S2"], ∃ p ∈ ts, p.1 ∈ baseK ∧ ∃ s, p.2 = .knot n none [.sign s]
  gr : ∀ n ∈ [Str.ofString "S", Str.ofString "S1", Str.ofString "S2"], ∃ p ∈ ts, p.1 ∈ baseK ∧ ∃ s, p.2 = .knot n none [.sign s, .foot n] ∨ p.2 = .knot n none [.foot n, .sign s]
/-- nothing can be put in -/
def noW : Tr → Bool
  | .hole _ => false
  | .knot _ (some _) _ => false
  | _ => true
def NoW (t : Tr) : Prop := ∀ u ∈ t.pieces, noW u = true
structure BookOk (h : Nat) (b : Bk) : Prop where
  top : nameB b.top = true
  len : b.trees.length ≤ 11
  pos : 6 ≤ b.trees.length
  nd : (b.trees.map (·.1)).Nodup
  keys : ∀ p ∈ b.trees, p.1 ∈ baseK ++ moreK
  trees : ∀ p ∈ b.trees, TreeOk h p.2
  base : Base b.trees
  bs : ∀ p ∈ b.trees, p.1 ∈ baseK → NoW p.2
end GM
namespace GM
open PySem L2 GS
end GM
namespace GS
open PySem L2
@[simp] theorem atI_last {α : Type} (xs : List α) (x : α) : atI (xs ++ [x]) (-1) = some x := by
  unfold L2.atI ixN
  have h1 : ¬ (0 : Int) ≤ -1 := by omega
  have h2 : -((xs ++ [x]).length : Int) ≤ -1 := by rw [List.length_append, List.length_singleton]; omega
  rw [if_neg h1, if_pos h2]
  have h3 : ((-1 : Int) + ((xs ++ [x]).length : Int)).toNat = xs.length := by rw [List.length_append, List.length_singleton]; omega
  rw [h3]
  simp
end GS
namespace GM
open PySem L2 GS
/-- all trees that can be asked -/
theorem BookOk.bk {h : Nat} {b : Bk} (B : BookOk h b) : BkOk h b :=
  ⟨by have := B.len; omega, fun p m => (B.trees p m).ht, fun p m => by have := (B.trees p m).sz; omega, fun p m e => by have := (B.trees p m).kn; rw [e] at this; cases this⟩
theorem TreeOk.graft {h : Nat} {t : Tr} (o : TreeOk h t) : t.isGraft = decide (0 < t.feet.length) ∧ L2.atI (t.feet.map PyData.str ++ [.str t.word]) 0 = some (.str t.name) := by
  have := o.feet
  unfold Tr.isGraft Tr.name
  cases hq : t.feet with
  | nil => simp
  | cons a r =>
    rw [hq] at this
    cases r with
    | nil => simp
    | cons b r => simp at this
end GM
namespace GS
open PySem L2 PySem.Spec PyProof.Rows
section
variable {κ : Type} [DecidableEq κ]
end
local instance (priority := high) keyBEq : BEq Key := instBEqOfDecidableEq
local instance keyLaw : LawfulBEq Key := inferInstanceAs (@LawfulBEq Key instBEqOfDecidableEq)
section
variable {prog : Program} {w : World} {A : Around} {R : Result → Shared → Prop} {I : Addr} {fp wr : List Addr} {G : Array GenState → Array GenState → Prop} {n : Nat} {P : Nat → Value → Prop} {St : Nat → Shared → Prop}
end
section
variable {prog : Program} {w : World} {A : Around} {E : Value → Shared → Prop} {s : Shared}
end
end GS
namespace GS
open PySem L2 PySem.Spec PyProof.Rows
section
variable {X : Cx} {C : Ct} {a b : Expr} {ta tb : TE} {fa fb : EF} {p p2 q pos apos : Pos}
end
section
variable {X : Cx} {C : Ct} {x : Str} {c : Value} {body suite : List Stmt} {b₀ : Stmt} {np pos pos' : Pos} {ts : TS} {fb fh : SF} {ns cs : List Str}
end
end GS
namespace GS
open PySem L2
section
variable {X : Cx} {C : Ct} {o e f : Expr} {td tk tx : TE} {fd fk fx : EF} {apos pos : Pos}
end
end GS
namespace GS
open PySem L2
section
variable {ρ ρ1 : Rho} {c : Prop} [Decidable c]
end
end GS
namespace GM
open PySem L2 GS
end GM
namespace GM
open PySem L2 GS
end GM
namespace GM
open PySem L2 GS
section
variable {n : Nat} {Fw Ft Fx Fk Fn : FF}
end
end GM
namespace GM
open PySem L2 GS
section
variable {n : Nat} {Fd Fn Fl : FF}
end
end GM
namespace GM
open PySem L2 GS
/-- piece_at(tree, place); slots 0:tree 1:place 2:found 3:number 4:kids -/
def m_piece_at_2_b1 (F_NoPlace F_kids_of : FF) : SF := (sKill [3, 4] (sSeq (sSet 4 (eCall 1 none F_kids_of (aCons (eMv 2) aNil))) (sSeq (sIf (eNot (eB (eChain (ltI fun i j => decide (i ≤ j)) (ltI fun i j => decide (i < j)) (eC (.int 0)) (eVb 3) (eCB (un1 lenD) (aCons (eVb 4) aNil))))) (sRaise F_NoPlace "NoPlace" ["place"] (aCons (eMv 1) aNil)) sNil) (sSet 2 (eBin ixA (eVb 4) (eVb 3))))))
def m_piece_at_2 (F_NoPlace F_kids_of : FF) : SF := (sSeq (sSet 2 (eMv 0)) (sSeq (sFor (iSq (eMv 1)) (gN 3) (m_piece_at_2_b1 F_NoPlace F_kids_of)) (sEnd (sRet (eRv 2)))))
theorem m_piece_at_2_eq (F_NoPlace F_kids_of : FF) (ρ : Rho) : fnF 5 2 (m_piece_at_2 F_NoPlace F_kids_of) ρ = finR 2 (m_piece_at_2 F_NoPlace F_kids_of (ρ ++ [none, none, none])) := fnF_eq 5 2 _
/-- signs_of(tree); slots 0:tree 1:found 2:kid -/
def m_signs_of_b1 (F_kids_of F_signs_of : FF) : SF := (sKill [2] (sSet 1 (eBin addD (eVb 1) (eCall 1 none F_signs_of (aCons (eMv 2) aNil)))))
def m_signs_of (F_kids_of F_signs_of : FF) : SF := (sSeq (sIf (eB (eBin (eqB false) (eBin ixA (eVb 0) (eC (.int 0))) (eC (.str (Str.ofString "sign"))))) (sEnd (sRet (eTup (aCons (eBin ixA (eVb 0) (eC (.int 1))) aNil)))) sNil) (sSeq (sSet 1 (eTup aNil)) (sSeq (sFor (iSq (eCall 1 none F_kids_of (aCons (eMv 0) aNil))) (gN 2) (m_signs_of_b1 F_kids_of F_signs_of)) (sEnd (sRet (eRv 1))))))
theorem m_signs_of_eq (F_kids_of F_signs_of : FF) (ρ : Rho) : fnF 3 1 (m_signs_of F_kids_of F_signs_of) ρ = finR 1 (m_signs_of F_kids_of F_signs_of (ρ ++ [none, none])) := fnF_eq 3 1 _
end GM
namespace GM
open PySem L2 GS
def SignsSp (n : Nat) (F : FF) : Prop := ∀ t : Tr, t.ht ≤ n → t.pieces.length ≤ 100000 → F [some ⟨t.enc, .sh⟩] = .ok (.sh (.tuple (t.signs.map .str))) [none]
theorem signs_le (t : Tr) : t.signs.length ≤ t.pieces.length := by unfold Tr.signs; exact List.length_filterMap_le _ _
theorem signs_kids (t : Tr) (h : t.signN = none) : t.signs = t.kids.flatMap Tr.signs := by
  cases t with
  | knot n tk ks => exact signs_knot n tk ks
  | sign s => cases h
  | void => rfl
  | hole n => rfl
  | foot n => rfl
theorem signs_of_ok {n : Nat} {Fk Fs : FF} (hk : KidsSp Fk) (hs : ∀ m, m + 1 = n → SignsSp m Fs) : SignsSp n (fnF 3 1 (m_signs_of Fk Fs)) := fun t hh hz => by
  rw [m_signs_of_eq]
  have key : t.signN = none → forL (gN 2) (m_signs_of_b1 Fk Fs) (t.kids.map Tr.enc) [some ⟨t.enc, .sh⟩, some ⟨.tuple [], .sh⟩, none] = .nx [some ⟨t.enc, .sh⟩, some ⟨.tuple (t.signs.map .str), .sh⟩, none] := fun h => by
    obtain ⟨acc, hf, ha⟩ := forL_by (S := List Str) (g := gN 2) (b := m_signs_of_b1 Fk Fs) (fun acc => [some ⟨t.enc, .sh⟩, some ⟨.tuple (acc.map .str), .sh⟩, none])
      (fun pre acc => acc = (t.kids.take pre.length).flatMap Tr.signs) (t.kids.map Tr.enc) [] (by simp) (fun pre d post acc hd ha => by
        obtain ⟨k, hk1, rfl⟩ := map_mid hd
        have mk : k ∈ t.kids := List.mem_of_getElem? hk1
        have hkh := ht_kids mk
        obtain ⟨n', rfl⟩ : ∃ n', n = n' + 1 := ⟨n - 1, by omega⟩
        have e := hs n' rfl k (by omega) (Nat.le_trans (pieces_kid_le mk) hz)
        have htk : t.kids.take (pre.length + 1) = t.kids.take pre.length ++ [k] := by rw [List.take_succ, hk1]; rfl
        have hac : ((t.kids.take (pre.length + 1)).flatMap Tr.signs).length ≤ t.signs.length := by
          rw [signs_kids t h]
          have : t.kids.flatMap Tr.signs = (t.kids.take (pre.length + 1)).flatMap Tr.signs ++ (t.kids.drop (pre.length + 1)).flatMap Tr.signs := by rw [← List.flatMap_append, List.take_append_drop]
          rw [this, List.length_append]; omega
        have hsl := signs_le t
        rw [htk, List.flatMap_append, List.length_append] at hac
        simp only [List.flatMap_cons, List.flatMap_nil, List.append_nil] at hac
        have z : acc.length + k.signs.length ≤ sizeLine := fits (by rw [ha]; omega)
        refine ⟨acc ++ k.signs, ?_, by rw [List.length_append, List.length_singleton, htk, List.flatMap_append, ha]; simp⟩
        simp [m_signs_of_b1, e, z])
    rw [List.length_map, List.take_length, ← signs_kids t h] at ha
    subst ha
    exact hf
  cases t with
  | sign s => simp [m_signs_of, Tr.enc, Tr.signs, Tr.pieces, Tr.signN]
  | knot nm tk ks =>
    have e := hk (.knot nm tk ks)
    have k1 := key rfl
    simp only [Tr.enc] at e k1 ⊢
    simp [m_signs_of, e, k1]
  | void =>
    have e := hk .void
    have k1 := key rfl
    simp only [Tr.enc] at e k1 ⊢
    simp [m_signs_of, e, k1]
  | hole nm =>
    have e := hk (.hole nm)
    have k1 := key rfl
    simp only [Tr.enc] at e k1 ⊢
    simp [m_signs_of, e, k1]
  | foot nm =>
    have e := hk (.foot nm)
    have k1 := key rfl
    simp only [Tr.enc] at e k1 ⊢
    simp [m_signs_of, e, k1]
def Tr.deep (t : Tr) : Bool := t.places.any fun p => decide (12 ≤ p.length)
def am (t : Tr) : Option Str := if t.isKnot = false then some (Str.ofString "knot") else if 1 < t.feet.length then some (Str.ofString "feet") else if t.signs = [] then some (Str.ofString "sign")
  else if 60 < t.places.length ∨ t.deep = true then some (Str.ofString "great") else none
end GM
namespace GM
open PySem L2 GS
end GM
namespace GM
open PySem L2 GS
section
variable {n : Nat} {Fm Fr Fn Fx : FF}
end
structure BookW (n : Nat) (b : Bk) : Prop where
  len : b.trees.length ≤ 1000
  top : b.top.length ≤ 1000
  all : ∀ p ∈ b.trees, p.2.ok = true ∧ p.2.ht ≤ n ∧ p.2.pieces.length ≤ 5000 ∧ p.1.length ≤ 1000
end GM
namespace GM
open PySem L2 GS
/-- a book that is well -/
structure BkW (h : Nat) (b : Bk) : Prop where
  top : nameB b.top = true
  pos : 1 ≤ b.trees.length
  len : b.trees.length ≤ 400
  nd : (b.trees.map (·.1)).Nodup
  keys : ∀ p ∈ b.trees, keyB p.1 = true
  trees : ∀ p ∈ b.trees, TreeOk h p.2
theorem BookOk.w {h : Nat} {b : Bk} (B : BookOk h b) : BkW h b := ⟨B.top, by have := B.pos; omega, by have := B.len; omega, B.nd, fun p m => allK_ok _ (B.keys p m), B.trees⟩
theorem am_none {h : Nat} {t : Tr} (T : TreeOk h t) (hh : h ≤ 11) : am t = none := by
  unfold am
  have h1 := T.feet
  have h2 : t.signs ≠ [] := fun e => by have := T.sg; rw [e] at this; simp at this
  have h3 : t.deep = false := by
    unfold Tr.deep
    rw [Bool.eq_false_iff]
    intro q
    obtain ⟨p, mp, hp⟩ := List.any_eq_true.mp q
    have := place_len t p mp
    have := T.ht
    rw [decide_eq_true_eq] at hp
    omega
  rw [if_neg (by rw [T.kn]; simp), if_neg (by omega), if_neg h2, if_neg (by rw [places_len, h3]; have := T.sz; simp; omega)]
theorem BkW.bw {h : Nat} {b : Bk} (B : BkW h b) : BookW h b := ⟨by have := B.len; omega, by have := nameB_len B.top; omega, fun p m => ⟨(B.trees p m).ok, (B.trees p m).ht, by have := (B.trees p m).sz; omega, by have := keyB_len (B.keys p m); omega⟩⟩
theorem BkW.known {h : Nat} {b : Bk} (B : BkW h b) (hh : h ≤ 11) : (nameB b.top && decide (1 ≤ b.trees.length) && decide (b.trees.length ≤ 400) && (b.trees.all fun p => keyB p.1 && (am p.2).isNone) && decide (b.trees.map (·.1)).Nodup) = true := by
  have h1 : (b.trees.all fun p => keyB p.1 && (am p.2).isNone) = true := List.all_eq_true.mpr fun p m => by rw [B.keys p m, am_none (B.trees p m) hh]; rfl
  simp [B.top, B.pos, B.len, B.nd, h1]
end GM
namespace GM
open PySem L2 GS
end GM
namespace GM
open PySem L2 GS
end GM
namespace GM
open PySem L2 GS
/-- _law_all(tree, place); slots 0:tree 1:place 2:found 3:k -/
def m_law_all_2_b1 (F__law_all : FF) : SF := (sKill [3] (sExt 2 (eCall 2 none F__law_all (aCons (eBin ixA (eBin ixA (eVb 0) (eC (.int 3))) (eVb 3)) (aCons (eBin addD (eVb 1) (eTup (aCons (eMv 3) aNil))) aNil)))))
def m_law_all_2 (F__law_all : FF) : SF := (sSeq (sSet 2 (eLst (aCons (eTup (aCons (eMv 1) (aCons (eMv 0) aNil))) aNil))) (sSeq (sKill [3] (sIf (eB (eBin (eqB false) (eBin ixA (eVb 0) (eC (.int 0))) (eC (.str (Str.ofString "knot"))))) (sFor (iR1 (eCB (un1 lenD) (aCons (eBin ixA (eVb 0) (eC (.int 3))) aNil))) (gN 3) (m_law_all_2_b1 F__law_all)) sNil)) (sEnd (sRet (eRv 2)))))
theorem m_law_all_2_eq (F__law_all : FF) (ρ : Rho) : fnF 4 2 (m_law_all_2 F__law_all) ρ = finR 2 (m_law_all_2 F__law_all (ρ ++ [none, none])) := fnF_eq 4 2 _
end GM
namespace GM
open PySem L2 GS
section
variable {n : Nat} {Fn Fr Fs : FF}
end
end GM
namespace GM
open PySem L2 GS
mutual
def Tr.pps (q : List Nat) : Tr → List (List Nat × Tr)
  | .knot n tk ks => (q, .knot n tk ks) :: Tr.ppsL q 0 ks
  | .sign s => [(q, .sign s)]
  | .void => [(q, .void)]
  | .hole s => [(q, .hole s)]
  | .foot s => [(q, .foot s)]
def Tr.ppsL (q : List Nat) (k : Nat) : List Tr → List (List Nat × Tr)
  | [] => []
  | t :: ts => Tr.pps (q ++ [k]) t ++ Tr.ppsL q (k + 1) ts
end
theorem ppsL_snoc (t : Tr) (q : List Nat) : ∀ (k : Nat) (ts : List Tr), Tr.ppsL q k (ts ++ [t]) = Tr.ppsL q k ts ++ t.pps (q ++ [k + ts.length])
  | k, [] => by simp [Tr.ppsL]
  | k, u :: ts => by
    rw [List.cons_append, Tr.ppsL, Tr.ppsL, ppsL_snoc t q (k + 1) ts, List.append_assoc, List.length_cons, show k + 1 + ts.length = k + (ts.length + 1) by omega]
mutual
theorem pps_snd : ∀ (t : Tr) (q : List Nat), (t.pps q).map (·.2) = t.pieces
  | .knot n tk ks, q => by rw [Tr.pps, Tr.pieces, List.map_cons, ppsL_snd ks q 0]
  | .sign s, q => by rw [Tr.pps, Tr.pieces]; rfl; intros; simp_all
  | .void, q => by rw [Tr.pps, Tr.pieces]; rfl; intros; simp_all
  | .hole s, q => by rw [Tr.pps, Tr.pieces]; rfl; intros; simp_all
  | .foot s, q => by rw [Tr.pps, Tr.pieces]; rfl; intros; simp_all
theorem ppsL_snd : ∀ (ts : List Tr) (q : List Nat) (k : Nat), (Tr.ppsL q k ts).map (·.2) = Tr.piecesL ts
  | [], q, k => rfl
  | t :: ts, q, k => by rw [Tr.ppsL, Tr.piecesL, List.map_append, pps_snd t, ppsL_snd ts]
end
mutual
theorem pps_fst : ∀ (t : Tr) (q : List Nat), (t.pps q).map (·.1) = t.places.map (q ++ ·)
  | .knot n tk ks, q => by rw [Tr.pps, places_kids, List.map_cons, List.map_cons, ppsL_fst ks q 0]; simp [Tr.kids]
  | .sign s, q => by rw [Tr.pps, places_kids]; simp [Tr.kids, Tr.placesL]
  | .void, q => by rw [Tr.pps, places_kids]; simp [Tr.kids, Tr.placesL]
  | .hole s, q => by rw [Tr.pps, places_kids]; simp [Tr.kids, Tr.placesL]
  | .foot s, q => by rw [Tr.pps, places_kids]; simp [Tr.kids, Tr.placesL]
theorem ppsL_fst : ∀ (ts : List Tr) (q : List Nat) (k : Nat), (Tr.ppsL q k ts).map (·.1) = (Tr.placesL k ts).map (q ++ ·)
  | [], q, k => rfl
  | t :: ts, q, k => by
    rw [Tr.ppsL, Tr.placesL, List.map_append, List.map_append, pps_fst t, ppsL_fst ts, List.map_map]
    congr 1
    refine List.map_congr_left fun p _ => ?_
    simp
end
theorem pps_len (t : Tr) (q : List Nat) : (t.pps q).length = t.pieces.length := by rw [← pps_snd t q, List.length_map]
def encPT (p : List Nat × Tr) : D := .tuple [encP p.1, p.2.enc]
def AllP (n : Nat) (F : FF) : Prop := ∀ (t : Tr) (q : List Nat), t.ht ≤ n → t.pieces.length ≤ 100000 → q.length + t.ht ≤ 1000 → F [some ⟨t.enc, .sh⟩, some ⟨encP q, .sh⟩] = .ok (.fr (.list ((t.pps q).map encPT))) [none, none]
theorem encP_snoc (q : List Nat) (k : Nat) (h : q.length ≤ 100000) : addD (encP q) (.tuple [.int (k : Int)]) = some (.sh (encP (q ++ [k]))) := by
  unfold encP
  have : q.length + 1 ≤ sizeLine := fits (by omega)
  simp [this]
theorem law_all_2_ok {n : Nat} {Fa : FF} (ha : ∀ m, m + 1 = n → AllP m Fa) : AllP n (fnF 4 2 (m_law_all_2 Fa)) := fun t q hh hz hq => by
  rw [m_law_all_2_eq]
  cases t with
  | knot nm tk ks =>
    have p4 : ks.length ≤ 100000 := by
      have h1 : ks.length ≤ (Tr.piecesL ks).length := by
        rw [piecesL_flat]
        clear hh hz hq ha
        induction ks with
        | nil => simp
        | cons k ks ih => rw [List.flatMap_cons, List.length_append, List.length_cons, pieces_kids k, List.length_cons]; omega
      rw [Tr.pieces, List.length_cons] at hz
      omega
    have okr : okR (ks.length : Int) = true := okR_nat (by omega)
    obtain ⟨acc, hf, hacc⟩ := forL_by (S := List (List Nat × Tr)) (g := gN 3) (b := m_law_all_2_b1 Fa) (fun acc => [some ⟨Tr.enc (.knot nm tk ks), .sh⟩, some ⟨encP q, .sh⟩, some ⟨.list (acc.map encPT), .ow⟩, none])
      (fun pre acc => acc = (q, Tr.knot nm tk ks) :: Tr.ppsL q 0 (ks.take pre.length)) (rgD 0 ks.length) [(q, .knot nm tk ks)] (by simp [Tr.ppsL]) (fun pre d post acc hd hacc => by
        obtain ⟨hk, rfl⟩ := rgD_mid hd
        rw [Int.zero_add]
        have hg : ks[pre.length]? = some ks[pre.length] := List.getElem?_eq_getElem hk
        generalize ks[pre.length] = k at hg
        have mk : k ∈ ks := List.mem_of_getElem? hg
        have hkh : k.ht ≤ Tr.htL ks := ht_mem mk
        simp only [Tr.ht] at hh hq
        obtain ⟨n', rfl⟩ : ∃ n', n = n' + 1 := ⟨n - 1, by omega⟩
        have kz : k.pieces.length ≤ 100000 := Nat.le_trans (pieces_kid_le (t := .knot nm tk ks) mk) hz
        have e := ha n' rfl k (q ++ [pre.length]) (by omega) kz (by simp; omega)
        have es := encP_snoc q pre.length (by omega)
        have htk : ks.take (pre.length + 1) = ks.take pre.length ++ [k] := by rw [List.take_succ, hg]; rfl
        have hsn := ppsL_snoc k q 0 (ks.take pre.length)
        rw [Nat.zero_add, List.length_take, Nat.min_eq_left (by omega)] at hsn
        have hle : (Tr.ppsL q 0 (ks.take (pre.length + 1))).length ≤ 100000 := by
          have h1 : (Tr.ppsL q 0 (ks.take (pre.length + 1))).length = (Tr.piecesL (ks.take (pre.length + 1))).length := by rw [← ppsL_snd _ q 0, List.length_map]
          rw [h1, piecesL_flat]
          rw [Tr.pieces, List.length_cons, piecesL_flat] at hz
          have : ks.flatMap Tr.pieces = (ks.take (pre.length + 1)).flatMap Tr.pieces ++ (ks.drop (pre.length + 1)).flatMap Tr.pieces := by rw [← List.flatMap_append, List.take_append_drop]
          rw [this, List.length_append] at hz
          omega
        rw [htk, hsn, List.length_append] at hle
        have z : acc.length + (k.pps (q ++ [pre.length])).length ≤ sizeLine := fits (by rw [hacc, List.length_cons]; omega)
        have ea : L2.atI (ks.map Tr.enc) (pre.length : Int) = some k.enc := by
          rw [atI_nat (xs := ks.map Tr.enc) (j := pre.length) (v := k.enc) (by rw [List.getElem?_map, hg]; rfl)]
        refine ⟨acc ++ k.pps (q ++ [pre.length]), ?_, by rw [List.length_append, List.length_singleton, htk, hsn, hacc]; simp⟩
        rw [enc_knot]
        simp [m_law_all_2_b1, ea, es, e, z])
    rw [rgD_len, List.take_length] at hacc
    subst hacc
    have hf' : forL (gN 3) (m_law_all_2_b1 Fa) (rgD 0 ks.length) [some ⟨Tr.enc (.knot nm tk ks), .sh⟩, some ⟨encP q, .sh⟩, some ⟨.list [.tuple [encP q, Tr.enc (.knot nm tk ks)]], .ow⟩, none] = _ := hf
    rw [enc_knot] at hf' ⊢
    rw [Tr.pps]
    simp [m_law_all_2, okr, hf']
  | sign s => simp [m_law_all_2, Tr.enc, Tr.pps, encPT]
  | void => simp [m_law_all_2, Tr.enc, Tr.pps, encPT]
  | hole s => simp [m_law_all_2, Tr.enc, Tr.pps, encPT]
  | foot s => simp [m_law_all_2, Tr.enc, Tr.pps, encPT]
end GM
namespace GS
open PySem L2 PySem.Spec PyProof.Rows
section
variable {X : Cx} {C : Ct} {e : Expr} {es : List Expr} {ta : TA} {fa : AF} {te : TE} {fe : EF} {p pos : Pos} {x : Str} {fns : List Str}
end
end GS
namespace GS
open PySem L2
section
variable {ρ : Rho}
end
end GS
namespace GS
open PySem L2
section
variable {ρ : Rho}
theorem slot_one (c : Option Cel) (x : Cel) (outs : Rho) : slot (c :: some x :: outs) 1 = some x := rfl
@[simp] theorem backR_io1 (i : Nat) (h0 : Hd) (hs : List Hd) (d : D) (d' : D) (fl : Fl) (c0 : Option Cel) (outs : Rho) : backR ρ (some 1) (h0 :: .bw i :: hs) (.ok (.sh d) (c0 :: some ⟨d', fl⟩ :: outs)) = match slot ρ i with
    | some c => .ok (.sh d) (ρ.set i (some ⟨d', c.fl⟩))
    | none => .stuck := by
  unfold backR
  dsimp only
  rw [putB_bw i 1 _ _ rfl, slot_one]
  cases slot ρ i <;> rfl
@[simp] theorem backR_io1x (i : Nat) (h0 : Hd) (hs : List Hd) (x : Xc) (d' : D) (fl : Fl) (c0 : Option Cel) (outs : Rho) : backR ρ (some 1) (h0 :: .bw i :: hs) (.exc x (c0 :: some ⟨d', fl⟩ :: outs)) = match slot ρ i with
    | some c => .exc x (ρ.set i (some ⟨d', c.fl⟩))
    | none => .stuck := by
  unfold backR
  dsimp only
  rw [putB_bw i 1 _ _ rfl, slot_one]
  cases slot ρ i <;> rfl
@[simp] theorem backR_io0x (i : Nat) (hs : List Hd) (x : Xc) (d' : D) (fl : Fl) (outs : Rho) : backR ρ (some 0) (.bw i :: hs) (.exc x (some ⟨d', fl⟩ :: outs)) = match slot ρ i with
    | some c => .exc x (ρ.set i (some ⟨d', c.fl⟩))
    | none => .stuck := by
  unfold backR
  dsimp only
  rw [putB_bw i 0 _ _ rfl, slot_zero]
  cases slot ρ i <;> rfl
end
end GS
namespace GS
open PySem L2 PySem.Spec PyProof.Rows
end GS
namespace GS
open PySem L2 PySem.Spec PyProof.Rows PySem.W PySem.Calls
/-- v is a tuple of these numbers -/
def IsTI (h : Heap) (v : Value) (ns : List Int) : Prop := ∃ (a : Addr) (its : List Value), v = .ref a ∧ h.IsTuple a its.toArray ∧ IntsAre its ns
theorem IsTI.keeps {h h' : Heap} {v : Value} {ns : List Int} (x : IsTI h v ns) (k : ∀ b o, v = .ref b → h.get? b = some o → h'.get? b = some o) : IsTI h' v ns := by
  obtain ⟨a, its, e, ⟨o, ho, hc, n, hd⟩, hi⟩ := x
  exact ⟨a, its, e, ⟨o, k a o e ho, hc, n, hd⟩, hi⟩
section
variable {M : Model} {A : Around} {E : Value → Shared → Prop} {s : Shared}
theorem IsTI.type {v : Value} {ns : List Int} (x : IsTI s.heap v ns) : Looks M s.heap (typeOf v) (.type "tuple") := by
  obtain ⟨a, its, rfl, ⟨o, ho, hc, n, hd⟩, hi⟩ := x
  rw [← hc]
  exact (Looks.ld ho).andThen .now
theorem ti_firsts : ∀ (vs : List Value) (k : Value → List Int), (∀ v ∈ vs, IsTI s.heap v (k v)) → ∃ fs : List (Option Value), (∀ v r, vs = v :: r → k v = [] → ∃ fr, fs = none :: fr) ∧ ∀ {Q : List (Option Value) → Shared → Prop}, Q fs s → wpAny M A (vs.mapM firstOfTuple') Q E s
  | [], k, _ => ⟨[], fun _ _ e => (by cases e), fun {Q} h => by rw [List.mapM_nil]; exact wpAny_pure h⟩
  | v :: vs, k, H => by
    obtain ⟨fs, _, run⟩ := ti_firsts vs k fun u hu => H u (List.mem_cons_of_mem _ hu)
    have hv := H v List.mem_cons_self
    obtain ⟨a, its, rfl, ⟨o, ho, hc, n, hd⟩, hi⟩ := hv
    refine ⟨its.toArray[0]? :: fs, fun v r e h0 => ?_, fun {Q} h => ?_⟩
    · cases e
      rw [h0] at hi
      cases hi
      exact ⟨fs, rfl⟩
    · rw [List.mapM_cons]
      refine wpAny_bind ?_
      rw [kas_first_eq]
      refine wpAny_bind (Looks.here (show Looks M s.heap (typeOf (.ref a)) o.cls from (Looks.ld ho).andThen .now) ?_)
      rw [hc, if_neg (by first | decide | simp)]
      refine wpAny_bind (listItems_at ho hd (wpAny_pure ?_))
      exact wpAny_bind (run (Q := fun bs s' => wpAny M A (pure (its.toArray[0]? :: bs)) Q E s') (wpAny_pure h))
theorem ti_kind {vs : List Value} {k : Value → List Int} {Q : SortKind → Shared → Prop} (H : ∀ v ∈ vs, IsTI s.heap v (k v)) (v0 : Value) (r : List Value) (e : vs = v0 :: r) (h0 : k v0 = []) (h : Q oneType' s) : wpAny M A (keyKind' vs.toArray) Q E s := by
  obtain ⟨fs, hf, run⟩ := ti_firsts (M := M) (A := A) (E := E) (s := s) vs k H
  obtain ⟨fr, rfl⟩ := hf v0 r e h0
  rw [keyKind'_eq, List.mapM_toArray, map_eq_pure_bind]
  refine wpAny_bind (wpAny_bind (run (wpAny_pure ?_)))
  rw [if_neg (by simp), if_neg (by simp)]
  subst e
  rw [oneTypeOnly'_eq, List.mapM_toArray, map_eq_pure_bind]
  refine wpAny_bind (wpAny_bind (wpAny_bind (kas_mapM (r := Value.type "tuple") _ (fun v hv Q' hq => (H v hv).type.here hq) (wpAny_pure ?_))))
  have hall : ((List.map (fun _ => Value.type "tuple") (v0 :: r)).toArray.all fun x => x == Value.type "tuple") = true := by
    simp only [List.all_toArray, List.all_map, List.all_eq_true]
    intro _ _
    rfl
  have h1 : (List.map (fun _ => Value.type "tuple") (v0 :: r)).toArray[0]? = some (Value.type "tuple") := by simp
  rw [h1]
  simp only [hall, if_true]
  exact wpAny_pure (wpAny_pure h)
end
section
variable {prog : Program} {w : World} {A : Around} {E : Value → Shared → Prop} {s : Shared}
theorem ti_lt {v u : Value} {ns ms : List Int} {Q : Bool → Shared → Prop} (hu : A.units < cLine) (hv : IsTI s.heap v ns) (hw : IsTI s.heap u ms) (h : Q (HT.lexLt ns ms) s) : wpAny (model prog w) A (keyLt' oneType' v u) Q E s := by
  have iu : ∀ M : Model, Looks M s.heap (isInstance u (.type "tuple")) true := fun M => by
    have := hw.type (M := M)
    exact this.andThen (by first | exact .now | exact Looks.of_pure (by rfl))
  obtain ⟨a, its, rfl, ⟨⟨cls, dd, data, sl⟩, ga, hc, n, hd⟩, ia⟩ := hv
  obtain ⟨b, its2, rfl, ⟨⟨cls2, dd2, data2, sl2⟩, gb, hc2, n2, hd2⟩, ib⟩ := hw
  simp only at hc hd hc2 hd2
  subst hc hd hc2 hd2
  rw [keyLt'_oneType, oneLt'_eq]
  simp only [if_true]
  refine wpAny_bind (wpAny_cRoomFor hu ?_)
  refine wpAny_bind (wpAny_callSpecialIfBound?_slot (T := "tuple") ⟨_, ga, rfl⟩ PySem.F.slot_tuple_lt (call_meets PySem.F.slot_tuple_lt ⟨_, ga, rfl⟩ PySem.F.entry_tuple_lt (PySem.F.args_tuple_lt_2 _ _) (NtL.nt_lt_ints a b (.type "tuple") (.type "tuple") its.toArray its2.toArray n n2 dd dd2 sl sl2 ns ms (by simpa using ia) (by simpa using ib)) ⟨ga, gb, iu, ?_⟩))
  exact wpAny_truthy_bool h
end
section
variable {prog : Program} {w : World} {A : Around} {E : Value → Shared → Prop} {s : Shared}
theorem ti_sortable {a : Addr} {vs : List Value} {k : Value → List Int} (hu : A.units < cLine) (hv : ∀ v ∈ vs, IsTI s.heap v (k v)) (v0 : Value) (r : List Value) (e : vs = v0 :: r) (h0 : k v0 = []) (ha : ∀ v ∈ vs, v ≠ .ref a) :
    SrtO.SortableO prog w A s a vs fun v u => HT.lexLt (k v) (k u) := by
  intro h' keep
  have hv' : ∀ v ∈ vs, IsTI h' v (k v) := fun v hm => (hv v hm).keeps fun b o e g => keep b o (fun z => ha v hm (by rw [e, z])) g
  refine ⟨oneType', fun Q E hq => ti_kind (s := { s with heap := h' }) hv' v0 r e h0 hq, fun p q hp hq => ?_⟩
  exact ti_lt (s := { s with heap := h' }) (Q := fun r s' => s' = { s with heap := h' } ∧ r = HT.lexLt (k p.1) (k q.1)) (E := fun _ _ => False) hu (hv' p.1 hp) (hv' q.1 hq) ⟨rfl, rfl⟩
end
abbrev ltTI (k : V → List Int) (x y : V) : Bool := HT.lexLt (k x) (k y)
/-- sorted(xs), xs a sorted list of tuples of numbers, () the first: a new list of the same -/
def rSortTI (K : PySem.W.Frag) : List V → Hp → VK → Prop := fun vs H Q => ∃ (a : Addr) (xs : List V) (k : V → List Int), vs = [V.ref a] ∧ SqL K H a xs ∧ (∀ x ∈ xs, ∃ t, x = V.ref t ∧ SqT K H t ((k x).map V.int)) ∧ (∃ x0 r, xs = x0 :: r ∧ k x0 = []) ∧ SrtO.Srtd (ltTI k) xs ∧
  ∀ p, H p = none → Q (.ref p) (upd H p (.lst xs))
theorem ints_are : ∀ {ns : List Int} {us : List Value}, Vals (ns.map V.int) us → IntsAre us ns
  | [], _, h => by cases h; exact .nil
  | n :: ns, _, h => by
    cases h with
    | cons h t =>
      obtain ⟨t', rfl⟩ := h
      exact .cons _ _ (ints_are t)
section
variable {X : Cx}
theorem cr_sortTI (hu : X.A.units + 64 < cLine) : CallR X (.builtin "sorted") (rSortTI X.K) := by
  intro pins s σ H vs us Q I r h
  obtain ⟨a, xs, k, rfl, hs, hx, ⟨x0, r0, ex0, hk0⟩, hsd, q⟩ := h
  obtain ⟨its, rv, hl, hz⟩ := I.list hs
  obtain ⟨u, rfl, ru⟩ := vals1 r
  obtain rfl : u = Value.ref a := ru
  obtain ⟨e1, e2⟩ := refs_back rv fun x m => by
    obtain ⟨t, e, _⟩ := hx x m
    exact ⟨t, e⟩
  have hv : ∀ v ∈ its, IsTI s.heap v (k (backV v)) := fun v hv => by
    obtain ⟨t, rfl⟩ := e2 v hv
    have hm : V.ref t ∈ xs := by rw [e1]; exact List.mem_map.mpr ⟨_, hv, rfl⟩
    obtain ⟨t', e, ht⟩ := hx _ hm
    cases e
    obtain ⟨its2, r2, ⟨o, ho, hc, n, hd⟩, _⟩ := I.tuple ht
    exact ⟨t, its2, rfl, ⟨o, ho, hc, n, hd⟩, ints_are r2⟩
  refine SrtO.sorted_ord (NtL.swo_lexL fun u => k (backV u)) hl.isList (by rw [← rv.length]; exact hz) (fun h2 h₁ a1 ha kk => ?_) fun out h1 h2 => ?_
  · obtain ⟨v0, vr, ev, hv0⟩ : ∃ v0 vr, its = v0 :: vr ∧ k (backV v0) = [] := by
      cases its with
      | nil => simp at h2
      | cons v0 vr =>
        refine ⟨v0, vr, rfl, ?_⟩
        rw [e1, List.map_cons] at ex0
        rw [(List.cons.inj ex0).1]
        exact hk0
    refine ti_sortable (s := { s with heap := h₁ }) (by show X.A.units + 1 + 1 < cLine; omega) (fun v hm => (hv v hm).keeps fun b o _ e => (kk b o e).2) v0 vr ev hv0 fun v hm z => ?_
    obtain ⟨t, its2, et, ⟨o, ho, _⟩, _⟩ := hv v hm
    rw [et] at z
    cases z
    exact (kk _ o ho).1 rfl
  · have h3 : ∀ u ∈ out, ∃ a, u = Value.ref a := fun u hu => e2 u (h2.perm.mem_iff.mp hu)
    have hb : SrtO.Stb (ltTI k) (out.map backV) xs := by
      rw [e1]
      exact SrtO.Stb.map (NtL.swo_lexL k) backV h2
    have eo : out.map backV = xs := SrtO.stb_uniq (NtL.swo_lexL k) (SrtO.srtd_map h1) hsd hb
    obtain ⟨n, hn⟩ := sortedAll_at s.heap its out.toArray
    refine ⟨.ref (s.heap.objs.size + 1), upd H (s.heap.objs.size + 1) (.lst xs), I.laid (t' := s.toks) (fun b o e => sortedAll_old e) (Nat.le_succ _) ⟨hz, out, n, by rw [← eo]; exact vals_back h3, hn⟩, rfl, q _ (I.hok.fresh (Nat.le_succ _))⟩
end
end GS
namespace GS
open PySem L2 PySem.Spec PyProof.Rows
def srtB : List (List Int) → Bool
  | [] => true
  | n :: ns => (ns.all fun m => !HT.lexLt m n) && srtB ns
def TI (K : PySem.W.Frag) (H : Hp) (x : V) (ns : List Int) : Prop := ∃ t, x = V.ref t ∧ SqT K H t (ns.map V.int)
def rSortT2 (K : PySem.W.Frag) : List V → Hp → VK → Prop := fun vs H Q => ∃ (a : Addr) (xs : List V) (nss : List (List Int)), vs = [V.ref a] ∧ SqL K H a xs ∧ Paired (TI K H) xs ([] :: nss) ∧ srtB ([] :: nss) = true ∧ ∀ p, H p = none → Q (.ref p) (upd H p (.lst xs))
theorem srtB_pw : ∀ {nss : List (List Int)}, srtB nss = true → nss.Pairwise fun n m => HT.lexLt m n = false
  | [], _ => .nil
  | n :: nss, h => by
    rw [srtB, Bool.and_eq_true] at h
    refine .cons (fun m hm => ?_) (srtB_pw h.2)
    have := List.all_eq_true.mp h.1 m hm
    simpa using this
def kOf (h : Heap) : V → List Int
  | .ref t => TS.intsOf h (.ref t)
  | _ => []
section
variable {X : Cx}
theorem cr_sortT2 (hu : X.A.units + 64 < cLine) : CallR X (.builtin "sorted") (rSortT2 X.K) := by
  intro pins s σ H vs us Q I r h
  obtain ⟨a, xs, nss, e, hs, hp, hb, q⟩ := h
  have hk : ∀ {x : V} {ns : List Int}, TI X.K H x ns → kOf s.heap x = ns := fun {x ns} ht => by
    obtain ⟨t, rfl, ht⟩ := ht
    obtain ⟨its, rv, ht2, _⟩ := I.tuple ht
    exact TS.TupInts.ints ⟨t, its.toArray, rfl, ht2, by simpa using rv.ints⟩
  have hall : ∀ {xs : List V} {nss : List (List Int)}, Paired (TI X.K H) xs nss → xs.map (kOf s.heap) = nss ∧ ∀ x ∈ xs, TI X.K H x (kOf s.heap x) := fun {xs nss} hp => by
    induction hp with
    | nil => exact ⟨rfl, by simp⟩
    | cons h _ ih =>
      have := hk h
      refine ⟨by rw [List.map_cons, ih.1, this], fun y hy => ?_⟩
      rcases List.mem_cons.mp hy with rfl | hy
      · rw [this]; exact h
      · exact ih.2 y hy
  obtain ⟨h1, h2⟩ := hall hp
  refine cr_sortTI hu pins s σ H vs us Q I r ⟨a, xs, kOf s.heap, e, hs, h2, ?_, ?_, q⟩
  · cases xs with
    | nil => cases h1
    | cons x0 r0 => exact ⟨x0, r0, rfl, (List.cons.inj h1).1⟩
  · have := srtB_pw hb
    rw [← h1, List.pairwise_map] at this
    exact this
end
def tupsI : List D → Option (List (List Int))
  | [] => some []
  | .tuple ds :: r => match intsL ds, tupsI r with
    | some ns, some nss => some (ns :: nss)
    | _, _ => none
  | _ :: _ => none
def sortT : D → Option Hd
  | .list ds => match tupsI ds with
    | some ([] :: nss) => if srtB ([] :: nss) then some (.fr (.list ds)) else none
    | _ => none
  | _ => none
section
variable {K : KW} {B H : Hp}
theorem tupsI_ok (bh : Same B H) : ∀ {vs : List V} {ds : List D} {nss : List (List Int)}, RpL K B vs ds → tupsI ds = some nss → Paired (TI K H) vs nss
  | _, [], _, .nil, e => by cases e; exact .nil
  | _, d :: ds, _, .cons h t, e => by
    cases d <;> first | (cases (show none = some _ from e); done) | skip
    rename_i es
    rw [tupsI] at e
    split at e
    · rename_i ns nss e1 e2
      cases e
      cases h with
      | tup ha ra =>
        have := intsL_ok ra e1
        subst this
        exact .cons ⟨_, rfl, same_t bh ha.sq⟩ (tupsI_ok bh t e2)
    · cases e
theorem cl_sortT : CalL K (rSortT2 K) (un1 sortT) := CalL.one fun ρ σ B H x d h Q S t e k => by
  cases d <;> first | (cases (show none = some h from e); done) | skip
  rename_i ds
  unfold sortT at e
  dsimp only at e
  split at e
  · rename_i nss e1
    split at e
    · rename_i hb
      cases e
      obtain ⟨a, vs, rfl, ha, ra⟩ := t
      exact ⟨a, vs, nss, rfl, ha, tupsI_ok S.bh ra e1, hb, newL S ra k⟩
    · cases e
  · cases e
end
end GS
namespace GS
open PySem L2
end GS
namespace GM
open PySem L2 GS
end GM
namespace GM
open PySem L2 GS
theorem filter_some {α β γ : Type} [Inhabited β] (f : α → Option β) (g : β → γ) : ∀ l : List α, (l.filter fun x => (f x).isSome).map (fun x => g ((f x).getD default)) = (l.filterMap f).map g
  | [] => rfl
  | x :: l => by
    cases h : f x with
    | none => simp [h, filter_some f g l]
    | some y => simp [h, filter_some f g l]
mutual
theorem piece_ok : ∀ {t : Tr}, t.ok = true → ∀ u ∈ t.pieces, u.ok = true
  | .knot n tk ks, h, u, m => by
    rw [Tr.pieces] at m
    rcases List.mem_cons.mp m with rfl | m
    · exact h
    · rw [Tr.ok] at h
      simp only [Bool.and_eq_true, decide_eq_true_eq] at h
      exact piecesL_ok h.2.2.2.2 u m
  | .sign s, h, u, m => by simp [Tr.pieces] at m; subst m; exact h
  | .void, h, u, m => by simp [Tr.pieces] at m; subst m; exact h
  | .hole s, h, u, m => by simp [Tr.pieces] at m; subst m; exact h
  | .foot s, h, u, m => by simp [Tr.pieces] at m; subst m; exact h
theorem piecesL_ok : ∀ {ts : List Tr}, Tr.okL ts = true → ∀ u ∈ Tr.piecesL ts, u.ok = true
  | [], _, u, m => by simp [Tr.piecesL] at m
  | t :: ts, h, u, m => by
    rw [Tr.okL, Bool.and_eq_true] at h
    rw [Tr.piecesL] at m
    rcases List.mem_append.mp m with m | m
    · exact piece_ok h.1 u m
    · exact piecesL_ok h.2 u m
end
end GM
namespace L2
open PySem PySem.W PySem.Calls PySem.Spec PyProof.Rows
section
variable {X : Cx} {pins : List (Addr × Obj)} {σ : St} {H : Hp} {s : Shared}
end
end L2
namespace GS
open PySem L2
section
variable {K : KW} {ρ : Rho} {σ : St} {B H : Hp} {v x y : V} {Q : VK}
/-- a new dict that nobody holds -/
theorem newD (S : Sim K ρ σ B H) {ps : List (D × D)} {p : Addr} {ep : Nat} {b : Bool} {xs : List (NestedKey × Value × Value)} (hp : H p = none) (h : RpX K B b xs ps) (k : ∀ v B' H', Sim K ρ σ B' H' → Ext ρ σ B H ρ σ B' H' → HdOk K (New ρ σ H) ρ σ B' H' v (.fr (.dict ps)) → Q v H') :
    Q (.ref p) (upd H p (dX K.w p ep xs)) := by
  obtain ⟨S', x⟩ := S.newH hp (dX K.w p ep xs)
  obtain ⟨bb, n⟩ := S.free hp
  exact k _ _ _ S' x ⟨p, rfl, bb, ⟨ep, b, xs, upd_same, h⟩, n, .inl hp⟩
end
section
variable {X : Cx} {C : Ct} {pos : Pos}
end
end GS
namespace GM
open PySem L2 GS
end GM
namespace GM
open PySem L2 GS
/-- dict(book[1]) -/
def ktD (p : Str × Tr) : D × D := (.str p.1, p.2.enc)
def Bk.dict (b : Bk) : D := .dict (dMerge (b.trees.map ktD))
inductive Pl where
  | mk (key : Str) (puts : List (List Nat × Pl))
  deriving Inhabited
def Pl.key : Pl → Str
  | .mk k _ => k
def Pl.puts : Pl → List (List Nat × Pl)
  | .mk _ ps => ps
mutual
def Pl.enc : Pl → D
  | .mk k ps => .tuple [.str k, .tuple (Pl.encL ps)]
def Pl.encL : List (List Nat × Pl) → List D
  | [] => []
  | x :: r => Pl.encX x :: Pl.encL r
def Pl.encX : List Nat × Pl → D
  | (p, q) => .tuple [encP p, q.enc]
end
theorem pencL_map : ∀ ps : List (List Nat × Pl), Pl.encL ps = ps.map Pl.encX
  | [] => rfl
  | x :: r => by rw [Pl.encL, pencL_map r, List.map_cons]
theorem penc_eq (q : Pl) : q.enc = .tuple [.str q.key, .tuple (q.puts.map Pl.encX)] := by
  cases q with
  | mk k ps => rw [Pl.enc, pencL_map]; rfl
theorem pencX_eq (x : List Nat × Pl) : Pl.encX x = .tuple [encP x.1, x.2.enc] := by
  obtain ⟨p, q⟩ := x
  rw [Pl.encX]
mutual
/-- how many keys -/
def Pl.size : Pl → Nat
  | .mk _ ps => 1 + Pl.sizeL ps
def Pl.sizeL : List (List Nat × Pl) → Nat
  | [] => 0
  | x :: r => Pl.sizeX x + Pl.sizeL r
def Pl.sizeX : List Nat × Pl → Nat
  | (_, q) => q.size
end
mutual
/-- how many within one another -/
def Pl.dep : Pl → Nat
  | .mk _ ps => Pl.depL ps + 1
def Pl.depL : List (List Nat × Pl) → Nat
  | [] => 0
  | x :: r => max (Pl.depX x) (Pl.depL r)
def Pl.depX : List Nat × Pl → Nat
  | (_, q) => q.dep
end
def Tr.must (t : Tr) : Bool := match t.want with
  | some (_, _, b) => b
  | none => false
mutual
/-- a plan of a book -/
inductive PlOk (b : Bk) : Pl → Prop
  | mk {k : Str} {t : Tr} {ps : List (List Nat × Pl)} : b.treeOf k = some t → PutsOk b (t.pps []) ps → PlOk b (.mk k ps)
/-- what is put at pieces, in their order -/
inductive PutsOk (b : Bk) : List (List Nat × Tr) → List (List Nat × Pl) → Prop
  | nil : PutsOk b [] []
  | skip {p : List Nat} {u : Tr} {us : List (List Nat × Tr)} {ps : List (List Nat × Pl)} : u.must = false → PutsOk b us ps → PutsOk b ((p, u) :: us) ps
  | put {p : List Nat} {u : Tr} {q : Pl} {us : List (List Nat × Tr)} {ps : List (List Nat × Pl)} : q.key ∈ b.takers u → PlOk b q → PutsOk b us ps → PutsOk b ((p, u) :: us) ((p, q) :: ps)
end
end GM
namespace GM
open PySem L2 GS
/-- six keys in a tuple -/
def six : List Str := [Str.ofString "s", Str.ofString "x0", Str.ofString "keytree", Str.ofString "g", Str.ofString "h1", Str.ofString "graftofaone"]
/-- how many keys a plan may have, by the number of its first -/
def limP (c s : Nat) : Nat := if 6 ≤ c then 51 else 2551 * min s (6 - c)
mutual
/-- how many keys are none of the six -/
def Pl.nb : Pl → Nat
  | .mk k ps => (if k ∈ baseK then 0 else 1) + Pl.nbL ps
def Pl.nbL : List (List Nat × Pl) → Nat
  | [] => 0
  | x :: r => Pl.nbX x + Pl.nbL r
def Pl.nbX : List Nat × Pl → Nat
  | (_, q) => q.nb
end
structure GoodP (b : Bk) (n c : Nat) (key : Str) (q : Pl) : Prop where
  ok : PlOk b q
  key : q.key = key
  dep : q.dep ≤ n + 1
  size : q.size ≤ limP c q.size
  nb : q.nb ≤ if q.key ∈ baseK then 0 else max 1 (7 - c)
section
variable {Fp Fl Ft Fc : FF}
end
section
variable {Fp Fl Ft Fc : FF}
end
end GM
namespace GM
open PySem L2 GS
section
variable {Fp Fl Ft Fc : FF}
end
end GM
namespace GM
open PySem L2 GS
end GM
namespace GM
open PySem L2 GS
def plcOk (p : List Nat) : Bool := p.all (fun d => decide (d < 8)) && decide (p.length ≤ 20)
mutual
def Pl.tok : Pl → Bool
  | .mk k ps => keyB k && Pl.tokL ps
def Pl.tokL : List (List Nat × Pl) → Bool
  | [] => true
  | x :: r => Pl.tokX x && Pl.tokL r
def Pl.tokX : List Nat × Pl → Bool
  | (p, q) => plcOk p && q.tok
end
end GM
namespace GM
open PySem L2 GS
end GM
namespace GM
open PySem L2 GS
theorem encP_clean (p : List Nat) : cleanB (encP p) = true ∧ (encP p).depth ≤ 1 := by
  refine ⟨?_, ?_⟩
  · unfold encP
    rw [cleanB]
    refine cleanL_of fun d m => ?_
    obtain ⟨k, mk, rfl⟩ := List.mem_map.mp m
    rfl
  · unfold encP
    have := depthAll_of (ds := p.map fun n : Nat => PyData.int (n : Int)) (n := 0) fun d m => by
      obtain ⟨k, mk, rfl⟩ := List.mem_map.mp m
      simp [PyData.depth]
    rw [PyData.depth]
    omega
section
variable {n : Nat} {Fw Ft Fx Fp Fk : FF}
end
end GM
namespace GM
open PySem L2 GS
theorem kid_lt : ∀ (t : Tr) (p : List Nat), t.ok = true → p ∈ t.places → ∀ d ∈ p, d < 8 := fun t p => by
  induction p generalizing t with
  | nil => intro _ _ d m; cases m
  | cons k p ih =>
    intro ok mp d md
    rw [places_kids] at mp
    rcases List.mem_cons.mp mp with e | mp
    · cases e
    · have gen : ∀ (ts : List Tr) (j : Nat), (k :: p) ∈ Tr.placesL j ts → k < j + ts.length ∧ ∃ s ∈ ts, p ∈ s.places := fun ts => by
        induction ts with
        | nil => intro j m; simp [Tr.placesL] at m
        | cons s ts ih2 =>
          intro j m
          rw [Tr.placesL] at m
          rcases List.mem_append.mp m with m | m
          · obtain ⟨r, mr, e⟩ := List.mem_map.mp m
            cases e
            exact ⟨by simp, s, by simp, mr⟩
          · obtain ⟨h1, s', ms, h2⟩ := ih2 (j + 1) m
            exact ⟨by simp; omega, s', by simp [ms], h2⟩
      obtain ⟨h1, s, ms, h2⟩ := gen t.kids 0 mp
      cases t with
      | knot n tk ks =>
        rw [Tr.ok] at ok
        simp only [Bool.and_eq_true, decide_eq_true_eq] at ok
        have : ks.length ≤ 8 := ok.2.2.2.1
        rcases List.mem_cons.mp md with rfl | md
        · simp [Tr.kids] at h1; omega
        · exact ih s (okL_mem ok.2.2.2.2 s ms) h2 d md
      | _ => simp [Tr.kids] at ms
theorem pps_place {t : Tr} {x : List Nat × Tr} (m : x ∈ t.pps []) : x.1 ∈ t.places := by
  have : x.1 ∈ (t.pps []).map (·.1) := List.mem_map_of_mem m
  rw [pps_fst] at this
  simpa using this
theorem treeOf_in {b : Bk} {k : Str} {t : Tr} (h : b.treeOf k = some t) : (k, t) ∈ b.trees := by
  have gen : ∀ (ts : List (Str × Tr)) (o : Option Tr), ts.foldl (fun acc p => if p.1 = k then some p.2 else acc) o = some t → (k, t) ∈ ts ∨ o = some t := fun ts => by
    induction ts with
    | nil => intro o h; exact .inr h
    | cons p ts ih =>
      intro o h
      rcases ih _ h with m | e
      · exact .inl (by simp [m])
      · dsimp only at e
        split at e
        · rename_i q
          cases e
          exact .inl (by rw [← q]; simp)
        · exact .inr e
  rcases gen b.trees none h with m | e
  · exact m
  · cases e
section
variable {h : Nat} {b : Bk}
theorem BookOk.keyB (B : BookOk h b) {k : Str} {t : Tr} (m : (k, t) ∈ b.trees) : keyB k = true := allK_ok k (B.keys _ m)
mutual
theorem PlOk.tok (B : BookOk h b) (hh : h ≤ 20) : ∀ {q : Pl}, PlOk b q → q.tok = true
  | _, .mk (t := t) e r => by
    have mt := treeOf_in e
    have T := B.trees _ mt
    rw [Pl.tok, B.keyB mt, Bool.true_and]
    exact PutsOk.tok B hh r fun x mx => by
      have mp := pps_place mx
      unfold plcOk
      rw [Bool.and_eq_true, List.all_eq_true]
      refine ⟨fun d md => by simpa using kid_lt t x.1 T.ok mp d md, ?_⟩
      have := place_len t x.1 mp
      have := T.ht
      dsimp only at this
      simp
      omega
theorem PutsOk.tok (B : BookOk h b) (hh : h ≤ 20) : ∀ {us : List (List Nat × Tr)} {ps : List (List Nat × Pl)}, PutsOk b us ps → (∀ x ∈ us, plcOk x.1 = true) → Pl.tokL ps = true
  | _, _, .nil, _ => rfl
  | _, _, .skip _ r, hu => PutsOk.tok B hh r fun x m => hu x (by simp [m])
  | _, _, .put _ o r, hu => by
    rw [Pl.tokL, Pl.tokX, hu _ List.mem_cons_self, PlOk.tok B hh o, PutsOk.tok B hh r fun x m => hu x (by simp [m])]
    rfl
end
end
section
variable {Fa Fc : FF}
end
end GM
namespace GS
open PySem L2 RT
section
variable {X : Cx} {C : Ct} {ρ ρ1 : Rho} {σ σ1 : St} {B H B1 H1 : Hp} {e tg : Expr} {te : TE} {fe : EF} {pos p : Pos} {K : KW}
end
end GS
namespace GM
open PySem L2 GS
end GM
namespace GM
open PySem L2 GS
/-- a put: its place, key, what is put within -/
abbrev Pt := List Int × Str × D
def putP : D → Option Pt
  | .tuple [.tuple ns, .tuple [.str k, r]] => (intsT ns).map fun p => (p, k, r)
  | _ => none
def encI (p : List Int) : D := .tuple (p.map .int)
def encPt (x : Pt) : D := .tuple [encI x.1, .tuple [.str x.2.1, x.2.2]]
theorem intsT_map (p : List Int) : intsT (p.map .int) = some p := by
  induction p with
  | nil => rfl
  | cons i p ih => simp [intsT, ih]
theorem putP_enc (x : Pt) : putP (encPt x) = some x := by
  obtain ⟨p, k, r⟩ := x
  show (intsT (p.map .int)).map _ = _
  rw [intsT_map]
  rfl
def ltO : Option (List Int) → List Int → Bool
  | none, _ => true
  | some a, p => HT.lexLt a p
def goP : Option (List Int) → List D → Option (List Pt)
  | _, [] => some []
  | a, d :: ds => match putP d with
    | none => none
    | some x => if ltO a x.1 then (goP (some x.1) ds).map fun l => x :: l else none
def putsP : D → Option (List Pt)
  | .tuple ds => goP none ds
  | _ => none
end GM
namespace GM
open PySem L2 GS
def toI (p : List Nat) : List Int := p.map fun n : Nat => (n : Int)
theorem encP_I (p : List Nat) : encP p = encI (toI p) := by
  unfold encP encI toI
  rw [List.map_map]
  rfl
theorem toI_inj {p q : List Nat} (h : toI p = toI q) : p = q := by
  induction p generalizing q with
  | nil => cases q with
    | nil => rfl
    | cons _ _ => cases h
  | cons a p ih => cases q with
    | nil => cases h
    | cons b q =>
      unfold toI at h
      rw [List.map_cons, List.map_cons] at h
      injection h with h1 h2
      rw [ih h2, show a = b by omega]
theorem nkL_ints (p : List Int) : nkL (p.map .int) = some (p.map NestedKey.num) := by
  induction p with
  | nil => rfl
  | cons i p ih => rw [List.map_cons, nkL, ih]; rfl
theorem depth_nums (p : List Int) : NestedKey.depthAll (p.map NestedKey.num) = 0 := by
  induction p with
  | nil => rfl
  | cons i p ih => rw [List.map_cons, NestedKey.depthAll, ih]; rfl
theorem tkD_ints (p : List Int) : tkD (p.map .int) = some (.tup (p.map NestedKey.num)) := by
  unfold tkD
  rw [nkL_ints, Option.bind_some, if_pos (by rw [NestedKey.depth, depth_nums]; omega)]
theorem nums_inj {p q : List Int} (h : p.map NestedKey.num = q.map NestedKey.num) : p = q := by
  induction p generalizing q with
  | nil => cases q with
    | nil => rfl
    | cons _ _ => cases h
  | cons a p ih => cases q with
    | nil => cases h
    | cons b q =>
      rw [List.map_cons, List.map_cons] at h
      injection h with h1 h2
      injection h1 with h1
      rw [ih h2, h1]
@[simp] theorem kEq_I (p q : List Int) : kEq (encI p) (encI q) = decide (p = q) := by
  rw [kEq_key (show keyD (encI p) = _ from tkD_ints p) (show keyD (encI q) = _ from tkD_ints q)]
  by_cases h : p = q
  · simp [h]
  · have : ¬ NestedKey.tup (p.map NestedKey.num) = NestedKey.tup (q.map NestedKey.num) := fun e => h (nums_inj (by injection e))
    simp [h, this]
@[simp] theorem isK_I (p : List Int) : isK (encI p) = true := by
  show (tkD (p.map .int)).isSome = true
  rw [tkD_ints]
  rfl
def getI {α : Type} (L : List (List Int × α)) (p : List Int) : Option α := (L.find? fun x => decide (x.1 = p)).map (·.2)
theorem lexLt_irr (p : List Int) : HT.lexLt p p = false := by
  induction p with
  | nil => rfl
  | cons i p ih => rw [HT.lexLt_cons, if_pos rfl]; exact ih
theorem lexLt_trans : ∀ {p q r : List Int}, HT.lexLt p q = true → HT.lexLt q r = true → HT.lexLt p r = true
  | [], [], _, h, _ => by cases h
  | [], _ :: _, [], _, h => by cases h
  | [], _ :: _, _ :: _, _, _ => rfl
  | _ :: _, [], _, h, _ => by cases h
  | _ :: _, _ :: _, [], _, h => by cases h
  | a :: p, b :: q, c :: r, h1, h2 => by
    rw [HT.lexLt_cons] at h1 h2 ⊢
    by_cases e1 : a = b
    · subst e1
      rw [if_pos rfl] at h1
      by_cases e2 : a = c
      · subst e2
        rw [if_pos rfl] at h2 ⊢
        exact lexLt_trans h1 h2
      · rw [if_neg e2] at h2 ⊢
        exact h2
    · rw [if_neg e1, decide_eq_true_eq] at h1
      by_cases e2 : b = c
      · subst e2
        rw [if_neg e1, decide_eq_true_eq]
        exact h1
      · rw [if_neg e2, decide_eq_true_eq] at h2
        rw [if_neg (by omega), decide_eq_true_eq]
        omega
theorem rising_nodup {ps : List (List Int)} (h : ps.Pairwise (fun p q => HT.lexLt p q = true)) : ps.Nodup :=
  h.imp fun {p q} l e => by rw [e, lexLt_irr] at l; cases l
end GM
namespace GM
open PySem L2 GS
theorem pps_at (t : Tr) : ∀ x ∈ t.pps [], t.at x.1 = some x.2 := by
  have h := at_places t
  rw [← pps_snd t [], show t.places = (t.pps []).map (·.1) by rw [pps_fst]; simp, List.map_map, List.map_map] at h
  exact fun x m => List.map_inj_left.mp h x m
def krD (x : Str × D) : D := .tuple [.str x.1, x.2]
def okAt (b : Bk) (L : List Pt) (x : List Nat × Tr) : Bool := match getI L (toI x.1) with
  | none => !x.2.must
  | some kr => decide (kr.1 ∈ b.takers x.2)
def wellB (b : Bk) (t : Tr) (L : List Pt) : Bool := (t.pps []).all (okAt b L) && L.all fun x => decide (x.1 ∈ t.places.map toI)
structure BkS (n : Nat) (b : Bk) : Prop where
  ok : BkOk n b
  so : ∀ p ∈ b.trees, PyData.strOk p.1 = true
theorem okEq_I (p : List Int) : okEq (encI p) = true := okEq_of (by
  unfold encI
  rw [cleanB]
  refine cleanL_of fun d m => ?_
  obtain ⟨k, mk, rfl⟩ := List.mem_map.mp m
  rfl) (by
  unfold encI
  have := depthAll_of (ds := p.map PyData.int) (n := 0) fun d m => by
    obtain ⟨k, mk, rfl⟩ := List.mem_map.mp m
    simp [PyData.depth]
  rw [PyData.depth]
  omega)
theorem eqv_I (p q : List Int) : PyData.eqv (encI p) (encI q) = decide (p = q) := by
  unfold encI
  rw [PyData.eqv]
  induction p generalizing q with
  | nil => cases q <;> simp [PyData.eqvAll]
  | cons a p ih =>
    cases q with
    | nil => simp [PyData.eqvAll]
    | cons b q =>
      rw [List.map_cons, List.map_cons, PyData.eqvAll, ih]
      by_cases h1 : a = b <;> by_cases h2 : p = q <;> simp [PyData.eqv, h1, h2]
theorem okEq_places (ps : List (List Nat)) : okEq (.list (ps.map encP)) = true := okEq_of (by
  rw [cleanB]
  refine cleanL_of fun d m => ?_
  obtain ⟨k, mk, rfl⟩ := List.mem_map.mp m
  exact (encP_clean k).1) (by
  have := depthAll_of (ds := ps.map encP) (n := 1) fun d m => by
    obtain ⟨k, mk, rfl⟩ := List.mem_map.mp m
    exact (encP_clean k).2
  rw [PyData.depth]
  omega)
theorem in_places (neg : Bool) (p : List Int) (ps : List (List Nat)) : inB neg (encI p) (.list (ps.map encP)) = some (.sh (.bool (neg ^^ decide (p ∈ ps.map toI)))) := by
  rw [inB_l, okEq_I, okEq_places, Bool.true_and, if_pos rfl]
  congr 4
  rw [List.any_map]
  induction ps with
  | nil => rfl
  | cons q ps ih =>
    rw [List.any_cons, ih]
    show (PyData.eqv (encP q) (encI p) || _) = _
    rw [encP_I, eqv_I]
    by_cases h : toI q = p
    · simp [h]
    · have : ¬ p = toI q := fun e => h e.symm
      simp [h, this]
section
variable {Fp Ft Fw Fa : FF}
end
end GM
namespace GS
open PySem L2 PySem.Spec PyProof.Rows PySem.W PySem.Calls
theorem ltC_asym : ∀ a b : List Nat, ltCps a b = true → ltCps b a = false
  | [], [], h => by cases h
  | [], _ :: _, _ => rfl
  | _ :: _, [], h => by cases h
  | a :: r, b :: t, h => by
    simp only [ltCps, Bool.or_eq_true, Bool.and_eq_true, decide_eq_true_eq, beq_iff_eq] at h
    simp only [ltCps, Bool.or_eq_false_iff, Bool.and_eq_false_imp, decide_eq_false_iff_not, beq_iff_eq]
    rcases h with h | ⟨rfl, h⟩
    · exact ⟨by omega, fun e => by omega⟩
    · exact ⟨by omega, fun _ => ltC_asym r t h⟩
theorem ltC_tr : ∀ a b c : List Nat, ltCps b a = false → ltCps c b = false → ltCps c a = false
  | [], _, [], _, _ => rfl
  | _ :: _, [], _, h, _ => by cases h
  | _, _ :: _, [], _, h => by cases h
  | [], [], _ :: _, _, _ => rfl
  | [], _ :: _, _ :: _, _, _ => rfl
  | a :: r, b :: t, c :: u, h1, h2 => by
    simp only [ltCps, Bool.or_eq_false_iff, Bool.and_eq_false_imp, decide_eq_false_iff_not, beq_iff_eq] at h1 h2 ⊢
    refine ⟨by omega, fun e => ?_⟩
    have e1 : b = a := by omega
    have e2 : c = b := by omega
    exact ltC_tr r t u (h1.2 e1) (h2.2 e2)
theorem ltC_anti : ∀ a b : List Nat, ltCps a b = false → ltCps b a = false → a = b
  | [], [], _, _ => rfl
  | [], _ :: _, h, _ => by cases h
  | _ :: _, [], _, h => by cases h
  | a :: r, b :: t, h1, h2 => by
    simp only [ltCps, Bool.or_eq_false_iff, Bool.and_eq_false_imp, decide_eq_false_iff_not, beq_iff_eq] at h1 h2
    have e : a = b := by omega
    subst e
    rw [ltC_anti r t (h1.2 rfl) (h2.2 rfl)]
def ltS (a b : Str) : Bool := ltCps a.cps.toList b.cps.toList
theorem ltS_anti {a b : Str} (h1 : ltS a b = false) (h2 : ltS b a = false) : a = b := by
  have := ltC_anti _ _ h1 h2
  obtain ⟨x⟩ := a
  obtain ⟨y⟩ := b
  have : x.toList = y.toList := this
  rw [Array.toList_inj.mp this]
def insS (x : Str) : List Str → List Str
  | [] => [x]
  | y :: r => if ltS y x then y :: insS x r else x :: y :: r
def sortSs : List Str → List Str
  | [] => []
  | x :: r => insS x (sortSs r)
abbrev SrtS (l : List Str) : Prop := l.Pairwise fun a b => ltS b a = false
theorem insS_perm (x : Str) : ∀ l : List Str, (insS x l).Perm (x :: l)
  | [] => .refl _
  | y :: r => by
    rw [insS]
    split
    · exact ((insS_perm x r).cons y).trans (List.Perm.swap x y r)
    · exact .refl _
theorem sortSs_perm : ∀ l : List Str, (sortSs l).Perm l
  | [] => .refl _
  | x :: r => (insS_perm x _).trans ((sortSs_perm r).cons x)
theorem insS_srt (x : Str) : ∀ {l : List Str}, SrtS l → SrtS (insS x l)
  | [], _ => List.pairwise_singleton _ _
  | y :: r, h => by
    rw [insS]
    cases h with
    | cons h1 h2 =>
      split
      · rename_i c
        refine .cons (fun z mz => ?_) (insS_srt x h2)
        rcases List.mem_cons.mp ((insS_perm x r).mem_iff.mp mz) with rfl | mz
        · exact ltC_asym _ _ c
        · exact h1 z mz
      · rename_i c
        have c : ltS y x = false := by simpa using c
        refine .cons (fun z mz => ?_) (.cons h1 h2)
        rcases List.mem_cons.mp mz with rfl | mz
        · exact c
        · exact ltC_tr _ _ _ c (h1 z mz)
theorem sortSs_srt : ∀ l : List Str, SrtS (sortSs l)
  | [] => .nil
  | x :: r => insS_srt x (sortSs_srt r)
theorem srtS_uniq : ∀ {l m : List Str}, SrtS l → SrtS m → l.Perm m → l = m
  | [], m, _, _, h => (List.Perm.eq_nil h.symm).symm
  | x :: l, [], _, _, h => absurd h.length_eq (by simp)
  | x :: l, y :: m, hl, hm, h => by
    cases hl with
    | cons a1 a2 =>
      cases hm with
      | cons b1 b2 =>
        have h1 : ltS x y = false := by
          rcases List.mem_cons.mp (h.mem_iff.mp (List.mem_cons_self (a := x) (l := l))) with e | hx
          · rw [e]; exact by
              rcases hh : ltS y y with _ | _
              · rfl
              · have := ltC_asym _ _ hh; exact absurd (hh.symm.trans this) (by decide)
          · exact b1 x hx
        have h2 : ltS y x = false := by
          rcases List.mem_cons.mp (h.symm.mem_iff.mp (List.mem_cons_self (a := y) (l := m))) with e | hy
          · rw [e]; exact by
              rcases hh : ltS x x with _ | _
              · rfl
              · have := ltC_asym _ _ hh; exact absurd (hh.symm.trans this) (by decide)
          · exact a1 y hy
        have e := ltS_anti h1 h2
        subst e
        rw [srtS_uniq a2 b2 (List.Perm.cons_inv h)]
abbrev ltSv (v u : Value) : Bool := ltS (strOf v) (strOf u)
theorem swo_str : SrtO.Swo ltSv := ⟨fun x y h => ltC_asym _ _ h, fun x y z h1 h2 => ltC_tr _ _ _ h1 h2⟩
section
variable {prog : Program} {w : World} {A : Around} {E : Value → Shared → Prop} {s : Shared}
theorem strs_sortable {a : Addr} {vs : List Value} {ss : List Str} (hS : StrsAre vs ss) (h2 : 2 ≤ vs.length) : SrtO.SortableO prog w A s a vs ltSv := by
  intro h' _
  refine ⟨oneType', fun Q E hq => ?_, fun p q hm hm' => ?_⟩
  · match vs, hS, h2 with
    | v1 :: v2 :: rest, hS, _ =>
      rw [keyKind_strs hS]
      exact wpAny_pure hq
    | [], _, h => exact absurd h (by decide)
    | [v], _, h => exact absurd h (by simp)
  · obtain ⟨x, t, e⟩ := hS.all _ hm
    obtain ⟨y, u, e'⟩ := hS.all _ hm'
    show wpAny (model prog w) A (keyLt' oneType' p.1 q.1) (fun r s' => s' = { s with heap := h' } ∧ r = ltSv p.1 q.1) (fun _ _ => False) { s with heap := h' }
    rw [e, e', keyLt'_oneType]
    refine oneLt_str ⟨rfl, ?_⟩
    show decide (x.cps.toList < y.cps.toList) = ltCps x.cps.toList y.cps.toList
    rw [ltCps_eq]
theorem collect_tup {l : Addr} {vs : List Value} {Q : List Value → Shared → Prop} (hl : s.heap.IsTuple l vs.toArray)
    (h : Q vs { s with heap := (s.heap.push (seqObj "list" #[] 0)).update s.heap.objs.size (Obj.mapSeq (· ++ vs.toArray)) }) (hsz : vs.length ≤ sizeLine) :
    wpAny (model prog w) A (collect (.ref l)) Q E s := by
  obtain ⟨o, ho, hc, n, hd⟩ := id hl
  unfold collect
  refine wpAny_bind (wpAny_runValue (codeAny_builtin entry_proto_collect' ?_))
  show wpAny _ _ (do again (.builtin "list.__iadd__" ⟨[← newList [], .ref l], []⟩)) _ _ s
  refine wpAny_bind (wpAny_newList (wpAny_pure ⟨Code.quiet_builtin _ (by decide +kernel), codeAny_builtin entry_list_iadd' ?_⟩))
  show wpAny _ _ (Builtin.List.listExtendWith (.ref s.heap.objs.size) (.ref l) (.ref s.heap.objs.size)) _ _ { s with heap := s.heap.push (seqObj "list" #[] 0) }
  unfold Builtin.List.listExtendWith
  have ho' : (s.heap.push (seqObj "list" #[] 0)).get? l = some o := Heap.get?_push_of_some _ ho
  refine wpAny_bind (wpAny_typeOf (T := "tuple") ⟨o, ho', hc⟩ ?_)
  have ht : (Value.type "tuple" == Value.type "tuple") = true := by rfl
  rw [if_pos (by rw [ht]; simp)]
  refine wpAny_bind (listItems_at ho' hd ?_)
  refine wpAny_bind (listItems_at (xs := #[]) (n := 0) (Heap.get?_push_size _ rfl) rfl ?_)
  rw [if_neg (by simp)]
  refine wpAny_bind (listUpdate_at (xs := #[]) (n := 0) (Heap.get?_push_size _ rfl) rfl ?_ (Nat.zero_le _) (by show (#[] ++ vs.toArray).size ≤ sizeLine + 1; simp only [Array.size_append, List.size_toArray, List.length_nil]; omega))
  refine wpAny_pure ?_
  show wpAny (model prog w) A (do
      let o ← load s.heap.objs.size
      match o.data with
      | .seq xs _ => pure xs.toList
      | _ => unsupported "internal:collect") Q E { s with heap := (s.heap.push (seqObj "list" #[] 0)).update s.heap.objs.size (Obj.mapSeq (· ++ vs.toArray)) }
  refine wpAny_bind (wpAny_load (get?_update_seq (Heap.get?_push_size _ rfl) _) ?_)
  show wpAny _ _ (pure ((#[] : Array Value) ++ vs.toArray).toList) Q E _
  rw [show ((#[] : Array Value) ++ vs.toArray).toList = vs by simp]
  exact wpAny_pure h
/-- sorted(t), t a tuple -/
theorem sorted_ordT {l : Addr} {vs : List Value} {ltv : Value → Value → Bool} {Q : Value → Shared → Prop} (O : SrtO.Swo ltv) (hl : s.heap.IsTuple l vs.toArray) (hz : vs.length ≤ sizeLine)
    (hS : 2 ≤ vs.length → ∀ (h₁ : Heap) (a : Addr), h₁.get? a = some (seqObj "list" vs.toArray 0) → (∀ b o, s.heap.get? b = some o → b ≠ a ∧ h₁.get? b = some o) → SrtO.SortableO prog w A.in1.in1 { s with heap := h₁ } a vs ltv)
    (h : ∀ out : List Value, SrtO.Srtd ltv out → SrtO.Stb ltv out vs → Q (.ref (s.heap.objs.size + 1)) { s with heap := sortedAll s.heap vs out.toArray }) :
    wpAny (model prog w) A (call (.builtin "sorted") [.ref l]) Q E s := by
  refine Calls.call_function_entry kind_sorted plain_sorted entry_sorted (args_sorted1 _) ?_
  unfold Builtin.«sorted»
  refine wpAny_bind (m := checkCount "sorted" 1 1 _) (wpAny_pure ?_)
  refine wpAny_bind (collect_tup hl ?_ hz)
  refine wpAny_bind (wpAny_newList ?_ hz)
  have hsz : ((s.heap.push (seqObj "list" #[] 0)).update s.heap.objs.size (Obj.mapSeq (· ++ vs.toArray))).objs.size = s.heap.objs.size + 1 := by
    rw [Heap.size_update, size_push']
  have hoL : (((s.heap.push (seqObj "list" #[] 0)).update s.heap.objs.size (Obj.mapSeq (· ++ vs.toArray))).push (seqObj "list" vs.toArray 0)).get? (s.heap.objs.size + 1) = some (seqObj "list" vs.toArray 0) := by
    rw [← hsz]; exact Heap.get?_push_size _ rfl
  have keep : ∀ b o, s.heap.get? b = some o → b ≠ s.heap.objs.size + 1 ∧ (((s.heap.push (seqObj "list" #[] 0)).update s.heap.objs.size (Obj.mapSeq (· ++ vs.toArray))).push (seqObj "list" vs.toArray 0)).get? b = some o := fun b o q => by
    have hlt : b < s.heap.objs.size := Heap.lt_size q
    refine ⟨Nat.ne_of_lt (Nat.lt_succ_of_lt hlt), Heap.get?_push_of_some _ ?_⟩
    rw [Heap.get?_update_ne _ _ _ _ (Nat.ne_of_lt hlt)]
    exact Heap.get?_push_of_some _ q
  show wpAny _ _ _ _ _ { s with heap := ((s.heap.push (seqObj "list" #[] 0)).update s.heap.objs.size (Obj.mapSeq (· ++ vs.toArray))).push (seqObj "list" vs.toArray 0) }
  rw [hsz]
  refine wpAny_bind (wpAny_holding (wpAny_call_entry slot_list_sort ⟨_, hoL, rfl⟩ entry_list_sort (SrtO.list_sort_ord O hoL hz (fun h2 => hS h2 _ _ hoL keep) fun out hs hb => ⟨_, rfl, ?_⟩) (args_list_sort _)))
  exact wpAny_pure ⟨_, rfl, h out hs hb⟩
end
theorem strs_out {vs out : List Value} {ss : List Str} (hS : StrsAre vs ss) (hs : SrtO.Srtd ltSv out) (hb : SrtO.Stb ltSv out vs) : StrsAre out (sortSs ss) := by
  have h1 := strsAre_map out fun v hv => hS.all v (hb.perm.mem_iff.mp hv)
  have h2 : (out.map strOf).Perm ss := by
    have q := hb.perm.map strOf
    rw [hS.strs] at q
    exact q
  have h3 : SrtS (out.map strOf) := List.pairwise_map.mpr hs
  have e : out.map strOf = sortSs ss := srtS_uniq h3 (sortSs_srt ss) (h2.trans (sortSs_perm ss).symm)
  rw [e] at h1
  exact h1
/-- sorted(xs), texts -/
def rSortS (K : PySem.W.Frag) : List V → Hp → VK → Prop := fun vs H Q => ∃ (a : Addr) (ss : List Str), vs = [V.ref a] ∧ (SqL K H a (ss.map V.str) ∨ SqT K H a (ss.map V.str)) ∧ ∀ p, H p = none → Q (.ref p) (upd H p (.lst ((sortSs ss).map V.str)))
def rSortU (K : PySem.W.Frag) : List V → Hp → VK → Prop := fun vs H Q => rSortT2 K vs H Q ∨ rSortS K vs H Q
section
variable {X : Cx}
theorem cr_sortS : CallR X (.builtin "sorted") (rSortS X.K) := by
  intro pins s σ H vs us Q I r h
  obtain ⟨a, ss, rfl, hs, q⟩ := h
  obtain ⟨u, rfl, ru⟩ := vals1 r
  obtain rfl : u = Value.ref a := ru
  have fin : ∀ its : List Value, Vals (ss.map V.str) its → (ss.map V.str).length ≤ sizeLine → ∀ out : List Value, SrtO.Srtd ltSv out → SrtO.Stb ltSv out its → EP X pins σ Q (.ref (s.heap.objs.size + 1)) { s with heap := sortedAll s.heap its out.toArray } := fun its rv hz out h1 h2 => by
    have k1 := strs_out rv.strs h1 h2
    obtain ⟨n, hn⟩ := sortedAll_at s.heap its out.toArray
    exact ⟨.ref (s.heap.objs.size + 1), upd H (s.heap.objs.size + 1) (.lst ((sortSs ss).map V.str)), I.laid (t' := s.toks) (fun b o e => sortedAll_old e) (Nat.le_succ _) ⟨by rw [List.length_map, (sortSs_perm ss).length_eq, ← List.length_map (f := V.str)]; exact hz, out, n, vals_of_strs k1, hn⟩, rfl, q _ (I.hok.fresh (Nat.le_succ _))⟩
  rcases hs with hs | hs
  · obtain ⟨its, rv, hl, hz⟩ := I.list hs
    exact SrtO.sorted_ord swo_str hl.isList (by rw [← rv.length]; exact hz) (fun h2 h₁ a' _ _ => strs_sortable rv.strs h2) fun out h1 h2 => fin its rv hz out h1 h2
  · obtain ⟨its, rv, hl, hz⟩ := I.tuple hs
    exact sorted_ordT swo_str hl (by rw [← rv.length]; exact hz) (fun h2 h₁ a' _ _ => strs_sortable rv.strs h2) fun out h1 h2 => fin its rv hz out h1 h2
theorem cr_sortU (hu : X.A.units + 64 < cLine) : CallR X (.builtin "sorted") (rSortU X.K) := by
  intro pins s σ H vs us Q I r h
  rcases h with h | h
  · exact cr_sortT2 hu pins s σ H vs us Q I r h
  · exact cr_sortS pins s σ H vs us Q I r h
end
def sortU : D → Option Hd
  | .list ds => match strsD ds with
    | some ss => some (.fr (.list ((sortSs ss).map .str)))
    | none => sortT (.list ds)
  | .tuple ds => (strsD ds).map fun ss => .fr (.list ((sortSs ss).map .str))
  | _ => none
section
variable {K : KW} {B H : Hp}
theorem rpl_strs : ∀ ss : List Str, RpL K B (ss.map V.str) (ss.map .str)
  | [] => .nil
  | s :: ss => .cons (.str s) (rpl_strs ss)
theorem cl_sortU : CalL K (rSortU K) (un1 sortU) := CalL.one fun ρ σ B H x d h Q S t e k => by
  cases d with
  | list ds =>
    have e : (match strsD ds with
      | some ss => some (Hd.fr (.list ((sortSs ss).map .str)))
      | none => sortT (.list ds)) = some h := e
    obtain ⟨a, vs, rfl, ha, ra⟩ := id t
    cases hs : strsD ds with
    | some ss =>
      rw [hs] at e
      cases e
      rw [strsD_ok ra hs] at ha
      exact .inr ⟨a, ss, rfl, .inl ha, newL S (rpl_strs _) k⟩
    | none =>
      rw [hs] at e
      exact .inl (cl_sortT ρ σ B H _ _ h Q S (.cons t .nil) e k)
  | tuple ds =>
    obtain ⟨ss, hs, e2⟩ := Option.map_eq_some_iff.mp (show (strsD ds).map _ = some h from e)
    cases e2
    obtain ⟨a, vs, rfl, ha, ra⟩ := Tp.tupX t
    rw [strsD_ok ra hs] at ha
    exact .inr ⟨a, ss, rfl, .inr (same_x S.bh ha).sq, newL S (rpl_strs _) k⟩
  | _ => cases e
end
end GS
namespace GM
open PySem L2 GS
/-- put_in(tree, place, other); slots 0:tree 1:place 2:other 3:kids -/
def m_put_in (F_put_in : FF) : SF := (sSeq (sIf (eB (eBin (eqB false) (eCB (un1 lenD) (aCons (eVb 1) aNil)) (eC (.int 0)))) (sEnd (sRet (eRv 2))) sNil) (sSeq (sSet 3 (eCB (un1 listD) (aCons (eBin ixA (eVb 0) (eC (.int 3))) aNil))) (sSeq (sPut 3 (eBin ixA (eVb 1) (eC (.int 0))) (eCall 3 none F_put_in (aCons (eBin ixA (eVb 3) (eBin ixA (eVb 1) (eC (.int 0)))) (aCons (eSl (eVb 1) (some (eC (.int 1))) none) (aCons (eMv 2) aNil))))) (sEnd (sRet (eBin addD (eSl (eVb 0) none (some (eC (.int 3)))) (eTup (aCons (eCB (un1 tupleD) (aCons (eVb 3) aNil)) aNil))))))))
theorem m_put_in_eq (F_put_in : FF) (ρ : Rho) : fnF 4 3 (m_put_in F_put_in) ρ = finR 3 (m_put_in F_put_in (ρ ++ [none])) := fnF_eq 4 3 _
/-- put_at(tree, place, other); slots 0:tree 1:place 2:other -/
def m_put_at (F_put_in F_piece_at : FF) : SF := (sSeq (sDrop (eCall 2 none F_piece_at (aCons (eMv 0) (aCons (eMv 1) aNil)))) (sEnd (sRet (eCall 3 none F_put_in (aCons (eMv 0) (aCons (eMv 1) (aCons (eMv 2) aNil)))))))
theorem m_put_at_eq (F_put_in F_piece_at : FF) (ρ : Rho) : fnF 3 3 (m_put_at F_put_in F_piece_at) ρ = finR 3 (m_put_at F_put_in F_piece_at (ρ ++ [])) := fnF_eq 3 3 _
/-- _law_put(tree, place, other); slots 0:tree 1:place 2:other 3:kids 4:at 5:inner -/
def m_law_put (F__law_put : FF) : SF := (sSeq (sIf (eB (eBin (eqB false) (eVb 1) (eTup aNil))) (sEnd (sRet (eRv 2))) sNil) (sSeq (sSet 3 (eBin ixA (eVb 0) (eC (.int 3)))) (sSeq (sSet 4 (eBin ixA (eVb 1) (eC (.int 0)))) (sSeq (sSet 5 (eCall 3 none F__law_put (aCons (eBin ixA (eVb 3) (eVb 4)) (aCons (eSl (eVb 1) (some (eC (.int 1))) none) (aCons (eMv 2) aNil))))) (sEnd (sRet (eBin addD (eSl (eVb 0) none (some (eC (.int 3)))) (eTup (aCons (eBin addD (eBin addD (eSl (eVb 3) none (some (eVb 4))) (eTup (aCons (eMv 5) aNil))) (eSl (eVb 3) (some (eBin addD (eVb 4) (eC (.int 1)))) none)) aNil)))))))))
theorem m_law_put_eq (F__law_put : FF) (ρ : Rho) : fnF 6 3 (m_law_put F__law_put) ρ = finR 3 (m_law_put F__law_put (ρ ++ [none, none, none])) := fnF_eq 6 3 _
/-- _law_refused(tree, place, putting); slots 0:tree 1:place 2:putting 3:caught 4:e 5:others -/
def m_law_refused (F_put_at F_piece_at : FF) : SF := (sSeq (sSet 3 (eC .none)) (sSeq (sKill [4] (sTry ["NoPlace"] ["NoPlace"] 4 (sIf (eB (eVb 2)) (sDrop (eCall 3 none F_put_at (aCons (eMv 0) (aCons (eMv 1) (aCons (eTup (aCons (eC (.str (Str.ofString "void"))) aNil)) aNil))))) (sDrop (eCall 2 none F_piece_at (aCons (eMv 0) (aCons (eMv 1) aNil))))) (sSet 3 (eMv 4)))) (sSeq (sSet 5 (eIsC ["NoPlace"] [] (eVb 3))) (sSeq (sIf (eOr (eB (eVb 5)) (eOr (eNot (eB (eIsC ["NoPlace"] ["NoPlace"] (eVb 3)))) (eNot (eB (eIsC ["NoPlace"] ["NoPlace"] (eVb 3)))))) (sEnd (sRet (eC (.bool false)))) sNil) (sEnd (sRet (eBin (eqB false) (eXf ["NoPlace"] "place" (eVb 3)) (eVb 1))))))))
theorem m_law_refused_eq (F_put_at F_piece_at : FF) (ρ : Rho) : fnF 6 3 (m_law_refused F_put_at F_piece_at) ρ = finR 3 (m_law_refused F_put_at F_piece_at (ρ ++ [none, none, none])) := fnF_eq 6 3 _
end GM
namespace GM
open PySem L2 GS
def Tr.atZ : Tr → List Int → Option Tr
  | t, [] => some t
  | t, k :: p => if 0 ≤ k then (t.kids[k.toNat]?).bind fun u => u.atZ p else none
theorem atZ_toI : ∀ (p : List Nat) (t : Tr), t.atZ (toI p) = t.at p
  | [], t => by simp [toI, Tr.atZ, Tr.at]
  | k :: p, t => by
    have ih := atZ_toI p
    unfold toI at ih ⊢
    rw [List.map_cons, Tr.atZ, Tr.at, if_pos (by omega), Int.toNat_natCast]
    cases t.kids[k]? with
    | none => rfl
    | some u => simp [ih u]
theorem atZ_some : ∀ (p : List Int) (t u : Tr), t.atZ p = some u → ∃ q : List Nat, p = toI q ∧ t.at q = some u
  | [], t, u, h => ⟨[], rfl, by rw [Tr.atZ] at h; rw [Tr.at]; exact h⟩
  | k :: p, t, u, h => by
    rw [Tr.atZ] at h
    by_cases hk : 0 ≤ k
    · rw [if_pos hk] at h
      cases hv : t.kids[k.toNat]? with
      | none => rw [hv] at h; cases h
      | some v =>
        rw [hv] at h
        obtain ⟨q, e, hq⟩ := atZ_some p v u h
        refine ⟨k.toNat :: q, ?_, ?_⟩
        · unfold toI at e ⊢
          rw [List.map_cons, e]
          congr 1
          omega
        · rw [Tr.at, hv]; exact hq
    · rw [if_neg hk] at h; cases h
def xNoPlace (p : List Int) : Xc := ⟨"NoPlace", [("place", encI p)]⟩
def PieceZ (F : FF) : Prop := ∀ (t : Tr) (p : List Int), F [some ⟨t.enc, .sh⟩, some ⟨encI p, .sh⟩] = match t.atZ p with
  | some u => .ok (.sh u.enc) [none, none]
  | none => .exc (xNoPlace p) [none, none]
theorem piece_loopZ {Fx Fk : FF} (hk : KidsSp Fk) (hr : Raises Fx) (t : D) (pl : List Int) : ∀ (p : List Int) (v : Tr),
    match v.atZ p with
    | some u => forL (gN 3) (m_piece_at_2_b1 Fx Fk) (p.map .int) [some ⟨t, .sh⟩, some ⟨encI pl, .sh⟩, some ⟨v.enc, .sh⟩, none, none] = .nx [some ⟨t, .sh⟩, some ⟨encI pl, .sh⟩, some ⟨u.enc, .sh⟩, none, none]
    | none => ∃ w : Tr, forL (gN 3) (m_piece_at_2_b1 Fx Fk) (p.map .int) [some ⟨t, .sh⟩, some ⟨encI pl, .sh⟩, some ⟨v.enc, .sh⟩, none, none] = .exc (xNoPlace pl) [some ⟨t, .sh⟩, some ⟨encI pl, .sh⟩, some ⟨w.enc, .sh⟩, none, none]
  | [], v => by rw [Tr.atZ]; rfl
  | k :: p, v => by
    rw [List.map_cons, forL_cons2, Tr.atZ]
    by_cases q : 0 ≤ k ∧ k < v.kids.length
    · have hlt : k.toNat < v.kids.length := by omega
      rw [if_pos q.1, List.getElem?_eq_getElem hlt]
      have ea : L2.atI (v.kids.map Tr.enc) k = some (v.kids[k.toNat]).enc := by
        have := atI_nat (xs := v.kids.map Tr.enc) (j := k.toNat) (v := (v.kids[k.toNat]).enc) (by rw [List.getElem?_map, List.getElem?_eq_getElem hlt]; rfl)
        rw [show ((k.toNat : Nat) : Int) = k by omega] at this
        exact this
      have st : optR (gN 3 (.int k) [some ⟨t, .sh⟩, some ⟨encI pl, .sh⟩, some ⟨v.enc, .sh⟩, none, none]) (m_piece_at_2_b1 Fx Fk) = .nx [some ⟨t, .sh⟩, some ⟨encI pl, .sh⟩, some ⟨(v.kids[k.toNat]).enc, .sh⟩, none, none] := by
        simp [m_piece_at_2_b1, hk v, q.1, q.2, ea]
      rw [st, turnR_nx]
      exact piece_loopZ hk hr t pl p v.kids[k.toNat]
    · have hn : (if 0 ≤ k then (v.kids[k.toNat]?).bind fun u => u.atZ p else none) = none := by
        by_cases q1 : 0 ≤ k
        · rw [if_pos q1, List.getElem?_eq_none (by omega)]; rfl
        · rw [if_neg q1]
      rw [hn]
      refine ⟨v, ?_⟩
      have st : optR (gN 3 (.int k) [some ⟨t, .sh⟩, some ⟨encI pl, .sh⟩, some ⟨v.enc, .sh⟩, none, none]) (m_piece_at_2_b1 Fx Fk) = .exc (xNoPlace pl) [some ⟨t, .sh⟩, some ⟨encI pl, .sh⟩, some ⟨v.enc, .sh⟩, none, none] := by
        by_cases q1 : 0 ≤ k
        · have q2 : ¬ k < v.kids.length := fun h => q ⟨q1, h⟩
          simp [m_piece_at_2_b1, hk v, q1, q2, sRaise_eq hr, xNoPlace]
        · simp [m_piece_at_2_b1, hk v, q1, sRaise_eq hr, xNoPlace]
      rw [st]
      rfl
theorem piece_at_Z {Fx Fk : FF} (hk : KidsSp Fk) (hr : Raises Fx) : PieceZ (fnF 5 2 (m_piece_at_2 Fx Fk)) := fun t p => by
  rw [m_piece_at_2_eq]
  have lp := piece_loopZ hk hr t.enc p p t
  cases h : t.atZ p with
  | some u =>
    rw [h] at lp
    unfold encI at lp ⊢
    simp [m_piece_at_2, lp]
  | none =>
    rw [h] at lp
    obtain ⟨w, lp⟩ := lp
    unfold encI at lp ⊢
    simp [m_piece_at_2, lp]
theorem PieceZ.sp {F : FF} (h : PieceZ F) : PieceSp F := fun t p u hu => by
  have := h t (toI p)
  rw [atZ_toI, hu, ← encP_I] at this
  exact this
def Tr.put (o : Tr) : List Nat → Tr → Tr
  | [], _ => o
  | k :: p, .knot n tk ks => .knot n tk (ks.set k (Tr.put o p ((ks[k]?).getD .void)))
  | _ :: _, t => t
def PutSp (n : Nat) (F : FF) : Prop := ∀ (t o u : Tr) (p : List Nat), p.length ≤ n → t.ok = true → t.at p = some u → F [some ⟨t.enc, .sh⟩, some ⟨encP p, .sh⟩, some ⟨o.enc, .sh⟩] = .ok (.sh (Tr.put o p t).enc) [none, none, none]
end GM
namespace GM
open PySem L2 GS
theorem at_cons {t u : Tr} {k : Nat} {p : List Nat} (h : t.at (k :: p) = some u) : ∃ n tk ks v, t = .knot n tk ks ∧ ks[k]? = some v ∧ v.at p = some u := by
  rw [Tr.at] at h
  cases t with
  | knot n tk ks =>
    cases hv : ks[k]? with
    | none => rw [show Tr.kids (.knot n tk ks) = ks from rfl, hv] at h; cases h
    | some v => rw [show Tr.kids (.knot n tk ks) = ks from rfl, hv] at h; exact ⟨n, tk, ks, v, rfl, hv, h⟩
  | _ => simp [Tr.kids] at h
theorem ixN_nat {n k : Nat} (h : k < n) : ixN n (k : Int) = some k := by
  unfold ixN
  simp [h]
theorem put_in_ok {n : Nat} {Fp : FF} (hp : ∀ m, m + 1 = n → PutSp m Fp) : PutSp n (fnF 4 3 (m_put_in Fp)) := fun t o u p hl ok hu => by
  rw [m_put_in_eq]
  cases p with
  | nil => simp [m_put_in, encP, Tr.put]
  | cons k p =>
    obtain ⟨nm, tk, ks, v, rfl, hv, hvu⟩ := at_cons hu
    obtain ⟨o1, o2, o3, o4, o5⟩ := knot_parts ok
    rw [List.length_cons] at hl
    obtain ⟨m, rfl⟩ : ∃ m, n = m + 1 := ⟨n - 1, by omega⟩
    have hlt : k < ks.length := (List.getElem?_eq_some_iff.mp hv).1
    have e := hp m rfl v o u p (by omega) (o5 v (List.mem_of_getElem? hv)) hvu
    have ea : L2.atI (ks.map Tr.enc) (k : Int) = some v.enc := atI_nat (by rw [List.getElem?_map, hv]; rfl)
    have ei : ixN ks.length (k : Int) = some k := ixN_nat hlt
    have c1 : cutD (.int (k : Int) :: p.map fun n : Nat => PyData.int (n : Int)) (some 1) none = p.map fun n : Nat => PyData.int (n : Int) := cutD_from _ 1
    have c3 : ∀ a b c d : D, cutD [a, b, c, d] none (some 3) = [a, b, c] := fun a b c d => cutD_to _ 3
    have z : 3 + 1 ≤ sizeLine := by decide
    have lp : ¬ ((p.length : Int) + 1 = 0) := by omega
    rw [Tr.put, hv, enc_knot, enc_knot, List.map_set]
    simp only [Option.getD_some]
    unfold encP at e ⊢
    simp [m_put_in, ea, ei, c1, c3, e, lp, z]
theorem law_put_ok {n : Nat} {Fp : FF} (hp : ∀ m, m + 1 = n → PutSp m Fp) : PutSp n (fnF 6 3 (m_law_put Fp)) := fun t o u p hl ok hu => by
  rw [m_law_put_eq]
  cases p with
  | nil =>
    have s := eqB_same (d := .tuple []) false rfl (by simp [PyData.depth, PyData.depthAll])
    simp [m_law_put, encP, Tr.put, s]
  | cons k p =>
    obtain ⟨nm, tk, ks, v, rfl, hv, hvu⟩ := at_cons hu
    obtain ⟨o1, o2, o3, o4, o5⟩ := knot_parts ok
    rw [List.length_cons] at hl
    obtain ⟨m, rfl⟩ : ∃ m, n = m + 1 := ⟨n - 1, by omega⟩
    have hlt : k < ks.length := (List.getElem?_eq_some_iff.mp hv).1
    have e := hp m rfl v o u p (by omega) (o5 v (List.mem_of_getElem? hv)) hvu
    have ea : L2.atI (ks.map Tr.enc) (k : Int) = some v.enc := atI_nat (by rw [List.getElem?_map, hv]; rfl)
    have c1 : cutD (.int (k : Int) :: p.map fun n : Nat => PyData.int (n : Int)) (some 1) none = p.map fun n : Nat => PyData.int (n : Int) := cutD_from _ 1
    have c3 : ∀ a b c d : D, cutD [a, b, c, d] none (some 3) = [a, b, c] := fun a b c d => cutD_to _ 3
    have c4 : cutD (ks.map Tr.enc) none (some (k : Int)) = (ks.map Tr.enc).take k := cutD_to _ k
    have c5 : cutD (ks.map Tr.enc) (some ((k : Int) + 1)) none = (ks.map Tr.enc).drop (k + 1) := cutD_from _ (k + 1)
    have z : 3 + 1 ≤ sizeLine := by decide
    have z1 : min k ks.length + 1 ≤ sizeLine := fits (by omega)
    have z2 : min k ks.length + 1 + (ks.length - (k + 1)) ≤ sizeLine := fits (by omega)
    have ne : eqB false (.tuple (.int (k : Int) :: p.map fun n : Nat => PyData.int (n : Int))) (.tuple []) = some (.sh (.bool false)) := by
      have := eqv_I ((k : Int) :: p.map fun n : Nat => (n : Int)) []
      rw [decide_eq_false (by simp)] at this
      unfold encI at this
      rw [List.map_cons, List.map_map, List.map_nil] at this
      rw [eqB_of false (okW_of (by
        rw [cleanB, cleanL]
        have : cleanL (p.map fun n : Nat => PyData.int (n : Int)) = true := cleanL_of fun d m => by obtain ⟨x, _, rfl⟩ := List.mem_map.mp m; rfl
        rw [this]; rfl) (by
        rw [PyData.depth, PyData.depthAll, PyData.depth]
        have := depthAll_of (ds := p.map fun n : Nat => PyData.int (n : Int)) (n := 0) fun d m => by obtain ⟨x, _, rfl⟩ := List.mem_map.mp m; exact Nat.le_refl _
        omega)) (okW_of rfl (by simp [PyData.depth, PyData.depthAll]))]
      rw [show (PyData.int ∘ fun n : Nat => (n : Int)) = fun n : Nat => PyData.int (n : Int) from rfl] at this
      rw [this]; rfl
    have hset : (ks.map Tr.enc).set k (Tr.put o p v).enc = (ks.map Tr.enc).take k ++ (Tr.put o p v).enc :: (ks.map Tr.enc).drop (k + 1) := by
      rw [List.set_eq_take_append_cons_drop, if_pos (by rw [List.length_map]; exact hlt)]
    rw [Tr.put, hv, enc_knot, enc_knot, List.map_set]
    simp only [Option.getD_some]
    rw [hset]
    unfold encP at e ⊢
    simp [m_law_put, ea, c1, c3, c4, c5, e, ne, z, z1, z2]
/-- what is put is at its place -/
theorem put_at_same : ∀ (p : List Nat) (t o u : Tr), t.at p = some u → (Tr.put o p t).at p = some o
  | [], t, o, u, _ => by rw [Tr.put, Tr.at]
  | k :: p, t, o, u, h => by
    obtain ⟨n, tk, ks, v, rfl, hv, hvu⟩ := at_cons h
    have hlt : k < ks.length := (List.getElem?_eq_some_iff.mp hv).1
    rw [Tr.put, Tr.at, show Tr.kids (.knot n tk (ks.set k (Tr.put o p ((ks[k]?).getD .void)))) = ks.set k (Tr.put o p ((ks[k]?).getD .void)) from rfl, List.getElem?_set_self hlt, hv]
    exact put_at_same p v o u hvu
theorem put_okT : ∀ (p : List Nat) (t o u : Tr), t.at p = some u → t.ok = true → o.ok = true → (Tr.put o p t).ok = true ∧ (Tr.put o p t).ht ≤ t.ht + o.ht
  | [], t, o, u, _, _, oo => by rw [Tr.put]; exact ⟨oo, by omega⟩
  | k :: p, t, o, u, h, ok, oo => by
    obtain ⟨n, tk, ks, v, rfl, hv, hvu⟩ := at_cons h
    obtain ⟨o1, o2, o3, o4, o5⟩ := knot_parts ok
    have mv : v ∈ ks := List.mem_of_getElem? hv
    obtain ⟨i1, i2⟩ := put_okT p v o u hvu (o5 v mv) oo
    have hm := ht_mem mv
    rw [Tr.put, hv, Option.getD_some]
    refine ⟨?_, ?_⟩
    · simp only [Tr.ok, Bool.and_eq_true, decide_eq_true_eq, List.length_set]
      refine ⟨o1, o2, o3, o4, okL_of fun w mw => ?_⟩
      rcases List.mem_or_eq_of_mem_set mw with mw | rfl
      · exact o5 w mw
      · exact i1
    · rw [Tr.ht, Tr.ht]
      have := htL_of (ts := ks.set k (Tr.put o p v)) (n := Tr.htL ks + o.ht) fun w mw => by
        rcases List.mem_or_eq_of_mem_set mw with mw | rfl
        · have := ht_mem mw; omega
        · omega
      omega
structure PutAtSp (n : Nat) (F : FF) : Prop where
  put : PutSp n F
  ref : ∀ (t o : Tr) (p : List Int), t.atZ p = none → F [some ⟨t.enc, .sh⟩, some ⟨encI p, .sh⟩, some ⟨o.enc, .sh⟩] = .exc (xNoPlace p) [none, none, none]
theorem put_at_ok {n : Nat} {Fp Fa : FF} (hp : PutSp n Fp) (ha : PieceZ Fa) : PutAtSp n (fnF 3 3 (m_put_at Fp Fa)) := ⟨fun t o u p hl ok hu => by
    rw [m_put_at_eq]
    have e1 := ha.sp t p u hu
    have e2 := hp t o u p hl ok hu
    simp [m_put_at, e1, e2], fun t o p h => by
    rw [m_put_at_eq]
    have e1 := ha t p
    rw [h] at e1
    dsimp only at e1
    simp [m_put_at, e1]⟩
theorem okW_I (p : List Int) : cleanB (encI p) = true ∧ (encI p).depth ≤ 190 := by
  unfold encI
  refine ⟨?_, ?_⟩
  · rw [cleanB]; exact cleanL_of fun d m => by obtain ⟨x, _, rfl⟩ := List.mem_map.mp m; rfl
  · rw [PyData.depth]
    have := depthAll_of (ds := p.map PyData.int) (n := 0) fun d m => by obtain ⟨x, _, rfl⟩ := List.mem_map.mp m; exact Nat.le_refl _
    omega
def RefSp (F : FF) : Prop := ∀ (t : Tr) (p : List Int) (b : Bool), t.atZ p = none → F [some ⟨t.enc, .sh⟩, some ⟨encI p, .sh⟩, some ⟨.bool b, .sh⟩] = .ok (.sh (.bool true)) [none, none, none]
theorem law_refused_ok {n : Nat} {Fp Fa : FF} (hp : PutAtSp n Fp) (ha : PieceZ Fa) : RefSp (fnF 6 3 (m_law_refused Fp Fa)) := fun t p b h => by
  rw [m_law_refused_eq]
  have e1 := ha t p
  rw [h] at e1
  dsimp only at e1
  have e2 := hp.ref t .void p h
  rw [Tr.enc] at e2
  have s := eqB_same false (okW_I p).1 (okW_I p).2
  have hx : xfR (ρ := [some ⟨t.enc, .sh⟩, some ⟨encI p, .sh⟩, some ⟨.bool b, .sh⟩, some ⟨xD (xNoPlace p), .sh⟩, none, some ⟨.bool false, .sh⟩]) ["NoPlace"] "place" (some (xD (xNoPlace p))) = .ok (.sh (encI p)) _ := xfR_x _ _ _ _ rfl rfl
  have i1 : ∀ ρ, isR (ρ := ρ) ["NoPlace"] [] (some (xD (xNoPlace p))) = .ok (.sh (.bool false)) ρ := fun ρ => isR_x _ _ _ rfl
  have i2 : ∀ ρ, isR (ρ := ρ) ["NoPlace"] ["NoPlace"] (some (xD (xNoPlace p))) = .ok (.sh (.bool true)) ρ := fun ρ => isR_x _ _ _ rfl
  have c1 : (xNoPlace p).cls = "NoPlace" := rfl
  cases b <;> simp [m_law_refused, e1, e2, c1, i1, i2, hx, s]
end GM
namespace GM
open PySem L2 GS
def isPlanN (b : Bk) : Nat → D → Bool
  | 0, _ => false
  | n + 1, d => match d with
    | .tuple [.str k, ps] => match putsP ps, b.treeOf k with
      | some L, some t => wellB b t L && L.all fun x => isPlanN b n (krD x.2)
      | _, _ => false
    | _ => false
/-- what is_plan may be asked of -/
def preP : Nat → D → Prop
  | 0, d => ∀ k ps, d ≠ .tuple [.str k, ps]
  | n + 1, d => ∀ k ps L, d = .tuple [.str k, ps] → putsP ps = some L → L.length ≤ 100000 ∧ ∀ x ∈ L, PyData.strOk x.2.1 = true ∧ preP n (krD x.2)
structure BkZ (n : Nat) (b : Bk) : Prop where
  s : BkS n b
  z : ∀ p ∈ b.trees, p.2.pieces.length ≤ 1000
section
variable {Fi Fw Ft Fa : FF}
end
theorem lexLt_places : ∀ t : Tr, (t.places.map toI).Pairwise fun p q => HT.lexLt p q = true := fun t => by
  have gen : ∀ n : Nat, (∀ t : Tr, t.ht ≤ n → (t.places.map toI).Pairwise fun p q => HT.lexLt p q = true) := fun n => by
    induction n with
    | zero =>
      intro t h
      cases t with
      | knot a b c => rw [Tr.ht] at h; omega
      | _ => simp [Tr.places]
    | succ n ih =>
      intro t h
      have hk : ∀ u ∈ t.kids, u.ht ≤ n := fun u mu => by
        cases t with
        | knot a b c =>
          rw [Tr.ht] at h
          have := ht_mem (ts := c) mu
          omega
        | _ => simp [Tr.kids] at mu
      have kd : ∀ (ts : List Tr) (j : Nat), (∀ u ∈ ts, u.ht ≤ n) → ((Tr.placesL j ts).map toI).Pairwise (fun p q => HT.lexLt p q = true) ∧ ∀ p ∈ Tr.placesL j ts, ∃ k r, p = k :: r ∧ j ≤ k := fun ts => by
        induction ts with
        | nil => intro j _; exact ⟨by simp [Tr.placesL], fun p m => by simp [Tr.placesL] at m⟩
        | cons u ts ih2 =>
          intro j hu
          obtain ⟨g1, g2⟩ := ih2 (j + 1) fun u m => hu u (by simp [m])
          rw [Tr.placesL]
          constructor
          · rw [List.map_append, List.pairwise_append]
            refine ⟨?_, g1, ?_⟩
            · have := ih u (hu u (by simp))
              rw [List.map_map]
              rw [List.pairwise_map] at this ⊢
              refine this.imp fun {p q} l => ?_
              show HT.lexLt ((j : Int) :: toI p) ((j : Int) :: toI q) = true
              rw [HT.lexLt_cons, if_pos rfl]
              exact l
            · intro p mp q mq
              obtain ⟨p', mp', rfl⟩ := List.mem_map.mp mp
              obtain ⟨p'', _, rfl⟩ := List.mem_map.mp mp'
              obtain ⟨q', mq', rfl⟩ := List.mem_map.mp mq
              obtain ⟨k, r, rfl, hk⟩ := g2 q' mq'
              show HT.lexLt ((j : Int) :: toI p'') ((k : Int) :: toI r) = true
              rw [HT.lexLt_cons, if_neg (by omega), decide_eq_true_eq]
              omega
          · intro p mp
            rcases List.mem_append.mp mp with mp | mp
            · obtain ⟨p', _, rfl⟩ := List.mem_map.mp mp
              exact ⟨j, p', rfl, Nat.le_refl _⟩
            · obtain ⟨k, r, e, hk⟩ := g2 p mp
              exact ⟨k, r, e, by omega⟩
      obtain ⟨g1, g2⟩ := kd t.kids 0 hk
      rw [places_kids, List.map_cons]
      refine .cons (fun q mq => ?_) g1
      obtain ⟨q', mq', rfl⟩ := List.mem_map.mp mq
      obtain ⟨k, r, rfl, _⟩ := g2 q' mq'
      rfl
  exact gen t.ht t (Nat.le_refl _)
/-- a put as a datum -/
def ptOf (x : List Nat × Pl) : Pt := (toI x.1, x.2.key, .tuple (x.2.puts.map Pl.encX))
theorem ptOf_enc (x : List Nat × Pl) : Pl.encX x = encPt (ptOf x) := by
  rw [pencX_eq, encP_I, penc_eq]
  rfl
theorem krD_pt (x : List Nat × Pl) : krD (ptOf x).2 = x.2.enc := by rw [penc_eq]; rfl
theorem goP_of : ∀ (ps : List (List Nat × Pl)) (a : Option (List Int)), (∀ x ∈ ps, ltO a (toI x.1) = true) → (ps.map fun x => toI x.1).Pairwise (fun p q => HT.lexLt p q = true) → goP a (ps.map Pl.encX) = some (ps.map ptOf)
  | [], _, _, _ => rfl
  | x :: ps, a, h1, h2 => by
    rw [List.map_cons] at h2
    cases h2 with
    | cons q1 q2 =>
      have r := goP_of ps (some (toI x.1)) (fun y my => q1 _ (List.mem_map_of_mem (f := fun x : List Nat × Pl => toI x.1) my)) q2
      rw [List.map_cons, goP, ptOf_enc, putP_enc]
      dsimp only
      rw [show (ptOf x).1 = toI x.1 from rfl, h1 x (by simp), if_pos rfl, r]
      rfl
theorem PutsOk.sub {b : Bk} : ∀ {us : List (List Nat × Tr)} {ps : List (List Nat × Pl)}, PutsOk b us ps → (ps.map (·.1)).Sublist (us.map (·.1))
  | _, _, .nil => .slnil
  | _, _, .skip _ r => (PutsOk.sub r).cons _
  | _, _, .put _ _ r => (PutsOk.sub r).cons₂ _
theorem getI_no {ps : List (List Nat × Pl)} {p : List Nat} (h : p ∉ ps.map (·.1)) : getI (ps.map ptOf) (toI p) = none := by
  unfold getI
  rw [Option.map_eq_none_iff, List.find?_eq_none]
  intro x mx
  obtain ⟨y, my, rfl⟩ := List.mem_map.mp mx
  simp only [decide_eq_true_eq]
  intro e
  exact h (by rw [← toI_inj e]; exact List.mem_map_of_mem my)
theorem PutsOk.at {b : Bk} : ∀ {us : List (List Nat × Tr)} {ps : List (List Nat × Pl)}, PutsOk b us ps → (us.map (·.1)).Nodup → ∀ x ∈ us, okAt b (ps.map ptOf) x = true
  | _, _, .nil, _, x, m => by cases m
  | _, _, .skip (p := p) (u := u) (us := us) (ps := ps) hm r, nd, x, m => by
    rw [List.map_cons, List.nodup_cons] at nd
    rcases List.mem_cons.mp m with rfl | m
    · unfold okAt
      rw [getI_no fun m => nd.1 ((PutsOk.sub r).subset m), hm]
      rfl
    · exact PutsOk.at r nd.2 x m
  | _, _, .put (p := p) (u := u) (q := q) (us := us) (ps := ps) hk _ r, nd, x, m => by
    rw [List.map_cons, List.nodup_cons] at nd
    rcases List.mem_cons.mp m with rfl | m
    · unfold okAt getI
      rw [List.map_cons, List.find?_cons, show decide ((ptOf (p, q)).1 = toI p) = true from decide_eq_true rfl]
      exact decide_eq_true hk
    · have r := PutsOk.at r nd.2 x m
      have ne : ¬ (ptOf (p, q)).1 = toI x.1 := fun e => nd.1 (by
        have : p = x.1 := toI_inj e
        rw [this]
        exact List.mem_map.mpr ⟨x, m, rfl⟩)
      unfold okAt getI at r ⊢
      rw [List.map_cons, List.find?_cons, decide_eq_false ne]
      exact r
theorem pps_places (t : Tr) : (t.pps []).map (·.1) = t.places := by rw [pps_fst]; simp
theorem well_of {b : Bk} {t : Tr} {ps : List (List Nat × Pl)} (h : PutsOk b (t.pps []) ps) : wellB b t (ps.map ptOf) = true := by
  have hr := lexLt_places t
  have nd : ((t.pps []).map (·.1)).Nodup := by
    rw [pps_places]
    exact List.Pairwise.of_map toI (fun a b h e => h (by rw [e])) (rising_nodup hr)
  unfold wellB
  rw [Bool.and_eq_true, List.all_eq_true, List.all_eq_true]
  refine ⟨fun x m => h.at nd x m, fun x m => ?_⟩
  obtain ⟨y, my, rfl⟩ := List.mem_map.mp m
  refine decide_eq_true ?_
  refine List.mem_map_of_mem (f := toI) ?_
  rw [← pps_places]
  exact h.sub.subset (List.mem_map_of_mem my)
theorem puts_of {b : Bk} {t : Tr} {ps : List (List Nat × Pl)} (h : PutsOk b (t.pps []) ps) : putsP (.tuple (ps.map Pl.encX)) = some (ps.map ptOf) := by
  refine goP_of ps none (fun _ _ => rfl) ?_
  have hr := lexLt_places t
  rw [← pps_places] at hr
  have := hr.sublist (h.sub.map toI)
  rw [List.map_map] at this
  exact this
theorem depX_le {ps : List (List Nat × Pl)} {n : Nat} (h : Pl.depL ps ≤ n) : ∀ x ∈ ps, x.2.dep ≤ n := by
  induction ps with
  | nil => intro x m; cases m
  | cons y ps ih =>
    intro x m
    obtain ⟨p, q⟩ := y
    rw [Pl.depL, Pl.depX] at h
    rcases List.mem_cons.mp m with rfl | m
    · show q.dep ≤ n
      omega
    · exact ih (by omega) x m
theorem PutsOk.each {b : Bk} : ∀ {us : List (List Nat × Tr)} {ps : List (List Nat × Pl)}, PutsOk b us ps → ∀ x ∈ ps, PlOk b x.2
  | _, _, .nil, x, m => by cases m
  | _, _, .skip _ r, x, m => PutsOk.each r x m
  | _, _, .put _ o r, x, m => by
    rcases List.mem_cons.mp m with rfl | m
    · exact o
    · exact PutsOk.each r x m
theorem PlOk.is {b : Bk} : ∀ {n : Nat} {q : Pl}, PlOk b q → q.dep ≤ n → isPlanN b n q.enc = true
  | 0, .mk k ps, _, h => by rw [Pl.dep] at h; omega
  | n + 1, .mk k ps, .mk e r, h => by
    rw [Pl.dep] at h
    rw [penc_eq]
    unfold isPlanN
    dsimp only [Pl.key, Pl.puts]
    rw [puts_of r, e]
    dsimp only
    rw [well_of r, Bool.true_and, List.all_eq_true]
    intro x m
    obtain ⟨y, my, rfl⟩ := List.mem_map.mp m
    rw [krD_pt]
    exact PlOk.is (r.each y my) (depX_le (by omega) y my)
theorem PlOk.keyIn {b : Bk} {q : Pl} (h : PlOk b q) : ∃ t, b.treeOf q.key = some t := by
  cases h with
  | mk e _ => exact ⟨_, e⟩
theorem PlOk.pre {h : Nat} {b : Bk} (B : BkZ h b) : ∀ {n : Nat} {q : Pl}, PlOk b q → q.dep ≤ n → preP n q.enc
  | 0, .mk k ps, _, h => by rw [Pl.dep] at h; omega
  | n + 1, .mk k ps, .mk (t := t) e r, h => by
    rw [Pl.dep] at h
    rw [penc_eq]
    intro k' ps' L eq hL
    dsimp only [Pl.key, Pl.puts] at eq
    injection eq with eq
    injection eq with e1 eq
    injection eq with e2 _
    rw [← e2, puts_of r] at hL
    cases hL
    constructor
    · have h1 := r.sub.length_le
      have h2 := B.z _ (treeOf_in e)
      rw [List.length_map, List.length_map, pps_len] at h1
      dsimp only at h2
      rw [List.length_map]
      omega
    · intro x m
      obtain ⟨y, my, rfl⟩ := List.mem_map.mp m
      have o := r.each y my
      obtain ⟨t', et⟩ := o.keyIn
      refine ⟨B.s.so _ (treeOf_in et), ?_⟩
      rw [krD_pt]
      exact PlOk.pre B o (depX_le (by omega) y my)
end GM
namespace GM
open PySem L2 GS
theorem intsL_I (p : List Int) : intsL (p.map .int) = some p := by
  induction p with
  | nil => rfl
  | cons b bs ih => rw [List.map_cons]; unfold intsL; rw [ih]; rfl
theorem tupsI_places (ps : List (List Nat)) : tupsI (ps.map encP) = some (ps.map toI) := by
  induction ps with
  | nil => rfl
  | cons p ps ih =>
    rw [List.map_cons, encP_I]
    unfold encI
    rw [tupsI, intsL_I, ih]
    rfl
theorem lexLt_asym {p q : List Int} (h : HT.lexLt p q = true) : HT.lexLt q p = false := by
  cases e : HT.lexLt q p with
  | false => rfl
  | true => have := lexLt_trans h e; rw [lexLt_irr] at this; cases this
theorem srtB_of : ∀ {L : List (List Int)}, L.Pairwise (fun p q => HT.lexLt p q = true) → srtB L = true
  | [], _ => rfl
  | p :: L, .cons h t => by
    rw [srtB, srtB_of t, Bool.and_true, List.all_eq_true]
    intro q m
    rw [lexLt_asym (h q m)]; rfl
theorem sortU_places (t : Tr) : sortU (.list (t.places.map encP)) = some (.fr (.list (t.places.map encP))) := by
  have h1 : strsD (t.places.map encP) = none := by rw [places_kids]; rfl
  have h2 := tupsI_places t.places
  have h3 := srtB_of (lexLt_places t)
  have h4 : t.places.map toI = [] :: (Tr.placesL 0 t.kids).map toI := by rw [places_kids]; rfl
  show (match strsD (t.places.map encP) with
    | some ss => some (Hd.fr (.list ((sortSs ss).map .str)))
    | none => sortT (.list (t.places.map encP))) = _
  rw [h1]
  show sortT (.list (t.places.map encP)) = _
  unfold sortT
  dsimp only
  rw [h2, h4]
  dsimp only
  rw [← h4, h3]
  rfl
theorem pps_pre {t : Tr} {q : List Nat} {x : List Nat × Tr} (m : x ∈ t.pps q) : ∃ s, x.1 = q ++ s := by
  have : x.1 ∈ (t.pps q).map (·.1) := List.mem_map_of_mem m
  rw [pps_fst] at this
  obtain ⟨s, _, e⟩ := List.mem_map.mp this
  exact ⟨s, e.symm⟩
theorem ppsL_pre {q : List Nat} {x : List Nat × Tr} : ∀ {ts : List Tr} {j : Nat}, x ∈ Tr.ppsL q j ts → ∃ m s, x.1 = q ++ m :: s ∧ j ≤ m
  | t :: ts, j, m => by
    rw [Tr.ppsL] at m
    rcases List.mem_append.mp m with m | m
    · obtain ⟨s, e⟩ := pps_pre m
      exact ⟨j, s, by rw [e]; simp, Nat.le_refl _⟩
    · obtain ⟨i, s, e, h⟩ := ppsL_pre m
      exact ⟨i, s, e, by omega⟩
theorem pre_ne {r p s : List Nat} {i j : Nat} (h : i ≠ j) : ¬ (r ++ i :: s).take (r ++ j :: p).length = r ++ j :: p := fun e => by
  have h2 : r ++ i :: s = (r ++ j :: p) ++ (r ++ i :: s).drop (r ++ j :: p).length := by
    conv => lhs; rw [← List.take_append_drop (r ++ j :: p).length (r ++ i :: s), e]
  rw [List.append_assoc] at h2
  have h3 := List.append_cancel_left h2
  rw [List.cons_append] at h3
  exact h (List.cons.inj h3).1
def withinB (q : List Nat) (x : List Nat × Tr) : Bool := decide (x.1.take q.length = q)
theorem ppsL_within (r p : List Nat) (v : Tr) : ∀ (ts : List Tr) (j k : Nat), ts[k]? = some v → (Tr.ppsL r j ts).filter (withinB (r ++ (j + k) :: p)) = (v.pps (r ++ [j + k])).filter (withinB (r ++ (j + k) :: p))
  | t :: ts, j, 0, h => by
    cases h
    rw [Tr.ppsL, List.filter_append, Nat.add_zero]
    have h0 : (Tr.ppsL r (j + 1) ts).filter (withinB (r ++ j :: p)) = [] := List.filter_eq_nil_iff.mpr fun x m => by
      obtain ⟨i, s, e, hi⟩ := ppsL_pre m
      unfold withinB
      rw [e, decide_eq_true_eq]
      exact pre_ne (by omega)
    rw [h0, List.append_nil]
  | t :: ts, j, k + 1, h => by
    have ih := ppsL_within r p v ts (j + 1) k h
    rw [Tr.ppsL, List.filter_append]
    have h0 : (t.pps (r ++ [j])).filter (withinB (r ++ (j + 1 + k) :: p)) = [] := List.filter_eq_nil_iff.mpr fun x m => by
      obtain ⟨s, e⟩ := pps_pre m
      unfold withinB
      rw [e, decide_eq_true_eq, List.append_assoc]
      exact pre_ne (by omega)
    rw [show j + (k + 1) = j + 1 + k by omega, ih, h0, List.nil_append]
theorem pps_within : ∀ (p : List Nat) (t u : Tr) (r : List Nat), t.at p = some u → (t.pps r).filter (withinB (r ++ p)) = u.pps (r ++ p)
  | [], t, u, r, h => by
    rw [Tr.at] at h
    cases h
    rw [List.append_nil]
    refine List.filter_eq_self.mpr fun x m => ?_
    obtain ⟨s, e⟩ := pps_pre m
    unfold withinB
    rw [e, decide_eq_true_eq, List.take_left]
  | k :: p, t, u, r, h => by
    obtain ⟨n, tk, ks, v, rfl, hv, hvu⟩ := at_cons h
    have ih := pps_within p v u (r ++ [k]) hvu
    have hl := ppsL_within r p v ks 0 k hv
    rw [Nat.zero_add] at hl
    rw [Tr.pps, List.filter_cons_of_neg, hl]
    · rw [List.append_assoc] at ih
      exact ih
    · unfold withinB
      rw [decide_eq_true_eq]
      intro e
      have := congrArg List.length e
      simp at this
      try omega
theorem signs_okS {t : Tr} (h : t.ok = true) : ∀ s ∈ t.signs, signB s = true := fun s m => by
  unfold Tr.signs at m
  obtain ⟨u, mu, e⟩ := List.mem_filterMap.mp m
  have := piece_ok h u mu
  cases u <;> first | (cases e; done) | skip
  cases e
  exact this
theorem eqB_P (neg : Bool) (p q : List Nat) : eqB neg (encP p) (encP q) = some (.sh (.bool (neg ^^ decide (p = q)))) := by
  rw [eqB_of neg (okW_of (encP_clean p).1 (by have := (encP_clean p).2; omega)) (okW_of (encP_clean q).1 (by have := (encP_clean q).2; omega)), encP_I, encP_I, eqv_I]
  congr 4
  by_cases h : p = q
  · simp [h]
  · simp [h]
    exact fun e => h (toI_inj e)
theorem mem_at {t u : Tr} {p : List Nat} (h : t.at p = some u) : p ∈ t.places := by
  have h2 := pps_within p t u [] h
  rw [List.nil_append] at h2
  have h3 : (p, u) ∈ u.pps p := by cases u <;> simp [Tr.pps]
  rw [← h2] at h3
  have h4 := (List.mem_filter.mp h3).1
  have h5 : p ∈ (t.pps []).map (·.1) := List.mem_map.mpr ⟨_, h4, rfl⟩
  rw [pps_fst] at h5
  simpa using h5
end GM
namespace GM
open PySem L2 GS
/-- law(script); slots 0:script 1:tree 2:other 3:due 4:told 5:cell 6:place 7:piece 8:mine 9:signs 10:spot 11:number 12:bent 13:there 14:one -/
def m_law_k03_2_ce1 (F_put_at F_piece_at F__law_refused F_places F__law_put F_signs_of F__law_all F__law_tree : FF) : EF := (eMv 14)
def m_law_k03_2_ce2 (F_put_at F_piece_at F__law_refused F_places F__law_put F_signs_of F__law_all F__law_tree : FF) : EF := (eMv 10)
def m_law_k03_2_b3 (F_put_at F_piece_at F__law_refused F_places F__law_put F_signs_of F__law_all F__law_tree : FF) : SF := (sKill [5, 6, 10, 11, 12, 13] (sSeq (sSet 6 (eBin ixA (eBin ixA (eVb 3) (eBin modD (eVb 5) (eCB (un1 lenD) (aCons (eVb 3) aNil)))) (eC (.int 0)))) (sSeq (sIf (eB (eBin (eqB true) (eCall 3 none F_put_at (aCons (eMv 1) (aCons (eMv 6) (aCons (eMv 2) aNil)))) (eCall 3 none F__law_put (aCons (eMv 1) (aCons (eMv 6) (aCons (eMv 2) aNil)))))) (sEnd (sRet (eC (.bool false)))) sNil) (sSeq (sIf (eB (eBin (eqB true) (eCall 1 none F_places (aCons (eMv 1) aNil)) (eLc [10, 14] (iSq (eMv 3)) (gT 2 (gsC (gN 10) (gsC (gN 14) gsN))) (eNox eYes) (eNox (m_law_k03_2_ce2 F_put_at F_piece_at F__law_refused F_places F__law_put F_signs_of F__law_all F__law_tree))))) (sEnd (sRet (eC (.bool false)))) sNil) (sSeq (sSet 10 (eBin modD (eBin divD (eVb 5) (eC (.int 5))) (eBin addD (eCB (un1 lenD) (aCons (eVb 6) aNil)) (eC (.int 1))))) (sSeq (sSet 11 (eBin ixA (eLst (aCons (eNeg (eC (.int 1))) (aCons (eC (.int 0)) (aCons (eC (.int 1)) (aCons (eC (.int 3)) (aCons (eC (.int 8)) (aCons (eNeg (eC (.int 3))) (aCons (eBin powD (eC (.int 10)) (eC (.int 18))) aNil)))))))) (eBin modD (eBin divD (eVb 5) (eC (.int 11))) (eC (.int 7))))) (sSeq (sSet 12 (eBin addD (eBin addD (eSl (eVb 6) none (some (eVb 10))) (eTup (aCons (eMv 11) aNil))) (eSl (eVb 6) (some (eBin addD (eVb 10) (eBin modD (eBin divD (eVb 5) (eC (.int 2))) (eC (.int 2))))) none))) (sSeq (sSet 13 (eBin (inB false) (eVb 12) (eLc [14, 7] (iSq (eMv 3)) (gT 2 (gsC (gN 14) (gsC (gN 7) gsN))) (eNox eYes) (eNox (m_law_k03_2_ce1 F_put_at F_piece_at F__law_refused F_places F__law_put F_signs_of F__law_all F__law_tree))))) (sSeq (sIf (eAnd (eNot (eB (eVb 13))) (eNot (eB (eCall 3 none F__law_refused (aCons (eMv 1) (aCons (eMv 12) (aCons (eBin (eqB false) (eBin modD (eVb 5) (eC (.int 2))) (eC (.int 0))) aNil))))))) (sEnd (sRet (eC (.bool false)))) sNil) (sIf (eAnd (eB (eVb 13)) (eB (eBin (eqB true) (eCall 2 none F_piece_at (aCons (eCall 3 none F_put_at (aCons (eMv 1) (aCons (eMv 12) (aCons (eMv 2) aNil)))) (aCons (eMv 12) aNil))) (eVb 2)))) (sEnd (sRet (eC (.bool false)))) sNil))))))))))
def m_law_k03_2_ct4 (F_put_at F_piece_at F__law_refused F_places F__law_put F_signs_of F__law_all F__law_tree : FF) : EF := (eB (eBin (eqB false) (eBin ixA (eVb 14) (eC (.int 0))) (eC (.str (Str.ofString "sign")))))
def m_law_k03_2_ce5 (F_put_at F_piece_at F__law_refused F_places F__law_put F_signs_of F__law_all F__law_tree : FF) : EF := (eBin ixA (eVb 14) (eC (.int 1)))
def m_law_k03_2_ct6 (F_put_at F_piece_at F__law_refused F_places F__law_put F_signs_of F__law_all F__law_tree : FF) : EF := (eB (eBin (eqB false) (eSl (eVb 10) none (some (eCB (un1 lenD) (aCons (eVb 6) aNil)))) (eVb 6)))
def m_law_k03_2_ce7 (F_put_at F_piece_at F__law_refused F_places F__law_put F_signs_of F__law_all F__law_tree : FF) : EF := (eMv 14)
def m_law_k03_2_b8 (F_put_at F_piece_at F__law_refused F_places F__law_put F_signs_of F__law_all F__law_tree : FF) : SF := (sKill [6, 7, 8, 9] (sSeq (sSet 8 (eLc [10, 14] (iSq (eMv 3)) (gT 2 (gsC (gN 10) (gsC (gN 14) gsN))) (eNox (m_law_k03_2_ct6 F_put_at F_piece_at F__law_refused F_places F__law_put F_signs_of F__law_all F__law_tree)) (eNox (m_law_k03_2_ce7 F_put_at F_piece_at F__law_refused F_places F__law_put F_signs_of F__law_all F__law_tree)))) (sSeq (sSet 9 (eCB (un1 tupleD) (aCons (eLc [14] (iSq (eMv 8)) (gN 14) (eNox (m_law_k03_2_ct4 F_put_at F_piece_at F__law_refused F_places F__law_put F_signs_of F__law_all F__law_tree)) (eNox (m_law_k03_2_ce5 F_put_at F_piece_at F__law_refused F_places F__law_put F_signs_of F__law_all F__law_tree))) aNil))) (sIf (eOr (eB (eBin (eqB true) (eCall 2 none F_piece_at (aCons (eMv 1) (aCons (eMv 6) aNil))) (eVb 7))) (eB (eBin (eqB true) (eCall 1 none F_signs_of (aCons (eMv 7) aNil)) (eVb 9)))) (sEnd (sRet (eC (.bool false)))) sNil))))
def m_law_k03_2_ce9 (F_put_at F_piece_at F__law_refused F_places F__law_put F_signs_of F__law_all F__law_tree : FF) : EF := (eMv 6)
def m_law_k03_2 (F_put_at F_piece_at F__law_refused F_places F__law_put F_signs_of F__law_all F__law_tree : FF) : SF := (sSeq (sSet 1 (eCallF 2 F__law_tree (eDct (dCons (eC (.str (Str.ofString "script"))) (eSl (eVb 0) none (some (eC (.int 40)))) (dCons (eC (.str (Str.ofString "at"))) (eC (.int 0)) dNil))) (aCons (eC (.int 4)) aNil))) (sSeq (sSet 2 (eCallF 2 F__law_tree (eDct (dCons (eC (.str (Str.ofString "script"))) (eSl (eVb 0) (some (eC (.int 3))) (some (eC (.int 12)))) (dCons (eC (.str (Str.ofString "at"))) (eC (.int 0)) dNil))) (aCons (eC (.int 2)) aNil))) (sSeq (sSet 3 (eCall 2 none F__law_all (aCons (eMv 1) (aCons (eTup aNil) aNil)))) (sSeq (sSet 4 (eCall 1 none F_places (aCons (eMv 1) aNil))) (sSeq (sIf (eOr (eNot (eB (eIsi isLst (eVb 4)))) (eOr (eB (eBin (eqB true) (eVb 4) (eLc [6, 7] (iSq (eMv 3)) (gT 2 (gsC (gN 6) (gsC (gN 7) gsN))) (eNox eYes) (eNox (m_law_k03_2_ce9 F_put_at F_piece_at F__law_refused F_places F__law_put F_signs_of F__law_all F__law_tree))))) (eB (eBin (eqB true) (eVb 4) (eCB (un1 sortU) (aCons (eVb 4) aNil)))))) (sEnd (sRet (eC (.bool false)))) sNil) (sSeq (sApp 4 (eTup (aCons (eC (.int 9)) aNil))) (sSeq (sFor (iSq (eMv 3)) (gT 2 (gsC (gN 6) (gsC (gN 7) gsN))) (m_law_k03_2_b8 F_put_at F_piece_at F__law_refused F_places F__law_put F_signs_of F__law_all F__law_tree)) (sSeq (sFor (iSq (eIf (eB (eBin (ltI fun i j => decide (j < i)) (eCB (un1 lenD) (aCons (eVb 0) aNil)) (eC (.int 0)))) (eSl (eVb 0) none (some (eC (.int 8)))) (eLst (aCons (eC (.int 0)) aNil)))) (gN 5) (m_law_k03_2_b3 F_put_at F_piece_at F__law_refused F_places F__law_put F_signs_of F__law_all F__law_tree)) (sEnd (sRet (eC (.bool true))))))))))))
theorem m_law_k03_2_eq (F_put_at F_piece_at F__law_refused F_places F__law_put F_signs_of F__law_all F__law_tree : FF) (ρ : Rho) : fnF 15 1 (m_law_k03_2 F_put_at F_piece_at F__law_refused F_places F__law_put F_signs_of F__law_all F__law_tree) ρ = finR 1 (m_law_k03_2 F_put_at F_piece_at F__law_refused F_places F__law_put F_signs_of F__law_all F__law_tree (ρ ++ [none, none, none, none, none, none, none, none, none, none, none, none, none, none])) := fnF_eq 15 1 _
end GM
namespace GM
open PySem L2 GS
section
variable {Fpa Fa Fr Fp Fl Fs Fal Ft : FF}
def rK03 (sc : D) (t o : Tr) (tl : D) : Rho := [some ⟨sc, .sh⟩, some ⟨t.enc, .sh⟩, some ⟨o.enc, .sh⟩, some ⟨.list ((t.pps []).map encPT), .sh⟩, some ⟨tl, .ow⟩, none, none, none, none, none, none, none, none, none, none]
theorem k03_b8 (ha : PieceZ Fa) (hs : SignsSp 4 Fs) (sc tl : D) (t o : Tr) (ok : t.ok = true) (hh : t.ht ≤ 4) (hz : t.pieces.length ≤ 6561) (x : List Nat × Tr) (mx : x ∈ t.pps []) :
    optR (gT 2 (gsC (gN 6) (gsC (gN 7) gsN)) (encPT x) (rK03 sc t o tl)) (m_law_k03_2_b8 Fpa Fa Fr Fp Fl Fs Fal Ft) = .nx (rK03 sc t o tl) := by
  have hat := pps_at t x mx
  have pl := pps_len t []
  have mu : x.2 ∈ t.pieces := by rw [← pps_snd t []]; exact List.mem_map_of_mem mx
  have uok := piece_ok ok x.2 mu
  have hw := pps_within x.1 t x.2 [] hat
  rw [List.nil_append] at hw
  -- heights and sizes of a piece
  have hsz : x.2.pieces.length ≤ 6561 := by
    rw [← pps_len x.2 x.1, ← hw]
    exact Nat.le_trans (List.length_filter_le _ _) (by omega)
  have huh : x.2.ht ≤ 4 := by
    have gen : ∀ (p : List Nat) (t u : Tr), t.at p = some u → u.ht ≤ t.ht := fun p => by
      induction p with
      | nil => intro t u h; rw [Tr.at] at h; cases h; omega
      | cons k p ih =>
        intro t u h
        obtain ⟨n, tk, ks, v, rfl, hv, hvu⟩ := at_cons h
        have h1 := ih v u hvu
        have h2 := ht_mem (List.mem_of_getElem? hv)
        rw [Tr.ht]; omega
    have := gen _ _ _ hat
    omega
  have e1 := ha.sp t x.1 x.2 hat
  have e2 := hs x.2 huh (by omega)
  have s1 := eqB_same true (clean_enc x.2 uok) (by have := depth_enc x.2; omega)
  have s2 := eqB_same (d := .tuple (x.2.signs.map .str)) true (by
    rw [cleanB]
    exact cleanL_of fun d m => by obtain ⟨s, ms, rfl⟩ := List.mem_map.mp m; exact signB_strOk (signs_okS uok s ms)) (by
    rw [PyData.depth]
    have := depthAll_of (ds := x.2.signs.map PyData.str) (n := 0) fun d m => by obtain ⟨f, _, rfl⟩ := List.mem_map.mp m; exact Nat.le_refl _
    omega)
  have l1 := lcL_up (vs := [10, 14]) (g := gT 2 (gsC (gN 10) (gsC (gN 14) gsN))) (ft := eNox (m_law_k03_2_ct6 Fpa Fa Fr Fp Fl Fs Fal Ft)) (fe := eNox (m_law_k03_2_ce7 Fpa Fa Fr Fp Fl Fs Fal Ft))
    [some ⟨sc, .sh⟩, some ⟨t.enc, .sh⟩, some ⟨o.enc, .sh⟩, some ⟨.list ((t.pps []).map encPT), .sh⟩, some ⟨tl, .ow⟩, none, some ⟨encP x.1, .sh⟩, some ⟨x.2.enc, .sh⟩, none, none, none, none, none, none, none] encPT
    (fun y => [some ⟨sc, .sh⟩, some ⟨t.enc, .sh⟩, some ⟨o.enc, .sh⟩, some ⟨.list ((t.pps []).map encPT), .sh⟩, some ⟨tl, .ow⟩, none, some ⟨encP x.1, .sh⟩, some ⟨x.2.enc, .sh⟩, none, none, some ⟨encP y.1, .sh⟩, none, none, none, some ⟨y.2.enc, .sh⟩]) (withinB x.1) (fun y => y.2.enc) (t.pps []) [] (fits (by simp; omega)) (fun y my => by
      have c := cutD_to (y.1.map fun n : Nat => PyData.int (n : Int)) x.1.length
      have q := eqB_P false (y.1.take x.1.length) x.1
      rw [Bool.false_xor] at q
      have q' : eqB false (.tuple ((y.1.map fun n : Nat => PyData.int (n : Int)).take x.1.length)) (.tuple (x.1.map fun n : Nat => PyData.int (n : Int))) = some (.sh (.bool (withinB x.1 y))) := by
        rw [← List.map_take]; exact q
      generalize withinB x.1 y = w at q'
      unfold encPT encP
      cases w <;> simp [m_law_k03_2_ct6, m_law_k03_2_ce7, c, q'])
  rw [List.nil_append, hw, show (x.2.pps x.1).map (fun y => y.2.enc) = x.2.pieces.map Tr.enc by rw [← pps_snd x.2 x.1, List.map_map]; rfl] at l1
  have l2 := lcL_up (vs := [14]) (g := gN 14) (ft := eNox (m_law_k03_2_ct4 Fpa Fa Fr Fp Fl Fs Fal Ft)) (fe := eNox (m_law_k03_2_ce5 Fpa Fa Fr Fp Fl Fs Fal Ft))
    [some ⟨sc, .sh⟩, some ⟨t.enc, .sh⟩, some ⟨o.enc, .sh⟩, some ⟨.list ((t.pps []).map encPT), .sh⟩, some ⟨tl, .ow⟩, none, some ⟨encP x.1, .sh⟩, some ⟨x.2.enc, .sh⟩, some ⟨.list (x.2.pieces.map Tr.enc), .sh⟩, none, none, none, none, none, none] Tr.enc
    (fun u => [some ⟨sc, .sh⟩, some ⟨t.enc, .sh⟩, some ⟨o.enc, .sh⟩, some ⟨.list ((t.pps []).map encPT), .sh⟩, some ⟨tl, .ow⟩, none, some ⟨encP x.1, .sh⟩, some ⟨x.2.enc, .sh⟩, some ⟨.list (x.2.pieces.map Tr.enc), .sh⟩, none, none, none, none, none, some ⟨u.enc, .sh⟩]) (fun u => u.signN.isSome) (fun u => .str (u.signN.getD default)) x.2.pieces [] (fits (by simp; omega)) (fun u mu => by
      cases u <;> simp [m_law_k03_2_ct4, m_law_k03_2_ce5, Tr.enc, Tr.signN])
  rw [List.nil_append, filter_some Tr.signN PyData.str x.2.pieces, show x.2.pieces.filterMap Tr.signN = x.2.signs from rfl] at l2
  unfold rK03
  generalize (t.pps []).map encPT = due at l1 l2 ⊢
  unfold encPT
  generalize encP x.1 = p1 at l1 l2 e1 ⊢
  generalize x.2.enc = u1 at l1 l2 e1 e2 s1 ⊢
  simp [m_law_k03_2_b8, l1, l2, e1, e2, s1, s2]
theorem k03_b3 (hp : PlacesSp 4 Fp) (ha : PieceZ Fa) (hpa : PutAtSp 4 Fpa) (hl : PutSp 4 Fl) (hr : RefSp Fr) (sc tl : D) (t o : Tr) (ok : t.ok = true) (oo : o.ok = true) (hh : t.ht ≤ 4) (ho : o.ht ≤ 2) (hz : t.pieces.length ≤ 6561) (c : Int) :
    optR (gN 5 (.int c) (rK03 sc t o tl)) (m_law_k03_2_b3 Fpa Fa Fr Fp Fl Fs Fal Ft) = .nx (rK03 sc t o tl) := by
  have pl := pps_len t []
  have pos : 0 < (t.pps []).length := by rw [pl, pieces_kids]; simp
  have m0 : (0 : Int) < ((t.pps []).length : Int) := by omega
  obtain ⟨k, hk, ek⟩ : ∃ k : Nat, k < (t.pps []).length ∧ c % ((t.pps []).length : Int) = (k : Int) := ⟨(c % ((t.pps []).length : Int)).toNat, by
    have := Int.emod_lt_of_pos c m0; have := Int.emod_nonneg c (by omega : ((t.pps []).length : Int) ≠ 0); omega, by have := Int.emod_nonneg c (by omega : ((t.pps []).length : Int) ≠ 0); omega⟩
  obtain ⟨x, hx⟩ : ∃ x, (t.pps [])[k]? = some x := ⟨_, List.getElem?_eq_getElem hk⟩
  have mx : x ∈ t.pps [] := List.mem_of_getElem? hx
  have ea : L2.atI ((t.pps []).map encPT) (k : Int) = some (.tuple [.tuple (x.1.map fun n : Nat => PyData.int (n : Int)), x.2.enc]) := atI_nat (by rw [List.getElem?_map, hx]; rfl)
  have hat := pps_at t x mx
  have hpl : x.1 ∈ t.places := mem_at hat
  have hpn : x.1.length ≤ 4 := by have := place_len t x.1 hpl; omega
  have e1 := hpa.put t o x.2 x.1 hpn ok hat
  have e2 := hl t o x.2 x.1 hpn ok hat
  obtain ⟨pk, ph⟩ := put_okT x.1 t o x.2 hat ok oo
  have s1 := eqB_same true (clean_enc _ pk) (by have := depth_enc (Tr.put o x.1 t); omega)
  have e3 := hp t hh (by omega)
  have hcl : cleanB (.list (t.places.map encP)) = true ∧ (PyData.list (t.places.map encP)).depth ≤ 190 := by
    refine ⟨?_, ?_⟩
    · rw [cleanB]; exact cleanL_of fun d m => by obtain ⟨p, _, rfl⟩ := List.mem_map.mp m; exact (encP_clean p).1
    · rw [PyData.depth]
      have := depthAll_of (ds := t.places.map encP) (n := 1) fun d m => by obtain ⟨p, _, rfl⟩ := List.mem_map.mp m; exact (encP_clean p).2
      omega
  have s2 := eqB_same true hcl.1 hcl.2
  have hfst : (t.pps []).map (fun y => encP y.1) = t.places.map encP := by
    rw [show (t.pps []).map (fun y => encP y.1) = ((t.pps []).map (·.1)).map encP by rw [List.map_map]; rfl, pps_fst]
    simp
  have l2 := lcL_all (vs := [10, 14]) (g := gT 2 (gsC (gN 10) (gsC (gN 14) gsN))) (fe := eNox (m_law_k03_2_ce2 Fpa Fa Fr Fp Fl Fs Fal Ft))
    [some ⟨sc, .sh⟩, some ⟨t.enc, .sh⟩, some ⟨o.enc, .sh⟩, some ⟨.list ((t.pps []).map encPT), .sh⟩, some ⟨tl, .ow⟩, some ⟨.int c, .sh⟩, some ⟨encP x.1, .sh⟩, none, none, none, none, none, none, none, none] encPT
    (fun y => [some ⟨sc, .sh⟩, some ⟨t.enc, .sh⟩, some ⟨o.enc, .sh⟩, some ⟨.list ((t.pps []).map encPT), .sh⟩, some ⟨tl, .ow⟩, some ⟨.int c, .sh⟩, some ⟨encP x.1, .sh⟩, none, none, none, some ⟨encP y.1, .sh⟩, none, none, none, some ⟨y.2.enc, .sh⟩]) (fun y => encP y.1) (t.pps []) [] (fits (by simp; omega)) (fun y my => by
      unfold encPT; simp [m_law_k03_2_ce2])
  rw [List.nil_append, hfst] at l2
  -- the bent place
  obtain ⟨s, hs, es⟩ : ∃ s : Nat, s ≤ x.1.length ∧ c / 5 % ((x.1.length : Int) + 1) = (s : Int) := ⟨(c / 5 % ((x.1.length : Int) + 1)).toNat, by
    have := Int.emod_lt_of_pos (c / 5) (show (0 : Int) < (x.1.length : Int) + 1 by omega); omega, by have := Int.emod_nonneg (c / 5) (show (x.1.length : Int) + 1 ≠ 0 by omega); omega⟩
  obtain ⟨e, he, ee⟩ : ∃ e : Nat, e ≤ 1 ∧ c / 2 % 2 = (e : Int) := ⟨(c / 2 % 2).toNat, by omega, by omega⟩
  have p18 : (10 : Int) ^ (18 : Nat) = 1000000000000000000 := by decide
  obtain ⟨m, hm⟩ : ∃ m : Int, L2.atI [PyData.int (-1), .int 0, .int 1, .int 3, .int 8, .int (-3), .int 1000000000000000000] (c / 11 % 7) = some (.int m) := by
    have mm := pick_mem (xs := [PyData.int (-1), .int 0, .int 1, .int 3, .int 8, .int (-3), .int 1000000000000000000]) (c := c / 11) (n := 7) (by decide) rfl
    rw [atI_mod (xs := [PyData.int (-1), .int 0, .int 1, .int 3, .int 8, .int (-3), .int 1000000000000000000]) (c := c / 11) (n := 7) (by decide) rfl]
    simp only [List.mem_cons, List.not_mem_nil, or_false] at mm
    rcases mm with q | q | q | q | q | q | q <;> rw [q] <;> exact ⟨_, rfl⟩
  obtain ⟨bl, hbl⟩ : ∃ bl : List Int, bl = (toI x.1).take s ++ [m] ++ (toI x.1).drop (s + e) := ⟨_, rfl⟩
  have c1 : cutD (x.1.map fun n : Nat => PyData.int (n : Int)) none (some (s : Int)) = ((toI x.1).take s).map .int := by
    rw [cutD_to]; unfold toI; rw [← List.map_take, ← List.map_take, List.map_map]; rfl
  have c2 : cutD (x.1.map fun n : Nat => PyData.int (n : Int)) (some ((s : Int) + (e : Int))) none = ((toI x.1).drop (s + e)).map .int := by
    have := cutD_from (x.1.map fun n : Nat => PyData.int (n : Int)) (s + e)
    rw [show (((s + e : Nat) : Int)) = (s : Int) + (e : Int) by omega] at this
    rw [this]; unfold toI; rw [← List.map_drop, ← List.map_drop, List.map_map]; rfl
  have hbm : bl.map PyData.int = ((toI x.1).take s).map .int ++ .int m :: ((toI x.1).drop (s + e)).map .int := by rw [hbl]; simp
  have tl0 : (toI x.1).length = x.1.length := by unfold toI; simp
  have z1 : ((toI x.1).take s).length + 1 ≤ sizeLine := fits (by rw [List.length_take]; omega)
  have z2 : ((toI x.1).take s).length + 1 + ((toI x.1).drop (s + e)).length ≤ sizeLine := fits (by rw [List.length_take, List.length_drop]; omega)
  generalize (toI x.1).take s = ta at c1 hbm z1 z2
  generalize (toI x.1).drop (s + e) = tb at c2 hbm z2
  have l1 := lcL_all (vs := [14, 7]) (g := gT 2 (gsC (gN 14) (gsC (gN 7) gsN))) (fe := eNox (m_law_k03_2_ce1 Fpa Fa Fr Fp Fl Fs Fal Ft))
    [some ⟨sc, .sh⟩, some ⟨t.enc, .sh⟩, some ⟨o.enc, .sh⟩, some ⟨.list ((t.pps []).map encPT), .sh⟩, some ⟨tl, .ow⟩, some ⟨.int c, .sh⟩, some ⟨encP x.1, .sh⟩, none, none, none, some ⟨.int (s : Int), .sh⟩, some ⟨.int m, .sh⟩, some ⟨encI bl, .sh⟩, none, none] encPT
    (fun y => [some ⟨sc, .sh⟩, some ⟨t.enc, .sh⟩, some ⟨o.enc, .sh⟩, some ⟨.list ((t.pps []).map encPT), .sh⟩, some ⟨tl, .ow⟩, some ⟨.int c, .sh⟩, some ⟨encP x.1, .sh⟩, some ⟨y.2.enc, .sh⟩, none, none, some ⟨.int (s : Int), .sh⟩, some ⟨.int m, .sh⟩, some ⟨encI bl, .sh⟩, none, some ⟨encP y.1, .sh⟩]) (fun y => encP y.1) (t.pps []) [] (fits (by simp; omega)) (fun y my => by
      unfold encPT; simp [m_law_k03_2_ce1])
  rw [List.nil_append, hfst] at l1
  have i1 := in_places false bl t.places
  have h1 : (0 : Int) < (x.1.length : Int) + 1 := by omega
  have eI : PyData.tuple (ta.map .int ++ .int m :: tb.map .int) = encI bl := by unfold encI; rw [hbm]
  unfold encP at e1 e2
  have er : ∀ ρ : Rho, resO (modD (.int c) (.int ((t.pps []).length : Int))) ρ = .ok (.sh (.int (k : Int))) ρ := fun ρ => by rw [resO_mod m0, ek]
  have er2 : ∀ ρ : Rho, resO (modD (.int (c / 5)) (.int ((x.1.length : Int) + 1))) ρ = .ok (.sh (.int (s : Int))) ρ := fun ρ => by rw [resO_mod h1, es]
  have hdl : ((t.pps []).map encPT).length = (t.pps []).length := List.length_map ..
  generalize (t.pps []).length = dn at hdl er
  unfold rK03
  generalize (t.pps []).map encPT = due at l1 l2 hdl ea ⊢
  generalize t.places.map encP = plc at e3 s2 l1 l2 i1
  by_cases q : bl ∈ t.places.map toI
  · obtain ⟨q0, mq, rfl⟩ := List.mem_map.mp q
    rw [decide_eq_true q] at i1
    have hu : ∃ u, t.at q0 = some u := by
      rw [show t.places = (t.pps []).map (·.1) by rw [pps_fst]; simp] at mq
      obtain ⟨y, my, rfl⟩ := List.mem_map.mp mq
      exact ⟨_, pps_at t y my⟩
    obtain ⟨u, hu⟩ := hu
    have hqn : q0.length ≤ 4 := by have := place_len t q0 mq; omega
    have e5 := hpa.put t o u q0 hqn ok hu
    have e6 := ha.sp (Tr.put o q0 t) q0 o (put_at_same q0 t o u hu)
    rw [encP_I] at e5 e6
    have s3 := eqB_same true (clean_enc o oo) (by have := depth_enc o; omega)
    unfold encP at l1 l2
    simp [m_law_k03_2_b3, hdl, er, er2, ea, encP, e1, e2, s1, e3, l2, s2, h1, es, p18, hm, c1, c2, ee, z1, z2, eI, l1, i1, e5, e6, s3]
  · rw [decide_eq_false q] at i1
    have hn : t.atZ bl = none := by
      cases h : t.atZ bl with
      | none => rfl
      | some u =>
        obtain ⟨q0, rfl, hq⟩ := atZ_some bl t u h
        exact absurd (List.mem_map_of_mem (mem_at hq)) q
    have e5 := hr t bl (decide (c % 2 = 0)) hn
    unfold encP at l1 l2
    simp [m_law_k03_2_b3, hdl, er, er2, ea, encP, e1, e2, s1, e3, l2, s2, h1, es, p18, hm, c1, c2, ee, z1, z2, eI, l1, i1, e5]
end
theorem law_k03_ok {Fpa Fa Fr Fp Fl Fs Fal Ft : FF} (hpa : PutAtSp 4 Fpa) (ha : PieceZ Fa) (hr : RefSp Fr) (hp : PlacesSp 4 Fp) (hl : PutSp 4 Fl) (hs : SignsSp 4 Fs) (hal : AllP 4 Fal) (ht : TreeGen 4 Ft) (ns : List Int) :
    fnF 15 1 (m_law_k03_2 Fpa Fa Fr Fp Fl Fs Fal Ft) [some ⟨.list (ns.map .int), .sh⟩] = .ok (.sh (.bool true)) [none] := by
  obtain ⟨ms, h1, _⟩ := cut_ints ns none (some 40)
  obtain ⟨ms2, h2, _⟩ := cut_ints ns (some 3) (some 12)
  obtain ⟨ls, h3, _⟩ := cut_ints ns none (some 8)
  obtain ⟨t, a1, e1, ok, hh⟩ := ht ms 0 none 4 (by decide)
  obtain ⟨o, a2, e2, oo, ho⟩ := ht ms2 0 none 2 (by decide)
  have e1' : Ft [some ⟨.dict (dMerge [(.str (Str.ofString "script"), .list (ms.map .int)), (.str (Str.ofString "at"), .int 0)]), .io⟩, some ⟨.int 4, .sh⟩] = .ok (.sh t.enc) [some ⟨stD ms a1 none, .io⟩, none] := by
    rw [← e1]; simp [dMerge, dPut, stD]
  have e2' : Ft [some ⟨.dict (dMerge [(.str (Str.ofString "script"), .list (ms2.map .int)), (.str (Str.ofString "at"), .int 0)]), .io⟩, some ⟨.int 2, .sh⟩] = .ok (.sh o.enc) [some ⟨stD ms2 a2 none, .io⟩, none] := by
    rw [← e2]; simp [dMerge, dPut, stD]
  have hz : t.pieces.length ≤ 6561 := Nat.le_trans (pieces_pow t ok) (Nat.le_trans (Nat.pow_le_pow_right (by decide) hh) (by decide))
  have pl := pps_len t []
  have e3 : Fal [some ⟨t.enc, .sh⟩, some ⟨.tuple [], .sh⟩] = .ok (.fr (.list ((t.pps []).map encPT))) [none, none] := hal t [] hh (by omega) (by simp; omega)
  have e4 := hp t hh (by omega)
  have hcl : cleanB (.list (t.places.map encP)) = true ∧ (PyData.list (t.places.map encP)).depth ≤ 190 := by
    refine ⟨?_, ?_⟩
    · rw [cleanB]; exact cleanL_of fun d m => by obtain ⟨p, _, rfl⟩ := List.mem_map.mp m; exact (encP_clean p).1
    · rw [PyData.depth]
      have := depthAll_of (ds := t.places.map encP) (n := 1) fun d m => by obtain ⟨p, _, rfl⟩ := List.mem_map.mp m; exact (encP_clean p).2
      omega
  have s2 := eqB_same true hcl.1 hcl.2
  have hfst : (t.pps []).map (fun y => encP y.1) = t.places.map encP := by
    rw [show (t.pps []).map (fun y => encP y.1) = ((t.pps []).map (·.1)).map encP by rw [List.map_map]; rfl, pps_fst]
    simp
  have l9 := lcL_all (vs := [6, 7]) (g := gT 2 (gsC (gN 6) (gsC (gN 7) gsN))) (fe := eNox (m_law_k03_2_ce9 Fpa Fa Fr Fp Fl Fs Fal Ft))
    [some ⟨.list (ns.map .int), .sh⟩, some ⟨t.enc, .sh⟩, some ⟨o.enc, .sh⟩, some ⟨.list ((t.pps []).map encPT), .sh⟩, some ⟨.list (t.places.map encP), .ow⟩, none, none, none, none, none, none, none, none, none, none] encPT
    (fun y => [some ⟨.list (ns.map .int), .sh⟩, some ⟨t.enc, .sh⟩, some ⟨o.enc, .sh⟩, some ⟨.list ((t.pps []).map encPT), .sh⟩, some ⟨.list (t.places.map encP), .ow⟩, none, some ⟨encP y.1, .sh⟩, some ⟨y.2.enc, .sh⟩, none, none, none, none, none, none, none]) (fun y => encP y.1) (t.pps []) [] (fits (by simp; omega)) (fun y my => by
      unfold encPT; simp [m_law_k03_2_ce9])
  rw [List.nil_append, hfst] at l9
  have so := sortU_places t
  have zl : (t.places.map encP).length < sizeLine := fitsl (by rw [List.length_map, places_len]; omega)
  obtain ⟨tl, htl⟩ : ∃ tl : D, PyData.list (t.places.map encP ++ [.tuple [.int 9]]) = tl := ⟨_, rfl⟩
  have f8 := forL_look (g := gT 2 (gsC (gN 6) (gsC (gN 7) gsN))) (b := m_law_k03_2_b8 Fpa Fa Fr Fp Fl Fs Fal Ft) (rK03 (.list (ns.map .int)) t o tl) [] encPT (fun _ => true) (.sh .none) (t.pps []) fun x mx => by
    rw [k03_b8 ha hs _ _ t o ok hh hz x mx]; rfl
  rw [List.all_eq_true.mpr fun _ _ => rfl, if_pos rfl] at f8
  have f3 : ∀ cs : List Int, forL (gN 5) (m_law_k03_2_b3 Fpa Fa Fr Fp Fl Fs Fal Ft) (cs.map .int) (rK03 (.list (ns.map .int)) t o tl) = .nx (rK03 (.list (ns.map .int)) t o tl) := fun cs => by
    have := forL_look (g := gN 5) (b := m_law_k03_2_b3 Fpa Fa Fr Fp Fl Fs Fal Ft) (rK03 (.list (ns.map .int)) t o tl) [] PyData.int (fun _ => true) (.sh .none) cs fun c _ => by
      rw [k03_b3 hp ha hpa hl hr _ _ t o ok oo hh ho hz c]; rfl
    rw [List.all_eq_true.mpr fun _ _ => rfl, if_pos rfl] at this
    exact this
  have g1 := f3 ls
  have g0 := f3 [0]
  simp only [List.map_cons, List.map_nil] at g0
  unfold rK03 at f8 g1 g0
  generalize (t.pps []).map encPT = due at e3 l9 f8 g1 g0
  generalize t.places.map encP = plc at e4 l9 s2 so htl zl
  have il : isLst (.list plc) = true := rfl
  rw [m_law_k03_2_eq]
  by_cases h0 : 0 < ns.length
  · have h0' : (0 : Int) < ns.length := by omega
    simp [m_law_k03_2, il, h1, h2, h3, h0, h0', e1', e2', e3, e4, l9, s2, so, zl, htl, f8, g1]
  · have h0' : ¬ (0 : Int) < ns.length := by omega
    simp [m_law_k03_2, il, h1, h2, h3, h0, h0', e1', e2', e3, e4, l9, s2, so, zl, htl, f8, g0]
end GM
namespace GM
open PySem L2 GS
end GM
namespace Wk03
open PySem L2 GS GM
def fs : Nat → Nat → FF
  | 0, _ => stuckF
  | k + 1, 0 => fnF 1 1 (m_kids_of)
  | k + 1, 1 => fnF 5 1 (m_places (fs k 0) (fs k 1))
  | k + 1, 2 => fnF 5 2 (m_piece_at_2 (fs k 14) (fs k 0))
  | k + 1, 3 => fnF 4 3 (m_put_in (fs k 3))
  | k + 1, 4 => fnF 3 3 (m_put_at (fs k 3) (fs k 2))
  | k + 1, 5 => fnF 3 1 (m_signs_of (fs k 0) (fs k 5))
  | k + 1, 6 => fnF 1 1 (m_law_cell)
  | k + 1, 7 => fnF 5 1 (m_law_name)
  | k + 1, 8 => fnF 2 1 (m_law_leaf (fs k 7))
  | k + 1, 9 => fnF 6 2 (m_law_tree (fs k 7) (fs k 9) (fs k 8) (fs k 6))
  | k + 1, 10 => fnF 4 2 (m_law_all_2 (fs k 10))
  | k + 1, 11 => fnF 6 3 (m_law_put (fs k 11))
  | k + 1, 12 => fnF 6 3 (m_law_refused (fs k 4) (fs k 2))
  | k + 1, 13 => fnF 15 1 (m_law_k03_2 (fs k 4) (fs k 2) (fs k 12) (fs k 1) (fs k 11) (fs k 5) (fs k 10) (fs k 9))
  | k + 1, 14 => iniF (k + 1)
  | _ + 1, _ => stuckF
end Wk03
namespace Wk03
open PySem L2 GS GM
theorem hx_NoPlace : ∀ m, 2 ≤ m → Raises (fs m 14)
  | m + 1, h => raises_ini h
theorem h_m_kids_of : ∀ m, 1 ≤ m → KidsSp (fs m 0)
  | _ + 1, _ => kids_of_ok
theorem h_m_places : ∀ n m, n ≤ 1000 → n + 2 ≤ m → PlacesSp n (fs m 1)
  | _, m + 1, hn, h => places_ok (h_m_kids_of m (by omega)) hn fun k e => h_m_places k m (by omega) (by omega)
theorem h_m_piece_at_2 : ∀ m, 3 ≤ m → PieceZ (fs m 2)
  | m + 1, h => piece_at_Z (h_m_kids_of m (by omega)) (hx_NoPlace m (by omega))
theorem h_m_put_in : ∀ n m, n + 1 ≤ m → PutSp n (fs m 3)
  | _, m + 1, h => put_in_ok fun k e => h_m_put_in k m (by omega)
theorem h_m_put_at : ∀ n m, n + 4 ≤ m → PutAtSp n (fs m 4)
  | n, m + 1, h => put_at_ok (h_m_put_in n m (by omega)) (h_m_piece_at_2 m (by omega))
theorem h_m_signs_of : ∀ n m, n + 2 ≤ m → SignsSp n (fs m 5)
  | _, m + 1, h => signs_of_ok (h_m_kids_of m (by omega)) fun k e => h_m_signs_of k m (by omega)
theorem h_m_law_cell : ∀ m, 1 ≤ m → CellSp (fs m 6)
  | _ + 1, _ => law_cell_ok
theorem h_m_law_name : ∀ m, 1 ≤ m → NameGen (fs m 7)
  | _ + 1, _ => law_name_ok
theorem h_m_law_leaf : ∀ m, 2 ≤ m → LeafGen (fs m 8)
  | m + 1, h => law_leaf_ok (h_m_law_name m (by omega))
theorem h_m_law_tree : ∀ n m, n + 3 ≤ m → TreeGen n (fs m 9)
  | _, m + 1, h => law_tree_ok (h_m_law_name m (by omega)) (h_m_law_leaf m (by omega)) (h_m_law_cell m (by omega)) fun k e => h_m_law_tree k m (by omega)
theorem h_m_law_all_2 : ∀ n m, n + 1 ≤ m → AllP n (fs m 10)
  | _, m + 1, h => law_all_2_ok fun k e => h_m_law_all_2 k m (by omega)
theorem h_m_law_put : ∀ n m, n + 1 ≤ m → PutSp n (fs m 11)
  | _, m + 1, h => law_put_ok fun k e => h_m_law_put k m (by omega)
theorem h_m_law_refused : ∀ m, 10 ≤ m → RefSp (fs m 12)
  | m + 1, h => law_refused_ok (h_m_put_at 4 m (by omega)) (h_m_piece_at_2 m (by omega))
theorem law_true (ns : List Int) (hl : ns.length ≤ 63) : ∃ outs, fs 200 13 [some ⟨.list (ns.map .int), .sh⟩] = .ok (.sh (.bool true)) outs :=
  ⟨_, (law_k03_ok (h_m_put_at 4 199 (by omega)) (h_m_piece_at_2 199 (by omega)) (h_m_law_refused 199 (by omega)) (h_m_places 4 199 (by omega) (by omega)) (h_m_law_put 4 199 (by omega)) (h_m_signs_of 4 199 (by omega)) (h_m_law_all_2 4 199 (by omega)) (h_m_law_tree 4 199 (by omega)) ns)⟩
end Wk03
namespace Wk03
open PySem L2 GS GM
def topS (i : Nat) : Stmt := PySem.Challenge.pw_graftsay_k03_places_and_pieces.main.body.getD i (.Pass ⟨0, 0, 0, 0⟩)
def clsS (s : Stmt) (j : Nat) : Stmt := match s with | .ClassDef (body := body) .. => body.getD j (.Pass ⟨0, 0, 0, 0⟩) | _ => s
/-- kids_of -/
abbrev s0 : Stmt := topS 13
theorem sc0 : FnScope ["tree"] ["tree"] (defScope s0) := ⟨rfl, rfl, rfl, by decide +kernel, rfl, by decide +kernel, by decide +kernel⟩
/-- places -/
abbrev s1 : Stmt := topS 14
theorem sc1 : FnScope ["tree", "found", "k", "kid", "place"] ["tree"] (defScope s1) := ⟨rfl, rfl, rfl, by decide +kernel, rfl, by decide +kernel, by decide +kernel⟩
/-- piece_at -/
abbrev s2 : Stmt := topS 15
theorem sc2 : FnScope ["tree", "place", "found", "number", "kids"] ["tree", "place"] (defScope s2) := ⟨rfl, rfl, rfl, by decide +kernel, rfl, by decide +kernel, by decide +kernel⟩
/-- put_in -/
abbrev s3 : Stmt := topS 16
theorem sc3 : FnScope ["tree", "place", "other", "kids"] ["tree", "place", "other"] (defScope s3) := ⟨rfl, rfl, rfl, by decide +kernel, rfl, by decide +kernel, by decide +kernel⟩
/-- put_at -/
abbrev s4 : Stmt := topS 17
theorem sc4 : FnScope ["tree", "place", "other"] ["tree", "place", "other"] (defScope s4) := ⟨rfl, rfl, rfl, by decide +kernel, rfl, by decide +kernel, by decide +kernel⟩
/-- signs_of -/
abbrev s5 : Stmt := topS 18
theorem sc5 : FnScope ["tree", "found", "kid"] ["tree"] (defScope s5) := ⟨rfl, rfl, rfl, by decide +kernel, rfl, by decide +kernel, by decide +kernel⟩
/-- _law_cell -/
abbrev s6 : Stmt := topS 20
theorem sc6 : FnScope ["state"] ["state"] (defScope s6) := ⟨rfl, rfl, rfl, by decide +kernel, rfl, by decide +kernel, by decide +kernel⟩
/-- _law_name -/
abbrev s7 : Stmt := topS 21
theorem sc7 : FnScope ["cell", "great", "letters", "found", "k"] ["cell"] (defScope s7) := ⟨rfl, rfl, rfl, by decide +kernel, rfl, by decide +kernel, by decide +kernel⟩
/-- _law_leaf -/
abbrev s8 : Stmt := topS 22
theorem sc8 : FnScope ["cell", "sign"] ["cell"] (defScope s8) := ⟨rfl, rfl, rfl, by decide +kernel, rfl, by decide +kernel, by decide +kernel⟩
/-- _law_tree -/
abbrev s9 : Stmt := topS 23
theorem sc9 : FnScope ["state", "left", "cell", "takes", "kids", "k"] ["state", "left"] (defScope s9) := ⟨rfl, rfl, rfl, by decide +kernel, rfl, by decide +kernel, by decide +kernel⟩
/-- _law_all -/
abbrev s10 : Stmt := topS 24
theorem sc10 : FnScope ["tree", "place", "found", "k"] ["tree", "place"] (defScope s10) := ⟨rfl, rfl, rfl, by decide +kernel, rfl, by decide +kernel, by decide +kernel⟩
/-- _law_put -/
abbrev s11 : Stmt := topS 25
theorem sc11 : FnScope ["tree", "place", "other", "kids", "at", "inner"] ["tree", "place", "other"] (defScope s11) := ⟨rfl, rfl, rfl, by decide +kernel, rfl, by decide +kernel, by decide +kernel⟩
/-- _law_refused -/
abbrev s12 : Stmt := topS 26
theorem sc12 : FnScope ["tree", "place", "putting", "caught", "e", "others"] ["tree", "place", "putting"] (defScope s12) := ⟨rfl, rfl, rfl, by decide +kernel, rfl, by decide +kernel, by decide +kernel⟩
/-- law -/
abbrev s13 : Stmt := topS 27
theorem sc13 : FnScope ["script", "tree", "other", "due", "told", "cell", "place", "piece", "mine", "signs", "spot", "number", "bent", "there", "one"] ["script"] (defScope s13) := ⟨rfl, rfl, rfl, by decide +kernel, rfl, by decide +kernel, by decide +kernel⟩
abbrev si_NoPlace : Stmt := clsS (topS 2) 0
theorem sci_NoPlace : FnScope ["self", "place"] ["self", "place"] (defScope si_NoPlace) := ⟨rfl, rfl, rfl, by decide +kernel, rfl, by decide +kernel, by decide +kernel⟩
structure Top (K : PySem.W.Frag) (mg : Str → Option Value) where
  a0 : Addr
  d0 : FuncData
  F0 : Fun K "kids_of" "kids_of" s0 a0 d0
  b0 : Binds K d0 ["tree"] []
  g0 : mg "kids_of" = some (.ref a0)
  a1 : Addr
  d1 : FuncData
  F1 : Fun K "places" "places" s1 a1 d1
  b1 : Binds K d1 ["tree"] []
  g1 : mg "places" = some (.ref a1)
  a2 : Addr
  d2 : FuncData
  F2 : Fun K "piece_at" "piece_at" s2 a2 d2
  b2 : Binds K d2 ["tree", "place"] []
  g2 : mg "piece_at" = some (.ref a2)
  a3 : Addr
  d3 : FuncData
  F3 : Fun K "put_in" "put_in" s3 a3 d3
  b3 : Binds K d3 ["tree", "place", "other"] []
  g3 : mg "put_in" = some (.ref a3)
  a4 : Addr
  d4 : FuncData
  F4 : Fun K "put_at" "put_at" s4 a4 d4
  b4 : Binds K d4 ["tree", "place", "other"] []
  g4 : mg "put_at" = some (.ref a4)
  a5 : Addr
  d5 : FuncData
  F5 : Fun K "signs_of" "signs_of" s5 a5 d5
  b5 : Binds K d5 ["tree"] []
  g5 : mg "signs_of" = some (.ref a5)
  a6 : Addr
  d6 : FuncData
  F6 : Fun K "_law_cell" "_law_cell" s6 a6 d6
  b6 : Binds K d6 ["state"] []
  g6 : mg "_law_cell" = some (.ref a6)
  a7 : Addr
  d7 : FuncData
  F7 : Fun K "_law_name" "_law_name" s7 a7 d7
  b7 : Binds K d7 ["cell"] []
  g7 : mg "_law_name" = some (.ref a7)
  a8 : Addr
  d8 : FuncData
  F8 : Fun K "_law_leaf" "_law_leaf" s8 a8 d8
  b8 : Binds K d8 ["cell"] []
  g8 : mg "_law_leaf" = some (.ref a8)
  a9 : Addr
  d9 : FuncData
  F9 : Fun K "_law_tree" "_law_tree" s9 a9 d9
  b9 : Binds K d9 ["state", "left"] []
  g9 : mg "_law_tree" = some (.ref a9)
  a10 : Addr
  d10 : FuncData
  F10 : Fun K "_law_all" "_law_all" s10 a10 d10
  b10 : Binds K d10 ["tree", "place"] []
  g10 : mg "_law_all" = some (.ref a10)
  a11 : Addr
  d11 : FuncData
  F11 : Fun K "_law_put" "_law_put" s11 a11 d11
  b11 : Binds K d11 ["tree", "place", "other"] []
  g11 : mg "_law_put" = some (.ref a11)
  a12 : Addr
  d12 : FuncData
  F12 : Fun K "_law_refused" "_law_refused" s12 a12 d12
  b12 : Binds K d12 ["tree", "place", "putting"] []
  g12 : mg "_law_refused" = some (.ref a12)
  a13 : Addr
  d13 : FuncData
  F13 : Fun K "law" "law" s13 a13 d13
  b13 : Binds K d13 ["script"] []
  g13 : mg "law" = some (.ref a13)
  m_enumerate : mg "enumerate" = none
  m_len : mg "len" = none
  m_tuple : mg "tuple" = none
  m_list : mg "list" = none
  m_range : mg "range" = none
  m_isinstance : mg "isinstance" = none
  m_ValueError : mg "ValueError" = none
  m_sorted : mg "sorted" = none
  xA_GraftError : Addr
  xg_GraftError : mg "GraftError" = some (.ref xA_GraftError)
  xA_NoPlace : Addr
  xg_NoPlace : mg "NoPlace" = some (.ref xA_NoPlace)
  xA_NoKey : Addr
  xg_NoKey : mg "NoKey" = some (.ref xA_NoKey)
  xA_NoLine : Addr
  xg_NoLine : mg "NoLine" = some (.ref xA_NoLine)
  xA_NoPlan : Addr
  xg_NoPlan : mg "NoPlan" = some (.ref xA_NoPlan)
  xA_NoRow : Addr
  xg_NoRow : mg "NoRow" = some (.ref xA_NoRow)
  xA_NoText : Addr
  xg_NoText : mg "NoText" = some (.ref xA_NoText)
  xA_NoTree : Addr
  xg_NoTree : mg "NoTree" = some (.ref xA_NoTree)
  xA_TooMany : Addr
  xg_TooMany : mg "TooMany" = some (.ref xA_TooMany)
  xA_Twice : Addr
  xg_Twice : mg "Twice" = some (.ref xA_Twice)
  xA_TwoSided : Addr
  xg_TwoSided : mg "TwoSided" = some (.ref xA_TwoSided)
  gi : giB K xA_GraftError = true
  xI_NoPlace : Addr
  xd_NoPlace : FuncData
  xF_NoPlace : Fun K "__init__" "NoPlace.__init__" si_NoPlace xI_NoPlace xd_NoPlace
  xb_NoPlace : Binds K xd_NoPlace ("self" :: ["place"]) []
  xT_NoPlace : OexC K xA_NoPlace
  xo_NoPlace : oeB K xA_NoPlace xI_NoPlace ["place"] = true
  xv_NoPlace : cvK K "NoPlace" = .ref xA_NoPlace
  y0 : fldB K "place" ["NoPlace"] = true
  y1 : isoB K (.type "ValueError") ["NoPlace"] ["NoPlace"] = true
  y2 : isoB K (.ref xA_NoPlace) ["NoPlace"] ["NoPlace"] = true
  y3 : isoBs K [.ref xA_NoKey, .ref xA_NoLine, .ref xA_NoPlan, .ref xA_NoRow, .ref xA_NoText, .ref xA_NoTree, .ref xA_TooMany, .ref xA_Twice, .ref xA_TwoSided] ["NoPlace"] [] = true
  y4 : tryB K (.ref xA_GraftError) ["NoPlace"] ["NoPlace"] = true
structure Lv (P : Program) (K : KW) (mg : Str → Option Value) (base : Heap) (T : Top K.fr mg) (k : Nat) : Prop where
  h0 : FnOk P K.w K.fr mg base (L2.CX P K.w) k T.a0 T.d0 ["tree"] (spF K (cvK K.fr) 1 (fs k 0))
  h1 : FnOk P K.w K.fr mg base (L2.CX P K.w) k T.a1 T.d1 ["tree"] (spF K (cvK K.fr) 1 (fs k 1))
  h2 : FnOk P K.w K.fr mg base (L2.CX P K.w) k T.a2 T.d2 ["tree", "place"] (spF K (cvK K.fr) 2 (fs k 2))
  h3 : FnOk P K.w K.fr mg base (L2.CX P K.w) k T.a3 T.d3 ["tree", "place", "other"] (spF K (cvK K.fr) 3 (fs k 3))
  h4 : FnOk P K.w K.fr mg base (L2.CX P K.w) k T.a4 T.d4 ["tree", "place", "other"] (spF K (cvK K.fr) 3 (fs k 4))
  h5 : FnOk P K.w K.fr mg base (L2.CX P K.w) k T.a5 T.d5 ["tree"] (spF K (cvK K.fr) 1 (fs k 5))
  h6 : FnOk P K.w K.fr mg base (L2.CX P K.w) k T.a6 T.d6 ["state"] (spF K (cvK K.fr) 1 (fs k 6))
  h7 : FnOk P K.w K.fr mg base (L2.CX P K.w) k T.a7 T.d7 ["cell"] (spF K (cvK K.fr) 1 (fs k 7))
  h8 : FnOk P K.w K.fr mg base (L2.CX P K.w) k T.a8 T.d8 ["cell"] (spF K (cvK K.fr) 1 (fs k 8))
  h9 : FnOk P K.w K.fr mg base (L2.CX P K.w) k T.a9 T.d9 ["state", "left"] (spF K (cvK K.fr) 2 (fs k 9))
  h10 : FnOk P K.w K.fr mg base (L2.CX P K.w) k T.a10 T.d10 ["tree", "place"] (spF K (cvK K.fr) 2 (fs k 10))
  h11 : FnOk P K.w K.fr mg base (L2.CX P K.w) k T.a11 T.d11 ["tree", "place", "other"] (spF K (cvK K.fr) 3 (fs k 11))
  h12 : FnOk P K.w K.fr mg base (L2.CX P K.w) k T.a12 T.d12 ["tree", "place", "putting"] (spF K (cvK K.fr) 3 (fs k 12))
  h13 : FnOk P K.w K.fr mg base (L2.CX P K.w) k T.a13 T.d13 ["script"] (spF K (cvK K.fr) 1 (fs k 13))
  x_NoPlace : IniOk P K.w K.fr mg base k T.xI_NoPlace T.xd_NoPlace ["place"] (fs k 14)
section
variable {P : Program} {K : KW} {mg : Str → Option Value} {base : Heap}
/-- kids_of -/
theorem e0 (k : Nat) : fs (k + 1) 0 = fnF 1 1 (m_kids_of) := rfl
theorem w0 {T : Top K.fr mg} {k : Nat} (L : Lv P K mg base T k) : FnOk P K.w K.fr mg base (L2.CX P K.w) (k + 1) T.a0 T.d0 ["tree"] (spF K (cvK K.fr) 1 (fs (k + 1) 0)) := by
  rw [e0]
  refine fn_of' ["tree"] rfl rfl T.F0 sc0 fun cdv A outer s H E hr tk po => ?_
  have nd := sc0.nd
  have hu := hr.units
  have hu2 : _ + 199 < cLine := Nat.lt_of_le_of_lt (Nat.add_le_add_left (by decide : 199 ≤ 200) _) (Nat.lt_of_le_of_lt (Nat.add_le_add_right (Nat.le_add_right _ _) _) hr.un)
  have hu5 : _ + 65 < cLine := Nat.lt_of_le_of_lt (Nat.add_le_add_left (by decide : 65 ≤ 200) _) (Nat.lt_of_le_of_lt (Nat.add_le_add_right (Nat.le_add_right _ _) _) hr.un)
  unfold m_kids_of
  exact ⟨_, (sss_one (ss_end (ss_ret (se_if (st_cmp ol_eqB (op_eqB (by exact hu2)) (se_ixA (by exact hu5) (se_vb 0) se_int) se_str) (se_ixA (by exact hu5) (se_vb 0) se_int) (se_tup sa_nil)))))⟩
/-- places -/
theorem e1 (k : Nat) : fs (k + 1) 1 = fnF 5 1 (m_places (fs k 0) (fs k 1)) := rfl
theorem w1 {T : Top K.fr mg} {k : Nat} (L : Lv P K mg base T k) : FnOk P K.w K.fr mg base (L2.CX P K.w) (k + 1) T.a1 T.d1 ["tree"] (spF K (cvK K.fr) 1 (fs (k + 1) 1)) := by
  rw [e1]
  refine fn_of' ["tree", "found", "k", "kid", "place"] rfl rfl T.F1 sc1 fun cdv A outer s H E hr tk po => ?_
  have nd := sc1.nd
  have hu := hr.units
  have hu2 : _ + 199 < cLine := Nat.lt_of_le_of_lt (Nat.add_le_add_left (by decide : 199 ≤ 200) _) (Nat.lt_of_le_of_lt (Nat.add_le_add_right (Nat.le_add_right _ _) _) hr.un)
  have hu5 : _ + 65 < cLine := Nat.lt_of_le_of_lt (Nat.add_le_add_left (by decide : 65 ≤ 200) _) (Nat.lt_of_le_of_lt (Nat.add_le_add_right (Nat.le_add_right _ _) _) hr.un)
  unfold m_places m_places_b2 m_places_b1
  exact ⟨_, (sss_cons (ss_set (i := 1) nd (se_lst (sa_cons (se_tup sa_nil) sa_nil))) (sss_cons (ss_for po rfl (si_en (se_call L.h0 hr T.g0 T.F0.kp T.b0 tk (sa_cons (se_mv 0) sa_nil) none) T.m_enumerate) (sg_tup rfl (sgs_cons (sg_name nd) (sgs_cons (sg_name nd) sgs_nil))) (sss_kill (vs := [2, 3, 4]) (sss_one (ss_for po rfl (si_sq (se_call L.h1 hr T.g1 T.F1.kp T.b1 tk (sa_cons (se_mv 3) sa_nil) none)) (sg_name nd) (sss_kill (vs := [4]) (sss_one (ss_app (i := 1) (se_bin ol_add op_addA (se_tup (sa_cons (se_mv 2) sa_nil)) (se_vb 4))))))))) (sss_one (ss_end (ss_ret (se_rv 1))))))⟩
/-- piece_at -/
theorem e2 (k : Nat) : fs (k + 1) 2 = fnF 5 2 (m_piece_at_2 (fs k 14) (fs k 0)) := rfl
theorem w2 {T : Top K.fr mg} {k : Nat} (L : Lv P K mg base T k) : FnOk P K.w K.fr mg base (L2.CX P K.w) (k + 1) T.a2 T.d2 ["tree", "place"] (spF K (cvK K.fr) 2 (fs (k + 1) 2)) := by
  rw [e2]
  refine fn_of' ["tree", "place", "found", "number", "kids"] rfl rfl T.F2 sc2 fun cdv A outer s H E hr tk po => ?_
  have nd := sc2.nd
  have hu := hr.units
  have hu2 : _ + 199 < cLine := Nat.lt_of_le_of_lt (Nat.add_le_add_left (by decide : 199 ≤ 200) _) (Nat.lt_of_le_of_lt (Nat.add_le_add_right (Nat.le_add_right _ _) _) hr.un)
  have hu5 : _ + 65 < cLine := Nat.lt_of_le_of_lt (Nat.add_le_add_left (by decide : 65 ≤ 200) _) (Nat.lt_of_le_of_lt (Nat.add_le_add_right (Nat.le_add_right _ _) _) hr.un)
  unfold m_piece_at_2 m_piece_at_2_b1
  exact ⟨_, (sss_cons (ss_set (i := 2) nd (se_mv 0)) (sss_cons (ss_for po rfl (si_sq (se_mv 1)) (sg_name nd) (sss_kill (vs := [3, 4]) (sss_cons (ss_set (i := 4) nd (se_call L.h0 hr T.g0 T.F0.kp T.b0 tk (sa_cons (se_mv 2) sa_nil) none)) (sss_cons (ss_if (st_not (st_chain ol_cmp op_le ol_ltA (op_ltA (by exact hu5)) se_int (se_vb 3) (se_cb cl_len call_len T.m_len (sa_cons (se_vb 4) sa_nil)))) (sss_one (ss_raise L.x_NoPlace T.xT_NoPlace T.xo_NoPlace T.xv_NoPlace T.xg_NoPlace T.xb_NoPlace hr tk rfl (sa_cons (se_mv 1) sa_nil))) sss_nil) (sss_one (ss_set (i := 2) nd (se_ixA (by exact hu5) (se_vb 4) (se_vb 3)))))))) (sss_one (ss_end (ss_ret (se_rv 2))))))⟩
/-- put_in -/
theorem e3 (k : Nat) : fs (k + 1) 3 = fnF 4 3 (m_put_in (fs k 3)) := rfl
theorem w3 {T : Top K.fr mg} {k : Nat} (L : Lv P K mg base T k) : FnOk P K.w K.fr mg base (L2.CX P K.w) (k + 1) T.a3 T.d3 ["tree", "place", "other"] (spF K (cvK K.fr) 3 (fs (k + 1) 3)) := by
  rw [e3]
  refine fn_of' ["tree", "place", "other", "kids"] rfl rfl T.F3 sc3 fun cdv A outer s H E hr tk po => ?_
  have nd := sc3.nd
  have hu := hr.units
  have hu2 : _ + 199 < cLine := Nat.lt_of_le_of_lt (Nat.add_le_add_left (by decide : 199 ≤ 200) _) (Nat.lt_of_le_of_lt (Nat.add_le_add_right (Nat.le_add_right _ _) _) hr.un)
  have hu5 : _ + 65 < cLine := Nat.lt_of_le_of_lt (Nat.add_le_add_left (by decide : 65 ≤ 200) _) (Nat.lt_of_le_of_lt (Nat.add_le_add_right (Nat.le_add_right _ _) _) hr.un)
  unfold m_put_in
  exact ⟨_, (sss_cons (ss_if (st_cmp ol_eqB (op_eqB (by exact hu2)) (se_cb cl_len call_len T.m_len (sa_cons (se_vb 1) sa_nil)) se_int) (sss_one (ss_end (ss_ret (se_rv 2)))) sss_nil) (sss_cons (ss_set (i := 3) nd (se_ct cl_list call_list_of T.m_list (sa_cons (se_ixA (by exact hu5) (se_vb 0) se_int) sa_nil))) (sss_cons (ss_put (i := 3) (by exact hu5) (se_ixA (by exact hu5) (se_vb 1) se_int) (se_call L.h3 hr T.g3 T.F3.kp T.b3 tk (sa_cons (se_ixA (by exact hu5) (se_vb 3) (se_ixA (by exact hu5) (se_vb 1) se_int)) (sa_cons (se_slice (se_vb 1) (.some se_int) .non) (sa_cons (se_mv 2) sa_nil))) none)) (sss_one (ss_end (ss_ret (se_bin ol_add op_addA (se_slice (se_vb 0) .non (.some se_int)) (se_tup (sa_cons (se_ct cl_tuple call_tupX T.m_tuple (sa_cons (se_vb 3) sa_nil)) sa_nil)))))))))⟩
/-- put_at -/
theorem e4 (k : Nat) : fs (k + 1) 4 = fnF 3 3 (m_put_at (fs k 3) (fs k 2)) := rfl
theorem w4 {T : Top K.fr mg} {k : Nat} (L : Lv P K mg base T k) : FnOk P K.w K.fr mg base (L2.CX P K.w) (k + 1) T.a4 T.d4 ["tree", "place", "other"] (spF K (cvK K.fr) 3 (fs (k + 1) 4)) := by
  rw [e4]
  refine fn_of' ["tree", "place", "other"] rfl rfl T.F4 sc4 fun cdv A outer s H E hr tk po => ?_
  have nd := sc4.nd
  have hu := hr.units
  have hu2 : _ + 199 < cLine := Nat.lt_of_le_of_lt (Nat.add_le_add_left (by decide : 199 ≤ 200) _) (Nat.lt_of_le_of_lt (Nat.add_le_add_right (Nat.le_add_right _ _) _) hr.un)
  have hu5 : _ + 65 < cLine := Nat.lt_of_le_of_lt (Nat.add_le_add_left (by decide : 65 ≤ 200) _) (Nat.lt_of_le_of_lt (Nat.add_le_add_right (Nat.le_add_right _ _) _) hr.un)
  unfold m_put_at
  exact ⟨_, (sss_cons (ss_expr (se_call L.h2 hr T.g2 T.F2.kp T.b2 tk (sa_cons (se_mv 0) (sa_cons (se_mv 1) sa_nil)) none)) (sss_one (ss_end (ss_ret (se_call L.h3 hr T.g3 T.F3.kp T.b3 tk (sa_cons (se_mv 0) (sa_cons (se_mv 1) (sa_cons (se_mv 2) sa_nil))) none)))))⟩
/-- signs_of -/
theorem e5 (k : Nat) : fs (k + 1) 5 = fnF 3 1 (m_signs_of (fs k 0) (fs k 5)) := rfl
theorem w5 {T : Top K.fr mg} {k : Nat} (L : Lv P K mg base T k) : FnOk P K.w K.fr mg base (L2.CX P K.w) (k + 1) T.a5 T.d5 ["tree"] (spF K (cvK K.fr) 1 (fs (k + 1) 5)) := by
  rw [e5]
  refine fn_of' ["tree", "found", "kid"] rfl rfl T.F5 sc5 fun cdv A outer s H E hr tk po => ?_
  have nd := sc5.nd
  have hu := hr.units
  have hu2 : _ + 199 < cLine := Nat.lt_of_le_of_lt (Nat.add_le_add_left (by decide : 199 ≤ 200) _) (Nat.lt_of_le_of_lt (Nat.add_le_add_right (Nat.le_add_right _ _) _) hr.un)
  have hu5 : _ + 65 < cLine := Nat.lt_of_le_of_lt (Nat.add_le_add_left (by decide : 65 ≤ 200) _) (Nat.lt_of_le_of_lt (Nat.add_le_add_right (Nat.le_add_right _ _) _) hr.un)
  unfold m_signs_of m_signs_of_b1
  exact ⟨_, (sss_cons (ss_if (st_cmp ol_eqB (op_eqB (by exact hu2)) (se_ixA (by exact hu5) (se_vb 0) se_int) se_str) (sss_one (ss_end (ss_ret (se_tup (sa_cons (se_ixA (by exact hu5) (se_vb 0) se_int) sa_nil))))) sss_nil) (sss_cons (ss_set (i := 1) nd (se_tup sa_nil)) (sss_cons (ss_for po rfl (si_sq (se_call L.h0 hr T.g0 T.F0.kp T.b0 tk (sa_cons (se_mv 0) sa_nil) none)) (sg_name nd) (sss_kill (vs := [2]) (sss_one (ss_set (i := 1) nd (se_bin ol_add op_addA (se_vb 1) (se_call L.h5 hr T.g5 T.F5.kp T.b5 tk (sa_cons (se_mv 2) sa_nil) none)))))) (sss_one (ss_end (ss_ret (se_rv 1)))))))⟩
/-- _law_cell -/
theorem e6 (k : Nat) : fs (k + 1) 6 = fnF 1 1 (m_law_cell) := rfl
theorem w6 {T : Top K.fr mg} {k : Nat} (L : Lv P K mg base T k) : FnOk P K.w K.fr mg base (L2.CX P K.w) (k + 1) T.a6 T.d6 ["state"] (spF K (cvK K.fr) 1 (fs (k + 1) 6)) := by
  rw [e6]
  refine fn_of' ["state"] rfl rfl T.F6 sc6 fun cdv A outer s H E hr tk po => ?_
  have nd := sc6.nd
  have hu := hr.units
  have hu2 : _ + 199 < cLine := Nat.lt_of_le_of_lt (Nat.add_le_add_left (by decide : 199 ≤ 200) _) (Nat.lt_of_le_of_lt (Nat.add_le_add_right (Nat.le_add_right _ _) _) hr.un)
  have hu5 : _ + 65 < cLine := Nat.lt_of_le_of_lt (Nat.add_le_add_left (by decide : 65 ≤ 200) _) (Nat.lt_of_le_of_lt (Nat.add_le_add_right (Nat.le_add_right _ _) _) hr.un)
  unfold m_law_cell
  exact ⟨_, (sss_cons (ss_put (i := 0) (by exact hu5) se_str (se_bin ol_add op_addA (se_ixA (by exact hu5) (se_vb 0) se_str) se_int)) (sss_cons (ss_if (st_cmp ol_cmp op_gt (se_ixA (by exact hu5) (se_vb 0) se_str) (se_cb cl_len call_len T.m_len (sa_cons (se_ixA (by exact hu5) (se_vb 0) se_str) sa_nil))) (sss_one (ss_ret se_int)) sss_nil) (sss_one (ss_end (ss_ret (se_ixA (by exact hu5) (se_ixA (by exact hu5) (se_vb 0) se_str) (se_bin ol_sub op_sub (se_ixA (by exact hu5) (se_vb 0) se_str) se_int)))))))⟩
/-- _law_name -/
theorem e7 (k : Nat) : fs (k + 1) 7 = fnF 5 1 (m_law_name) := rfl
theorem w7 {T : Top K.fr mg} {k : Nat} (L : Lv P K mg base T k) : FnOk P K.w K.fr mg base (L2.CX P K.w) (k + 1) T.a7 T.d7 ["cell"] (spF K (cvK K.fr) 1 (fs (k + 1) 7)) := by
  rw [e7]
  refine fn_of' ["cell", "great", "letters", "found", "k"] rfl rfl T.F7 sc7 fun cdv A outer s H E hr tk po => ?_
  have nd := sc7.nd
  have hu := hr.units
  have hu2 : _ + 199 < cLine := Nat.lt_of_le_of_lt (Nat.add_le_add_left (by decide : 199 ≤ 200) _) (Nat.lt_of_le_of_lt (Nat.add_le_add_right (Nat.le_add_right _ _) _) hr.un)
  have hu5 : _ + 65 < cLine := Nat.lt_of_le_of_lt (Nat.add_le_add_left (by decide : 65 ≤ 200) _) (Nat.lt_of_le_of_lt (Nat.add_le_add_right (Nat.le_add_right _ _) _) hr.un)
  unfold m_law_name m_law_name_b1
  exact ⟨_, (sss_cons (ss_set (i := 1) nd se_str) (sss_cons (ss_set (i := 2) nd (se_bin ol_add op_addA (se_vb 1) se_str)) (sss_cons (ss_set (i := 3) nd (se_ixA (by exact hu5) (se_vb 1) (se_bin ol_mod op_mod (se_vb 0) se_int))) (sss_cons (ss_for po rfl (si_r1 (se_ixA (by exact hu5) (se_lst (sa_cons se_int (sa_cons se_int (sa_cons se_int (sa_cons se_int (sa_cons se_int (sa_cons se_int sa_nil))))))) (se_bin ol_mod op_mod (se_bin ol_div op_fdiv (se_vb 0) se_int) se_int)) T.m_range) (sg_name nd) (sss_kill (vs := [4]) (sss_one (ss_set (i := 3) nd (se_bin ol_add op_addA (se_vb 3) (se_ixA (by exact hu5) (se_vb 2) (se_bin ol_mod op_mod (se_bin ol_add op_addA (se_bin ol_div op_fdiv (se_vb 0) (se_bin ol_add op_addA se_int (se_bin ol_mul op_mul se_int (se_vb 4)))) (se_vb 4)) se_int))))))) (sss_one (ss_end (ss_ret (se_rv 3))))))))⟩
/-- _law_leaf -/
theorem e8 (k : Nat) : fs (k + 1) 8 = fnF 2 1 (m_law_leaf (fs k 7)) := rfl
theorem w8 {T : Top K.fr mg} {k : Nat} (L : Lv P K mg base T k) : FnOk P K.w K.fr mg base (L2.CX P K.w) (k + 1) T.a8 T.d8 ["cell"] (spF K (cvK K.fr) 1 (fs (k + 1) 8)) := by
  rw [e8]
  refine fn_of' ["cell", "sign"] rfl rfl T.F8 sc8 fun cdv A outer s H E hr tk po => ?_
  have nd := sc8.nd
  have hu := hr.units
  have hu2 : _ + 199 < cLine := Nat.lt_of_le_of_lt (Nat.add_le_add_left (by decide : 199 ≤ 200) _) (Nat.lt_of_le_of_lt (Nat.add_le_add_right (Nat.le_add_right _ _) _) hr.un)
  have hu5 : _ + 65 < cLine := Nat.lt_of_le_of_lt (Nat.add_le_add_left (by decide : 65 ≤ 200) _) (Nat.lt_of_le_of_lt (Nat.add_le_add_right (Nat.le_add_right _ _) _) hr.un)
  unfold m_law_leaf
  exact ⟨_, (sss_cons (ss_set (i := 1) nd (se_ixA (by exact hu5) (se_lst (sa_cons se_str (sa_cons se_str (sa_cons se_str (sa_cons se_str (sa_cons se_str (sa_cons se_str sa_nil))))))) (se_bin ol_mod op_mod (se_bin ol_div op_fdiv (se_vb 0) se_int) se_int))) (sss_one (ss_end (ss_ret (se_ixA (by exact hu5) (se_lst (sa_cons (se_tup (sa_cons se_str (sa_cons (se_mv 1) sa_nil))) (sa_cons (se_tup (sa_cons se_str sa_nil)) (sa_cons (se_tup (sa_cons se_str (sa_cons (se_call L.h7 hr T.g7 T.F7.kp T.b7 tk (sa_cons (se_bin ol_div op_fdiv (se_vb 0) se_int) sa_nil) none) sa_nil))) (sa_cons (se_tup (sa_cons se_str (sa_cons (se_call L.h7 hr T.g7 T.F7.kp T.b7 tk (sa_cons (se_bin ol_div op_fdiv (se_vb 0) se_int) sa_nil) none) sa_nil))) sa_nil))))) (se_bin ol_mod op_mod (se_vb 0) se_int))))))⟩
/-- _law_tree -/
theorem e9 (k : Nat) : fs (k + 1) 9 = fnF 6 2 (m_law_tree (fs k 7) (fs k 9) (fs k 8) (fs k 6)) := rfl
theorem w9 {T : Top K.fr mg} {k : Nat} (L : Lv P K mg base T k) : FnOk P K.w K.fr mg base (L2.CX P K.w) (k + 1) T.a9 T.d9 ["state", "left"] (spF K (cvK K.fr) 2 (fs (k + 1) 9)) := by
  rw [e9]
  refine fn_of' ["state", "left", "cell", "takes", "kids", "k"] rfl rfl T.F9 sc9 fun cdv A outer s H E hr tk po => ?_
  have nd := sc9.nd
  have hu := hr.units
  have hu2 : _ + 199 < cLine := Nat.lt_of_le_of_lt (Nat.add_le_add_left (by decide : 199 ≤ 200) _) (Nat.lt_of_le_of_lt (Nat.add_le_add_right (Nat.le_add_right _ _) _) hr.un)
  have hu5 : _ + 65 < cLine := Nat.lt_of_le_of_lt (Nat.add_le_add_left (by decide : 65 ≤ 200) _) (Nat.lt_of_le_of_lt (Nat.add_le_add_right (Nat.le_add_right _ _) _) hr.un)
  unfold m_law_tree m_law_tree_b1
  exact ⟨_, (sss_cons (ss_set (i := 2) nd (se_call L.h6 hr T.g6 T.F6.kp T.b6 tk (sa_cons (se_vb 0) sa_nil) (some 0))) (sss_cons (ss_if (sw_or (st_cmp ol_eqB (op_eqB (by exact hu2)) (se_vb 1) se_int) (sw_one (st_cmp ol_eqB (op_eqB (by exact hu2)) (se_bin ol_mod op_mod (se_vb 2) se_int) se_int))).st (sss_one (ss_end (ss_ret (se_call L.h8 hr T.g8 T.F8.kp T.b8 tk (sa_cons (se_bin ol_div op_fdiv (se_vb 2) se_int) sa_nil) none)))) sss_nil) (sss_cons (ss_set (i := 3) nd (se_ixA (by exact hu5) (se_lst (sa_cons se_non (sa_cons (se_tup (sa_cons (se_call L.h7 hr T.g7 T.F7.kp T.b7 tk (sa_cons (se_bin ol_div op_fdiv (se_vb 2) se_int) sa_nil) none) (sa_cons se_bl sa_nil))) (sa_cons (se_tup (sa_cons (se_call L.h7 hr T.g7 T.F7.kp T.b7 tk (sa_cons (se_bin ol_div op_fdiv (se_vb 2) se_int) sa_nil) none) (sa_cons se_bl sa_nil))) sa_nil)))) (se_bin ol_mod op_mod (se_bin ol_div op_fdiv (se_vb 2) se_int) se_int))) (sss_cons (ss_set (i := 4) nd (se_lst sa_nil)) (sss_cons (ss_for po rfl (si_r1 (se_ixA (by exact hu5) (se_lst (sa_cons se_int (sa_cons se_int (sa_cons se_int (sa_cons se_int sa_nil))))) (se_bin ol_mod op_mod (se_bin ol_div op_fdiv (se_vb 2) se_int) se_int)) T.m_range) (sg_name nd) (sss_kill (vs := [5]) (sss_one (ss_app (i := 4) (se_call L.h9 hr T.g9 T.F9.kp T.b9 tk (sa_cons (se_vb 0) (sa_cons (se_bin ol_sub op_sub (se_vb 1) se_int) sa_nil)) (some 0)))))) (sss_one (ss_end (ss_ret (se_tup (sa_cons se_str (sa_cons (se_call L.h7 hr T.g7 T.F7.kp T.b7 tk (sa_cons (se_bin ol_div op_fdiv (se_vb 2) se_int) sa_nil) none) (sa_cons (se_mv 3) (sa_cons (se_ct cl_tuple call_tupX T.m_tuple (sa_cons (se_vb 4) sa_nil)) sa_nil)))))))))))))⟩
/-- _law_all -/
theorem e10 (k : Nat) : fs (k + 1) 10 = fnF 4 2 (m_law_all_2 (fs k 10)) := rfl
theorem w10 {T : Top K.fr mg} {k : Nat} (L : Lv P K mg base T k) : FnOk P K.w K.fr mg base (L2.CX P K.w) (k + 1) T.a10 T.d10 ["tree", "place"] (spF K (cvK K.fr) 2 (fs (k + 1) 10)) := by
  rw [e10]
  refine fn_of' ["tree", "place", "found", "k"] rfl rfl T.F10 sc10 fun cdv A outer s H E hr tk po => ?_
  have nd := sc10.nd
  have hu := hr.units
  have hu2 : _ + 199 < cLine := Nat.lt_of_le_of_lt (Nat.add_le_add_left (by decide : 199 ≤ 200) _) (Nat.lt_of_le_of_lt (Nat.add_le_add_right (Nat.le_add_right _ _) _) hr.un)
  have hu5 : _ + 65 < cLine := Nat.lt_of_le_of_lt (Nat.add_le_add_left (by decide : 65 ≤ 200) _) (Nat.lt_of_le_of_lt (Nat.add_le_add_right (Nat.le_add_right _ _) _) hr.un)
  unfold m_law_all_2 m_law_all_2_b1
  exact ⟨_, (sss_cons (ss_set (i := 2) nd (se_lst (sa_cons (se_tup (sa_cons (se_mv 1) (sa_cons (se_mv 0) sa_nil))) sa_nil))) (sss_cons (ss_kill (vs := [3]) (ss_if (st_cmp ol_eqB (op_eqB (by exact hu2)) (se_ixA (by exact hu5) (se_vb 0) se_int) se_str) (sss_one (ss_for po rfl (si_r1 (se_cb cl_len call_len T.m_len (sa_cons (se_ixA (by exact hu5) (se_vb 0) se_int) sa_nil)) T.m_range) (sg_name nd) (sss_kill (vs := [3]) (sss_one (ss_ext (i := 2) (se_call L.h10 hr T.g10 T.F10.kp T.b10 tk (sa_cons (se_ixA (by exact hu5) (se_ixA (by exact hu5) (se_vb 0) se_int) (se_vb 3)) (sa_cons (se_bin ol_add op_addA (se_vb 1) (se_tup (sa_cons (se_mv 3) sa_nil))) sa_nil)) none)))))) sss_nil)) (sss_one (ss_end (ss_ret (se_rv 2))))))⟩
/-- _law_put -/
theorem e11 (k : Nat) : fs (k + 1) 11 = fnF 6 3 (m_law_put (fs k 11)) := rfl
theorem w11 {T : Top K.fr mg} {k : Nat} (L : Lv P K mg base T k) : FnOk P K.w K.fr mg base (L2.CX P K.w) (k + 1) T.a11 T.d11 ["tree", "place", "other"] (spF K (cvK K.fr) 3 (fs (k + 1) 11)) := by
  rw [e11]
  refine fn_of' ["tree", "place", "other", "kids", "at", "inner"] rfl rfl T.F11 sc11 fun cdv A outer s H E hr tk po => ?_
  have nd := sc11.nd
  have hu := hr.units
  have hu2 : _ + 199 < cLine := Nat.lt_of_le_of_lt (Nat.add_le_add_left (by decide : 199 ≤ 200) _) (Nat.lt_of_le_of_lt (Nat.add_le_add_right (Nat.le_add_right _ _) _) hr.un)
  have hu5 : _ + 65 < cLine := Nat.lt_of_le_of_lt (Nat.add_le_add_left (by decide : 65 ≤ 200) _) (Nat.lt_of_le_of_lt (Nat.add_le_add_right (Nat.le_add_right _ _) _) hr.un)
  unfold m_law_put
  exact ⟨_, (sss_cons (ss_if (st_cmp ol_eqB (op_eqB (by exact hu2)) (se_vb 1) (se_tup sa_nil)) (sss_one (ss_end (ss_ret (se_rv 2)))) sss_nil) (sss_cons (ss_set (i := 3) nd (se_ixA (by exact hu5) (se_vb 0) se_int)) (sss_cons (ss_set (i := 4) nd (se_ixA (by exact hu5) (se_vb 1) se_int)) (sss_cons (ss_set (i := 5) nd (se_call L.h11 hr T.g11 T.F11.kp T.b11 tk (sa_cons (se_ixA (by exact hu5) (se_vb 3) (se_vb 4)) (sa_cons (se_slice (se_vb 1) (.some se_int) .non) (sa_cons (se_mv 2) sa_nil))) none)) (sss_one (ss_end (ss_ret (se_bin ol_add op_addA (se_slice (se_vb 0) .non (.some se_int)) (se_tup (sa_cons (se_bin ol_add op_addA (se_bin ol_add op_addA (se_slice (se_vb 3) .non (.some (se_vb 4))) (se_tup (sa_cons (se_mv 5) sa_nil))) (se_slice (se_vb 3) (.some (se_bin ol_add op_addA (se_vb 4) se_int)) .non)) sa_nil))))))))))⟩
/-- _law_refused -/
theorem e12 (k : Nat) : fs (k + 1) 12 = fnF 6 3 (m_law_refused (fs k 4) (fs k 2)) := rfl
theorem w12 {T : Top K.fr mg} {k : Nat} (L : Lv P K mg base T k) : FnOk P K.w K.fr mg base (L2.CX P K.w) (k + 1) T.a12 T.d12 ["tree", "place", "putting"] (spF K (cvK K.fr) 3 (fs (k + 1) 12)) := by
  rw [e12]
  refine fn_of' ["tree", "place", "putting", "caught", "e", "others"] rfl rfl T.F12 sc12 fun cdv A outer s H E hr tk po => ?_
  have nd := sc12.nd
  have hu := hr.units
  have hu2 : _ + 199 < cLine := Nat.lt_of_le_of_lt (Nat.add_le_add_left (by decide : 199 ≤ 200) _) (Nat.lt_of_le_of_lt (Nat.add_le_add_right (Nat.le_add_right _ _) _) hr.un)
  have hu5 : _ + 65 < cLine := Nat.lt_of_le_of_lt (Nat.add_le_add_left (by decide : 65 ≤ 200) _) (Nat.lt_of_le_of_lt (Nat.add_le_add_right (Nat.le_add_right _ _) _) hr.un)
  unfold m_law_refused
  exact ⟨_, (sss_cons (ss_set (i := 3) nd se_non) (sss_cons (ss_kill (vs := [4]) (ss_try (C := ctF K (cvK K.fr) E) (ns := ["NoPlace"]) (cs := ["NoPlace"]) (i := 4) T.y4 T.xg_GraftError nd tk (fun W pn xe tk po => ⟨_, (sss_one (ss_if (st_val (se_vb 2)) (sss_one (ss_expr (se_call (C := ⟨K, cvK K.fr, W⟩) L.h4 (by exact hr) T.g4 T.F4.kp T.b4 tk (sa_cons (se_mv 0) (sa_cons (se_mv 1) (sa_cons (se_tup (sa_cons se_str sa_nil)) sa_nil))) none))) (sss_one (ss_expr (se_call (C := ⟨K, cvK K.fr, W⟩) L.h2 (by exact hr) T.g2 T.F2.kp T.b2 tk (sa_cons (se_mv 0) (sa_cons (se_mv 1) sa_nil)) none)))))⟩) (fun a pn => (sss_one (ss_set (i := 3) nd (se_mv 4)))))) (sss_cons (ss_set (i := 5) nd (se_iscT T.m_isinstance (pcs_cons T.xg_NoKey (pcs_cons T.xg_NoLine (pcs_cons T.xg_NoPlan (pcs_cons T.xg_NoRow (pcs_cons T.xg_NoText (pcs_cons T.xg_NoTree (pcs_cons T.xg_TooMany (pcs_cons T.xg_Twice (pcs_cons T.xg_TwoSided pcs_nil))))))))) T.y3 (se_vb 3))) (sss_cons (ss_if (sw_or (st_val (se_vb 5)) (sw_or (st_not (st_val (se_isc T.m_isinstance T.xg_NoPlace T.y2 (se_vb 3)))) (sw_one (st_not (st_val (se_ist (T := "ValueError") T.m_isinstance T.m_ValueError T.y1 (se_vb 3))))))).st (sss_one (ss_end (ss_ret se_bl))) sss_nil) (sss_one (ss_end (ss_ret (se_cmp ol_eqB (op_eqB (by exact hu2)) (se_xf T.y0 (se_vb 3)) (se_vb 1)))))))))⟩
/-- law -/
theorem e13 (k : Nat) : fs (k + 1) 13 = fnF 15 1 (m_law_k03_2 (fs k 4) (fs k 2) (fs k 12) (fs k 1) (fs k 11) (fs k 5) (fs k 10) (fs k 9)) := rfl
theorem w13 {T : Top K.fr mg} {k : Nat} (L : Lv P K mg base T k) : FnOk P K.w K.fr mg base (L2.CX P K.w) (k + 1) T.a13 T.d13 ["script"] (spF K (cvK K.fr) 1 (fs (k + 1) 13)) := by
  rw [e13]
  refine fn_of' ["script", "tree", "other", "due", "told", "cell", "place", "piece", "mine", "signs", "spot", "number", "bent", "there", "one"] rfl rfl T.F13 sc13 fun cdv A outer s H E hr tk po => ?_
  have nd := sc13.nd
  have hu := hr.units
  have hu2 : _ + 199 < cLine := Nat.lt_of_le_of_lt (Nat.add_le_add_left (by decide : 199 ≤ 200) _) (Nat.lt_of_le_of_lt (Nat.add_le_add_right (Nat.le_add_right _ _) _) hr.un)
  have hu5 : _ + 65 < cLine := Nat.lt_of_le_of_lt (Nat.add_le_add_left (by decide : 65 ≤ 200) _) (Nat.lt_of_le_of_lt (Nat.add_le_add_right (Nat.le_add_right _ _) _) hr.un)
  unfold m_law_k03_2 m_law_k03_2_ce9 m_law_k03_2_b8 m_law_k03_2_ce7 m_law_k03_2_ct6 m_law_k03_2_ce5 m_law_k03_2_ct4 m_law_k03_2_b3 m_law_k03_2_ce2 m_law_k03_2_ce1
  exact ⟨_, (sss_cons (ss_set (i := 1) nd (se_callF L.h9 hr T.g9 T.F9.kp T.b9 tk (se_dct (sd_cons se_str (se_slice (se_vb 0) .non (.some se_int)) (sd_cons se_str se_int sd_nil))) (sa_cons se_int sa_nil))) (sss_cons (ss_set (i := 2) nd (se_callF L.h9 hr T.g9 T.F9.kp T.b9 tk (se_dct (sd_cons se_str (se_slice (se_vb 0) (.some se_int) (.some se_int)) (sd_cons se_str se_int sd_nil))) (sa_cons se_int sa_nil))) (sss_cons (ss_set (i := 3) nd (se_call L.h10 hr T.g10 T.F10.kp T.b10 tk (sa_cons (se_mv 1) (sa_cons (se_tup sa_nil) sa_nil)) none)) (sss_cons (ss_set (i := 4) nd (se_call L.h1 hr T.g1 T.F1.kp T.b1 tk (sa_cons (se_mv 1) sa_nil) none)) (sss_cons (ss_if (sw_or (st_not (st_val (se_isi kit_lst T.m_isinstance T.m_list (se_vb 4)))) (sw_or (st_cmp ol_neB (op_neB (by exact hu2)) (se_vb 4) (se_comp (own := [(("place" : Str), 6), (("piece" : Str), 7)]) rfl nd (blkOk_by (N := ["script", "tree", "other", "due", "told", "cell", "place", "piece", "mine", "signs", "spot", "number", "bent", "there", "one"]) (sc := defScope s13) (by decide +kernel)) (si_sq (se_mv 3)) (fun _ _ _ _ _ => (sgw_tup rfl (sgws_cons (sgw_name nd) (sgws_cons (sgw_name nd) sgws_nil)))) (fun _ _ _ _ _ => sp_nil) (fun _ _ _ _ _ => (se_mv 6)))) (sw_one (st_cmp ol_neB (op_neB (by exact hu2)) (se_vb 4) (se_cb cl_sortU (cr_sortU (by exact hr.units)) T.m_sorted (sa_cons (se_vb 4) sa_nil)))))).st (sss_one (ss_end (ss_ret se_bl))) sss_nil) (sss_cons (ss_app (i := 4) (se_tup (sa_cons se_int sa_nil))) (sss_cons (ss_for po rfl (si_sq (se_mv 3)) (sg_tup rfl (sgs_cons (sg_name nd) (sgs_cons (sg_name nd) sgs_nil))) (sss_kill (vs := [6, 7, 8, 9]) (sss_cons (ss_setLc (i := 8) (own := [(("spot" : Str), 10), (("one" : Str), 14)]) rfl nd (blkOk_by (N := ["script", "tree", "other", "due", "told", "cell", "place", "piece", "mine", "signs", "spot", "number", "bent", "there", "one"]) (sc := defScope s13) (by decide +kernel)) (si_sq (se_mv 3)) (fun _ _ _ _ _ => (sgw_tup rfl (sgws_cons (sgw_name nd) (sgws_cons (sgw_name nd) sgws_nil)))) (fun _ _ _ _ _ => (sp_one (st_cmp ol_eqB (op_eqB (by exact hu2)) (se_slice (se_vb 10) .non (.some (se_cb cl_len call_len T.m_len (sa_cons (se_vb 6) sa_nil)))) (se_vb 6)))) (fun _ _ _ _ _ => (se_mv 14)) (sw_true rfl rfl rfl (by decide +kernel))) (sss_cons (ss_set (i := 9) nd (se_ct cl_tuple call_tupX T.m_tuple (sa_cons (se_comp (own := [(("one" : Str), 14)]) rfl nd (blkOk_by (N := ["script", "tree", "other", "due", "told", "cell", "place", "piece", "mine", "signs", "spot", "number", "bent", "there", "one"]) (sc := defScope s13) (by decide +kernel)) (si_sq (se_mv 8)) (fun _ _ _ _ _ => (sgw_name nd)) (fun _ _ _ _ _ => (sp_one (st_cmp ol_eqB (op_eqB (by exact hu2)) (se_ixA (by exact hu5) (se_vb 14) se_int) se_str))) (fun _ _ _ _ _ => (se_ixA (by exact hu5) (se_vb 14) se_int))) sa_nil))) (sss_one (ss_if (sw_or (st_cmp ol_neB (op_neB (by exact hu2)) (se_call L.h2 hr T.g2 T.F2.kp T.b2 tk (sa_cons (se_mv 1) (sa_cons (se_mv 6) sa_nil)) none) (se_vb 7)) (sw_one (st_cmp ol_neB (op_neB (by exact hu2)) (se_call L.h5 hr T.g5 T.F5.kp T.b5 tk (sa_cons (se_mv 7) sa_nil) none) (se_vb 9)))).st (sss_one (ss_end (ss_ret se_bl))) sss_nil)))))) (sss_cons (ss_for po rfl (si_sq (se_if (st_cmp ol_cmp op_gt (se_cb cl_len call_len T.m_len (sa_cons (se_vb 0) sa_nil)) se_int) (se_slice (se_vb 0) .non (.some se_int)) (se_lst (sa_cons se_int sa_nil)))) (sg_name nd) (sss_kill (vs := [5, 6, 10, 11, 12, 13]) (sss_cons (ss_set (i := 6) nd (se_ixA (by exact hu5) (se_ixA (by exact hu5) (se_vb 3) (se_bin ol_mod op_mod (se_vb 5) (se_cb cl_len call_len T.m_len (sa_cons (se_vb 3) sa_nil)))) se_int)) (sss_cons (ss_if (st_cmp ol_neB (op_neB (by exact hu2)) (se_call L.h4 hr T.g4 T.F4.kp T.b4 tk (sa_cons (se_mv 1) (sa_cons (se_mv 6) (sa_cons (se_mv 2) sa_nil))) none) (se_call L.h11 hr T.g11 T.F11.kp T.b11 tk (sa_cons (se_mv 1) (sa_cons (se_mv 6) (sa_cons (se_mv 2) sa_nil))) none)) (sss_one (ss_end (ss_ret se_bl))) sss_nil) (sss_cons (ss_if (st_cmp ol_neB (op_neB (by exact hu2)) (se_call L.h1 hr T.g1 T.F1.kp T.b1 tk (sa_cons (se_mv 1) sa_nil) none) (se_comp (own := [(("spot" : Str), 10), (("one" : Str), 14)]) rfl nd (blkOk_by (N := ["script", "tree", "other", "due", "told", "cell", "place", "piece", "mine", "signs", "spot", "number", "bent", "there", "one"]) (sc := defScope s13) (by decide +kernel)) (si_sq (se_mv 3)) (fun _ _ _ _ _ => (sgw_tup rfl (sgws_cons (sgw_name nd) (sgws_cons (sgw_name nd) sgws_nil)))) (fun _ _ _ _ _ => sp_nil) (fun _ _ _ _ _ => (se_mv 10)))) (sss_one (ss_end (ss_ret se_bl))) sss_nil) (sss_cons (ss_set (i := 10) nd (se_bin ol_mod op_mod (se_bin ol_div op_fdiv (se_vb 5) se_int) (se_bin ol_add op_addA (se_cb cl_len call_len T.m_len (sa_cons (se_vb 6) sa_nil)) se_int))) (sss_cons (ss_set (i := 11) nd (se_ixA (by exact hu5) (se_lst (sa_cons (se_neg se_int) (sa_cons se_int (sa_cons se_int (sa_cons se_int (sa_cons se_int (sa_cons (se_neg se_int) (sa_cons (se_bin ol_pow op_pow se_int se_int) sa_nil)))))))) (se_bin ol_mod op_mod (se_bin ol_div op_fdiv (se_vb 5) se_int) se_int))) (sss_cons (ss_set (i := 12) nd (se_bin ol_add op_addA (se_bin ol_add op_addA (se_slice (se_vb 6) .non (.some (se_vb 10))) (se_tup (sa_cons (se_mv 11) sa_nil))) (se_slice (se_vb 6) (.some (se_bin ol_add op_addA (se_vb 10) (se_bin ol_mod op_mod (se_bin ol_div op_fdiv (se_vb 5) se_int) se_int))) .non))) (sss_cons (ss_set (i := 13) nd (se_cmp ol_inB (op_inB (by exact hu5)) (se_vb 12) (se_comp (own := [(("one" : Str), 14), (("piece" : Str), 7)]) rfl nd (blkOk_by (N := ["script", "tree", "other", "due", "told", "cell", "place", "piece", "mine", "signs", "spot", "number", "bent", "there", "one"]) (sc := defScope s13) (by decide +kernel)) (si_sq (se_mv 3)) (fun _ _ _ _ _ => (sgw_tup rfl (sgws_cons (sgw_name nd) (sgws_cons (sgw_name nd) sgws_nil)))) (fun _ _ _ _ _ => sp_nil) (fun _ _ _ _ _ => (se_mv 14))))) (sss_cons (ss_if (sw_and (st_not (st_val (se_vb 13))) (sw_one (st_not (st_val (se_call L.h12 hr T.g12 T.F12.kp T.b12 tk (sa_cons (se_mv 1) (sa_cons (se_mv 12) (sa_cons (se_cmp ol_eqB (op_eqB (by exact hu2)) (se_bin ol_mod op_mod (se_vb 5) se_int) se_int) sa_nil))) none))))).st (sss_one (ss_end (ss_ret se_bl))) sss_nil) (sss_one (ss_if (sw_and (st_val (se_vb 13)) (sw_one (st_cmp ol_neB (op_neB (by exact hu2)) (se_call L.h2 hr T.g2 T.F2.kp T.b2 tk (sa_cons (se_call L.h4 hr T.g4 T.F4.kp T.b4 tk (sa_cons (se_mv 1) (sa_cons (se_mv 12) (sa_cons (se_mv 2) sa_nil))) none) (sa_cons (se_mv 12) sa_nil)) none) (se_vb 2)))).st (sss_one (ss_end (ss_ret se_bl))) sss_nil)))))))))))) (sss_one (ss_end (ss_ret se_bl)))))))))))⟩
theorem xw_NoPlace {T : Top K.fr mg} : ∀ k, IniOk P K.w K.fr mg base k T.xI_NoPlace T.xd_NoPlace ["place"] (fs k 14)
  | 0 => .inl rfl
  | 1 => .inl rfl
  | k + 2 => .inr ⟨k + 1, rfl, fn_init1 T.xF_NoPlace sci_NoPlace fun cdv A outer s H E => pss_cons (ps_expr (pe_ginit T.gi T.xg_GraftError (pa_cons (pe_var (i := 0) rfl (.inl rfl)) (pa_cons pe_str pa_nil)))) (pss_one (ps_ost (pe_var (i := 0) rfl (.inl rfl)) (pe_var (i := 1) rfl (.inl rfl))))⟩
theorem lv (T : Top K.fr mg) : ∀ k, Lv P K mg base T k
  | 0 => ⟨fn_zero rfl, fn_zero rfl, fn_zero rfl, fn_zero rfl, fn_zero rfl, fn_zero rfl, fn_zero rfl, fn_zero rfl, fn_zero rfl, fn_zero rfl, fn_zero rfl, fn_zero rfl, fn_zero rfl, fn_zero rfl, xw_NoPlace 0⟩
  | k + 1 => have L := lv T k; ⟨w0 L, w1 L, w2 L, w3 L, w4 L, w5 L, w6 L, w7 L, w8 L, w9 L, w10 L, w11 L, w12 L, w13 L, xw_NoPlace (k + 1)⟩
end
end Wk03
namespace Wk03
open PySem L2 GS GM
/-! ### the end -/
theorem top_mk {K : PySem.W.Frag} {h : Heap} {mg : Str → Option Value} {fa f0 f1 f2 f3 f4 f5 f6 f7 f8 f9 f10 f11 f12 f13 : Addr} (X : K.In h) (G : h.Ns mainGlobals mg) (hfa : mg "law" = some (.ref fa))
    {od0 an0 od1 an1 od2 an2 od3 an3 od4 an4 od5 an5 od6 an6 od7 an7 od8 an8 od9 an9 od10 an10 od11 an11 od12 an12 od13 an13 : Option Addr} {sl0 sl1 sl2 sl3 sl4 sl5 sl6 sl7 sl8 sl9 sl10 sl11 sl12 sl13 : Array (Option Value)} {oc0 kV0 dc0 pm0 cd0 ct0 oc1 kV1 dc1 pm1 cd1 ct1 oc2 kV2 dc2 pm2 cd2 ct2 oc3 kV3 dc3 pm3 cd3 ct3 oc4 kV4 dc4 pm4 cd4 ct4 oc5 kV5 dc5 pm5 cd5 ct5 oc6 kV6 dc6 pm6 cd6 ct6 oc7 kV7 dc7 pm7 cd7 ct7 oc8 kV8 dc8 pm8 cd8 ct8 oc9 kV9 dc9 pm9 cd9 ct9 oc10 kV10 dc10 pm10 cd10 ct10 oc11 kV11 dc11 pm11 cd11 ct11 oc12 kV12 dc12 pm12 cd12 ct12 oc13 kV13 dc13 pm13 cd13 ct13 : Value}
    (a0 : PySem.W.nsIn K mainGlobals "kids_of" = some (some (.ref f0))) (l0 : K.lookup f0 = some ⟨oc0, od0, .func (PySem.W.fnOf "kids_of" "kids_of" (defArgs s0) (defBody s0) (defScope s0) .none kV0 dc0 pm0 an0 cd0 ct0), sl0⟩) (c0 : PySem.W.codeIn K cd0 "kids_of" = true) (k0 : PySem.W.keepIn K (.ref f0) = true)
    (a1 : PySem.W.nsIn K mainGlobals "places" = some (some (.ref f1))) (l1 : K.lookup f1 = some ⟨oc1, od1, .func (PySem.W.fnOf "places" "places" (defArgs s1) (defBody s1) (defScope s1) .none kV1 dc1 pm1 an1 cd1 ct1), sl1⟩) (c1 : PySem.W.codeIn K cd1 "places" = true) (k1 : PySem.W.keepIn K (.ref f1) = true)
    (a2 : PySem.W.nsIn K mainGlobals "piece_at" = some (some (.ref f2))) (l2 : K.lookup f2 = some ⟨oc2, od2, .func (PySem.W.fnOf "piece_at" "piece_at" (defArgs s2) (defBody s2) (defScope s2) .none kV2 dc2 pm2 an2 cd2 ct2), sl2⟩) (c2 : PySem.W.codeIn K cd2 "piece_at" = true) (k2 : PySem.W.keepIn K (.ref f2) = true)
    (a3 : PySem.W.nsIn K mainGlobals "put_in" = some (some (.ref f3))) (l3 : K.lookup f3 = some ⟨oc3, od3, .func (PySem.W.fnOf "put_in" "put_in" (defArgs s3) (defBody s3) (defScope s3) .none kV3 dc3 pm3 an3 cd3 ct3), sl3⟩) (c3 : PySem.W.codeIn K cd3 "put_in" = true) (k3 : PySem.W.keepIn K (.ref f3) = true)
    (a4 : PySem.W.nsIn K mainGlobals "put_at" = some (some (.ref f4))) (l4 : K.lookup f4 = some ⟨oc4, od4, .func (PySem.W.fnOf "put_at" "put_at" (defArgs s4) (defBody s4) (defScope s4) .none kV4 dc4 pm4 an4 cd4 ct4), sl4⟩) (c4 : PySem.W.codeIn K cd4 "put_at" = true) (k4 : PySem.W.keepIn K (.ref f4) = true)
    (a5 : PySem.W.nsIn K mainGlobals "signs_of" = some (some (.ref f5))) (l5 : K.lookup f5 = some ⟨oc5, od5, .func (PySem.W.fnOf "signs_of" "signs_of" (defArgs s5) (defBody s5) (defScope s5) .none kV5 dc5 pm5 an5 cd5 ct5), sl5⟩) (c5 : PySem.W.codeIn K cd5 "signs_of" = true) (k5 : PySem.W.keepIn K (.ref f5) = true)
    (a6 : PySem.W.nsIn K mainGlobals "_law_cell" = some (some (.ref f6))) (l6 : K.lookup f6 = some ⟨oc6, od6, .func (PySem.W.fnOf "_law_cell" "_law_cell" (defArgs s6) (defBody s6) (defScope s6) .none kV6 dc6 pm6 an6 cd6 ct6), sl6⟩) (c6 : PySem.W.codeIn K cd6 "_law_cell" = true) (k6 : PySem.W.keepIn K (.ref f6) = true)
    (a7 : PySem.W.nsIn K mainGlobals "_law_name" = some (some (.ref f7))) (l7 : K.lookup f7 = some ⟨oc7, od7, .func (PySem.W.fnOf "_law_name" "_law_name" (defArgs s7) (defBody s7) (defScope s7) .none kV7 dc7 pm7 an7 cd7 ct7), sl7⟩) (c7 : PySem.W.codeIn K cd7 "_law_name" = true) (k7 : PySem.W.keepIn K (.ref f7) = true)
    (a8 : PySem.W.nsIn K mainGlobals "_law_leaf" = some (some (.ref f8))) (l8 : K.lookup f8 = some ⟨oc8, od8, .func (PySem.W.fnOf "_law_leaf" "_law_leaf" (defArgs s8) (defBody s8) (defScope s8) .none kV8 dc8 pm8 an8 cd8 ct8), sl8⟩) (c8 : PySem.W.codeIn K cd8 "_law_leaf" = true) (k8 : PySem.W.keepIn K (.ref f8) = true)
    (a9 : PySem.W.nsIn K mainGlobals "_law_tree" = some (some (.ref f9))) (l9 : K.lookup f9 = some ⟨oc9, od9, .func (PySem.W.fnOf "_law_tree" "_law_tree" (defArgs s9) (defBody s9) (defScope s9) .none kV9 dc9 pm9 an9 cd9 ct9), sl9⟩) (c9 : PySem.W.codeIn K cd9 "_law_tree" = true) (k9 : PySem.W.keepIn K (.ref f9) = true)
    (a10 : PySem.W.nsIn K mainGlobals "_law_all" = some (some (.ref f10))) (l10 : K.lookup f10 = some ⟨oc10, od10, .func (PySem.W.fnOf "_law_all" "_law_all" (defArgs s10) (defBody s10) (defScope s10) .none kV10 dc10 pm10 an10 cd10 ct10), sl10⟩) (c10 : PySem.W.codeIn K cd10 "_law_all" = true) (k10 : PySem.W.keepIn K (.ref f10) = true)
    (a11 : PySem.W.nsIn K mainGlobals "_law_put" = some (some (.ref f11))) (l11 : K.lookup f11 = some ⟨oc11, od11, .func (PySem.W.fnOf "_law_put" "_law_put" (defArgs s11) (defBody s11) (defScope s11) .none kV11 dc11 pm11 an11 cd11 ct11), sl11⟩) (c11 : PySem.W.codeIn K cd11 "_law_put" = true) (k11 : PySem.W.keepIn K (.ref f11) = true)
    (a12 : PySem.W.nsIn K mainGlobals "_law_refused" = some (some (.ref f12))) (l12 : K.lookup f12 = some ⟨oc12, od12, .func (PySem.W.fnOf "_law_refused" "_law_refused" (defArgs s12) (defBody s12) (defScope s12) .none kV12 dc12 pm12 an12 cd12 ct12), sl12⟩) (c12 : PySem.W.codeIn K cd12 "_law_refused" = true) (k12 : PySem.W.keepIn K (.ref f12) = true)
    (a13 : PySem.W.nsIn K mainGlobals "law" = some (some (.ref f13))) (l13 : K.lookup f13 = some ⟨oc13, od13, .func (PySem.W.fnOf "law" "law" (defArgs s13) (defBody s13) (defScope s13) .none kV13 dc13 pm13 an13 cd13 ct13), sl13⟩) (c13 : PySem.W.codeIn K cd13 "law" = true) (k13 : PySem.W.keepIn K (.ref f13) = true)
    (z_enumerate : PySem.W.nsIn K mainGlobals "enumerate" = some none)
    (z_len : PySem.W.nsIn K mainGlobals "len" = some none)
    (z_tuple : PySem.W.nsIn K mainGlobals "tuple" = some none)
    (z_list : PySem.W.nsIn K mainGlobals "list" = some none)
    (z_range : PySem.W.nsIn K mainGlobals "range" = some none)
    (z_isinstance : PySem.W.nsIn K mainGlobals "isinstance" = some none)
    (z_ValueError : PySem.W.nsIn K mainGlobals "ValueError" = some none)
    (z_sorted : PySem.W.nsIn K mainGlobals "sorted" = some none)
    {fx_GraftError : Addr} (xa_GraftError : PySem.W.nsIn K mainGlobals "GraftError" = some (some (.ref fx_GraftError)))
    {fx_NoPlace : Addr} (xa_NoPlace : PySem.W.nsIn K mainGlobals "NoPlace" = some (some (.ref fx_NoPlace)))
    {fx_NoKey : Addr} (xa_NoKey : PySem.W.nsIn K mainGlobals "NoKey" = some (some (.ref fx_NoKey)))
    {fx_NoLine : Addr} (xa_NoLine : PySem.W.nsIn K mainGlobals "NoLine" = some (some (.ref fx_NoLine)))
    {fx_NoPlan : Addr} (xa_NoPlan : PySem.W.nsIn K mainGlobals "NoPlan" = some (some (.ref fx_NoPlan)))
    {fx_NoRow : Addr} (xa_NoRow : PySem.W.nsIn K mainGlobals "NoRow" = some (some (.ref fx_NoRow)))
    {fx_NoText : Addr} (xa_NoText : PySem.W.nsIn K mainGlobals "NoText" = some (some (.ref fx_NoText)))
    {fx_NoTree : Addr} (xa_NoTree : PySem.W.nsIn K mainGlobals "NoTree" = some (some (.ref fx_NoTree)))
    {fx_TooMany : Addr} (xa_TooMany : PySem.W.nsIn K mainGlobals "TooMany" = some (some (.ref fx_TooMany)))
    {fx_Twice : Addr} (xa_Twice : PySem.W.nsIn K mainGlobals "Twice" = some (some (.ref fx_Twice)))
    {fx_TwoSided : Addr} (xa_TwoSided : PySem.W.nsIn K mainGlobals "TwoSided" = some (some (.ref fx_TwoSided)))
    (gi : giB K fx_GraftError = true)
    {fi_NoPlace : Addr} {xod_NoPlace xan_NoPlace : Option Addr} {xsl_NoPlace : Array (Option Value)} {xoc_NoPlace xkV_NoPlace xdc_NoPlace xpm_NoPlace xcd_NoPlace xct_NoPlace : Value}
    (xi_NoPlace : PySem.W.findIn K (.ref fx_NoPlace) "__init__" = some (some (.ref fi_NoPlace))) (xl_NoPlace : K.lookup fi_NoPlace = some ⟨xoc_NoPlace, xod_NoPlace, .func (PySem.W.fnOf "__init__" "NoPlace.__init__" (defArgs si_NoPlace) (defBody si_NoPlace) (defScope si_NoPlace) .none xkV_NoPlace xdc_NoPlace xpm_NoPlace xan_NoPlace xcd_NoPlace xct_NoPlace), xsl_NoPlace⟩) (xc_NoPlace : PySem.W.codeIn K xcd_NoPlace "NoPlace.__init__" = true) (xk_NoPlace : PySem.W.keepIn K (.ref fi_NoPlace) = true)
    {xn_NoPlace xq_NoPlace : Str} {xN_NoPlace : Addr} {xbs_NoPlace xbm_NoPlace : List Value} {xsn_NoPlace : List Str} {xsu_NoPlace : List Value} {xab_NoPlace : Bool} {xco_NoPlace : Option Bool} {xdd_NoPlace : Option Addr} {x0_NoPlace x1_NoPlace x2_NoPlace x3_NoPlace x5_NoPlace : Option Value}
    (xe_NoPlace : K.lookup fx_NoPlace = some (excClassObj xn_NoPlace xq_NoPlace fx_NoPlace xN_NoPlace xbs_NoPlace xbm_NoPlace true xsn_NoPlace xsu_NoPlace xab_NoPlace xco_NoPlace xdd_NoPlace x0_NoPlace x1_NoPlace x2_NoPlace x3_NoPlace x5_NoPlace "ValueError.__new__")) (xr_NoPlace : PySem.HandSPX.refsVE xbm_NoPlace = true) (xo_NoPlace : oeB K fx_NoPlace fi_NoPlace ["place"] = true) (xv_NoPlace : cvK K "NoPlace" = .ref fx_NoPlace)
    (y0 : fldB K "place" ["NoPlace"] = true)
    (y1 : isoB K (.type "ValueError") ["NoPlace"] ["NoPlace"] = true)
    (y2 : isoB K (.ref fx_NoPlace) ["NoPlace"] ["NoPlace"] = true)
    (y3 : isoBs K [.ref fx_NoKey, .ref fx_NoLine, .ref fx_NoPlan, .ref fx_NoRow, .ref fx_NoText, .ref fx_NoTree, .ref fx_TooMany, .ref fx_Twice, .ref fx_TwoSided] ["NoPlace"] [] = true)
    (y4 : tryB K (.ref fx_GraftError) ["NoPlace"] ["NoPlace"] = true)
    : ∃ T : Top K mg, T.a13 = fa ∧ ∀ (s : Shared) (v : Value), BindsTo s T.d13 ⟨[v], []⟩ [("script", v)] := by
  have e := hfa.symm.trans (PySem.W.mg_of X G a13)
  have e' : f13 = fa := by cases e; rfl
  have F0 := fun_mk (st := s0) l0 c0 k0
  have b0 := F0.binds (ps := ["tree"]) fun _ _ _ _ _ _ us hl => match us, hl with | [_], _ => rfl
  have F1 := fun_mk (st := s1) l1 c1 k1
  have b1 := F1.binds (ps := ["tree"]) fun _ _ _ _ _ _ us hl => match us, hl with | [_], _ => rfl
  have F2 := fun_mk (st := s2) l2 c2 k2
  have b2 := F2.binds (ps := ["tree", "place"]) fun _ _ _ _ _ _ us hl => match us, hl with | [_, _], _ => rfl
  have F3 := fun_mk (st := s3) l3 c3 k3
  have b3 := F3.binds (ps := ["tree", "place", "other"]) fun _ _ _ _ _ _ us hl => match us, hl with | [_, _, _], _ => rfl
  have F4 := fun_mk (st := s4) l4 c4 k4
  have b4 := F4.binds (ps := ["tree", "place", "other"]) fun _ _ _ _ _ _ us hl => match us, hl with | [_, _, _], _ => rfl
  have F5 := fun_mk (st := s5) l5 c5 k5
  have b5 := F5.binds (ps := ["tree"]) fun _ _ _ _ _ _ us hl => match us, hl with | [_], _ => rfl
  have F6 := fun_mk (st := s6) l6 c6 k6
  have b6 := F6.binds (ps := ["state"]) fun _ _ _ _ _ _ us hl => match us, hl with | [_], _ => rfl
  have F7 := fun_mk (st := s7) l7 c7 k7
  have b7 := F7.binds (ps := ["cell"]) fun _ _ _ _ _ _ us hl => match us, hl with | [_], _ => rfl
  have F8 := fun_mk (st := s8) l8 c8 k8
  have b8 := F8.binds (ps := ["cell"]) fun _ _ _ _ _ _ us hl => match us, hl with | [_], _ => rfl
  have F9 := fun_mk (st := s9) l9 c9 k9
  have b9 := F9.binds (ps := ["state", "left"]) fun _ _ _ _ _ _ us hl => match us, hl with | [_, _], _ => rfl
  have F10 := fun_mk (st := s10) l10 c10 k10
  have b10 := F10.binds (ps := ["tree", "place"]) fun _ _ _ _ _ _ us hl => match us, hl with | [_, _], _ => rfl
  have F11 := fun_mk (st := s11) l11 c11 k11
  have b11 := F11.binds (ps := ["tree", "place", "other"]) fun _ _ _ _ _ _ us hl => match us, hl with | [_, _, _], _ => rfl
  have F12 := fun_mk (st := s12) l12 c12 k12
  have b12 := F12.binds (ps := ["tree", "place", "putting"]) fun _ _ _ _ _ _ us hl => match us, hl with | [_, _, _], _ => rfl
  have F13 := fun_mk (st := s13) l13 c13 k13
  have b13 := F13.binds (ps := ["script"]) fun _ _ _ _ _ _ us hl => match us, hl with | [_], _ => rfl
  have xF_NoPlace := fun_mk (st := si_NoPlace) xl_NoPlace xc_NoPlace xk_NoPlace
  have xb_NoPlace := xF_NoPlace.binds (ps := ["self", "place"]) fun _ _ _ _ _ _ us hl => match us, hl with | [_, _], _ => rfl
  obtain ⟨xs1_NoPlace, xs2_NoPlace, xs3_NoPlace, xs4_NoPlace, _⟩ := oeB_ok xo_NoPlace
  exact ⟨{ a0 := f0, d0 := _, F0 := F0, b0 := b0, g0 := PySem.W.mg_of X G a0, a1 := f1, d1 := _, F1 := F1, b1 := b1, g1 := PySem.W.mg_of X G a1, a2 := f2, d2 := _, F2 := F2, b2 := b2, g2 := PySem.W.mg_of X G a2, a3 := f3, d3 := _, F3 := F3, b3 := b3, g3 := PySem.W.mg_of X G a3, a4 := f4, d4 := _, F4 := F4, b4 := b4, g4 := PySem.W.mg_of X G a4, a5 := f5, d5 := _, F5 := F5, b5 := b5, g5 := PySem.W.mg_of X G a5, a6 := f6, d6 := _, F6 := F6, b6 := b6, g6 := PySem.W.mg_of X G a6, a7 := f7, d7 := _, F7 := F7, b7 := b7, g7 := PySem.W.mg_of X G a7, a8 := f8, d8 := _, F8 := F8, b8 := b8, g8 := PySem.W.mg_of X G a8, a9 := f9, d9 := _, F9 := F9, b9 := b9, g9 := PySem.W.mg_of X G a9, a10 := f10, d10 := _, F10 := F10, b10 := b10, g10 := PySem.W.mg_of X G a10, a11 := f11, d11 := _, F11 := F11, b11 := b11, g11 := PySem.W.mg_of X G a11, a12 := f12, d12 := _, F12 := F12, b12 := b12, g12 := PySem.W.mg_of X G a12, a13 := f13, d13 := _, F13 := F13, b13 := b13, g13 := PySem.W.mg_of X G a13, m_enumerate := PySem.W.mg_none_of X G z_enumerate, m_len := PySem.W.mg_none_of X G z_len, m_tuple := PySem.W.mg_none_of X G z_tuple, m_list := PySem.W.mg_none_of X G z_list, m_range := PySem.W.mg_none_of X G z_range, m_isinstance := PySem.W.mg_none_of X G z_isinstance, m_ValueError := PySem.W.mg_none_of X G z_ValueError, m_sorted := PySem.W.mg_none_of X G z_sorted, xA_GraftError := fx_GraftError, xg_GraftError := PySem.W.mg_of X G xa_GraftError, xA_NoPlace := fx_NoPlace, xg_NoPlace := PySem.W.mg_of X G xa_NoPlace, xA_NoKey := fx_NoKey, xg_NoKey := PySem.W.mg_of X G xa_NoKey, xA_NoLine := fx_NoLine, xg_NoLine := PySem.W.mg_of X G xa_NoLine, xA_NoPlan := fx_NoPlan, xg_NoPlan := PySem.W.mg_of X G xa_NoPlan, xA_NoRow := fx_NoRow, xg_NoRow := PySem.W.mg_of X G xa_NoRow, xA_NoText := fx_NoText, xg_NoText := PySem.W.mg_of X G xa_NoText, xA_NoTree := fx_NoTree, xg_NoTree := PySem.W.mg_of X G xa_NoTree, xA_TooMany := fx_TooMany, xg_TooMany := PySem.W.mg_of X G xa_TooMany, xA_Twice := fx_Twice, xg_Twice := PySem.W.mg_of X G xa_Twice, xA_TwoSided := fx_TwoSided, xg_TwoSided := PySem.W.mg_of X G xa_TwoSided, gi := gi, xI_NoPlace := fi_NoPlace, xd_NoPlace := _, xF_NoPlace := xF_NoPlace, xb_NoPlace := xb_NoPlace, xo_NoPlace := xo_NoPlace, xv_NoPlace := xv_NoPlace, xT_NoPlace := ⟨⟨_, _, _, _, _, _, _, _, _, _, _, _, _, _, _, xe_NoPlace, xr_NoPlace⟩, xs1_NoPlace, xs2_NoPlace, xs3_NoPlace, xs4_NoPlace⟩, y0 := y0, y1 := y1, y2 := y2, y3 := y3, y4 := y4 }, e', fun s v => .of_eq rfl⟩
end Wk03
open PySem PySem.W PyProof.Rows
set_option maxRecDepth 100000 in
set_option maxHeartbeats 0 in
theorem PySem.Challenge.cw_graftsay_k03_places_and_pieces_holds : PySem.Challenge.rw_graftsay_k03_places_and_pieces.Holds := by
  w_on; o_law; k_head; (case hw => w_witness2)
  k_fill
  refine L2.walk_of (l := PySem.Challenge.rw_graftsay_k03_places_and_pieces) (n := 63) (k := 200) (x := "script") (CX := fun w => L2.CX PySem.Challenge.rw_graftsay_k03_places_and_pieces.prog w) (sp := fun w => GS.spFv ⟨_, w⟩ 1 (Wk03.fs 200 13)) rfl (by decide) rfl ⟨rfl, by decide, by decide⟩ (fun w h Y => PySem.W.kIn_of Y) ?F (fun _ _ a ns hl _ hS => (Wk03.law_true ns hl).elim fun outs e => GS.law_sp hS e) (fun _ _ _ _ _ h => by obtain ⟨_, _, _, _, _, _, _, _, _, _, _, _, z⟩ := h; exact z)
  case F =>
    intro w mg fa h KX G hmg
    refine' (Wk03.top_mk KX G hmg ?a0 ?l0 ?c0 ?k0 ?a1 ?l1 ?c1 ?k1 ?a2 ?l2 ?c2 ?k2 ?a3 ?l3 ?c3 ?k3 ?a4 ?l4 ?c4 ?k4 ?a5 ?l5 ?c5 ?k5 ?a6 ?l6 ?c6 ?k6 ?a7 ?l7 ?c7 ?k7 ?a8 ?l8 ?c8 ?k8 ?a9 ?l9 ?c9 ?k9 ?a10 ?l10 ?c10 ?k10 ?a11 ?l11 ?c11 ?k11 ?a12 ?l12 ?c12 ?k12 ?a13 ?l13 ?c13 ?k13 ?z_enumerate ?z_len ?z_tuple ?z_list ?z_range ?z_isinstance ?z_ValueError ?z_sorted ?xa_GraftError ?xa_NoPlace ?xa_NoKey ?xa_NoLine ?xa_NoPlan ?xa_NoRow ?xa_NoText ?xa_NoTree ?xa_TooMany ?xa_Twice ?xa_TwoSided ?gi ?xi_NoPlace ?xl_NoPlace ?xc_NoPlace ?xk_NoPlace ?xe_NoPlace ?xr_NoPlace ?xo_NoPlace ?xv_NoPlace ?y0 ?y1 ?y2 ?y3 ?y4).elim fun T R => ?fin
    (case a0 => k_is)
    (case l0 => k_is)
    (case c0 => k_is)
    (case k0 => k_is)
    (case a1 => k_is)
    (case l1 => k_is)
    (case c1 => k_is)
    (case k1 => k_is)
    (case a2 => k_is)
    (case l2 => k_is)
    (case c2 => k_is)
    (case k2 => k_is)
    (case a3 => k_is)
    (case l3 => k_is)
    (case c3 => k_is)
    (case k3 => k_is)
    (case a4 => k_is)
    (case l4 => k_is)
    (case c4 => k_is)
    (case k4 => k_is)
    (case a5 => k_is)
    (case l5 => k_is)
    (case c5 => k_is)
    (case k5 => k_is)
    (case a6 => k_is)
    (case l6 => k_is)
    (case c6 => k_is)
    (case k6 => k_is)
    (case a7 => k_is)
    (case l7 => k_is)
    (case c7 => k_is)
    (case k7 => k_is)
    (case a8 => k_is)
    (case l8 => k_is)
    (case c8 => k_is)
    (case k8 => k_is)
    (case a9 => k_is)
    (case l9 => k_is)
    (case c9 => k_is)
    (case k9 => k_is)
    (case a10 => k_is)
    (case l10 => k_is)
    (case c10 => k_is)
    (case k10 => k_is)
    (case a11 => k_is)
    (case l11 => k_is)
    (case c11 => k_is)
    (case k11 => k_is)
    (case a12 => k_is)
    (case l12 => k_is)
    (case c12 => k_is)
    (case k12 => k_is)
    (case a13 => k_is)
    (case l13 => k_is)
    (case c13 => k_is)
    (case k13 => k_is)
    (case z_enumerate => k_is)
    (case z_len => k_is)
    (case z_tuple => k_is)
    (case z_list => k_is)
    (case z_range => k_is)
    (case z_isinstance => k_is)
    (case z_ValueError => k_is)
    (case z_sorted => k_is)
    (case xa_GraftError => k_is)
    (case xa_NoPlace => k_is)
    (case xa_NoKey => k_is)
    (case xa_NoLine => k_is)
    (case xa_NoPlan => k_is)
    (case xa_NoRow => k_is)
    (case xa_NoText => k_is)
    (case xa_NoTree => k_is)
    (case xa_TooMany => k_is)
    (case xa_Twice => k_is)
    (case xa_TwoSided => k_is)
    (case gi => kernel_rfl)
    (case xi_NoPlace => k_is)
    (case xl_NoPlace => k_is)
    (case xc_NoPlace => k_is)
    (case xk_NoPlace => k_is)
    (case xe_NoPlace => k_is)
    (case xr_NoPlace => kernel_rfl)
    (case xo_NoPlace => kernel_rfl)
    (case xv_NoPlace => kernel_rfl)
    (case y0 => kernel_rfl)
    (case y1 => kernel_rfl)
    (case y2 => kernel_rfl)
    (case y3 => kernel_rfl)
    (case y4 => kernel_rfl)
    case fin =>
      obtain ⟨e, hb⟩ := R
      subst e
      exact ⟨T.d13, hb, fun base _ _ => (Wk03.lv (P := PySem.Challenge.rw_graftsay_k03_places_and_pieces.prog) (K := ⟨_, w⟩) (base := base) T 200).h13⟩
