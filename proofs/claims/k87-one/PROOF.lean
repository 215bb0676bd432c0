import PyProof.Rows.All
import Wide.All
import OpenK.AllK
import Wide.FinOn
import OpenK.AllK
import HandS.ForMost
import HandS.TupAny
import HandS.TupMul
import HandS.Conv
import HandS.Walk
import KE.KDictKeyed
import KE.KDictWalk
import HandS.Exc
import HandS.ExcOwn
import HandS.WordsExc
import HandS.Deep
import HandS.IsInst
import HandS.Flow
import HandS.Style
import HandS.ExcInit
import HandS.ExcField
import HandS.ExcValue
import KE.KExcIs
import HandS.NoneIn
import KE.GoesMore
import HandS.More
import HandS.SetKeys
import HandS.Strs
import HandS.TryOnly
import HandS.RaiseMore
import HandS.SortOrd
import HandS.TupLe
import HandS.NamedTupSort
import HandS.SortRule
import KE.KDictPairs
import HandS.Rev
import HandS.SortInts
import KE.KDictZip
import HandS.TupSets
import HandS.RevTup
import HandS.StrMore
import HandS.Zip
import PySem.Challenge.RW_graftsay_k87_one_side
set_option Elab.async false
set_option linter.all false
set_option maxRecDepth 100000
set_option maxHeartbeats 4000000
namespace L2
open PySem PySem.W PySem.Calls PySem.Spec PyProof.Rows
/-- a tuple whose object has no dict -/
def XT (H : Hp) (a : Addr) (xs : List V) : Prop := ∃ o : Obj, H a = some (.frz o (.tup xs)) ∧ o.dict = none
theorem XT.sq {K : PySem.W.Frag} {H : Hp} {a : Addr} {xs : List V} (h : XT H a xs) : SqT K H a xs := by
  obtain ⟨o, e, _⟩ := h
  exact .inl (.inr ⟨o, e⟩)
theorem XT.new {H : Hp} {a : Addr} {xs : List V} {o : Obj} (h : o.dict = none) : XT (upd H a (.frz o (.tup xs))) a xs := ⟨o, upd_same, h⟩
section
variable {X : Cx} {es : List Expr} {t : TA} {pos : Pos} {pins : List (Addr × Obj)} {s : Shared} {σ : St} {H : Hp}
/-- a new tuple laid, told exactly -/
theorem laidX {ys : List V} {us : List Value} {h1 : Heap} {tk : Nat} (J : Inv X pins σ H { s with heap := h1 }) (rv : Vals ys us) (hz : ys.length ≤ sizeLine) :
    Inv X pins σ (upd H h1.objs.size (.frz { cls := .type "tuple", data := .seq us.toArray } (.tup ys))) { s with heap := h1.push { cls := .type "tuple", data := .seq us.toArray }, toks := tk } :=
  J.laid (t' := tk) (fun _ _ z => Heap.get?_push_of_some _ z) (Nat.le_refl _) ⟨Heap.get?_push_size _ rfl, hz, us, rv, IsTup.new _ _⟩
def tTupX (t : TA) : TE := fun σ H Q => t σ H fun ys H1 => ys.length ≤ sizeLine ∧ ∀ p o, H1 p = none → o.dict = none → Q (.ref p) (upd H1 p (.frz o (.tup ys)))
theorem pe_tupX {x1} (h : PA X es t) : PE X (.Tuple es x1 pos) (tTupX t) := ⟨fun pins s σ H Q I hq => by
  refine wpAny_Tuple_spliced (thn (h.run pos pins s σ H _ I hq) ?_)
  rintro us s1 ⟨ys, H1, J, rv, z, q⟩
  refine ⟨by rw [← rv.length]; exact z, .ref s1.heap.objs.size, _, laidX (s := s1) (tk := s1.toks) J rv z, rfl, q _ _ (J.hok.fresh (Nat.le_refl _)) rfl⟩⟩
/-- a slice of a tuple -/
def rSlX (K : PySem.W.Frag) : V → Option Int → Option Int → Hp → VK → Prop := fun x lo hi H Q => ∃ a ys, x = .ref a ∧ SqT K H a ys ∧
  ((HT.sIx ys.length 0 lo = 0 ∧ HT.sIx ys.length ys.length hi = ys.length) → Q (.ref a) H) ∧ (¬ (HT.sIx ys.length 0 lo = 0 ∧ HT.sIx ys.length ys.length hi = ys.length) → ∀ p o, H p = none → o.dict = none → Q (.ref p) (upd H p (.frz o (.tup (cutV ys lo hi)))))
theorem sl_tupX : SlR X (rSlX X.K) := by
  rintro pins s σ H x v vl vu lo hi sl Q J rx hs pl pu ⟨a, ys, rfl, hy, q1, q2⟩
  by_cases w : HT.sIx ys.length 0 lo = 0 ∧ HT.sIx ys.length ys.length hi = ys.length
  · exact sl_tupA pins s σ H _ v vl vu lo hi sl Q J rx hs pl pu ⟨a, ys, rfl, hy, q1, fun n => absurd w n⟩
  · cases rx
    obtain ⟨us, rv, ht, hz⟩ := J.tuple hy
    have hl : us.toArray.size = ys.length := by rw [List.size_toArray, rv.length]
    refine ⟨"tuple", _, PyProof.Rows.slot_tuple_getitem.lookup, ht.typeIs, HT.getItem_tuple_cut ht hs pl pu (by rw [hl]; exact w) ?_ (by rw [hl]; exact hz)⟩
    rw [hl]
    refine ⟨.ref s.heap.objs.size, _, laidX (ys := cutV ys lo hi) (tk := s.toks) J ?_ (Nat.le_trans (cutV_length ys lo hi) hz), rfl, q2 w _ _ (J.hok.fresh (Nat.le_refl _)) rfl⟩
    exact (rv.drop _).take _
/-- tuples joined -/
def rCatX (K : PySem.W.Frag) : R2 := fun x y H Q => ∃ a b xs ys, x = .ref a ∧ y = .ref b ∧ SqT K H a xs ∧ SqT K H b ys ∧ xs.length + ys.length ≤ sizeLine ∧
  ((xs = [] → Q (.ref b) H) ∧ (xs ≠ [] → ys = [] → Q (.ref a) H) ∧ (xs ≠ [] → ys ≠ [] → ∀ p o, H p = none → o.dict = none → Q (.ref p) (upd H p (.frz o (.tup (xs ++ ys))))))
theorem op_catX : OpR X (binaryOp .Add) (rCatX X.K) := by
  rintro pins s σ H x y v u Q J rx ry ⟨a, b, xs, ys, rfl, rfl, ha, hb, hz, q0, q1, q2⟩
  by_cases hx : xs = []
  · exact op_catA pins s σ H _ _ v u Q J rx ry ⟨a, b, xs, ys, rfl, rfl, ha, hb, hz, q0, q1, fun n => absurd hx n⟩
  · cases rx
    cases ry
    obtain ⟨us, r1, p1, _⟩ := J.tuple ha
    obtain ⟨ws, r2, p2, _⟩ := J.tuple hb
    refine HT.cat_tup p1 p2 (fun n => hx (r1.nil_iff.mp n)) (fun n => ⟨.ref a, H, J, rfl, q1 hx (r2.nil_iff.mp n)⟩) (fun n => ?_) (by rw [← r1.length, ← r2.length]; exact hz)
    exact ⟨.ref s.heap.objs.size, _, laidX (ys := xs ++ ys) (tk := s.toks) J (r1.append r2) (by rw [List.length_append]; exact hz), rfl, q2 hx (fun e => n (r2.nil_iff.mpr e)) _ _ (J.hok.fresh (Nat.le_refl _)) rfl⟩
/-- tuple(..) of a list or a tuple -/
def rTupX (K : PySem.W.Frag) : List V → Hp → VK → Prop := fun xs H Q => ∃ p ys, xs = [.ref p] ∧ ((SqL K H p ys ∧ ∀ l o, H l = none → o.dict = none → Q (.ref l) (upd H l (.frz o (.tup ys)))) ∨ (SqT K H p ys ∧ Q (.ref p) H))
theorem call_tupX : CallR X (.type "tuple") (rTupX X.K) := by
  rintro pins s σ H xs us Q J r ⟨p, ys, rfl, h⟩
  rcases h with ⟨hq, q⟩ | ⟨hq, q⟩
  · obtain ⟨u, rfl, rx⟩ := vals1 r
    cases rx
    obtain ⟨ws, rv, pl, hz⟩ := J.list hq
    have hl := rv.length
    refine call_tuple_list pl.isList (fun h1 kp => ?_) (by simp only [List.size_toArray] <;> omega)
    have J1 : Inv X pins σ H { s with heap := h1 } := J.kept (t' := s.toks) kp
    exact ⟨.ref h1.objs.size, _, laidX (tk := s.toks) J1 rv hz, rfl, q _ _ (J1.hok.fresh (Nat.le_refl _)) rfl⟩
  · exact call_tuple_of pins s σ H _ us Q J r ⟨p, ys, rfl, .inr ⟨hq, q⟩⟩
end
mutual
/-- a value that is such a key, by what is tracked -/
inductive NK (H : Hp) : V → NestedKey → Prop
  | non : NK H .non .none
  | bl (b : Bool) : NK H (.bl b) (.num (if b then 1 else 0))
  | int (i : Int) : NK H (.int i) (.num i)
  | str (x : Str) : NK H (.str x) (.text x)
  | tup {a : Addr} {xs : List V} {ks : List NestedKey} : XT H a xs → NKs H xs ks → NK H (.ref a) (.tup ks)
inductive NKs (H : Hp) : List V → List NestedKey → Prop
  | nil : NKs H [] []
  | cons {x : V} {xs : List V} {k : NestedKey} {ks : List NestedKey} : NK H x k → NKs H xs ks → NKs H (x :: xs) (k :: ks)
end
section
variable {P : Program} {w : World} {H : Hp} {h : Heap}
mutual
theorem NK.is (ok : HOk P w H h) : ∀ {v : V} {k : NestedKey} {u : Value}, NK H v k → RelV v u → NestedIs h k u
  | _, _, u, .non, r => by cases (show u = .none from r); exact .none
  | _, _, u, .bl b, r => by cases (show u = .bool b from r); exact .bool rfl
  | _, _, u, .int i, r => by obtain ⟨t, e⟩ := (show ∃ t, u = .int i t from r); subst e; exact .int _ _
  | _, _, u, .str i, r => by obtain ⟨t, e⟩ := (show ∃ t, u = .str i t from r); subst e; exact .text _ _
  | _, _, u, .tup (a := a) q qs, r => by
    cases (show u = .ref a from r)
    obtain ⟨o, e, _⟩ := q
    obtain ⟨e1, _, its, rv, o', e2, c, n, d⟩ := ok _ _ e
    exact .tup e2 c d (by simpa using NKs.is ok qs rv)
theorem NKs.is (ok : HOk P w H h) : ∀ {vs : List V} {ks : List NestedKey} {us : List Value}, NKs H vs ks → Vals vs us → NestedAll h ks us
  | _, _, _, .nil, .nil => .nil
  | _, _, _, .cons q qs, .cons r rs => .cons (NK.is ok q r) (NKs.is ok qs rs)
end
end
/-- a dict, by its object: each key, its value, what stands there -/
def dX (w : World) (a : Addr) (ep : Nat) (xs : List (NestedKey × Value × Value)) : HO := .ext fun h => ∃ o es, h.get? a = some o ∧ o.ExactDict ∧ o.data = .dict es ep ∧ es.toList = xs.map (fun x => (⟨x.1.hash w, x.2.1, x.2.2⟩ : DictEntry)) ∧
  (xs.map (·.1)).Nodup ∧ xs.length ≤ sizeLine ∧ (a == sysModules) = false
/-- keys that are tuples -/
def refK (y : NestedKey × Addr × Value) : NestedKey × Value × Value := (y.1, .ref y.2.1, y.2.2)
def KOk (H : Hp) (ys : List (NestedKey × Addr × Value)) : Prop := ∀ y ∈ ys, NK H (.ref y.2.1) y.1 ∧ y.1.depth ≤ 8
/-- keys that are ints and texts -/
def nkK : Key → NestedKey
  | .inl i => .num i
  | .inr x => .text x
theorem nkK_inj {a b : Key} (h : nkK a = nkK b) : a = b := by cases a <;> cases b <;> simp [nkK] at h <;> rw [h]
def valK (y : Key × Value × Value) : NestedKey × Value × Value := (nkK y.1, y.2.1, y.2.2)
def SOk (ys : List (Key × Value × Value)) : Prop := ∀ y ∈ ys, keyIs y.1 y.2.1 = true
def pairK (ys : List (Key × Value × Value)) : List (Key × Value) := ys.map fun y => (y.1, y.2.2)
section
variable {P : Program} {w : World} {H : Hp} {h : Heap} {a : Addr} {ep : Nat}
theorem dX_raw {xs : List (NestedKey × Value × Value)} (ok : HOk P w H h) (e : H a = some (dX w a ep xs)) : ∃ es, h.DictRaw a es ep ∧ es.toList = xs.map (fun x => (⟨x.1.hash w, x.2.1, x.2.2⟩ : DictEntry)) ∧ xs.length ≤ sizeLine ∧ (a == sysModules) = false := by
  obtain ⟨⟨o, es, h1, h2, h3, h4, h5, h6, h7⟩, _⟩ := ok _ _ e
  exact ⟨es, ⟨o, h1, h2, h3⟩, h4, h6, h7⟩
theorem dX_mk {xs : List (NestedKey × Value × Value)} {o : Obj} {es : Array DictEntry} (h1 : h.get? a = some o) (h2 : o.ExactDict) (h3 : o.data = .dict es ep) (h4 : es.toList = xs.map (fun x => (⟨x.1.hash w, x.2.1, x.2.2⟩ : DictEntry)))
    (h5 : (xs.map (·.1)).Nodup) (h6 : xs.length ≤ sizeLine) (h7 : (a == sysModules) = false) : ObjOk P w H h a (dX w a ep xs) :=
  ⟨⟨o, es, h1, h2, h3, h4, h5, h6, h7⟩, ⟨o, h1⟩, fun g1 g2 ⟨o', es', q1, q2⟩ k => ⟨o', es', k _ q1, q2⟩⟩
theorem dX_ofT {ys : List (NestedKey × Addr × Value)} (ok : HOk P w H h) (e : H a = some (dX w a ep (ys.map refK))) (hk : KOk H ys) : h.DictOfH (nestedKind P w) a ys ∧ ys.length ≤ sizeLine ∧ (a == sysModules) = false := by
  obtain ⟨⟨o, es, h1, h2, h3, h4, h5, h6, h7⟩, _⟩ := ok _ _ e
  rw [List.map_map] at h4 h5
  rw [List.length_map] at h6
  exact ⟨⟨o, es, ep, h1, h2, h3, h4, fun x m => ⟨(hk x m).1.is ok rfl, (hk x m).2⟩, h5⟩, h6, h7⟩
theorem dX_okT {ys : List (NestedKey × Addr × Value)} (hd : h.DictOfH (nestedKind P w) a ys) (hz : ys.length ≤ sizeLine) (hs : (a == sysModules) = false) : ∃ ep, ∀ H, ObjOk P w H h a (dX w a ep (ys.map refK)) := by
  obtain ⟨o, es, ep, h1, h2, h3, h4, _, h5⟩ := hd
  exact ⟨ep, fun H => dX_mk h1 h2 h3 (by rw [List.map_map]; exact h4) (by rw [List.map_map]; exact h5) (by rw [List.length_map]; exact hz) hs⟩
theorem pairs_valK (P : Program) (w : World) : ∀ {ys : List (Key × Value × Value)}, SOk ys → Pairs (mixKind P w) (ys.map fun y => (⟨(nkK y.1).hash w, y.2.1, y.2.2⟩ : DictEntry)) (pairK ys)
  | [], _ => .nil
  | y :: ys, h => .cons (h y (by simp)) rfl (pairs_valK P w fun z m => h z (by simp [m]))
theorem hash_nkK (w : World) (k : Key) : (nkK k).hash w = keyH w k := by cases k <;> rfl
theorem dX_ofS {ys : List (Key × Value × Value)} (ok : HOk P w H h) (e : H a = some (dX w a ep (ys.map valK))) (hk : SOk ys) : h.DictOf (mixKind P w) a (pairK ys) ∧ (pairK ys).length ≤ sizeLine ∧ (a == sysModules) = false := by
  obtain ⟨⟨o, es, h1, h2, h3, h4, h5, h6, h7⟩, _⟩ := ok _ _ e
  rw [List.map_map] at h4 h5
  rw [List.length_map] at h6
  have h4 : es.toList = ys.map fun y => (⟨(nkK y.1).hash w, y.2.1, y.2.2⟩ : DictEntry) := h4
  refine ⟨⟨o, es, ep, h1, h2, h3, fun x m => ?_, by rw [h4]; exact pairs_valK P w hk, ?_⟩, by unfold pairK; rw [List.length_map]; exact h6, h7⟩
  · have m' : x ∈ es.toList := by simpa using m
    rw [h4] at m'
    obtain ⟨y, my, rfl⟩ := List.mem_map.mp m'
    exact ⟨y.1, hk y my, hash_nkK w y.1⟩
  · have h5 : (ys.map fun y => nkK y.1).Nodup := h5
    unfold pairK
    rw [List.map_map]
    have h6 : ((ys.map fun y => y.1).map nkK).Nodup := by rw [List.map_map]; exact h5
    exact (List.pairwise_map.mp h6).imp fun n e => n (by rw [e])
theorem pairs_back : ∀ {es : List DictEntry} {vs : List (Key × Value)}, Pairs (mixKind P w) es vs → (∀ e ∈ es, ∃ k, keyIs k e.key = true ∧ e.hash = keyH w k) → ∃ ys, SOk ys ∧ pairK ys = vs ∧ es = ys.map fun y => (⟨(nkK y.1).hash w, y.2.1, y.2.2⟩ : DictEntry)
  | _, _, .nil, _ => ⟨[], fun _ m => (by cases m), rfl, rfl⟩
  | _, _, .cons (e := e) (kv := kv) h1 h2 t, hk => by
    obtain ⟨ys, q1, q2, q3⟩ := pairs_back t fun e m => hk e (by simp [m])
    obtain ⟨k, r1, r2⟩ := hk e (by simp)
    have ek : k = kv.1 := (mixKind P w).inj _ _ _ r1 h1
    subst ek
    refine ⟨(kv.1, e.key, kv.2) :: ys, fun y m => ?_, by simp [pairK] at q2 ⊢; exact q2, ?_⟩
    · cases m with
      | head => exact h1
      | tail _ m => exact q1 y m
    · rw [List.map_cons, ← q3]
      congr 1
      cases e
      simp only at h2 r2
      simp [hash_nkK, r2, h2]
theorem dX_okS {vs : List (Key × Value)} (hd : h.DictOf (mixKind P w) a vs) (hz : vs.length ≤ sizeLine) (hs : (a == sysModules) = false) : ∃ ep ys, SOk ys ∧ pairK ys = vs ∧ ∀ H, ObjOk P w H h a (dX w a ep (ys.map valK)) := by
  obtain ⟨o, es, ep, h1, h2, h3, hk, hp, hn⟩ := hd
  obtain ⟨ys, q1, q2, q3⟩ := pairs_back hp fun e m => hk e (by simpa using m)
  refine ⟨ep, ys, q1, q2, fun H => dX_mk h1 h2 h3 (by rw [List.map_map]; exact q3) ?_ ?_ hs⟩
  · rw [List.map_map]
    have e : ys.map ((fun x => x.1) ∘ valK) = (vs.map (·.1)).map nkK := by rw [← q2]; unfold pairK; rw [List.map_map, List.map_map]; rfl
    rw [e]
    exact List.Pairwise.map nkK (fun a b n e => n (nkK_inj e)) hn
  · rw [List.length_map]
    have : (pairK ys).length = ys.length := by simp [pairK]
    rw [← this, q2]
    exact hz
end
def look (xs : List (NestedKey × Value × Value)) (k : NestedKey) : Option Value := (xs.find? fun x => decide (x.1 = k)).map (·.2.2)
theorem look_T (ys : List (NestedKey × Addr × Value)) (k : NestedKey) : look (ys.map refK) k = valueAt (pairsH ys) k := by
  induction ys with
  | nil => rfl
  | cons y ys ih =>
    by_cases e : y.1 = k
    · simp [look, refK, pairsH, valueAt, e]
    · simpa [look, refK, pairsH, valueAt, e] using ih
theorem look_S (ys : List (Key × Value × Value)) (k : Key) : look (ys.map valK) (nkK k) = valueAt (pairK ys) k := by
  induction ys with
  | nil => rfl
  | cons y ys ih =>
    by_cases e : y.1 = k
    · simp [look, valK, pairK, valueAt, e]
    · have n : ¬ nkK y.1 = nkK k := fun q => e (nkK_inj q)
      simpa [look, valK, pairK, valueAt, e, n] using ih
/-- a key that may be asked for -/
def KeyAt (H : Hp) (v : V) (b : Addr) (k : NestedKey) : Prop := v = .ref b ∧ NK H (.ref b) k ∧ k.depth ≤ 8
/-- y asked of the dict at a -/
def LookX (w : World) (H : Hp) (a : Addr) (y : V) (r : Option Value) : Prop := ∃ ep xs k, H a = some (dX w a ep xs) ∧ r = look xs k ∧ ((∃ b ys, xs = ys.map refK ∧ KOk H ys ∧ KeyAt H y b k) ∨ (∃ ys kk, xs = ys.map valK ∧ SOk ys ∧ y = kV kk ∧ k = nkK kk))
section
variable {X : Cx}
theorem KeyAt.is {P : Program} {w : World} {H : Hp} {h : Heap} {v : V} {b : Addr} {k : NestedKey} (ok : HOk P w H h) (q : KeyAt H v b k) : (nestedKind P w).is h k b := ⟨q.2.1.is ok rfl, q.2.2⟩
theorem roomX (hu : X.A.units + 65 < cLine) : (nestedKind X.prog X.w).room X.A.in1 := by
  show X.A.units + 1 + 8 < cLine
  omega
/-- the two sorts of asking -/
theorem LookX.cases {pins : List (Addr × Obj)} {σ : St} {H : Hp} {s : Shared} {a : Addr} {y : V} {u : Value} {r : Option Value} (g : LookX X.w H a y r) (J : Inv X pins σ H s) (ry : RelV y u) :
    (a == sysModules) = false ∧ ((∃ b ys k, u = .ref b ∧ s.heap.DictOfH (nestedKind X.prog X.w) a ys ∧ (nestedKind X.prog X.w).is s.heap k b ∧ r = valueAt (pairsH ys) k) ∨ ∃ vs kk, s.heap.DictOf (mixKind X.prog X.w) a vs ∧ (mixKind X.prog X.w).is kk u = true ∧ r = valueAt vs kk) := by
  obtain ⟨ep, xs, k, e, er, g⟩ := g
  rcases g with ⟨b, ys, rfl, hk, hy⟩ | ⟨ys, kk, rfl, hk, rfl, rfl⟩
  · obtain ⟨hm, hz, hs⟩ := dX_ofT J.hok e hk
    refine ⟨hs, .inl ⟨b, ys, k, ?_, hm, hy.is J.hok, by rw [er, look_T]⟩⟩
    obtain ⟨rfl, _⟩ := hy
    exact ry
  · obtain ⟨hm, hz, hs⟩ := dX_ofS J.hok e hk
    exact ⟨hs, .inr ⟨_, kk, hm, kV_is ry, by rw [er, look_S]⟩⟩
def rXG (w : World) : R2 := fun x y H Q => ∃ a u v, x = .ref a ∧ LookX w H a y (some u) ∧ RelV v u ∧ Q v H
theorem ix_dX (hu : X.A.units + 65 < cLine) : IxR X (rXG X.w) := by
  rintro value slice pins s σ H x y v u Q I rx ry ⟨a, uu, vv, rfl, g, rv, q⟩ hs
  obtain rfl : v = Value.ref a := rx
  obtain ⟨hsm, g⟩ := g.cases I ry
  have hT : s.TypeIs (.ref a) "dict" := by
    rcases g with ⟨b, ys, k, _, hm, _⟩ | ⟨vs, kk, hm, _⟩
    · exact hm.typeIs
    · exact hm.typeIs
  unfold subscriptTail
  refine wpAny_bind ?_
  rw [getitemInPython_of_ne hT.not_modules]
  refine wpAny_bind (wpAny_specialOf hT PySem.F.slot_dict_getitem.lookup ?_)
  have fin : wpAny (model X.prog X.w) X.A (subscripted slice false (Value.ref a) u) (fun r s₃ => wpAny (model X.prog X.w) X.A (letTemporaryGo value (Value.ref a) r >>= fun _ => pure r) (EP X pins σ Q) X.xe s₃) X.xe s := by
    rw [hs]
    refine wpAny_operating (wpAny_mono (Q := EP X pins σ Q) (E := X.xe) ?_ (fun r s₃ h₃ => wpAny_bind (wpAny_letTemporaryGo (wpAny_pure h₃))) fun _ _ x => x)
    rcases g with ⟨b, ys, k, rfl, hm, hk, e⟩ | ⟨vs, kk, hm, hk, e⟩
    · exact getItem_keyed (roomX hu) hk ⟨ys, hm, rfl⟩ e.symm ⟨vv, H, I.tok _, rv, q⟩
    · exact wpAny_getItem_of hk hm.mapOf e.symm ⟨vv, H, I.tok _, rv, q⟩
  exact wpAny_pure (wpAny_bind fin)
def rXin (neg : Bool) (w : World) : R2 := fun y x H Q => ∃ a r, x = .ref a ∧ LookX w H a y r ∧ Q (.bl (neg ^^ r.isSome)) H
theorem op_Xin (hu : X.A.units + 65 < cLine) : OpR X (compareOp .In) (rXin false X.w) := by
  rintro pins s σ H y x v u Q I ry rx ⟨a, r, rfl, g, q⟩
  obtain rfl : u = Value.ref a := rx
  obtain ⟨hsm, g⟩ := g.cases I ry
  rw [Bool.false_xor] at q
  rcases g with ⟨b, ys, k, rfl, hm, hk, rfl⟩ | ⟨vs, kk, hm, hk, rfl⟩
  · exact in_keyed (roomX hu) hk hsm ⟨ys, hm, rfl⟩ ⟨.bl _, H, I.tok _, rfl, q⟩
  · exact wpAny_in_of hk hsm hm.mapOf ⟨.bl _, H, I.tok _, rfl, q⟩
theorem op_Xni (hu : X.A.units + 65 < cLine) : OpR X (compareOp .NotIn) (rXin true X.w) := by
  rintro pins s σ H y x v u Q I ry rx ⟨a, r, rfl, g, q⟩
  obtain rfl : u = Value.ref a := rx
  obtain ⟨hsm, g⟩ := g.cases I ry
  rw [Bool.true_xor] at q
  rcases g with ⟨b, ys, k, rfl, hm, hk, rfl⟩ | ⟨vs, kk, hm, hk, rfl⟩
  · exact notIn_keyed (roomX hu) hk hsm ⟨ys, hm, rfl⟩ ⟨.bl _, H, I.tok _, rfl, q⟩
  · exact wpAny_notIn_of hk hsm hm.mapOf ⟨.bl _, H, I.tok _, rfl, q⟩
/-- d[k] = v -/
def rXS (w : World) : TSet := fun o i v H Q => ∃ a ep xs, o = .ref a ∧ H a = some (dX w a ep xs) ∧ xs.length < sizeLine ∧ ((∃ b ys k, xs = ys.map refK ∧ KOk H ys ∧ KeyAt H i b k ∧ ∀ ep u, RelV v u → Q (upd H a (dX w a ep ((storedH ys k b u).map refK)))) ∨
  (∃ ys k, xs = ys.map valK ∧ SOk ys ∧ i = kV k ∧ ∀ ep u zs, RelV v u → SOk zs → pairK zs = stored (pairK ys) k u → Q (upd H a (dX w a ep (zs.map valK)))))
theorem storedH_len (xs : List (NestedKey × Addr × Value)) (k : NestedKey) (b : Addr) (u : Value) : (storedH xs k b u).length ≤ xs.length + 1 := by
  unfold storedH
  split <;> simp
theorem stored_len (xs : List (Key × Value)) (k : Key) (u : Value) : (stored xs k u).length ≤ xs.length + 1 := by
  unfold stored
  split <;> simp
theorem set_dX (hu : X.A.units + 65 < cLine) : PSet X (rXS X.w) := by
  rintro pins s σ H o i v ov iv u Q I ro ri rv ⟨a, ep, xs, rfl, e, hz, h⟩
  obtain rfl : ov = Value.ref a := ro
  have mu : Mut (H a) := by rw [e]; exact True.intro
  rcases h with ⟨b, ys, k, rfl, hk, hi, q⟩ | ⟨ys, k, rfl, hk, rfl, q⟩
  · obtain rfl : iv = Value.ref b := by obtain ⟨rfl, _⟩ := hi; exact ri
    obtain ⟨hm, _, hsm⟩ := dX_ofT I.hok e hk
    rw [List.length_map] at hz
    refine wpAny_setItem_heap (hsz := Nat.le_of_lt hz) (roomX hu) (hi.is I.hok) hm fun h' hm' hs => ?_
    obtain ⟨ep, ok⟩ := dX_okT hm' (Nat.le_trans (storedH_len ys k b u) hz) hsm
    exact ⟨_, I.write (t' := s.toks + (nestedKind X.prog X.w).draws k) mu (.inl rfl) (fun c o nc e => (hs.2 c nc).trans e) (let ⟨o, _, _, e, _⟩ := hm'; ⟨o, e⟩) (ok _), q ep u rv⟩
  · obtain ⟨hm, hz2, hsm⟩ := dX_ofS I.hok e hk
    have lz : (pairK ys).length = ys.length := by simp [pairK]
    rw [List.length_map, ← lz] at hz
    refine wpAny_setItem_pairs (hsz := hz2) (kV_is ri) hm fun h' hm' hs => ?_
    obtain ⟨ep, zs, z1, z2, ok⟩ := dX_okS hm' (Nat.le_trans (stored_len _ _ _) hz) hsm
    exact ⟨_, I.write (t' := s.toks + 1) mu (.inl rfl) (fun c o nc e => (hs.2 c nc).trans e) (let ⟨o, _, _, e, _⟩ := hm'; ⟨o, e⟩) (ok _), q ep u zs rv z1 z2⟩
end
section
variable {X : Cx} {o e f : Expr} {apos cpos : Pos} {td ty tx : TE}
end
def tRe (w : World) (t : TE) : TE := fun σ H Q => t σ H fun v H1 => ∃ p kvs, v = .ref p ∧ H1 p = some (.dK kvs) ∧ ∀ ep ys, SOk ys → KV kvs (pairK ys) → Q v (upd H1 p (dX w p ep (ys.map valK)))
theorem pe_re {X : Cx} {e : Expr} {t : TE} (h : PE X e t) : PE X e (tRe X.w t) := ⟨fun pins s σ H Q J q => by
  refine thn (h.run pins s σ H _ J q) ?_
  rintro u s1 ⟨x, H1, J1, rx, p, kvs, rfl, e, q1⟩
  obtain ⟨hz, hs, vs, rel, hd⟩ := J1.hok _ _ e
  have hz2 : vs.length ≤ sizeLine := by rw [← rel.length]; exact hz
  obtain ⟨ep, ys, y1, y2, ok⟩ := dX_okS hd hz2 hs
  refine ⟨.ref p, _, J1.write (t' := s1.toks) (by rw [e]; exact True.intro) (.inl rfl) (fun c o _ z => z) (let ⟨o, _, _, z, _⟩ := hd; ⟨o, z⟩) (ok _), rx, q1 ep ys y1 (by rw [y2]; exact rel)⟩⟩
def Itx (w : World) (d : Addr) (ep : Nat) (xs : List (NestedKey × Value × Value)) (vs : List V) : It :=
  ⟨fun i H => H d = some (dX w d ep xs) ∧ i < vs.length, fun i H x H' => H' = H ∧ vs[i]? = some x, fun i H => H d = some (dX w d ep xs) ∧ vs.length ≤ i⟩
theorem turn_dX {P : Program} {w : World} {K : PySem.W.Frag} {tg : Expr} {d : Addr} {ep : Nat} {xs : List (NestedKey × Value × Value)} {vs : List V} (it : Addr) (rv : Vals vs (xs.map (·.2.1))) :
    Turn P w K tg (Itx w d ep xs vs) [it] it (fun i h => h.IsKeyIter it d i vs.length ep) where
  mem := List.mem_singleton.mpr rfl
  obj := fun i h st b hb => by
    obtain rfl := List.mem_singleton.mp hb
    obtain ⟨oi, e, c, dd⟩ := st
    exact ⟨oi, e, fun v z => by rw [dd] at z; cases z⟩
  keep := fun i h h' st k => st.at fun oi e => k it (List.mem_singleton.mpr rfl) oi e
  item := by
    rintro X rfl rfl rfl hc i pins s σ H E J hf st ⟨hd, hi⟩
    obtain ⟨f0, f1, f2, f3, f4, f5⟩ := hf it (List.mem_singleton.mpr rfl)
    obtain ⟨es, hm, he, _, _⟩ := dX_raw J.hok hd
    have ls : es.size = vs.length := by rw [← Array.length_toList, he, List.length_map, rv.length, List.length_map]
    obtain ⟨x, hx⟩ : ∃ x, vs[i]? = some x := ⟨vs[i], List.getElem?_eq_getElem hi⟩
    obtain ⟨u, hu, ru⟩ := rv.get hx
    rw [← ls] at st hi
    refine wpAny_pyNext_keys_item_raw st hm hi fun h' st' sb => ?_
    have ek : es[i].key = u := by
      rw [List.getElem?_map] at hu
      obtain ⟨y, hy, rfl⟩ := Option.map_eq_some_iff.mp hu
      have h1 : es.toList[i]? = some es[i] := by rw [Array.getElem?_toList, Array.getElem?_eq_getElem hi]
      rw [he, List.getElem?_map, hy] at h1
      exact (congrArg DictEntry.key (Option.some.inj h1)).symm
    have J1 : Inv X pins σ H { s with heap := h' } := J.turned (t' := s.toks) (fun b ob nb e => (sb.2 b nb).trans e) f0 f1 f3 f4 f5
    obtain ⟨oi, e, c, dd⟩ := id st'
    refine ⟨_, rfl, go_of (s := { s with heap := h' }) e c dd (by decide) ⟨x, H, J1, by rw [ek]; exact ru, ⟨rfl, hx⟩, ?_, fun b hb => (hf b hb).1⟩⟩
    show h'.IsKeyIter it d (i + 1) vs.length ep
    rw [← ls]
    exact st'
  done := by
    rintro X rfl rfl rfl hc i pins s σ H E J hf st ⟨hd, hi⟩
    obtain ⟨f0, f1, f2, f3, f4, f5⟩ := hf it (List.mem_singleton.mpr rfl)
    obtain ⟨es, hm, he, _, _⟩ := dX_raw J.hok hd
    have ls : es.size = vs.length := by rw [← Array.length_toList, he, List.length_map, rv.length, List.length_map]
    rw [← ls] at st hi
    exact wpAny_pyNext_keys_end_raw (J.ok.hd hc) st hm hi fun h' eb => ⟨rfl, J.turned (t' := s.toks) (fun b ob nb e => eb b ob nb e) f0 f1 f3 f4 f5⟩
  self := fun A i s Q E st h => wpAny_pyIter_keyiter st h
theorem walk_dX {w : World} {d : Addr} {ep : Nat} {xs : List (NestedKey × Value × Value)} {vs : List V} : Walk (Itx w d ep xs vs) vs.length (fun H => H d = some (dX w d ep xs)) (YAt vs) :=
  ⟨fun i _ hi q => ⟨q, hi⟩, fun _ q => ⟨q, Nat.le_refl _⟩, fun i H v H' _ q y => y⟩
end L2
namespace GS
open PySem L2
abbrev D := PyData
/-- the written part and the world -/
structure KW where
  fr : PySem.W.Frag
  w : World
  /-- whether there are pointers -/
  pt : Bool := false
  /-- below the numbers of all stores -/
  lv : Nat := 0
instance : CoeOut KW PySem.W.Frag := ⟨KW.fr⟩
/-- how a slot holds its datum: shared (never changed any more), owned (the slot's own list or dict), lent by the caller; behind the slots: the store -/
inductive Fl where | sh | ow | io | st
  deriving DecidableEq
structure Cel where
  d : D
  fl : Fl
abbrev Rho := List (Option Cel)
/-- what an expression gives: a shared datum, a new list or dict that nobody else holds, what stands in a slot, what stands in a cell of the store -/
inductive Hd where | sh (d : D) | fr (d : D) | bw (i : Nat) | sp (s g : Nat)
/-- an exception: its class's name, its fields -/
structure Xc where
  cls : Str
  fs : List (Str × D)
inductive RE where | stuck | ok (h : Hd) (ρ : Rho) | exc (x : Xc) (ρ : Rho)
inductive RS where | stuck | nx (ρ : Rho) | rt (h : Hd) (ρ : Rho) | bk (ρ : Rho) | ct (ρ : Rho) | exc (x : Xc) (ρ : Rho)
abbrev EF := Rho → RE
abbrev SF := Rho → RS
/-- a pointer: the store's number, the cell's -/
abbrev ptrD (s g : Nat) : D := .dict [(.none, .list [.int (s : Int), .int (g : Int)])]
/-- a store -/
abbrev stD (s : Nat) (μ : List D) : D := .tuple [.int (s : Int), .list μ]
/-- a locked cell bears its content in a tuple of one -/
def lockB : D → Bool
  | .tuple _ => true
  | _ => false
def cntD : D → D
  | .tuple [d] => d
  | d => d
mutual
/-- a datum as a key -/
def nkD : D → Option NestedKey
  | .none => some .none
  | .bool b => some (.num (if b then 1 else 0))
  | .int i => some (.num i)
  | .str x => some (.text x)
  | .tuple ds => (nkL ds).map .tup
  | .list _ => none
  | .dict _ => none
def nkL : List D → Option (List NestedKey)
  | [] => some []
  | d :: ds => (nkD d).bind fun k => (nkL ds).map fun ks => k :: ks
end
/-- a tuple as a key -/
def tkD (ds : List D) : Option NestedKey := (nkL ds).bind fun ks => if (NestedKey.tup ks).depth ≤ 8 then some (.tup ks) else none
def tupB : D → Bool
  | .tuple _ => true
  | _ => false
/-- what may be a key -/
def keyD : D → Option NestedKey
  | .int i => some (.num i)
  | .str x => some (.text x)
  | .tuple ds => tkD ds
  | _ => none
def kD : Key → D
  | .inl i => .int i
  | .inr x => .str x
/-- the class of that name in the written part -/
def cvK (K : PySem.W.Frag) (c : Str) : Value := match K.find? (fun p => match p.2.data with | .cls cd => cd.name == c | _ => false) with
  | some p => .ref p.1
  | none => .none
/-- an exception object -/
def exV (a : Addr) (cls : Value) (d : Option Addr) : HO := .ext fun h => ∃ (oe : Obj) (vs : Array Value), h.get? a = some oe ∧ Zc cls d oe ∧ oe.data = .fields vs
/-- what the written part says of an own exception class -/
def xcB (K : PySem.W.Frag) (cls : Value) : Bool := match cls with
  | .ref D => (PySem.W.clsIn K D).isSome && (decide (PySem.W.findIn K (.ref D) "__getattribute__" = some (some (.builtin "BaseException.__getattribute__"))) && (decide (PySem.W.findIn K (.ref D) "__getattr__" = some none) && (decide (PySem.W.subIn K (.ref D) (.type "BaseException") = some true) &&
      (PySem.W.hasDictIn K D && (decide (PySem.W.findIn K (.ref D) "__class__" = some (some (.builtin "object.__class__"))) && (decide (PySem.W.specialIn K (.builtin "object.__class__") "__get__" = some (some (.builtin "getset_descriptor.__get__"))) &&
      (decide (PySem.W.takesIn K (.builtin "object.__class__") = some true) && (decide (PySem.W.mroIn K D (.type "object") = some true) && ["tuple", "str", "bool", "int", "list", "dict"].all fun T => decide (PySem.W.kitOne K (.ref D) (.type T) = some false)))))))))
  | _ => false
/-- an exception as a datum: its class's name, its fields' names, what they hold -/
abbrev xnD (c : Str) (ns : List Str) (ds : List D) : D := .dict [(.none, .tuple (.str c :: .tuple (ns.map PyData.str) :: ds))]
def xnB : List (D × D) → Bool
  | (.none, _) :: _ => true
  | _ => false
/-- an exception's dict -/
def XdB (B : Hp) (d : Option Addr) (fs : List (Str × V)) : Prop := (d = none ∧ fs = []) ∨ ∃ dd, d = some dd ∧ B dd = some (.xd fs)
mutual
inductive Rp (K : KW) (B : Hp) : V → D → Prop
  | non : Rp K B .non .none
  | bl (b : Bool) : Rp K B (.bl b) (.bool b)
  | int (i : Int) : Rp K B (.int i) (.int i)
  | str (x : Str) : Rp K B (.str x) (.str x)
  | lst {a : Addr} {xs : List V} {ds : List D} : SqL K B a xs → RpL K B xs ds → Rp K B (.ref a) (.list ds)
  | tup {a : Addr} {xs : List V} {ds : List D} : XT B a xs → RpL K B xs ds → Rp K B (.ref a) (.tuple ds)
  | dct {a : Addr} {ep : Nat} {b : Bool} {xs : List (NestedKey × Value × Value)} {ps : List (D × D)} : B a = some (dX K.w a ep xs) → RpX K B b xs ps → Rp K B (.ref a) (.dict ps)
  | exn {a : Addr} {c : Str} {d : Option Addr} {fs : List (Str × V)} {ds : List D} : B a = some (exV a (cvK K c) d) → xcB K (cvK K c) = true → XdB B d fs → RpL K B (fs.map (·.2)) ds → Rp K B (.ref a) (xnD c (fs.map (·.1)) ds)
  | ptr {a : Addr} {s g : Nat} : K.pt = true → B a = some (.met s g) → Rp K B (.ref a) (ptrD s g)
inductive RpL (K : KW) (B : Hp) : List V → List D → Prop
  | nil : RpL K B [] []
  | cons {v : V} {vs : List V} {d : D} {ds : List D} : Rp K B v d → RpL K B vs ds → RpL K B (v :: vs) (d :: ds)
inductive RpK (K : KW) (B : Hp) : List (Key × V) → List (D × D) → Prop
  | nil : RpK K B [] []
  | cons {k : Key} {v : V} {kvs : List (Key × V)} {d : D} {ps : List (D × D)} : Rp K B v d → RpK K B kvs ps → RpK K B ((k, v) :: kvs) ((kD k, d) :: ps)
inductive RpX (K : KW) (B : Hp) : Bool → List (NestedKey × Value × Value) → List (D × D) → Prop
  | nil {b : Bool} : RpX K B b [] []
  | cons {b : Bool} {k : NestedKey} {kv v : V} {ku u : Value} {xs : List (NestedKey × Value × Value)} {kd d : D} {ps : List (D × D)} : keyD kd = some k → tupB kd = b → Rp K B kv kd → RelV kv ku → RelV v u → Rp K B v d → RpX K B b xs ps → RpX K B b ((k, ku, u) :: xs) ((kd, d) :: ps)
end
theorem same_rd {H H' : Hp} {a : Addr} {u : HO} (e : Same H H') (h : Rd H a u) : Rd H' a u := by
  rcases h with h | ⟨o, h⟩
  · exact .inl (e _ _ h)
  · exact .inr ⟨o, e _ _ h⟩
theorem same_l {K : KW} {H H' : Hp} {a : Addr} {xs : List V} (e : Same H H') (h : SqL K H a xs) : SqL K H' a xs := h.elim (fun h => .inl (same_rd e h)) .inr
theorem same_x {H H' : Hp} {a : Addr} {xs : List V} (e : Same H H') (h : XT H a xs) : XT H' a xs := let ⟨o, h1, h2⟩ := h; ⟨o, e _ _ h1, h2⟩
theorem XdB.mono {B B' : Hp} {d : Option Addr} {fs : List (Str × V)} (e : Same B B') (h : XdB B d fs) : XdB B' d fs := h.imp id fun ⟨dd, e1, e2⟩ => ⟨dd, e1, e _ _ e2⟩
/-- what is known of the heap by what is shared: all but the store's cells -/
def SameT (B H : Hp) : Prop := ∀ a o, B a = some o → H a = some o ∨ ((∃ s g, o = .met s g) ∧ ∃ u, H a = some u)
theorem Same.t {B H : Hp} (h : Same B H) : SameT B H := fun a o e => .inl (h a o e)
theorem Same.transT {B B' H : Hp} (e : Same B B') (h : SameT B' H) : SameT B H := fun a o q => h a o (e a o q)
theorem SameT.at {B H : Hp} (s : SameT B H) {a : Addr} {o : HO} (e : B a = some o) (n : ∀ x y, o ≠ .met x y) : H a = some o := (s a o e).elim id fun ⟨⟨x, y, z⟩, _⟩ => absurd z (n x y)
theorem SameT.free {B H : Hp} (s : SameT B H) {a : Addr} (h : H a = none) : B a = none := by
  cases e : B a with
  | none => rfl
  | some o =>
    rcases s a o e with q | ⟨_, u, q⟩
    · rw [h] at q; cases q
    · rw [h] at q; cases q
theorem SameT.there {B H : Hp} (s : SameT B H) {a : Addr} {o : HO} (e : B a = some o) : ∃ u, H a = some u := (s a o e).elim (fun h => ⟨_, h⟩) (·.2)
theorem XdB.t {B H : Hp} {d : Option Addr} {fs : List (Str × V)} (e : SameT B H) (h : XdB B d fs) : XdB H d fs := h.imp id fun ⟨dd, e1, e2⟩ => ⟨dd, e1, e.at e2 fun _ _ z => by cases z⟩
theorem same_rdT {B H : Hp} {a : Addr} {u : HO} (e : SameT B H) (n : ∀ x y, u ≠ .met x y) (h : Rd B a u) : Rd H a u := by
  rcases h with h | ⟨o, h⟩
  · exact .inl (e.at h n)
  · exact .inr ⟨o, e.at h fun _ _ z => by cases z⟩
theorem same_lT {K : KW} {B H : Hp} {a : Addr} {xs : List V} (e : SameT B H) (h : SqL K B a xs) : SqL K H a xs := h.elim (fun h => .inl (same_rdT e (fun _ _ z => by cases z) h)) .inr
theorem same_tT {K : KW} {B H : Hp} {a : Addr} {xs : List V} (e : SameT B H) (h : SqT K B a xs) : SqT K H a xs := h.elim (fun h => .inl (same_rdT e (fun _ _ z => by cases z) h)) .inr
theorem same_xT {B H : Hp} {a : Addr} {xs : List V} (e : SameT B H) (h : XT B a xs) : XT H a xs := let ⟨o, h1, h2⟩ := h; ⟨o, e.at h1 (fun _ _ z => by cases z), h2⟩
section
variable {K : KW} {B B' : Hp}
mutual
theorem Rp.mono (e : Same B B') : ∀ {v : V} {d : D}, Rp K B v d → Rp K B' v d
  | _, _, .non => .non
  | _, _, .bl b => .bl b
  | _, _, .int i => .int i
  | _, _, .str x => .str x
  | _, _, .lst h t => .lst (same_l e h) (RpL.mono e t)
  | _, _, .tup h t => .tup (same_x e h) (RpL.mono e t)
  | _, _, .dct h t => .dct (e _ _ h) (RpX.mono e t)
  | _, _, .exn h q x t => .exn (e _ _ h) q (x.mono e) (RpL.mono e t)
  | _, _, .ptr p h => .ptr p (e _ _ h)
theorem RpL.mono (e : Same B B') : ∀ {v : List V} {d : List D}, RpL K B v d → RpL K B' v d
  | _, _, .nil => .nil
  | _, _, .cons h t => .cons (Rp.mono e h) (RpL.mono e t)
theorem RpK.mono (e : Same B B') : ∀ {v : List (Key × V)} {d : List (D × D)}, RpK K B v d → RpK K B' v d
  | _, _, .nil => .nil
  | _, _, .cons h t => .cons (Rp.mono e h) (RpK.mono e t)
theorem RpX.mono (e : Same B B') : ∀ {b : Bool} {v : List (NestedKey × Value × Value)} {d : List (D × D)}, RpX K B b v d → RpX K B' b v d
  | _, _, _, .nil => .nil
  | _, _, _, .cons h1 h2 h3 h4 h5 h6 m => .cons h1 h2 (Rp.mono e h3) h4 h5 (Rp.mono e h6) (RpX.mono e m)
end
theorem RpL.length : ∀ {vs : List V} {ds : List D}, RpL K B vs ds → vs.length = ds.length
  | _, _, .nil => rfl
  | _, _, .cons _ t => by rw [List.length_cons, List.length_cons, RpL.length t]
theorem RpL.get : ∀ {vs : List V} {ds : List D} {i : Nat} {d : D}, RpL K B vs ds → ds[i]? = some d → ∃ v, vs[i]? = some v ∧ Rp K B v d
  | _, _, _, _, .nil, e => by simp at e
  | _, _, 0, _, .cons h _, e => by simp at e; subst e; exact ⟨_, rfl, h⟩
  | _, _, i + 1, d, .cons _ t, e => by
    obtain ⟨v, h1, h2⟩ := RpL.get (i := i) (d := d) t (by simpa using e)
    exact ⟨v, by simpa using h1, h2⟩
theorem RpL.getV : ∀ {vs : List V} {ds : List D} {i : Nat} {v : V}, RpL K B vs ds → vs[i]? = some v → ∃ d, ds[i]? = some d ∧ Rp K B v d
  | _, _, _, _, .nil, e => by simp at e
  | _, _, 0, _, .cons h _, e => by simp at e; subst e; exact ⟨_, rfl, h⟩
  | _, _, i + 1, d, .cons _ t, e => by
    obtain ⟨v, h1, h2⟩ := RpL.getV (i := i) (v := d) t (by simpa using e)
    exact ⟨v, by simpa using h1, h2⟩
theorem RpL.append : ∀ {vs ws : List V} {ds es : List D}, RpL K B vs ds → RpL K B ws es → RpL K B (vs ++ ws) (ds ++ es)
  | _, _, _, _, .nil, s => s
  | _, _, _, _, .cons h t, s => .cons h (RpL.append t s)
theorem RpL.take : ∀ {vs : List V} {ds : List D} (n : Nat), RpL K B vs ds → RpL K B (vs.take n) (ds.take n)
  | _, _, 0, _ => .nil
  | _, _, _ + 1, .nil => .nil
  | _, _, n + 1, .cons h t => .cons h (RpL.take n t)
theorem RpL.drop : ∀ {vs : List V} {ds : List D} (n : Nat), RpL K B vs ds → RpL K B (vs.drop n) (ds.drop n)
  | _, _, 0, r => r
  | _, _, _ + 1, .nil => .nil
  | _, _, n + 1, .cons _ t => RpL.drop n t
theorem RpL.set {x : V} {e : D} (r : Rp K B x e) : ∀ {vs : List V} {ds : List D} (i : Nat), RpL K B vs ds → RpL K B (vs.set i x) (ds.set i e)
  | _, _, _, .nil => .nil
  | _, _, 0, .cons _ t => .cons r t
  | _, _, i + 1, .cons q t => .cons q (RpL.set r i t)
theorem RpL.reverse {vs : List V} {ds : List D} (h : RpL K B vs ds) : RpL K B vs.reverse ds.reverse := by
  induction vs generalizing ds with
  | nil => cases h; exact .nil
  | cons v vs ih =>
    cases h with
    | cons h1 h2 =>
      rw [List.reverse_cons, List.reverse_cons]
      exact (ih h2).append (.cons h1 .nil)
mutual
def plain : D → Bool
  | .none => true
  | .bool _ => true
  | .int _ => true
  | .str _ => true
  | .list ds => plainL ds
  | .tuple ds => plainL ds
  | .dict _ => false
def plainL : List D → Bool
  | [] => true
  | d :: ds => plain d && plainL ds
end
mutual
theorem Rp.dp : ∀ {v : V} (d : D), Rp K B v d → plain d = true → Dp K B v d
  | _, .none, .non, _ => .non
  | _, .bool _, .bl b, _ => .bl b
  | _, .int _, .int i, _ => .int i
  | _, .str _, .str x, _ => .str x
  | _, .list ds, .lst h t, e => .lst h (RpL.dp ds t (by unfold plain at e; exact e))
  | _, .tuple ds, .tup h t, e => .tup h.sq (RpL.dp ds t (by unfold plain at e; exact e))
  | _, .dict _, .dct h t, e => by unfold plain at e; cases e
  | _, .dict _, .exn _ _ _ _, e => by unfold plain at e; cases e
  | _, .dict _, .ptr _ _, e => by unfold plain at e; cases e
theorem RpL.dp : ∀ {vs : List V} (ds : List D), RpL K B vs ds → plainL ds = true → DpAll K B vs ds
  | _, [], .nil, _ => .nil
  | _, d :: ds, .cons h t, e => by
    unfold plainL at e
    rw [Bool.and_eq_true] at e
    exact .cons (Rp.dp d h e.1) (RpL.dp ds t e.2)
end
mutual
theorem Rp.dpT {H : Hp} (s : SameT B H) : ∀ {v : V} (d : D), Rp K B v d → plain d = true → Dp K H v d
  | _, .none, .non, _ => .non
  | _, .bool _, .bl b, _ => .bl b
  | _, .int _, .int i, _ => .int i
  | _, .str _, .str x, _ => .str x
  | _, .list ds, .lst h t, e => .lst (same_lT s h) (RpL.dpT s ds t (by unfold plain at e; exact e))
  | _, .tuple ds, .tup h t, e => .tup (same_xT s h).sq (RpL.dpT s ds t (by unfold plain at e; exact e))
  | _, .dict _, .dct h t, e => by unfold plain at e; cases e
  | _, .dict _, .exn _ _ _ _, e => by unfold plain at e; cases e
  | _, .dict _, .ptr _ _, e => by unfold plain at e; cases e
theorem RpL.dpT {H : Hp} (s : SameT B H) : ∀ {vs : List V} (ds : List D), RpL K B vs ds → plainL ds = true → DpAll K H vs ds
  | _, [], .nil, _ => .nil
  | _, d :: ds, .cons h t, e => by
    unfold plainL at e
    rw [Bool.and_eq_true] at e
    exact .cons (Rp.dpT s d h e.1) (RpL.dpT s ds t e.2)
end
end
/-- the object of an owned slot -/
def Ow (K : KW) (B : Hp) (a : Addr) (o : Option HO) : D → Prop
  | .list ds => ∃ vs, o = some (.lst vs) ∧ RpL K B vs ds
  | .dict ps => ∃ ep b xs, o = some (dX K.w a ep xs) ∧ RpX K B b xs ps
  | _ => False
theorem Ow.mono {K : KW} {B B' : Hp} {a : Addr} {o : Option HO} (e : Same B B') : ∀ {d : D}, Ow K B a o d → Ow K B' a o d
  | .list _, ⟨vs, h1, h2⟩ => ⟨vs, h1, h2.mono e⟩
  | .dict _, ⟨ep, b, xs, h1, h2⟩ => ⟨ep, b, xs, h1, h2.mono e⟩
theorem Ow.some {K : KW} {B : Hp} {a : Addr} {o : Option HO} : ∀ {d : D}, Ow K B a o d → ∃ u, o = Option.some u
  | .list _, ⟨vs, h1, _⟩ => ⟨_, h1⟩
  | .dict _, ⟨_, _, _, h1, _⟩ => ⟨_, h1⟩
/-- slot i holds v by c -/
def COk (K : KW) (B H : Hp) (c : Cel) (v : V) : Prop :=
  (c.fl = .sh ∧ Rp K B v c.d) ∨ (c.fl ≠ .sh ∧ ∃ a, v = .ref a ∧ B a = none ∧ Ow K B a (H a) c.d)
def OwnA (ρ : Rho) (σ : St) (a : Addr) : Prop := ∃ (i : Nat) (c : Cel), ρ[i]? = some (some c) ∧ c.fl ≠ .sh ∧ σ[i]? = some (some (.ref a))
/-- behind the slots stands the store alone, if any -/
structure LenOk (ρ : Rho) (σ : St) : Prop where
  le : σ.length ≤ ρ.length
  ex : ∀ i : Nat, σ.length ≤ i → i < ρ.length → ∃ d : D, ρ[i]? = some (some (Cel.mk (d) .st))
/-- the store: its cells are the addresses that bear its tokens -/
structure StAt (K : KW) (s : Nat) (μ : List D) (B H : Hp) : Prop where
  lv : K.lv ≤ s
  has : ∀ a g, B a = some (.met s g) → ∃ c, μ[g]? = some c ∧ Ow K B a (H a) (cntD c)
  all : ∀ g, g < μ.length → ∃ a, B a = some (.met s g)
  one : ∀ a b g, B a = some (.met s g) → B b = some (.met s g) → a = b
structure StOk (K : KW) (ρ : Rho) (σ : St) (B H : Hp) : Prop where
  at' : ∀ (i : Nat) (d : D), ρ[i]? = some (some (Cel.mk (d) .st)) → i = σ.length ∧ ∃ s μ, d = stD s μ ∧ StAt K s μ B H
  id' : ∀ a s g, B a = some (.met s g) → K.lv ≤ s
/-- a cell of the store that may be changed -/
def TokA (ρ : Rho) (B : Hp) (a : Addr) : Prop := ∃ (i s : Nat) (μ : List D) (g : Nat) (c : D), ρ[i]? = some (some (Cel.mk (stD s μ) .st)) ∧ B a = some (.met s g) ∧ μ[g]? = some c ∧ lockB c = false
structure Sim (K : KW) (ρ : Rho) (σ : St) (B H : Hp) : Prop where
  bh : SameT B H
  len : LenOk ρ σ
  sl : ∀ (i : Nat) (c : Cel), ρ[i]? = some (some c) → c.fl ≠ .st → ∃ v, σ[i]? = some (some v) ∧ COk K B H c v
  dj : ∀ (i j : Nat) (ci cj : Cel) (a : Addr), ρ[i]? = some (some ci) → ρ[j]? = some (some cj) → ci.fl ≠ .sh → cj.fl ≠ .sh → σ[i]? = some (some (.ref a)) → σ[j]? = some (some (.ref a)) → i = j
  st : StOk K ρ σ B H
/-- what may become shared or owned: a new address, or an owned one -/
def New (ρ : Rho) (σ : St) (H : Hp) (a : Addr) : Prop := H a = none ∨ OwnA ρ σ a
/-- what becomes of the store -/
structure TkX (ρ : Rho) (σ : St) (B H : Hp) (ρ' : Rho) (B' : Hp) : Prop where
  tk : ∀ a, TokA ρ' B' a → TokA ρ B a ∨ New ρ σ H a
  tn : ∀ a s g, B' a = some (.met s g) → B a = some (.met s g) ∨ ∃ (i : Nat) (μ : List D), ρ[i]? = some (some (Cel.mk (stD s μ) .st))
  kt : ∀ (i s : Nat) (μ : List D), ρ'[i]? = some (some (Cel.mk (stD s μ) .st)) → ∃ ν : List D, ρ[i]? = some (some (Cel.mk (stD s ν) .st))
/-- from one state to a later one: what is shared stays and grows by new objects (and owned ones that are given up); what was neither shared nor owned stays -/
structure Ext (ρ : Rho) (σ : St) (B H : Hp) (ρ' : Rho) (σ' : St) (B' H' : Hp) : Prop where
  bb : Same B B'
  nw : ∀ a o, B' a = some o → B a = some o ∨ New ρ σ H a
  kp : ∀ a o, H a = some o → ¬ OwnA ρ σ a → H' a = some o ∨ (TokA ρ B a ∧ ∃ u, H' a = some u)
  sub : ∀ a, OwnA ρ' σ' a → New ρ σ H a
  io : ∀ (i : Nat) (c : Cel), ρ[i]? = some (some c) → c.fl = .io → σ'[i]? = σ[i]? ∧ ∃ c', ρ'[i]? = some (some c') ∧ c'.fl = .io
  oi : ∀ (i : Nat) (c : Cel), ρ'[i]? = some (some c) → c.fl = .io → ∃ c', ρ[i]? = some (some c') ∧ c'.fl = .io
  tx : TkX ρ σ B H ρ' B'
section
variable {K : KW} {ρ ρ1 ρ2 : Rho} {σ σ1 σ2 : St} {B B1 B2 H H1 H2 : Hp}
theorem TkX.of (h1 : ∀ (i : Nat) (d : D), ρ1[i]? = some (some (Cel.mk (d) .st)) → ρ[i]? = some (some (Cel.mk (d) .st))) (h2 : ∀ a s g, B1 a = some (.met s g) → B a = some (.met s g)) : TkX ρ σ B H ρ1 B1 :=
  ⟨fun a ⟨i, s, μ, g, c, q1, q2, q3, q4⟩ => .inl ⟨i, s, μ, g, c, h1 i _ q1, h2 a s g q2, q3, q4⟩, fun a s g q => .inl (h2 a s g q), fun i s μ q => ⟨μ, h1 i _ q⟩⟩
theorem TkX.rf : TkX ρ σ B H ρ B := .of (fun _ _ h => h) fun _ _ _ h => h
theorem TkX.b (h2 : ∀ a s g, B1 a = some (.met s g) → B a = some (.met s g)) : TkX ρ σ B H ρ B1 := .of (fun _ _ h => h) h2
theorem TkX.r (h1 : ∀ (i : Nat) (d : D), ρ1[i]? = some (some (Cel.mk (d) .st)) → ρ[i]? = some (some (Cel.mk (d) .st))) : TkX ρ σ B H ρ1 B := .of h1 fun _ _ _ h => h
theorem met_upd {p : Addr} {o : HO} (n : ∀ x y, o ≠ .met x y) {a : Addr} {s g : Nat} (h : upd B p o a = some (.met s g)) : B a = some (.met s g) := by
  by_cases e : a = p
  · subst e; rw [upd_same] at h; cases h; exact absurd rfl (n s g)
  · rwa [upd_ne e] at h
theorem TkX.upd {p : Addr} {o : HO} (x : TkX ρ σ B H ρ1 B1) (n : ∀ x y, o ≠ .met x y) : TkX ρ σ B H ρ1 (upd B1 p o) :=
  ⟨fun a ⟨i, s, μ, g, c, q1, q2, q3, q4⟩ => x.tk a ⟨i, s, μ, g, c, q1, met_upd n q2, q3, q4⟩, fun a s g q => x.tn a s g (met_upd n q), x.kt⟩
theorem TkX.st {ρ2 : Rho} (x : TkX ρ σ B H ρ1 B1) (h1 : ∀ (i : Nat) (d : D), ρ2[i]? = some (some (Cel.mk d .st)) → ρ1[i]? = some (some (Cel.mk d .st))) : TkX ρ σ B H ρ2 B1 :=
  ⟨fun a ⟨i, s, μ, g, c, q1, q2, q3, q4⟩ => x.tk a ⟨i, s, μ, g, c, h1 _ _ q1, q2, q3, q4⟩, x.tn, fun i s μ q => x.kt i s μ (h1 _ _ q)⟩
/-- the store stays where its tokens and its cells stay -/
theorem StOk.keep (h : StOk K ρ σ B H) (e : Same B B1) (tk : ∀ a s g, B1 a = some (.met s g) → B a = some (.met s g)) (hh : ∀ a s g, B a = some (.met s g) → H1 a = H a) (hr : ∀ (i : Nat) (d : D), ρ1[i]? = some (some (Cel.mk (d) .st)) → ρ[i]? = some (some (Cel.mk (d) .st))) (hl : σ1.length = σ.length) : StOk K ρ1 σ1 B1 H1 :=
  ⟨fun i d q => by
    obtain ⟨e1, s, μ, e2, S⟩ := h.at' i d (hr i d q)
    refine ⟨by rw [hl]; exact e1, s, μ, e2, ⟨S.lv, fun a g q => ?_, fun g q => ?_, fun a b g q r => S.one a b g (tk _ _ _ q) (tk _ _ _ r)⟩⟩
    · obtain ⟨c, r1, r2⟩ := S.has a g (tk a s g q)
      exact ⟨c, r1, by rw [hh a s g (tk a s g q)]; exact r2.mono e⟩
    · obtain ⟨a, r⟩ := S.all g q
      exact ⟨a, e _ _ r⟩, fun a s g q => h.id' a s g (tk a s g q)⟩
theorem st_set {j : Nat} {c : Option Cel} (n : ∀ d : D, c ≠ some (Cel.mk (d) .st)) {i : Nat} {d : D} (h : (ρ.set j c)[i]? = some (some (Cel.mk (d) .st))) : ρ[i]? = some (some (Cel.mk (d) .st)) := by
  by_cases e : j = i
  · subst e
    rw [List.getElem?_set] at h
    rw [if_pos rfl] at h
    split at h
    · cases h; exact absurd rfl (n d)
    · cases h
  · rwa [List.getElem?_set, if_neg e] at h
theorem LenOk.set (h : LenOk ρ σ) {j : Nat} {c : Option Cel} (hj : j < σ.length) : LenOk (ρ.set j c) σ := ⟨by rw [List.length_set]; exact h.le, fun i h1 h2 => by
  rw [List.length_set] at h2
  obtain ⟨d, e⟩ := h.ex i h1 h2
  exact ⟨d, by rw [List.getElem?_set, if_neg (by omega)]; exact e⟩⟩
theorem LenOk.setσ (h : LenOk ρ σ) {j : Nat} {v : Option V} : LenOk ρ (σ.set j v) := ⟨by rw [List.length_set]; exact h.le, fun i h1 h2 => h.ex i (by rw [List.length_set] at h1; exact h1) h2⟩
theorem LenOk.of {σ' : St} (h : LenOk ρ σ) (hl : σ'.length = σ.length) : LenOk ρ σ' := ⟨by rw [hl]; exact h.le, fun i h1 h2 => h.ex i (by rw [← hl]; exact h1) h2⟩
/-- a slot that isn't the store is one of the slots -/
theorem LenOk.lt (h : LenOk ρ σ) {i : Nat} (hi : i < ρ.length) (n : ∀ d : D, ρ[i]? ≠ some (some (Cel.mk (d) .st))) : i < σ.length := by
  apply Classical.byContradiction
  intro z
  obtain ⟨d, e⟩ := h.ex i (by omega) hi
  exact n d e
theorem Ext.refl : Ext ρ σ B H ρ σ B H :=
  ⟨Same.refl B, fun _ _ h => .inl h, fun _ _ h _ => .inl h, fun _ h => .inr h, fun i c h1 h2 => ⟨rfl, c, h1, h2⟩, fun i c h1 h2 => ⟨c, h1, h2⟩, .rf⟩
/-- what is new later is new from the start -/
theorem Ext.back (a : Ext ρ σ B H ρ1 σ1 B1 H1) {x : Addr} (h : New ρ1 σ1 H1 x) : New ρ σ H x := by
  rcases h with h | h
  · by_cases ho : OwnA ρ σ x
    · exact .inr ho
    · cases e : H x with
      | none => exact .inl e
      | some u =>
        rcases a.kp x u e ho with q | ⟨_, v, q⟩ <;> (rw [q] at h; cases h)
  · exact a.sub x h
theorem Ext.trans (a : Ext ρ σ B H ρ1 σ1 B1 H1) (b : Ext ρ1 σ1 B1 H1 ρ2 σ2 B2 H2) : Ext ρ σ B H ρ2 σ2 B2 H2 where
  bb := a.bb.trans b.bb
  nw := fun x o h => (b.nw x o h).elim (fun h => a.nw x o h) fun h => .inr (a.back h)
  kp := fun x o h n => by
    have nn : ¬ New ρ σ H x := fun q => q.elim (fun z => by rw [h] at z; cases z) n
    have n1 : ¬ OwnA ρ1 σ1 x := fun q => nn (a.sub x q)
    rcases a.kp x o h n with q | ⟨tq, u, q⟩
    · rcases b.kp x o q n1 with r | ⟨tr, v, r⟩
      · exact .inl r
      · exact .inr ⟨(a.tx.tk x tr).elim (fun z => z) fun z => absurd z nn, v, r⟩
    · rcases b.kp x u q n1 with r | ⟨_, v, r⟩
      · exact .inr ⟨tq, _, r⟩
      · exact .inr ⟨tq, v, r⟩
  sub := fun x h => a.back (b.sub x h)
  io := fun i c h1 h2 => by
    obtain ⟨e1, c1, q1, q2⟩ := a.io i c h1 h2
    obtain ⟨e2, c2, q3, q4⟩ := b.io i c1 q1 q2
    exact ⟨e2.trans e1, c2, q3, q4⟩
  oi := fun i c h1 h2 => by
    obtain ⟨c1, q1, q2⟩ := b.oi i c h1 h2
    exact a.oi i c1 q1 q2
  tx := ⟨fun x h => (b.tx.tk x h).elim (fun h => a.tx.tk x h) fun h => .inr (a.back h), fun x s g h => by
    rcases b.tx.tn x s g h with q | ⟨i, μ, q⟩
    · exact a.tx.tn x s g q
    · exact .inr ⟨i, a.tx.kt i s μ q⟩, fun i s μ h => by
    obtain ⟨ν, q⟩ := b.tx.kt i s μ h
    exact a.tx.kt i s ν q⟩
/-- an address that is tracked, not shared and nobody's stays so -/
theorem Ext.keepN (a : Ext ρ σ B H ρ1 σ1 B1 H1) {x : Addr} {o : HO} (h : H x = some o) (hb : B x = none) (n : ¬ OwnA ρ σ x) : H1 x = some o ∧ B1 x = none ∧ ¬ OwnA ρ1 σ1 x := by
  have nn : ¬ New ρ σ H x := fun q => q.elim (fun z => by rw [h] at z; cases z) n
  refine ⟨(a.kp x o h n).elim id fun ⟨⟨_, s, _, g, _, _, z, _⟩, _⟩ => (by rw [hb] at z; cases z), ?_, fun q => nn (a.sub x q)⟩
  cases e : B1 x with
  | none => rfl
  | some u =>
    rcases a.nw x u e with q | q
    · rw [hb] at q; cases q
    · exact absurd q nn
/-- .. and what is shared, too, but for the store's cells -/
theorem Ext.keepT (a : Ext ρ σ B H ρ1 σ1 B1 H1) {x : Addr} {o : HO} (h : H x = some o) (n : ¬ OwnA ρ σ x) (nt : ¬ TokA ρ B x) : H1 x = some o :=
  (a.kp x o h n).elim id fun z => absurd z.1 nt
theorem Sim.nst (S : Sim K ρ σ B H) {i : Nat} {c : Cel} {x : Option V} (h : ρ[i]? = some (some c)) (h3 : σ[i]? = some x) : c.fl ≠ .st := fun e => by
  obtain ⟨d, fl⟩ := c
  cases e
  obtain ⟨q, _⟩ := S.st.at' i d h
  rw [q, List.getElem?_eq_none (Nat.le_refl _)] at h3
  cases h3
theorem Sim.ownH (S : Sim K ρ σ B H) {a : Addr} (h : OwnA ρ σ a) : B a = none ∧ ∃ o, H a = some o := by
  obtain ⟨i, c, h1, h2, h3⟩ := h
  obtain ⟨v, e, q⟩ := S.sl i c h1 (S.nst h1 h3)
  rw [h3] at e
  cases e
  rcases q with ⟨z, _⟩ | ⟨_, b, e, q1, q2⟩
  · exact absurd z h2
  · cases e
    exact ⟨q1, q2.some⟩
theorem Sim.free (S : Sim K ρ σ B H) {p : Addr} (h : H p = none) : B p = none ∧ ¬ OwnA ρ σ p :=
  ⟨S.bh.free h, fun q => by obtain ⟨_, o, e⟩ := S.ownH q; rw [h] at e; cases e⟩
theorem Sim.ltσ (S : Sim K ρ σ B H) {i : Nat} {c : Cel} (h : ρ[i]? = some (some c)) (n : c.fl ≠ .st) : i < σ.length := by
  obtain ⟨v, e, _⟩ := S.sl i c h n
  exact (List.getElem?_eq_some_iff.mp e).1
theorem COk.mono {c : Cel} {v : V} (h : COk K B H c v) (e : Same B B1) (hf : ∀ a, v = .ref a → B a = none → (∃ o, H a = some o) → c.fl ≠ .sh → B1 a = none ∧ H1 a = H a) : COk K B1 H1 c v := by
  rcases h with ⟨h1, h2⟩ | ⟨h1, a, rfl, h2, h3⟩
  · exact .inl ⟨h1, h2.mono e⟩
  · obtain ⟨q1, q2⟩ := hf a rfl h2 h3.some h1
    exact .inr ⟨h1, a, rfl, q1, by rw [q2]; exact h3.mono e⟩
/-- a new object, shared -/
theorem Sim.newB (S : Sim K ρ σ B H) {p : Addr} (hp : H p = none) (o : HO) (hm : ∀ x y, o ≠ .met x y := by intro _ _ h; first | (cases h; done) | (unfold dX at h; cases h; done) | (unfold exV at h; cases h; done)) : Sim K ρ σ (upd B p o) (upd H p o) ∧ Ext ρ σ B H ρ σ (upd B p o) (upd H p o) := by
  obtain ⟨bp, np⟩ := S.free hp
  have sB : Same B (upd B p o) := fun b u e => by rw [upd_ne (ne_of_none e bp)]; exact e
  have sH : Same H (upd H p o) := fun b u e => by rw [upd_ne (ne_of_none e hp)]; exact e
  have tk : ∀ a s g, upd B p o a = some (.met s g) → B a = some (.met s g) := fun a s g e => met_upd hm e
  refine ⟨⟨fun b u e => ?_, S.len, fun i c h hs => ?_, S.dj, S.st.keep sB tk (fun a s g e => upd_ne (ne_of_none e bp)) (fun _ _ h => h) rfl⟩, ⟨sB, fun a u e => ?_, fun a u e _ => .inl (sH a u e), fun _ h => .inr h, fun i c h1 h2 => ⟨rfl, c, h1, h2⟩, fun i c h1 h2 => ⟨c, h1, h2⟩, .b tk⟩⟩
  · by_cases hb : b = p
    · subst hb; rw [upd_same] at e ⊢; exact .inl e
    · rw [upd_ne hb] at e ⊢; exact S.bh _ _ e
  · obtain ⟨v, e, q⟩ := S.sl i c h hs
    refine ⟨v, e, q.mono sB fun a hv ha ho hf => ?_⟩
    have ne : a ≠ p := fun z => by subst z; obtain ⟨_, w⟩ := ho; rw [hp] at w; cases w
    exact ⟨by rw [upd_ne ne]; exact ha, by rw [upd_ne ne]⟩
  · by_cases hb : a = p
    · subst hb; exact .inr (.inl hp)
    · rw [upd_ne hb] at e; exact .inl e
/-- a new object that nobody holds yet -/
theorem Sim.newH (S : Sim K ρ σ B H) {p : Addr} (hp : H p = none) (o : HO) : Sim K ρ σ B (upd H p o) ∧ Ext ρ σ B H ρ σ B (upd H p o) := by
  obtain ⟨bp, np⟩ := S.free hp
  have sH : Same H (upd H p o) := fun b u e => by rw [upd_ne (ne_of_none e hp)]; exact e
  refine ⟨⟨fun b u e => ?_, S.len, fun i c h hs => ?_, S.dj, S.st.keep (Same.refl B) (fun _ _ _ h => h) (fun a s g e => upd_ne (ne_of_none e bp)) (fun _ _ h => h) rfl⟩, ⟨Same.refl B, fun a u e => .inl e, fun a u e _ => .inl (sH a u e), fun _ h => .inr h, fun i c h1 h2 => ⟨rfl, c, h1, h2⟩, fun i c h1 h2 => ⟨c, h1, h2⟩, .rf⟩⟩
  · rw [upd_ne (ne_of_none e bp)]; exact S.bh _ _ e
  obtain ⟨v, e, q⟩ := S.sl i c h hs
  refine ⟨v, e, q.mono (Same.refl B) fun a hv ha ho hf => ?_⟩
  have ne : a ≠ p := fun z => by subst z; obtain ⟨_, w⟩ := ho; rw [hp] at w; cases w
  exact ⟨ha, by rw [upd_ne ne]⟩
/-- an object that nobody holds becomes shared -/
theorem Sim.share (S : Sim K ρ σ B H) {p : Addr} {o : HO} (hb : B p = none) (hp : H p = some o) (n : ¬ OwnA ρ σ p) (hm : ∀ x y, o ≠ .met x y) : Sim K ρ σ (upd B p o) H := by
  have sB : Same B (upd B p o) := fun b u e => by rw [upd_ne (ne_of_none e hb)]; exact e
  refine ⟨fun b u e => ?_, S.len, fun i c h hs => ?_, S.dj, S.st.keep sB (fun a s g e => met_upd hm e) (fun _ _ _ _ => rfl) (fun _ _ h => h) rfl⟩
  · by_cases h : b = p
    · subst h; rw [upd_same] at e; cases e; exact .inl hp
    · rw [upd_ne h] at e; exact S.bh _ _ e
  · obtain ⟨v, e, q⟩ := S.sl i c h hs
    refine ⟨v, e, q.mono sB fun a hv ha ho hf => ⟨?_, rfl⟩⟩
    have ne : a ≠ p := fun z => by subst z; subst hv; exact n ⟨i, c, h, hf, e⟩
    rw [upd_ne ne]; exact ha
/-- slots without the store have none later -/
theorem Sim.noSt {σ1 : St} (S1 : Sim K ρ1 σ1 B1 H1) (x : TkX ρ σ B H ρ1 B1) {i : Nat} (h : ∀ d : D, ρ[i]? ≠ some (some (Cel.mk d .st))) (d : D) : ρ1[i]? ≠ some (some (Cel.mk d .st)) := fun q => by
  obtain ⟨e1, s, μ, rfl, _⟩ := S1.st.at' i d q
  obtain ⟨ν, r⟩ := x.kt i s μ q
  exact h _ r
/-- what runs without the store leaves its objects alone -/
theorem Ext.noTokR (h : ∀ (i : Nat) (d : D), ρ[i]? ≠ some (some (Cel.mk d .st))) (a : Addr) : ¬ TokA ρ B a := fun ⟨i, s, μ, g, c, q, _⟩ => h i _ q
theorem Ext.tkB (x : Ext ρ σ B H ρ1 σ1 B1 H1) (h : ∀ (i : Nat) (d : D), ρ[i]? ≠ some (some (Cel.mk d .st))) (a : Addr) (s g : Nat) (q : B1 a = some (.met s g)) : B a = some (.met s g) := (x.tx.tn a s g q).elim (fun h => h) fun ⟨i, μ, z⟩ => absurd z (h i _)
theorem Ext.tkH (x : Ext ρ σ B H ρ1 σ1 B1 H1) (S : Sim K ρ σ B H) (h : ∀ (i : Nat) (d : D), ρ[i]? ≠ some (some (Cel.mk d .st))) (a : Addr) (s g : Nat) (q : B a = some (.met s g)) : H1 a = H a := by
  obtain ⟨u, hu⟩ := S.bh.there q
  have no : ¬ OwnA ρ σ a := fun z => by
    have := (S.ownH z).1
    rw [q] at this; cases this
  rw [hu]
  exact x.keepT hu no (Ext.noTokR h a)
end
theorem Ow.nm {K : KW} {B : Hp} {a : Addr} {o : HO} : ∀ {d : D}, Ow K B a (Option.some o) d → ∀ x y, o ≠ .met x y
  | .list _, ⟨vs, h1, _⟩, _, _ => by cases h1; exact fun z => by cases z
  | .dict _, ⟨ep, b, xs, h1, _⟩, _, _ => by cases h1; unfold dX; exact fun z => by cases z
end GS
namespace GS
open PySem L2
def HdOk (K : KW) (N : Addr → Prop) (ρ : Rho) (σ : St) (B H : Hp) (v : V) : Hd → Prop
  | .sh d => Rp K B v d
  | .fr d => ∃ a, v = .ref a ∧ B a = none ∧ Ow K B a (H a) d ∧ ¬ OwnA ρ σ a ∧ N a
  | .bw i => σ[i]? = some (some v)
  | .sp s g => ∃ a : Addr, v = .ref a ∧ B a = some (.met s g)
/-- the context of a reading: the written part, the classes' values by name, what is wanted of an exception -/
structure Ct where
  K : KW
  cv : Str → Value
  W : WX
def XcOk (C : Ct) (B : Hp) (x : Xc) (cls : Value) (dct : Option Addr) : Prop :=
  cls = C.cv x.cls ∧ ((x.fs = [] ∧ dct = none) ∨ ∃ a fs, dct = some a ∧ B a = some (.xd fs) ∧ fs.map (·.1) = x.fs.map (·.1) ∧ RpL C.K B (fs.map (·.2)) (x.fs.map (·.2)))
def GoodE (C : Ct) (ρ : Rho) (σ : St) (B H : Hp) (Q : VK) : RE → Prop
  | .stuck => False
  | .ok h ρ' => ∀ v B' H', Sim C.K ρ' σ B' H' → Ext ρ σ B H ρ' σ B' H' → HdOk C.K (New ρ σ H) ρ' σ B' H' v h → Q v H'
  | .exc x ρ' => ∀ cls dct B' H', Sim C.K ρ' σ B' H' → Ext ρ σ B H ρ' σ B' H' → XcOk C B' x cls dct → C.W cls dct σ H'
def LkE (C : Ct) (t : TE) (f : EF) : Prop := ∀ ρ σ B H Q, Sim C.K ρ σ B H → GoodE C ρ σ B H Q (f ρ) → t σ H Q
structure SE (X : Cx) (C : Ct) (e : Expr) (t : TE) (f : EF) : Prop where
  pe : PE X e t
  lk : LkE C t f
def bindE (r : RE) (k : Hd → Rho → RE) : RE := match r with
  | .stuck => .stuck
  | .ok h ρ => k h ρ
  | .exc x ρ => .exc x ρ
/-- what a slot holds -/
def slot (ρ : Rho) (i : Nat) : Option Cel := match ρ[i]? with
  | some (some c) => some c
  | _ => none
theorem slot_some {ρ : Rho} {i : Nat} {c : Cel} (h : slot ρ i = some c) : ρ[i]? = some (some c) := by
  unfold slot at h
  split at h
  · rename_i c' e; cases h; exact e
  · cases h
/-- the content of a cell of the store -/
def cellOf (ρ : Rho) (s g : Nat) : Option D := match ρ.getLast? with
  | some (some ⟨.tuple [.int i, .list μ], .st⟩) => if i = (s : Int) then (μ[g]?).map cntD else none
  | _ => none
def getH (ρ : Rho) : Hd → Option D
  | .sh d => some d
  | .fr d => some d
  | .bw i => (slot ρ i).map (·.d)
  | .sp s g => cellOf ρ s g
def capH (ρ : Rho) : Hd → Option D
  | .sh d => some d
  | .fr d => some d
  | .bw i => match slot ρ i with
    | some ⟨d, .sh⟩ => some d
    | _ => none
  | .sp _ _ => none
def setl : Hd → Hd
  | .fr d => .sh d
  | h => h
/-- captured: a shared datum -/
def eCap (f : EF) : EF := fun ρ => bindE (f ρ) fun h ρ' => match capH ρ' h with
  | some d => .ok (.sh d) ρ'
  | none => .stuck
/-- looked at: what is new is shared -/
def eSet (f : EF) : EF := fun ρ => bindE (f ρ) fun h ρ' => .ok (setl h) ρ'
section
variable {C : Ct} {ρ ρ' ρ1 : Rho} {σ : St} {B B' H H' B1 H1 : Hp} {Q : VK} {t ta tb : TE} {f fa fb : EF} {N N' : Addr → Prop} {v : V}
theorem HdOk.mono {K : KW} (k : ∀ a, N a → N' a) : ∀ {h : Hd}, HdOk K N ρ σ B H v h → HdOk K N' ρ σ B H v h
  | .sh _, q => q
  | .fr _, ⟨a, h1, h2, h3, h4, h5⟩ => ⟨a, h1, h2, h3, h4, k a h5⟩
  | .bw _, q => q
  | .sp _ _, q => q
/-- a step in the middle: what is good behind is good ahead -/
theorem GoodE.ext (e : Ext ρ σ B H ρ1 σ B1 H1) : ∀ {r : RE}, GoodE C ρ σ B H Q r → GoodE C ρ1 σ B1 H1 Q r
  | .stuck, h => h
  | .ok _ _, h => fun v B' H' s x y => h v B' H' s (e.trans x) (y.mono fun _ z => e.back z)
  | .exc _ _, h => fun c d B' H' s x => h c d B' H' s (e.trans x)
theorem GoodE.imp {Q' : VK} (k : ∀ v H, Q v H → Q' v H) : ∀ {r : RE}, GoodE C ρ σ B H Q r → GoodE C ρ σ B H Q' r
  | .stuck, h => h
  | .ok _ _, h => fun v B' H' s x y => k _ _ (h v B' H' s x y)
  | .exc _ _, h => h
/-- THE RULE: an expression, then what follows -/
theorem LkE.bind (l : LkE C t f) (S : Sim C.K ρ σ B H) {k : Hd → Rho → RE} {Q' : VK} (g : GoodE C ρ σ B H Q (bindE (f ρ) k))
    (h : ∀ hd ρ1 v B1 H1, Sim C.K ρ1 σ B1 H1 → Ext ρ σ B H ρ1 σ B1 H1 → HdOk C.K (New ρ σ H) ρ1 σ B1 H1 v hd → GoodE C ρ σ B H Q (k hd ρ1) → Q' v H1) : t σ H Q' := by
  refine l ρ σ B H Q' S ?_
  cases e : f ρ with
  | stuck => rw [e] at g; exact g
  | ok hd ρ1 =>
    rw [e] at g
    exact fun v B1 H1 s x y => h hd ρ1 v B1 H1 s x y g
  | exc x ρ1 =>
    rw [e] at g
    exact g
/-- a new datum that nobody holds is shared from here on -/
theorem Sim.cap (S : Sim C.K ρ1 σ B1 H1) (x : Ext ρ σ B H ρ1 σ B1 H1) {d : D} (h : HdOk C.K (New ρ σ H) ρ1 σ B1 H1 v (.fr d)) : ∃ B2, Sim C.K ρ1 σ B2 H1 ∧ Ext ρ σ B H ρ1 σ B2 H1 ∧ Rp C.K B2 v d := by
  obtain ⟨a, rfl, hb, ho, hn, hN⟩ := h
  obtain ⟨o, e⟩ := ho.some
  have sB : Same B1 (upd B1 a o) := fun b u e => by rw [upd_ne (ne_of_none e hb)]; exact e
  have nm := Ow.nm (by rw [← e]; exact ho)
  refine ⟨upd B1 a o, S.share hb e hn nm, ⟨x.bb.trans sB, fun b u e => ?_, x.kp, x.sub, x.io, x.oi, x.tx.upd nm⟩, ?_⟩
  · by_cases hb : b = a
    · subst hb; exact .inr hN
    · rw [upd_ne hb] at e; exact x.nw b u e
  · rw [e] at ho
    have ho := ho.mono sB
    cases d with
    | list ds =>
      obtain ⟨vs, e1, e2⟩ := ho
      cases e1
      exact .lst (.inl (.inl upd_same)) e2
    | dict ps =>
      obtain ⟨ep, b, xs, e1, e2⟩ := ho
      cases e1
      exact .dct upd_same e2
    | _ => exact ho.elim
theorem LkE.cap (l : LkE C t f) : LkE C t (eCap f) := fun ρ σ B H Q S g => by
  refine l.bind S g fun hd ρ1 v B1 H1 S1 x y g => ?_
  cases hd with
  | sh d => exact g v B1 H1 S1 x y
  | fr d =>
    obtain ⟨B2, S2, x2, r⟩ := S1.cap x y
    exact g v B2 H1 S2 x2 r
  | bw i =>
    unfold capH at g
    dsimp only at g
    split at g
    · rename_i d e
      split at e
      · rename_i d' e'
        cases e
        have e' := slot_some e'
        obtain ⟨v', q1, q2⟩ := S1.sl i _ e' (by simp)
        have y' : σ[i]? = some (some v) := y
        rw [y'] at q1
        cases q1
        rcases q2 with ⟨_, q2⟩ | ⟨q, _⟩
        · exact g v B1 H1 S1 x q2
        · exact absurd rfl q
      · cases e
    · exact g.elim
  | sp _ _ => exact g.elim
theorem LkE.set (l : LkE C t f) : LkE C t (eSet f) := fun ρ σ B H Q S g => by
  refine l.bind S g fun hd ρ1 v B1 H1 S1 x y g => ?_
  cases hd with
  | sh d => exact g v B1 H1 S1 x y
  | fr d =>
    obtain ⟨B2, S2, x2, r⟩ := S1.cap x y
    exact g v B2 H1 S2 x2 r
  | bw i => exact g v B1 H1 S1 x y
  | sp _ _ => exact g v B1 H1 S1 x y
theorem SE.cap {X : Cx} {e : Expr} (h : SE X C e t f) : SE X C e t (eCap f) := ⟨h.pe, h.lk.cap⟩
theorem SE.set {X : Cx} {e : Expr} (h : SE X C e t f) : SE X C e t (eSet f) := ⟨h.pe, h.lk.set⟩
def Tp (K : KW) (B H : Hp) (v : V) : D → Prop
  | .list ds => ∃ a vs, v = .ref a ∧ SqL K H a vs ∧ RpL K B vs ds
  | .dict ps => (∃ a ep b xs, v = .ref a ∧ H a = some (dX K.w a ep xs) ∧ RpX K B b xs ps) ∨ (xnB ps = true ∧ Rp K B v (.dict ps))
  | d => Rp K B v d
theorem Tp.of {K : KW} (s : SameT B H) : ∀ {d : D}, Rp K B v d → Tp K B H v d
  | .list _, .lst h t => ⟨_, _, rfl, same_lT s h, t⟩
  | .dict _, .dct h t => .inl ⟨_, _, _, _, rfl, s.at h (fun _ _ z => by unfold dX at z; cases z), t⟩
  | .dict _, .exn h q x t => .inr ⟨rfl, .exn h q x t⟩
  | .dict _, .ptr p h => .inr ⟨rfl, .ptr p h⟩
  | .none, h => h
  | .bool _, h => h
  | .int _, h => h
  | .str _, h => h
  | .tuple _, h => h
/-- data without dicts, as the heap has them -/
theorem Tp.dpT {K : KW} (s : SameT B H) : ∀ {d : D}, Tp K B H v d → plain d = true → Dp K H v d
  | .list ds, ⟨_, _, e, h, t⟩, q => by subst e; exact .lst h (t.dpT s ds (by unfold plain at q; exact q))
  | .dict _, _, q => by unfold plain at q; cases q
  | .none, h, q => Rp.dpT s _ h q
  | .bool _, h, q => Rp.dpT s _ h q
  | .int _, h, q => Rp.dpT s _ h q
  | .str _, h, q => Rp.dpT s _ h q
  | .tuple _, h, q => Rp.dpT s _ h q
theorem Sim.one {K : KW} (S : Sim K ρ σ B H) {i j : Nat} {d e : D} (h1 : ρ[i]? = some (some (Cel.mk d .st))) (h2 : ρ[j]? = some (some (Cel.mk e .st))) : i = j ∧ d = e := by
  have e1 := (S.st.at' i d h1).1
  have e2 := (S.st.at' j e h2).1
  have ij : i = j := e1.trans e2.symm
  subst ij
  rw [h1] at h2
  cases h2
  exact ⟨rfl, rfl⟩
theorem Sim.last {K : KW} (S : Sim K ρ σ B H) {i : Nat} {d : D} (h : ρ[i]? = some (some (Cel.mk d .st))) : ρ.length = i + 1 := by
  have hi := (List.getElem?_eq_some_iff.mp h).1
  have e1 := (S.st.at' i d h).1
  apply Classical.byContradiction
  intro n
  obtain ⟨d', q⟩ := S.len.ex (i + 1) (by omega) (by omega)
  have := (S.st.at' _ _ q).1
  omega
theorem cell_some {s g : Nat} {c : D} (h : cellOf ρ s g = some c) : ∃ (i : Nat) (μ : List D) (x : D), ρ[i]? = some (some (Cel.mk (stD s μ) .st)) ∧ μ[g]? = some x ∧ c = cntD x := by
  unfold cellOf at h
  split at h
  · rename_i i μ e
    split at h
    · rename_i hi
      subst hi
      obtain ⟨x, e1, e2⟩ := Option.map_eq_some_iff.mp h
      rw [List.getLast?_eq_getElem?] at e
      exact ⟨_, μ, x, e, e1, e2.symm⟩
    · cases h
  · cases h
theorem stD_inj {s s' : Nat} {μ μ' : List D} (h : stD s μ = stD s' μ') : s = s' ∧ μ = μ' := by
  injection h with h
  injection h with ha h
  injection ha with ha
  injection h with h _
  injection h with h
  exact ⟨by omega, h⟩
/-- the store's cells -/
theorem Sim.store {K : KW} (S : Sim K ρ σ B H) {i s : Nat} {μ : List D} (h : ρ[i]? = some (some (Cel.mk (stD s μ) .st))) : StAt K s μ B H := by
  obtain ⟨_, s', μ', ed, SA⟩ := S.st.at' i _ h
  obtain ⟨rfl, rfl⟩ := stD_inj ed
  exact SA
/-- a cell of the store that is looked at -/
theorem Sim.cell {K : KW} (S : Sim K ρ σ B H) {N : Addr → Prop} {s g : Nat} {c : D} (y : HdOk K N ρ σ B H v (.sp s g)) (h : cellOf ρ s g = some c) : ∃ (a : Addr) (i : Nat) (μ : List D) (x : D), v = .ref a ∧ ρ[i]? = some (some (Cel.mk (stD s μ) .st)) ∧ B a = some (.met s g) ∧ μ[g]? = some x ∧ c = cntD x ∧ Ow K B a (H a) c := by
  obtain ⟨a, rfl, tk⟩ := y
  obtain ⟨i, μ, x, e1, e2, rfl⟩ := cell_some h
  obtain ⟨c, r1, r2⟩ := (S.store e1).has a g tk
  rw [e2] at r1
  cases r1
  exact ⟨a, i, μ, x, rfl, e1, tk, e2, rfl, r2⟩
theorem Sim.tp (S : Sim C.K ρ σ B H) {h : Hd} {d : D} (y : HdOk C.K N ρ σ B H v h) (g : getH ρ h = some d) : Tp C.K B H v d := by
  have own : ∀ (a : Addr) (d : D), Ow C.K B a (H a) d → Tp C.K B H (.ref a) d := fun a d ho => by
    cases d with
    | list ds =>
      obtain ⟨vs, e1, e2⟩ := ho
      exact ⟨a, vs, rfl, .inl (.inl e1), e2⟩
    | dict ds =>
      obtain ⟨ep, b, xs, e1, e2⟩ := ho
      exact .inl ⟨a, ep, b, xs, rfl, e1, e2⟩
    | _ => exact ho.elim
  cases h with
  | sh e =>
    cases g
    exact Tp.of S.bh y
  | fr e =>
    cases g
    obtain ⟨a, rfl, hb, ho, _⟩ := y
    exact own a d ho
  | bw i =>
    replace g : (slot ρ i).map (·.d) = some d := g
    cases e : slot ρ i with
    | none => rw [e] at g; cases g
    | some c =>
      rw [e] at g
      cases g
      have y' : σ[i]? = some (some v) := y
      obtain ⟨v', q1, q2⟩ := S.sl i c (slot_some e) (S.nst (slot_some e) y')
      rw [y'] at q1
      cases q1
      rcases q2 with ⟨_, q2⟩ | ⟨_, a, rfl, hb, ho⟩
      · exact Tp.of S.bh q2
      · exact own a _ ho
  | sp s i =>
    obtain ⟨a, _, _, _, rfl, _, _, _, _, ho⟩ := S.cell y g
    exact own a d ho
/-- a looked-at operand stays good -/
theorem HdOk.ext (x : Ext ρ σ B H ρ1 σ B1 H1) {h : Hd} (y : HdOk C.K N ρ σ B H v (setl h)) : HdOk C.K N' ρ1 σ B1 H1 v (setl h) := by
  cases h with
  | sh d => exact Rp.mono x.bb y
  | fr d => exact Rp.mono x.bb y
  | bw i => exact y
  | sp s g =>
    obtain ⟨a, rfl, tk⟩ := y
    exact ⟨a, rfl, x.bb _ _ tk⟩
def OpL (K : KW) (r : R2) (o : D → D → Option Hd) : Prop := ∀ ρ σ B H x y dx dy h Q, Sim K ρ σ B H → Tp K B H x dx → Tp K B H y dy → o dx dy = some h →
  (∀ v B' H', Sim K ρ σ B' H' → Ext ρ σ B H ρ σ B' H' → HdOk K (New ρ σ H) ρ σ B' H' v h → Q v H') → r x y H Q
def eBin (o : D → D → Option Hd) (fa fb : EF) : EF := fun ρ => bindE (eSet fa ρ) fun ha ρ1 => bindE (eSet fb ρ1) fun hb ρ2 => match getH ρ2 ha, getH ρ2 hb with
  | some da, some db => match o da db with
    | some h => .ok h ρ2
    | none => .stuck
  | _, _ => .stuck
theorem LkE.setBind (l : LkE C t f) (S : Sim C.K ρ σ B H) {k : Hd → Rho → RE} {Q' : VK} (g : GoodE C ρ σ B H Q (bindE (eSet f ρ) k))
    (h : ∀ hd ρ1 v B1 H1, Sim C.K ρ1 σ B1 H1 → Ext ρ σ B H ρ1 σ B1 H1 → HdOk C.K (New ρ σ H) ρ1 σ B1 H1 v (setl hd) → GoodE C ρ1 σ B1 H1 Q (k (setl hd) ρ1) → Q' v H1) : t σ H Q' := by
  refine l.set ρ σ B H Q' S ?_
  unfold eSet at g ⊢
  cases e : f ρ with
  | stuck => rw [e] at g; exact g
  | ok hd ρ1 =>
    rw [e] at g
    exact fun v B1 H1 s x y => h hd ρ1 v B1 H1 s x y (GoodE.ext x g)
  | exc x ρ1 =>
    rw [e] at g
    exact g
theorem lk_op {r : R2} {o : D → D → Option Hd} (hr : OpL C.K r o) (la : LkE C ta fa) (lb : LkE C tb fb) : LkE C (tOp r ta tb) (eBin o fa fb) := fun ρ σ B H Q S g => by
  refine la.setBind S g fun ha ρ1 x B1 H1 S1 e1 y1 g1 => ?_
  refine lb.setBind S1 g1 fun hb ρ2 y B2 H2 S2 e2 y2 g2 => ?_
  split at g2
  · rename_i da db ea eb
    split at g2
    · rename_i h eh
      exact hr ρ2 σ B2 H2 x y da db h Q S2 (S2.tp (N := fun _ => True) (HdOk.ext e2 y1) ea) (S2.tp y2 eb) eh g2
    · exact g2.elim
  · exact g2.elim
theorem se_bin {X : Cx} {r : R2} {o : D → D → Option Hd} {op : Operator} {a b : Expr} {pos : Pos} (hr : OpL C.K r o) (ho : OpR X (binaryOp op) r) (la : SE X C a ta fa) (lb : SE X C b tb fb) : SE X C (.BinOp a op b pos) (tOp r ta tb) (eBin o fa fb) :=
  ⟨pe_op ho la.pe lb.pe, lk_op hr la.lk lb.lk⟩
/-- two ways of one operator -/
def orO (o o' : D → D → Option Hd) : D → D → Option Hd := fun x y => match o x y with
  | some h => some h
  | none => o' x y
theorem OpL.or {K : KW} {r r' : R2} {o o' : D → D → Option Hd} (a : OpL K r o) (b : OpL K r' o') : OpL K (fun x y H Q => r x y H Q ∨ r' x y H Q) (orO o o') := fun ρ σ B H x y dx dy h Q S tx ty e k => by
  unfold orO at e
  cases q : o dx dy with
  | some h' =>
    rw [q] at e
    cases e
    exact .inl (a ρ σ B H x y dx dy _ Q S tx ty q k)
  | none =>
    rw [q] at e
    exact .inr (b ρ σ B H x y dx dy _ Q S tx ty e k)
end
end GS
namespace GS
open PySem L2 PySem.Calls
section
variable {K : KW} {ρ : Rho} {σ : St} {B H : Hp} {v x y : V} {Q : VK}
theorem Tp.int {i : Int} (h : Tp K B H v (.int i)) : v = .int i := by cases h; rfl
theorem Tp.str {i : Str} (h : Tp K B H v (.str i)) : v = .str i := by cases h; rfl
theorem Tp.bl {i : Bool} (h : Tp K B H v (.bool i)) : v = .bl i := by cases h; rfl
theorem Tp.non (h : Tp K B H v .none) : v = .non := by cases h; rfl
theorem Rp.tupE {ds : List D} (h : Rp K B v (.tuple ds)) : ∃ a vs, v = .ref a ∧ SqT K B a vs ∧ RpL K B vs ds := by
  cases h with
  | tup h t => exact ⟨_, _, rfl, h.sq, t⟩
theorem Rp.tupX {ds : List D} (h : Rp K B v (.tuple ds)) : ∃ a vs, v = .ref a ∧ XT B a vs ∧ RpL K B vs ds := by
  cases h with
  | tup h t => exact ⟨_, _, rfl, h, t⟩
theorem Rp.lstE {ds : List D} (h : Rp K B v (.list ds)) : ∃ a vs, v = .ref a ∧ SqL K B a vs ∧ RpL K B vs ds := by
  cases h with
  | lst h t => exact ⟨_, _, rfl, h, t⟩
theorem Tp.tup {ds : List D} (h : Tp K B H v (.tuple ds)) : ∃ a vs, v = .ref a ∧ SqT K B a vs ∧ RpL K B vs ds := Rp.tupE h
theorem Tp.tupX {ds : List D} (h : Tp K B H v (.tuple ds)) : ∃ a vs, v = .ref a ∧ XT B a vs ∧ RpL K B vs ds := Rp.tupX h
/-- the state as it is, a shared value -/
theorem now (S : Sim K ρ σ B H) {d : D} (h : Rp K B v d) (k : ∀ v B' H', Sim K ρ σ B' H' → Ext ρ σ B H ρ σ B' H' → HdOk K (New ρ σ H) ρ σ B' H' v (.sh d) → Q v H') : Q v H := k v B H S Ext.refl h
/-- a new tuple, shared -/
theorem newT (S : Sim K ρ σ B H) {vs : List V} {ds : List D} (h : RpL K B vs ds) (k : ∀ v B' H', Sim K ρ σ B' H' → Ext ρ σ B H ρ σ B' H' → HdOk K (New ρ σ H) ρ σ B' H' v (.sh (.tuple ds)) → Q v H') :
    ∀ p o, H p = none → o.dict = none → Q (.ref p) (upd H p (.frz o (.tup vs))) := fun p o hp ho => by
  obtain ⟨S', x⟩ := S.newB hp (.frz o (.tup vs))
  exact k _ _ _ S' x (.tup (XT.new ho) (h.mono x.bb))
/-- a new list that nobody holds -/
theorem newL (S : Sim K ρ σ B H) {vs : List V} {ds : List D} (h : RpL K B vs ds) (k : ∀ v B' H', Sim K ρ σ B' H' → Ext ρ σ B H ρ σ B' H' → HdOk K (New ρ σ H) ρ σ B' H' v (.fr (.list ds)) → Q v H') :
    ∀ p, H p = none → Q (.ref p) (upd H p (.lst vs)) := fun p hp => by
  obtain ⟨S', x⟩ := S.newH hp (.lst vs)
  obtain ⟨b, n⟩ := S.free hp
  exact k _ _ _ S' x ⟨p, rfl, b, ⟨vs, upd_same, h⟩, n, .inl hp⟩
end
section
variable {X : Cx}
def rCatL (K : PySem.W.Frag) : R2 := fun x y H Q => ∃ l b xs zs, x = .ref l ∧ y = .ref b ∧ SqL K H l xs ∧ SqL K H b zs ∧ xs.length + zs.length ≤ sizeLine ∧ ∀ p, H p = none → Q (.ref p) (upd H p (.lst (xs ++ zs)))
theorem op_catL : OpR X (binaryOp .Add) (rCatL X.K) := by
  intro pins s σ H x y v u Q I rx ry h
  obtain ⟨l, b, xs, zs, rfl, rfl, hH, hB, hz, q⟩ := h
  cases rx
  cases ry
  obtain ⟨its, r, p1, _⟩ := I.list hH
  obtain ⟨its2, r2, p2, _⟩ := I.list hB
  have l1 := r.length
  have l2 := r2.length
  obtain ⟨⟨cls, dd, data, sl⟩, ho, hc, n, hd⟩ := p1.isList
  obtain ⟨⟨cls2, dd2, data2, sl2⟩, ho2, hc2, n2, hd2⟩ := p2.isList
  simp only at hc hd hc2 hd2
  subst hc hd hc2 hd2
  refine concat_meets ⟨_, ho, rfl⟩ ⟨_, ho2, rfl⟩ noFill_list_add seq_list_add PySem.F.slot_list_add PySem.F.entry_list_add (PySem.F.args_list_add_2 _ _) (PyProof.Rows.list_addW l b its.toArray its2.toArray n n2 dd dd2 sl sl2 (by simp; omega)) ⟨ho, ho2, ?_⟩
  have e : its.toArray ++ its2.toArray = (its ++ its2).toArray := by simp
  rw [e]
  exact ⟨.ref _, _, I.lnew (t' := s.toks) (r.append r2) (by rw [List.length_append]; omega), rfl, q _ I.fresh⟩
end
theorem if_some {c : Prop} [Decidable c] {α : Type} {a h : α} (e : (if c then some a else none) = some h) : c ∧ a = h := by
  split at e
  · cases e; exact ⟨by assumption, rfl⟩
  · cases e
/-- + -/
def addD : D → D → Option Hd
  | .int i, .int j => some (.sh (.int (i + j)))
  | .str i, .str j => if i.length + j.length ≤ sizeLine then some (.sh (.str (i ++ j))) else none
  | .tuple xs, .tuple ys => if xs.length + ys.length ≤ sizeLine then some (.sh (.tuple (xs ++ ys))) else none
  | .list xs, .list ys => if xs.length + ys.length ≤ sizeLine then some (.fr (.list (xs ++ ys))) else none
  | _, _ => none
def rAddA (K : PySem.W.Frag) : R2 := fun x y H Q => (rI0 fun i j => .int (i + j)) x y H Q ∨ ((∃ i j, x = .str i ∧ y = .str j ∧ i.length + j.length ≤ sizeLine ∧ Q (.str (i ++ j)) H) ∨ (rCatX K x y H Q ∨ rCatL K x y H Q))
theorem op_addA {X : Cx} : OpR X (binaryOp .Add) (rAddA X.K) := OpR.or op_add (OpR.or op_add_str (OpR.or op_catX op_catL))
theorem ol_add {K : KW} : OpL K (rAddA K) addD := fun ρ σ B H x y dx dy h Q S tx ty e k => by
  cases dx <;> cases dy <;> first | (cases (show none = some h from e); done) | skip
  · cases e
    rw [tx.int, ty.int]
    exact .inl ⟨_, _, rfl, rfl, now S (.int _) k⟩
  · obtain ⟨c, rfl⟩ := if_some e
    rw [tx.str, ty.str]
    exact .inr (.inl ⟨_, _, rfl, rfl, c, now S (.str _) k⟩)
  · obtain ⟨c, rfl⟩ := if_some e
    obtain ⟨a, vs, rfl, ha, ra⟩ := tx
    obtain ⟨b, ws, rfl, hb, rb⟩ := ty
    exact .inr (.inr (.inr ⟨a, b, vs, ws, rfl, rfl, ha, hb, by rw [ra.length, rb.length]; exact c, newL S (ra.append rb) k⟩))
  · obtain ⟨c, rfl⟩ := if_some e
    obtain ⟨a, vs, rfl, ha, ra⟩ := tx.tupX
    obtain ⟨b, ws, rfl, hb, rb⟩ := ty.tupX
    have l1 := ra.length
    have l2 := rb.length
    refine .inr (.inr (.inl ⟨a, b, vs, ws, rfl, rfl, (same_xT S.bh ha).sq, (same_xT S.bh hb).sq, by omega, fun e => ?_, fun _ e => ?_, fun _ _ => newT S (ra.append rb) k⟩))
    · subst e
      cases ra
      exact now S (.tup hb rb) k
    · subst e
      cases rb
      rw [List.append_nil] at k
      exact now S (.tup ha ra) k
/-- int operators -/
def intD (c : Int → Int → Bool) (f : Int → Int → D) : D → D → Option Hd
  | .int i, .int j => if c i j then some (.sh (f i j)) else none
  | _, _ => none
theorem ol_int {K : KW} {c : Int → Int → Bool} {P : Int → Int → Prop} {f : Int → Int → D} {g : Int → Int → V} (hc : ∀ i j, c i j = true → P i j) (hg : ∀ B i j, Rp K B (g i j) (f i j)) : OpL K (rI P g) (intD c f) := fun ρ σ B H x y dx dy h Q S tx ty e k => by
  cases dx <;> cases dy <;> first | (cases (show none = some h from e); done) | skip
  obtain ⟨c, rfl⟩ := if_some e
  rw [tx.int, ty.int]
  exact ⟨_, _, rfl, rfl, hc _ _ c, now S (hg B _ _) k⟩
theorem ol_int0 {K : KW} {f : Int → Int → D} {g : Int → Int → V} (hg : ∀ B i j, Rp K B (g i j) (f i j)) : OpL K (rI0 g) (intD (fun _ _ => true) f) := fun ρ σ B H x y dx dy h Q S tx ty e k => by
  cases dx <;> cases dy <;> first | (cases (show none = some h from e); done) | skip
  cases e
  rw [tx.int, ty.int]
  exact ⟨_, _, rfl, rfl, now S (hg B _ _) k⟩
def subD : D → D → Option Hd := intD (fun _ _ => true) fun i j => .int (i - j)
theorem e64 : (2 : Int) ^ 64 = 18446744073709551616 := by decide +kernel
theorem e64n : (2 : Nat) ^ 64 = 18446744073709551616 := by decide +kernel
def cMul (i j : Int) : Bool := Nat.ble i.natAbs 18446744073709551615 || Nat.ble j.natAbs 18446744073709551615
def mulD : D → D → Option Hd := intD cMul fun i j => .int (i * j)
def divD : D → D → Option Hd := intD (fun _ j => decide (0 < j) && Nat.ble j.natAbs 1073741823) fun i j => .int (i / j)
def modD : D → D → Option Hd := intD (fun _ j => decide (0 < j)) fun i j => .int (i % j)
def powD : D → D → Option Hd := intD (fun i j => decide (0 ≤ j) && Nat.ble j.natAbs 1000000 && Nat.ble i.natAbs 18446744073709551615) fun i j => .int (i ^ j.toNat)
theorem ol_sub {K : KW} : OpL K (rI0 fun i j => .int (i - j)) subD := ol_int0 fun _ _ _ => .int _
theorem ol_mul {K : KW} : OpL K (rI CMul fun i j => .int (i * j)) mulD := ol_int (fun i j h => by
  unfold CMul
  rw [e64]
  unfold cMul at h
  rw [Bool.or_eq_true] at h
  rcases h with h | h
  · have := Nat.le_of_ble_eq_true h; exact .inl ⟨by omega, by omega⟩
  · have := Nat.le_of_ble_eq_true h; exact .inr ⟨by omega, by omega⟩) fun _ _ _ => .int _
theorem ol_div {K : KW} : OpL K (rI CDiv fun i j => .int (i / j)) divD := ol_int (fun i j h => by
  simp only [Bool.and_eq_true, decide_eq_true_eq] at h
  have := Nat.le_of_ble_eq_true h.2
  exact ⟨h.1, by omega⟩) fun _ _ _ => .int _
theorem ol_mod {K : KW} : OpL K (rI (fun _ j => 0 < j) fun i j => .int (i % j)) modD := ol_int (fun i j h => by simpa using h) fun _ _ _ => .int _
theorem ol_pow {K : KW} : OpL K (rI CPow fun i j => .int (i ^ j.toNat)) powD := ol_int (fun i j h => by
  unfold CPow
  rw [e64n]
  simp only [Bool.and_eq_true, decide_eq_true_eq] at h
  have h1 := Nat.le_of_ble_eq_true h.1.2
  have h2 := Nat.le_of_ble_eq_true h.2
  exact ⟨h.1.1, by omega, by omega⟩) fun _ _ _ => .int _
def intsT : List D → Option (List Int)
  | [] => some []
  | .int i :: r => (intsT r).map fun l => i :: l
  | _ => none
/-- < of ints, and of tuples of ints -/
def ltI (f : Int → Int → Bool) : D → D → Option Hd
  | .int i, .int j => some (.sh (.bool (f i j)))
  | .tuple xs, .tuple ys => if f 0 1 && !f 0 0 then (intsT xs).bind fun a => (intsT ys).map fun b => .sh (.bool (HT.lexLt a b)) else none
  | _, _ => none
theorem intsT_ok {K : KW} {B : Hp} : ∀ {vs : List V} {ds : List D} {ns : List Int}, RpL K B vs ds → intsT ds = some ns → vs = ns.map V.int
  | _, [], _, .nil, e => by cases e; rfl
  | _, d :: ds, ns, .cons h t, e => by
    match d, h, e with
    | .int i, h, e =>
      obtain ⟨l, e1, rfl⟩ := Option.map_eq_some_iff.mp (show (intsT ds).map (fun l => i :: l) = some ns from e)
      cases h
      rw [intsT_ok t e1, List.map_cons]
theorem ol_cmp {K : KW} {f : Int → Int → Bool} (hf : (f 0 1 && !f 0 0) = false := by rfl) : OpL K (rI0 fun i j => .bl (f i j)) (ltI f) := fun ρ σ B H x y dx dy h Q S tx ty e k => by
  cases dx <;> cases dy <;> first | (cases (show none = some h from e); done) | skip
  · cases e
    rw [tx.int, ty.int]
    exact ⟨_, _, rfl, rfl, now S (.bl _) k⟩
  · rename_i xs ys
    have e : (if f 0 1 && !f 0 0 then (intsT xs).bind fun a => (intsT ys).map fun b => Hd.sh (.bool (HT.lexLt a b)) else none) = some h := e
    rw [hf] at e
    cases e
def rLtA (K : PySem.W.Frag) : R2 := fun x y H Q => (rI0 fun i j => .bl (decide (i < j))) x y H Q ∨ rLtT K x y H Q
theorem op_ltA {X : Cx} (hu : X.A.units + 65 < cLine) : OpR X (compareOp .Lt) (rLtA X.K) := OpR.or op_lt (op_ltT (by omega))
theorem ol_ltA {K : KW} : OpL K (rLtA K) (ltI fun i j => decide (i < j)) := fun ρ σ B H x y dx dy h Q S tx ty e k => by
  cases dx <;> cases dy <;> first | (cases (show none = some h from e); done) | skip
  · cases e
    rw [tx.int, ty.int]
    exact .inl ⟨_, _, rfl, rfl, now S (.bl _) k⟩
  · rename_i xs ys
    have e : ((intsT xs).bind fun a => (intsT ys).map fun b => Hd.sh (.bool (HT.lexLt a b))) = some h := e
    obtain ⟨as, e1, e2⟩ := Option.bind_eq_some_iff.mp e
    obtain ⟨bs, e3, rfl⟩ := Option.map_eq_some_iff.mp e2
    obtain ⟨a, vs, rfl, ha, ra⟩ := tx.tup
    obtain ⟨b, ws, rfl, hb, rb⟩ := ty.tup
    have ea := intsT_ok ra e1
    have eb := intsT_ok rb e3
    subst ea eb
    exact .inr ⟨a, b, as, bs, rfl, rfl, same_tT S.bh ha, same_tT S.bh hb, now S (.bl _) k⟩
/-- == of data without dicts, at most 64 deep -/
def okEq (d : D) : Bool := plain d && SeqAt.shaped d
/-- is None, is True -/
def isD (neg : Bool) : D → D → Option Hd
  | .none, .none => some (.sh (.bool (!neg)))
  | .bool a, .bool b => some (.sh (.bool (neg ^^ decide (a = b))))
  | _, .none => some (.sh (.bool neg))
  | _, _ => none
def rIsA : R2 := fun x y H Q => (y = .non ∧ Q (.bl (decide (x = .non))) H) ∨ (∃ a b, x = .bl a ∧ y = .bl b ∧ Q (.bl (decide (a = b))) H)
theorem op_isA {X : Cx} : OpR X (compareOp .Is) rIsA := OpR.or op_isN op_isBl
theorem Tp.ne_non {K : KW} {B H : Hp} {v : V} {d : D} (h : Tp K B H v d) (hd : d ≠ .none) : v ≠ .non := by
  intro e
  subst e
  cases d with
  | none => exact hd rfl
  | bool _ => cases h
  | int _ => cases h
  | str _ => cases h
  | list _ => obtain ⟨_, _, e, _⟩ := h; cases e
  | tuple _ => cases h
  | dict _ =>
    rcases h with ⟨_, _, _, _, e, _⟩ | ⟨_, h⟩
    · cases e
    · cases h
theorem ol_is {K : KW} : OpL K rIsA (isD false) := fun ρ σ B H x y dx dy h Q S tx ty e k => by
  cases dy with
  | none =>
    rw [ty.non]
    refine .inl ⟨rfl, ?_⟩
    by_cases hn : dx = .none
    · subst hn
      cases e
      rw [tx.non]
      exact now S (.bl _) k
    · have q := tx.ne_non hn
      have e' : h = .sh (.bool false) := by cases dx <;> simp [isD] at e hn ⊢ <;> exact e.symm
      subst e'
      rw [decide_eq_false q]
      exact now S (.bl _) k
  | bool b =>
    cases dx with
    | bool a =>
      cases e
      rw [tx.bl, ty.bl]
      refine .inr ⟨a, b, rfl, rfl, ?_⟩
      have := now (v := .bl (false ^^ decide (a = b))) S (.bl _) k
      rwa [Bool.false_xor] at this
    | _ => simp [isD] at e
  | _ => cases dx <;> simp [isD] at e
def flatD : D → Bool
  | .none => true
  | .bool _ => true
  | .int _ => true
  | .str _ => true
  | _ => false
def inD (neg : Bool) : D → D → Option Hd
  | .str x, .str z => match x.cps.toList with
    | [c] => some (.sh (.bool (neg ^^ decide (c ∈ z.cps.toList))))
    | _ => none
  | d, .tuple ds => if flatD d && ds.all flatD then some (.sh (.bool (neg ^^ ds.any fun z => PyData.eqv z d))) else none
  | d, .list ds => if okEq d && okEq (.list ds) then some (.sh (.bool (neg ^^ ds.any fun z => PyData.eqv z d))) else none
  | _, _ => none
end GS
namespace GS
open PySem L2
def rInA (K : PySem.W.Frag) : R2 := fun x y H Q => (∃ (c : Nat) (z : Str), x = .str ⟨#[c]⟩ ∧ y = .str z ∧ Q (.bl (decide (c ∈ z.cps.toList))) H) ∨ (rIn K false x y H Q ∨ rInD K x y H Q)
def rNotInA (K : PySem.W.Frag) : R2 := fun x y H Q => (∃ (c : Nat) (z : Str), x = .str ⟨#[c]⟩ ∧ y = .str z ∧ Q (.bl (!decide (c ∈ z.cps.toList))) H) ∨ (rIn K true x y H Q ∨ rNotInD K x y H Q)
theorem op_inA {X : Cx} (hu : X.A.units + 65 < cLine) : OpR X (compareOp .In) (rInA X.K) := OpR.or op_in_sign (OpR.or op_in_seq (op_inD hu))
theorem op_notInA {X : Cx} (hu : X.A.units + 65 < cLine) : OpR X (compareOp .NotIn) (rNotInA X.K) := OpR.or op_notIn_sign (OpR.or op_notIn_seq (op_notInD hu))
section
variable {K : KW} {ρ : Rho} {σ : St} {B H : Hp} {v x y : V} {Q : VK}
theorem flat_of {d : D} (h : Rp K B v d) (f : flatD d = true) : flatV v = true := by
  cases h <;> first | rfl | cases f
theorem eqV_of {d e : D} (h : Rp K B x d) (g : Rp K B y e) (f : flatD d = true) (k : flatD e = true) : eqV x y = PyData.eqv d e := by
  cases h <;> first | (cases f; done) | (cases g <;> first | (cases k; done) | rfl | (simp [eqV, PyData.eqv]))
theorem any_of {e : D} (g : Rp K B y e) (k : flatD e = true) : ∀ {vs : List V} {ds : List D}, RpL K B vs ds → ds.all flatD = true → vs.all flatV = true ∧ inV y vs = ds.any fun z => PyData.eqv z e
  | _, _, .nil, _ => ⟨rfl, rfl⟩
  | _, _, .cons h t, a => by
    rw [List.all_cons, Bool.and_eq_true] at a
    obtain ⟨q1, q2⟩ := any_of g k t a.2
    refine ⟨by rw [List.all_cons, Bool.and_eq_true]; exact ⟨flat_of h a.1, q1⟩, ?_⟩
    show ((eqV _ y) || inV y _) = _
    rw [q2, eqV_of h g a.1 k, List.any_cons]
theorem str1 {x : Str} {c : Nat} (h : x.cps.toList = [c]) : x = ⟨#[c]⟩ := by
  obtain ⟨a⟩ := x
  congr
  exact Array.ext' (by simpa using h)
theorem ol_in : OpL K (rInA K) (inD false) := fun ρ σ B H x y dx dy h Q S tx ty e k => by
  cases dy with
  | str z =>
    cases dx with
    | str w =>
      replace e : (match w.cps.toList with | [c] => some (Hd.sh (.bool (false ^^ decide (c ∈ z.cps.toList)))) | _ => none) = some h := e
      split at e
      · rename_i c ec
        cases e
        rw [tx.str, ty.str, str1 ec]
        refine .inl ⟨c, z, rfl, rfl, ?_⟩
        have := now (v := .bl (false ^^ decide (c ∈ z.cps.toList))) S (.bl _) k
        rwa [Bool.false_xor] at this
      · cases e
    | _ => cases e
  | tuple ds =>
    have e' : (if flatD dx && ds.all flatD then some (.sh (.bool (false ^^ ds.any fun z => PyData.eqv z dx))) else none) = some h := by cases dx <;> exact e
    obtain ⟨c, rfl⟩ := if_some e'
    rw [Bool.and_eq_true] at c
    obtain ⟨a, vs, rfl, ha, ra⟩ := ty.tup
    have tx' : Rp K B x dx := by cases dx <;> first | exact tx | (cases c.1; done)
    obtain ⟨q1, q2⟩ := any_of tx' c.1 ra c.2
    refine .inr (.inl ⟨a, vs, rfl, .inr (same_tT S.bh ha), flat_of tx' c.1, q1, ?_⟩)
    rw [if_neg Bool.false_ne_true, q2]
    have := now (v := .bl (false ^^ ds.any fun z => PyData.eqv z dx)) S (.bl _) k
    rwa [Bool.false_xor] at this
  | list ds =>
    have e' : (if okEq dx && okEq (.list ds) then some (.sh (.bool (false ^^ ds.any fun z => PyData.eqv z dx))) else none) = some h := by cases dx <;> exact e
    obtain ⟨c, rfl⟩ := if_some e'
    unfold okEq at c
    simp only [Bool.and_eq_true] at c
    refine .inr (.inr ⟨dx, ds, tx.dpT S.bh c.1.1, ty.dpT S.bh c.2.1, c.1.2, c.2.2, ?_⟩)
    have := now (v := .bl (false ^^ ds.any fun z => PyData.eqv z dx)) S (.bl _) k
    rwa [Bool.false_xor] at this
  | _ => cases dx <;> cases (show none = some h from e)
theorem ol_notIn : OpL K (rNotInA K) (inD true) := fun ρ σ B H x y dx dy h Q S tx ty e k => by
  cases dy with
  | str z =>
    cases dx with
    | str w =>
      replace e : (match w.cps.toList with | [c] => some (Hd.sh (.bool (true ^^ decide (c ∈ z.cps.toList)))) | _ => none) = some h := e
      split at e
      · rename_i c ec
        cases e
        rw [tx.str, ty.str, str1 ec]
        refine .inl ⟨c, z, rfl, rfl, ?_⟩
        have := now (v := .bl (true ^^ decide (c ∈ z.cps.toList))) S (.bl _) k
        rwa [Bool.true_xor] at this
      · cases e
    | _ => cases e
  | tuple ds =>
    have e' : (if flatD dx && ds.all flatD then some (.sh (.bool (true ^^ ds.any fun z => PyData.eqv z dx))) else none) = some h := by cases dx <;> exact e
    obtain ⟨c, rfl⟩ := if_some e'
    rw [Bool.and_eq_true] at c
    obtain ⟨a, vs, rfl, ha, ra⟩ := ty.tup
    have tx' : Rp K B x dx := by cases dx <;> first | exact tx | (cases c.1; done)
    obtain ⟨q1, q2⟩ := any_of tx' c.1 ra c.2
    refine .inr (.inl ⟨a, vs, rfl, .inr (same_tT S.bh ha), flat_of tx' c.1, q1, ?_⟩)
    rw [if_pos rfl, q2]
    have := now (v := .bl (true ^^ ds.any fun z => PyData.eqv z dx)) S (.bl _) k
    rwa [Bool.true_xor] at this
  | list ds =>
    have e' : (if okEq dx && okEq (.list ds) then some (.sh (.bool (true ^^ ds.any fun z => PyData.eqv z dx))) else none) = some h := by cases dx <;> exact e
    obtain ⟨c, rfl⟩ := if_some e'
    unfold okEq at c
    simp only [Bool.and_eq_true] at c
    refine .inr (.inr ⟨dx, ds, tx.dpT S.bh c.1.1, ty.dpT S.bh c.2.1, c.1.2, c.2.2, ?_⟩)
    have := now (v := .bl (true ^^ ds.any fun z => PyData.eqv z dx)) S (.bl _) k
    rwa [Bool.true_xor] at this
  | _ => cases dx <;> cases (show none = some h from e)
def ixD : D → D → Option Hd
  | .list ds, .int i => (atI ds i).map Hd.sh
  | .tuple ds, .int i => (atI ds i).map Hd.sh
  | .str z, .int i => if z.length ≤ sizeLine then (atI z.cps.toList i).map fun c => Hd.sh (.str ⟨#[c]⟩) else none
  | _, _ => none
theorem RpL.atI {vs : List V} {ds : List D} (h : RpL K B vs ds) {i : Int} {d : D} (e : atI ds i = some d) : ∃ v, atI vs i = some v ∧ Rp K B v d := by
  unfold L2.atI at e ⊢
  rw [h.length]
  cases q : ixN ds.length i with
  | none => rw [q] at e; cases e
  | some j =>
    rw [q] at e
    exact h.get e
theorem ol_ix : OpL K (rIx K) ixD := fun ρ σ B H x y dx dy h Q S tx ty e k => by
  cases dy with
  | int i =>
    rw [ty.int]
    cases dx with
    | list ds =>
      obtain ⟨d, e1, rfl⟩ := Option.map_eq_some_iff.mp e
      obtain ⟨a, vs, rfl, ha, ra⟩ := tx
      obtain ⟨v, q1, q2⟩ := ra.atI e1
      exact .inl ⟨a, vs, i, v, rfl, rfl, ha, q1, now S q2 k⟩
    | tuple ds =>
      obtain ⟨d, e1, rfl⟩ := Option.map_eq_some_iff.mp e
      obtain ⟨a, vs, rfl, ha, ra⟩ := tx.tup
      obtain ⟨v, q1, q2⟩ := ra.atI e1
      exact .inr (.inl ⟨a, vs, i, v, rfl, rfl, same_tT S.bh ha, q1, now S q2 k⟩)
    | str z =>
      have e' : (if z.length ≤ sizeLine then (L2.atI z.cps.toList i).map fun c => Hd.sh (.str ⟨#[c]⟩) else none) = some h := e
      split at e'
      · obtain ⟨c, e1, rfl⟩ := Option.map_eq_some_iff.mp e'
        rw [tx.str]
        exact .inr (.inr ⟨z, i, c, rfl, rfl, by assumption, e1, now S (.str _) k⟩)
      · cases e'
    | _ => cases e
  | _ => cases dx <;> cases (show none = some h from e)
end
section
variable {X : Cx} {C : Ct} {a b c e : Expr} {ta tb tc te : TE} {fa fb fc fe : EF} {pos p2 : Pos}
def cutD (ds : List D) (lo hi : Option Int) : List D := (ds.drop (HT.sIx ds.length 0 lo)).take (HT.sIx ds.length ds.length hi - HT.sIx ds.length 0 lo)
def slD (lo hi : Option Int) : D → Option Hd
  | .list ds => some (.fr (.list (cutD ds lo hi)))
  | .tuple ds => some (.sh (.tuple (cutD ds lo hi)))
  | .str z => if z.length ≤ sizeLine then some (.sh (.str (cutS z lo hi))) else none
  | _ => none
def rSlAll (K : PySem.W.Frag) : V → Option Int → Option Int → Hp → VK → Prop := fun x lo hi H Q => rSlL K x lo hi H Q ∨ (rSlX K x lo hi H Q ∨ rSlS x lo hi H Q)
theorem sl_all : SlR X (rSlAll X.K) := SlR.or sl_list (SlR.or sl_tupX sl_str)
theorem RpL.cut {K : KW} {B : Hp} {vs : List V} {ds : List D} (h : RpL K B vs ds) (lo hi : Option Int) : RpL K B (cutV vs lo hi) (cutD ds lo hi) := by
  unfold cutV cutD
  rw [h.length]
  exact (h.drop _).take _
theorem ls_all {K : KW} {ρ : Rho} {σ : St} {B H : Hp} {x : V} {Q : VK} {d : D} {h : Hd} {lo hi : Option Int} (S : Sim K ρ σ B H) (tx : Tp K B H x d) (e : slD lo hi d = some h)
    (k : ∀ v B' H', Sim K ρ σ B' H' → Ext ρ σ B H ρ σ B' H' → HdOk K (New ρ σ H) ρ σ B' H' v h → Q v H') : rSlAll K x lo hi H Q := by
  cases d with
  | list ds =>
    cases e
    obtain ⟨a, vs, rfl, ha, ra⟩ := tx
    exact .inl ⟨a, vs, rfl, ha, newL S (ra.cut lo hi) k⟩
  | tuple ds =>
    cases e
    obtain ⟨a, vs, rfl, ha, ra⟩ := tx.tupX
    refine .inr (.inl ⟨a, vs, rfl, (same_xT S.bh ha).sq, fun w => ?_, fun _ => newT S (ra.cut lo hi) k⟩)
    have ec : cutD ds lo hi = ds := by
      unfold cutD
      rw [← ra.length, w.1, w.2, List.drop_zero, Nat.sub_zero, ra.length, List.take_length]
    rw [ec] at k
    exact now S (.tup ha ra) k
  | str z =>
    obtain ⟨c, rfl⟩ := if_some e
    rw [tx.str]
    exact .inr (.inr ⟨z, rfl, c, now S (.str _) k⟩)
  | _ => cases e
/-- a part of a slice: nothing, or an int -/
inductive PartOk (X : Cx) (C : Ct) : Option Expr → TO → Option EF → Prop
  | non : PartOk X C none tNoPart none
  | some {e : Expr} {t : TE} {f : EF} : SE X C e t f → PartOk X C (some e) (tPart t) (some f)
def ePart (f : Option EF) (ρ : Rho) (k : Option Int → Rho → RE) : RE := match f with
  | none => k none ρ
  | some g => bindE (eSet g ρ) fun h ρ1 => match getH ρ1 h with
    | some (.int i) => k (some i) ρ1
    | _ => .stuck
def eSl (fe : EF) (fl fh : Option EF) : EF := fun ρ => bindE (eSet fe ρ) fun h ρ1 => ePart fl ρ1 fun lo ρ2 => ePart fh ρ2 fun hi ρ3 => match (getH ρ3 h).bind (slD lo hi) with
  | some r => .ok r ρ3
  | none => .stuck
theorem PartOk.pe {o : Option Expr} {t : TO} {f : Option EF} (h : PartOk X C o t f) : PO X o t := by
  cases h with
  | non => exact po_none
  | some s => exact po_some s.pe
theorem PartOk.bind {o : Option Expr} {t : TO} {f : Option EF} (h : PartOk X C o t f) {ρ : Rho} {σ : St} {B H : Hp} {Q : VK} (S : Sim C.K ρ σ B H) {k : Option Int → Rho → RE} {Q' : Option Int → Hp → Prop} (g : GoodE C ρ σ B H Q (ePart f ρ k))
    (q : ∀ i ρ1 B1 H1, Sim C.K ρ1 σ B1 H1 → Ext ρ σ B H ρ1 σ B1 H1 → GoodE C ρ1 σ B1 H1 Q (k i ρ1) → Q' i H1) : t σ H Q' := by
  cases h with
  | non => exact q none ρ B H S Ext.refl g
  | some s =>
    refine s.lk.setBind S g fun hd ρ1 x B1 H1 S1 e1 y1 g1 => ?_
    split at g1
    · rename_i i ei
      exact ⟨i, (S1.tp y1 ei).int, q (Option.some i) ρ1 B1 H1 S1 e1 g1⟩
    · exact g1.elim
theorem se_slice {lo hi : Option Expr} {tl th : TO} {fl fh : Option EF} (le : SE X C e te fe) (hl : PartOk X C lo tl fl) (hh : PartOk X C hi th fh) (hk : X.K = C.K := by rfl) :
    SE X C (.Subscript e (.Slice lo hi none p2) pos) (tSl (rSlAll C.K) te tl th) (eSl fe fl fh) := by
  refine ⟨by rw [← hk]; exact pe_slice sl_all le.pe hl.pe hh.pe, fun ρ σ B H Q S g => ?_⟩
  refine le.lk.setBind S g fun hd ρ1 x B1 H1 S1 e1 y1 g1 => ?_
  refine hl.bind S1 g1 fun i ρ2 B2 H2 S2 e2 g2 => ?_
  refine hh.bind S2 g2 fun j ρ3 B3 H3 S3 e3 g3 => ?_
  split at g3
  · rename_i r er
    obtain ⟨d, ed, es⟩ := Option.bind_eq_some_iff.mp er
    exact ls_all S3 (S3.tp (N := fun _ => True) (HdOk.ext (e2.trans e3) y1) ed) es g3
  · exact g3.elim
def GoodT (C : Ct) (ρ : Rho) (σ : St) (B H : Hp) (Q : Bool → Hp → Prop) : RE → Prop
  | .ok (.sh (.bool b)) ρ' => ∀ B' H', Sim C.K ρ' σ B' H' → Ext ρ σ B H ρ' σ B' H' → Q b H'
  | .exc x ρ' => ∀ cls dct B' H', Sim C.K ρ' σ B' H' → Ext ρ σ B H ρ' σ B' H' → XcOk C B' x cls dct → C.W cls dct σ H'
  | _ => False
def LkT (C : Ct) (t : TT) (f : EF) : Prop := ∀ ρ σ B H Q, Sim C.K ρ σ B H → GoodT C ρ σ B H Q (f ρ) → t σ H Q
structure ST (X : Cx) (C : Ct) (e : Expr) (t : TT) (f : EF) : Prop where
  pt : PT X e t
  lk : LkT C t f
structure SW (X : Cx) (C : Ct) (e : Expr) (t : TT) (f : EF) : Prop where
  pw : PW X e t
  lk : LkT C t f
theorem SW.st {t : TT} {f : EF} (h : SW X C e t f) : ST X C e t f := ⟨h.pw.pt, h.lk⟩
theorem GoodT.ext {ρ ρ1 : Rho} {σ : St} {B H B1 H1 : Hp} {Q : Bool → Hp → Prop} (x : Ext ρ σ B H ρ1 σ B1 H1) : ∀ {r : RE}, GoodT C ρ σ B H Q r → GoodT C ρ1 σ B1 H1 Q r := fun {r} g => by
  cases r with
  | stuck => exact g
  | exc c ρ2 => exact fun cls dct B' H' s y => g cls dct B' H' s (x.trans y)
  | ok h ρ2 =>
    cases h with
    | sh d =>
      cases d with
      | bool b => exact fun B' H' s y => g B' H' s (x.trans y)
      | _ => exact g
    | _ => exact g
/-- a bool: looked at -/
def eB (f : EF) : EF := fun ρ => bindE (eSet f ρ) fun h ρ1 => match getH ρ1 h with
  | some (.bool b) => .ok (.sh (.bool b)) ρ1
  | _ => .stuck
theorem lk_B {t : TE} {f : EF} (l : LkE C t f) : LkT C (tB t) (eB f) := fun ρ σ B H Q S g => by
  refine l.set ρ σ B H _ S ?_
  unfold eB at g
  cases e : eSet f ρ with
  | stuck => rw [e] at g; exact g
  | exc c ρ1 => rw [e] at g; exact g
  | ok h ρ1 =>
    rw [e] at g
    replace g : GoodT C ρ σ B H Q (match getH ρ1 h with | some (.bool b) => .ok (.sh (.bool b)) ρ1 | _ => .stuck) := g
    intro v B1 H1 S1 x y
    split at g
    · rename_i b eb
      exact ⟨b, (S1.tp y eb).bl, g B1 H1 S1 x⟩
    · exact g.elim
theorem st_val {t : TE} {f : EF} (h : SE X C e t f) (he : ∀ whole, isTrue e X.env whole = (do let v ← whole; standAt e.pos; holding [v] (truthy v)) := by intro _; rfl) : ST X C e (tB t) (eB f) := ⟨pt_val h.pe he, lk_B h.lk⟩
theorem se_cmp {op : CmpOp} {r : R2} {o : D → D → Option Hd} (hr : OpL C.K r o) (ho : OpR X (compareOp op) r) (la : SE X C a ta fa) (lb : SE X C b tb fb) (hm : behindInMarks op b = false := by first | exact nomark _ | rfl) : SE X C (.Compare a [op] [b] pos) (tOp r ta tb) (eBin o fa fb) :=
  ⟨pe_cmpR ho la.pe lb.pe hm, lk_op hr la.lk lb.lk⟩
theorem st_cmp {op : CmpOp} {r : R2} {o : D → D → Option Hd} (hr : OpL C.K r o) (ho : OpR X (compareOp op) r) (la : SE X C a ta fa) (lb : SE X C b tb fb) (hm : behindInMarks op b = false := by first | exact nomark _ | rfl) : ST X C (.Compare a [op] [b] pos) (tTest (tOp r ta tb)) (eB (eBin o fa fb)) :=
  ⟨pt_cmpR ho la.pe lb.pe hm, lk_B (lk_op hr la.lk lb.lk)⟩
/-- a test, then what follows -/
theorem LkT.bind {t : TT} {f : EF} (l : LkT C t f) {ρ : Rho} {σ : St} {B H : Hp} (S : Sim C.K ρ σ B H) {Q' : Bool → Hp → Prop}
    (hx : ∀ x ρ1, f ρ = .exc x ρ1 → ∀ cls dct B' H', Sim C.K ρ1 σ B' H' → Ext ρ σ B H ρ1 σ B' H' → XcOk C B' x cls dct → C.W cls dct σ H')
    (h : ∀ b ρ1, f ρ = .ok (.sh (.bool b)) ρ1 → ∀ B1 H1, Sim C.K ρ1 σ B1 H1 → Ext ρ σ B H ρ1 σ B1 H1 → Q' b H1) (hs : (∃ b ρ1, f ρ = .ok (.sh (.bool b)) ρ1) ∨ ∃ x ρ1, f ρ = .exc x ρ1) : t σ H Q' := by
  refine l ρ σ B H Q' S ?_
  rcases hs with ⟨b, ρ1, e⟩ | ⟨x, ρ1, e⟩
  · rw [e]; exact h b ρ1 e
  · rw [e]; exact hx x ρ1 e
def bindB (r : RE) (k : Bool → Rho → RE) : RE := match r with
  | .ok (.sh (.bool b)) ρ => k b ρ
  | .exc x ρ => .exc x ρ
  | _ => .stuck
theorem LkT.bindE {t : TT} {f : EF} (l : LkT C t f) {ρ : Rho} {σ : St} {B H : Hp} (S : Sim C.K ρ σ B H) {Q : VK} {k : Bool → Rho → RE} {Q' : Bool → Hp → Prop} (g : GoodE C ρ σ B H Q (bindB (f ρ) k))
    (h : ∀ b ρ1 B1 H1, Sim C.K ρ1 σ B1 H1 → Ext ρ σ B H ρ1 σ B1 H1 → GoodE C ρ1 σ B1 H1 Q (k b ρ1) → Q' b H1) : t σ H Q' := by
  refine l ρ σ B H Q' S ?_
  cases e : f ρ with
  | stuck => rw [e] at g; exact g
  | exc x ρ1 => rw [e] at g; exact g
  | ok hd ρ1 =>
    rw [e] at g
    cases hd with
    | sh d =>
      cases d with
      | bool b => exact fun B1 H1 s x => h b ρ1 B1 H1 s x (GoodE.ext x g)
      | _ => exact g
    | _ => exact g
theorem LkT.bindT {t : TT} {f : EF} (l : LkT C t f) {ρ : Rho} {σ : St} {B H : Hp} (S : Sim C.K ρ σ B H) {Q : Bool → Hp → Prop} {k : Bool → Rho → RE} {Q' : Bool → Hp → Prop} (g : GoodT C ρ σ B H Q (bindB (f ρ) k))
    (h : ∀ b ρ1 B1 H1, Sim C.K ρ1 σ B1 H1 → Ext ρ σ B H ρ1 σ B1 H1 → GoodT C ρ1 σ B1 H1 Q (k b ρ1) → Q' b H1) : t σ H Q' := by
  refine l ρ σ B H Q' S ?_
  cases e : f ρ with
  | stuck => rw [e] at g; exact g
  | exc x ρ1 => rw [e] at g; exact g
  | ok hd ρ1 =>
    rw [e] at g
    cases hd with
    | sh d =>
      cases d with
      | bool b => exact fun B1 H1 s x => h b ρ1 B1 H1 s x (GoodT.ext x g)
      | _ => exact g
    | _ => exact g
def eNot (f : EF) : EF := fun ρ => bindB (f ρ) fun b ρ1 => .ok (.sh (.bool (!b))) ρ1
def eAnd (f g : EF) : EF := fun ρ => bindB (f ρ) fun b ρ1 => if b then g ρ1 else .ok (.sh (.bool false)) ρ1
def eOr (f g : EF) : EF := fun ρ => bindB (f ρ) fun b ρ1 => if b then .ok (.sh (.bool true)) ρ1 else g ρ1
def eIf (f g h : EF) : EF := fun ρ => bindB (f ρ) fun b ρ1 => if b then g ρ1 else h ρ1
variable {t u w : TT} {f g h : EF}
theorem st_not (l : ST X C a t f) : ST X C (.UnaryOp .Not a pos) (tNot t) (eNot f) := ⟨pt_not l.pt, fun ρ σ B H Q S g => l.lk.bindT S g fun b ρ1 B1 H1 S1 e1 g1 => g1 B1 H1 S1 Ext.refl⟩
theorem sw_one {op : BoolOp} (l : ST X C a t f) : SW X C (.BoolOp op [a] pos) t f := by
  cases op
  · exact ⟨pw_and1 l.pt, l.lk⟩
  · exact ⟨pw_or1 l.pt, l.lk⟩
theorem sw_and {rest : List Expr} (l : ST X C a t f) (m : SW X C (.BoolOp .And (b :: rest) pos) u g) : SW X C (.BoolOp .And (a :: b :: rest) pos) (tAnd t u) (eAnd f g) :=
  ⟨pw_and l.pt m.pw, fun ρ σ B H Q S gd => l.lk.bindT S gd fun b ρ1 B1 H1 S1 e1 g1 => by
    cases b with
    | true => exact m.lk ρ1 σ B1 H1 Q S1 g1
    | false => exact g1 B1 H1 S1 Ext.refl⟩
theorem sw_or {rest : List Expr} (l : ST X C a t f) (m : SW X C (.BoolOp .Or (b :: rest) pos) u g) : SW X C (.BoolOp .Or (a :: b :: rest) pos) (tOr t u) (eOr f g) :=
  ⟨pw_or l.pt m.pw, fun ρ σ B H Q S gd => l.lk.bindT S gd fun b ρ1 B1 H1 S1 e1 g1 => by
    cases b with
    | false => exact m.lk ρ1 σ B1 H1 Q S1 g1
    | true => exact g1 B1 H1 S1 Ext.refl⟩
theorem se_if (l : ST X C c t f) (la : SE X C a ta fa) (lb : SE X C b tb fb) : SE X C (.IfExp c a b pos) (tIf t ta tb) (eIf f fa fb) := ⟨pe_ifExp l.pt la.pe lb.pe, fun ρ σ B H Q S g => l.lk.bindE S g fun b ρ1 B1 H1 S1 e1 g1 => by
  cases b with
  | true => exact la.lk ρ1 σ B1 H1 Q S1 g1
  | false => exact lb.lk ρ1 σ B1 H1 Q S1 g1⟩
def eChain (o o' : D → D → Option Hd) (fa fb fc : EF) : EF := fun ρ => bindE (eSet fa ρ) fun ha ρ1 => bindE (eSet fb ρ1) fun hb ρ2 => match getH ρ2 ha, getH ρ2 hb with
  | some da, some db => match o da db with
    | some (.sh (.bool b)) => if b then bindE (eSet fc ρ2) (fun hc ρ3 => match getH ρ3 hb, getH ρ3 hc with
      | some db', some dc => match o' db' dc with
        | some h => .ok h ρ3
        | none => .stuck
      | _, _ => .stuck) else .ok (.sh (.bool false)) ρ2
    | _ => .stuck
  | _, _ => .stuck
theorem lk_chain {r r' : R2} {o o' : D → D → Option Hd} (hr : OpL C.K r o) (hr' : OpL C.K r' o') (la : LkE C ta fa) (lb : LkE C tb fb) (lc : LkE C tc fc) : LkE C (tChain r r' ta tb tc) (eChain o o' fa fb fc) := fun ρ σ B H Q S g => by
  refine la.setBind S g fun ha ρ1 x B1 H1 S1 e1 y1 g1 => ?_
  refine lb.setBind S1 g1 fun hb ρ2 y B2 H2 S2 e2 y2 g2 => ?_
  split at g2
  · rename_i da db ea eb
    split at g2
    · rename_i b eh
      refine hr ρ2 σ B2 H2 x y da db _ _ S2 (S2.tp (N := fun _ => True) (HdOk.ext e2 y1) ea) (S2.tp y2 eb) eh fun v B3 H3 S3 e3 y3 => ?_
      cases (show Rp C.K B3 v (.bool b) from y3)
      refine ⟨b, rfl, ?_⟩
      cases b with
      | true =>
        rw [if_pos rfl] at g2 ⊢
        refine lc.setBind S3 (GoodE.ext e3 g2) fun hc ρ4 z B4 H4 S4 e4 y4 g4 => ?_
        split at g4
        · rename_i db' dc eb' ec
          split at g4
          · rename_i h eh'
            exact hr' ρ4 σ B4 H4 y z db' dc h Q S4 (S4.tp (N := fun _ => True) (HdOk.ext (e3.trans e4) y2) eb') (S4.tp y4 ec) eh' g4
          · exact g4.elim
        · exact g4.elim
      | false =>
        rw [if_neg Bool.false_ne_true] at g2 ⊢
        exact g2 (.bl false) B3 H3 S3 e3 (.bl _)
    · exact g2.elim
  · exact g2.elim
theorem st_chain {op op' : CmpOp} {r r' : R2} {o o' : D → D → Option Hd} (hr : OpL C.K r o) (ho : OpR X (compareOp op) r) (hr' : OpL C.K r' o') (ho' : OpR X (compareOp op') r') (la : SE X C a ta fa) (lb : SE X C b tb fb) (lc : SE X C c tc fc)
    (hm : lastMarks [op, op'] [b, c] = false := by with_unfolding_all rfl) : ST X C (.Compare a [op, op'] [b, c] pos) (tTest (tChain r r' ta tb tc)) (eB (eChain o o' fa fb fc)) := ⟨pt_chain ho ho' la.pe lb.pe lc.pe hm, lk_B (lk_chain hr hr' la.lk lb.lk lc.lk)⟩
end
end GS
namespace GS
open PySem L2
section
variable {X : Cx} {C : Ct} {e : Expr} {es : List Expr} {te : TE} {fe : EF} {pos : Pos}
/-- a name, looked at -/
def eVb (i : Nat) : EF := fun ρ => match slot ρ i with
  | some ⟨_, .st⟩ => .stuck
  | some _ => .ok (.bw i) ρ
  | none => .stuck
/-- a name whose datum is shared from here on -/
def eMv (i : Nat) : EF := fun ρ => match slot ρ i with
  | some ⟨d, .sh⟩ => .ok (.sh d) ρ
  | some ⟨d, .ow⟩ => .ok (.sh d) (ρ.set i (some ⟨d, .sh⟩))
  | _ => .stuck
def eC (d : D) : EF := fun ρ => .ok (.sh d) ρ
theorem lk_vb {i : Nat} : LkE C (tVar i) (eVb i) := fun ρ σ B H Q S g => by
  unfold eVb at g
  cases h : slot ρ i with
  | none => rw [h] at g; exact g.elim
  | some c =>
    rw [h] at g
    have ns : c.fl ≠ .st := fun z => by
      obtain ⟨d, fl⟩ := c
      cases z
      exact g
    have g : GoodE C ρ σ B H Q (.ok (.bw i) ρ) := by
      obtain ⟨d, fl⟩ := c
      cases fl <;> first | exact g | exact absurd rfl ns
    obtain ⟨v, e, q⟩ := S.sl i c (slot_some h) ns
    exact ⟨v, e, g v B H S Ext.refl e⟩
theorem set_get {ρ : Rho} {i j : Nat} {c : Option Cel} {x : Option Cel} (h : (ρ.set i c)[j]? = some x) : (i = j ∧ x = c) ∨ (i ≠ j ∧ ρ[j]? = some x) := by
  rw [List.getElem?_set] at h
  by_cases e : i = j
  · rw [if_pos e] at h
    split at h
    · cases h; exact .inl ⟨e, rfl⟩
    · cases h
  · rw [if_neg e] at h
    exact .inr ⟨e, h⟩
theorem set_at {ρ : Rho} {i : Nat} {c : Option Cel} (h : i < ρ.length) : (ρ.set i c)[i]? = some c := by
  rw [List.getElem?_set, if_pos rfl, if_pos h]
theorem set_other {ρ : Rho} {i j : Nat} {c : Option Cel} (h : i ≠ j) : (ρ.set i c)[j]? = ρ[j]? := by
  rw [List.getElem?_set, if_neg h]
theorem lt_of {ρ : Rho} {i : Nat} {x : Option Cel} (h : ρ[i]? = some x) : i < ρ.length := (List.getElem?_eq_some_iff.mp h).1
/-- an owned slot is given up: the datum is shared from here on -/
theorem Sim.freeze {K : KW} {ρ : Rho} {σ : St} {B H : Hp} (S : Sim K ρ σ B H) {i : Nat} {d : D} (hi : ρ[i]? = some (some ⟨d, .ow⟩)) :
    ∃ v B1, σ[i]? = some (some v) ∧ Sim K (ρ.set i (some ⟨d, .sh⟩)) σ B1 H ∧ Ext ρ σ B H (ρ.set i (some ⟨d, .sh⟩)) σ B1 H ∧ Rp K B1 v d := by
  obtain ⟨v, e, q⟩ := S.sl i _ hi (by simp)
  have ltσ := (List.getElem?_eq_some_iff.mp e).1
  rcases q with ⟨q, _⟩ | ⟨_, a, rfl, hb, ho⟩
  · cases q
  obtain ⟨o, eo⟩ := ho.some
  have own : OwnA ρ σ a := ⟨i, _, hi, by simp, e⟩
  have sB : Same B (upd B a o) := fun b u e => by rw [upd_ne (ne_of_none e hb)]; exact e
  have rp : Rp K (upd B a o) (.ref a) d := by
    rw [eo] at ho
    have ho := ho.mono sB
    cases d with
    | list ds =>
      obtain ⟨vs, e1, e2⟩ := ho
      cases e1
      exact .lst (.inl (.inl upd_same)) e2
    | dict ps =>
      obtain ⟨ep, b, xs, e1, e2⟩ := ho
      cases e1
      exact .dct upd_same e2
    | _ => exact ho.elim
  have nm := Ow.nm (by rw [← eo]; exact ho)
  have st1 : ∀ (i' : Nat) (d' : D), (ρ.set i (some ⟨d, .sh⟩))[i']? = some (some (Cel.mk d' .st)) → ρ[i']? = some (some (Cel.mk d' .st)) := fun _ _ h => st_set (by simp) h
  refine ⟨.ref a, upd B a o, e, ⟨fun b u z => ?_, S.len.set ltσ, fun j c hj hs => ?_, fun j k cj ck b hj hk nj nk ej ek => ?_, S.st.keep sB (fun _ _ _ h => met_upd nm h) (fun _ _ _ _ => rfl) st1 rfl⟩, ⟨sB, fun b u z => ?_, fun b u z _ => .inl z, fun b z => ?_, fun j c hj hc => ?_, fun j c hj hc => ?_, .of st1 fun _ _ _ h => met_upd nm h⟩, rp⟩
  · by_cases h : b = a
    · subst h; rw [upd_same] at z; cases z; exact .inl eo
    · rw [upd_ne h] at z; exact S.bh _ _ z
  · rcases set_get hj with ⟨rfl, ec⟩ | ⟨ne, hj⟩
    · cases ec
      exact ⟨.ref a, e, .inl ⟨rfl, rp⟩⟩
    · obtain ⟨v, ev, q⟩ := S.sl j c hj hs
      refine ⟨v, ev, q.mono sB fun b hv hb' ho' hf => ⟨?_, rfl⟩⟩
      have nb : b ≠ a := fun z => by
        subst z hv
        exact ne (S.dj i j _ c b hi hj (by simp) hf e ev)
      rw [upd_ne nb]; exact hb'
  · rcases set_get hj with ⟨rfl, ec⟩ | ⟨_, hj⟩
    · cases ec; exact absurd rfl nj
    · rcases set_get hk with ⟨rfl, ec⟩ | ⟨_, hk⟩
      · cases ec; exact absurd rfl nk
      · exact S.dj j k cj ck b hj hk nj nk ej ek
  · by_cases h : b = a
    · subst h; exact .inr (.inr own)
    · rw [upd_ne h] at z; exact .inl z
  · obtain ⟨j, c, hj, hc, ej⟩ := z
    rcases set_get hj with ⟨rfl, ec⟩ | ⟨_, hj⟩
    · cases ec; exact absurd rfl hc
    · exact .inr ⟨j, c, hj, hc, ej⟩
  · have ne : i ≠ j := fun z => by
      subst z
      rw [hi] at hj
      cases hj
      cases hc
    exact ⟨rfl, c, by rw [set_other ne]; exact hj, hc⟩
  · rcases set_get hj with ⟨rfl, ec⟩ | ⟨_, hj⟩
    · cases ec; cases hc
    · exact ⟨c, hj, hc⟩
/-- .. it is nobody's from here on -/
theorem Sim.give {K : KW} {ρ : Rho} {σ : St} {B H : Hp} (S : Sim K ρ σ B H) {i : Nat} {d : D} (hi : ρ[i]? = some (some ⟨d, .ow⟩)) :
    ∃ a, σ[i]? = some (some (.ref a)) ∧ Sim K (ρ.set i none) σ B H ∧ Ext ρ σ B H (ρ.set i none) σ B H ∧ HdOk K (New ρ σ H) (ρ.set i none) σ B H (.ref a) (.fr d) := by
  obtain ⟨v, e, q⟩ := S.sl i _ hi (by simp)
  have ltσ := (List.getElem?_eq_some_iff.mp e).1
  rcases q with ⟨q, _⟩ | ⟨_, a, rfl, hb, ho⟩
  · cases q
  have own : OwnA ρ σ a := ⟨i, _, hi, by simp, e⟩
  have st1 : ∀ (i' : Nat) (d' : D), (ρ.set i none)[i']? = some (some (Cel.mk d' .st)) → ρ[i']? = some (some (Cel.mk d' .st)) := fun _ _ h => st_set (by simp) h
  refine ⟨a, e, ⟨S.bh, S.len.set ltσ, fun j c hj hs => ?_, fun j k cj ck b hj hk nj nk ej ek => ?_, S.st.keep (Same.refl B) (fun _ _ _ h => h) (fun _ _ _ _ => rfl) st1 rfl⟩, ⟨Same.refl B, fun b u z => .inl z, fun b u z _ => .inl z, fun b z => ?_, fun j c hj hc => ?_, fun j c hj hc => ?_, .r st1⟩, a, rfl, hb, ho, fun z => ?_, .inr own⟩
  · rcases set_get hj with ⟨rfl, ec⟩ | ⟨ne, hj⟩
    · cases ec
    · exact S.sl j c hj hs
  · rcases set_get hj with ⟨rfl, ec⟩ | ⟨_, hj⟩
    · cases ec
    · rcases set_get hk with ⟨rfl, ec⟩ | ⟨_, hk⟩
      · cases ec
      · exact S.dj j k cj ck b hj hk nj nk ej ek
  · obtain ⟨j, c, hj, hc, ej⟩ := z
    rcases set_get hj with ⟨rfl, ec⟩ | ⟨_, hj⟩
    · cases ec
    · exact .inr ⟨j, c, hj, hc, ej⟩
  · have ne : i ≠ j := fun z => by
      subst z
      rw [hi] at hj
      cases hj
      cases hc
    exact ⟨rfl, c, by rw [set_other ne]; exact hj, hc⟩
  · rcases set_get hj with ⟨rfl, ec⟩ | ⟨_, hj⟩
    · cases ec
    · exact ⟨c, hj, hc⟩
  · obtain ⟨j, c, hj, hc, ej⟩ := z
    rcases set_get hj with ⟨rfl, ec⟩ | ⟨ne, hj⟩
    · cases ec
    · exact ne (S.dj i j _ c a hi hj (by simp) hc e ej)
theorem lk_mv {i : Nat} : LkE C (tVar i) (eMv i) := fun ρ σ B H Q S g => by
  unfold eMv at g
  cases h : slot ρ i with
  | none => rw [h] at g; exact g.elim
  | some c =>
    rw [h] at g
    obtain ⟨d, fl⟩ := c
    have hi := slot_some h
    cases fl with
    | sh =>
      obtain ⟨v, e, q⟩ := S.sl i _ hi (by simp)
      rcases q with ⟨_, q⟩ | ⟨q, _⟩
      · exact ⟨v, e, g v B H S Ext.refl q⟩
      · exact absurd rfl q
    | ow =>
      obtain ⟨v, B1, e, S1, x1, r⟩ := S.freeze hi
      exact ⟨v, e, g v B1 H S1 x1 r⟩
    | io => exact g.elim
    | st => exact g.elim
theorem se_vb (i : Nat) {x : Str} (hN : X.N[i]? = some x := by rfl) (hv : Vis X.env.scope x := by first | exact Or.inl rfl | exact Or.inr (Or.inl rfl) | exact Or.inr (Or.inr rfl)) (hd : (x == ("__debug__" : Str)) = false := by decide)
    (hcd : (x == ("__classdict__" : Str)) = false := by decide) : SE X C (.Name x pos) (tVar i) (eVb i) := ⟨pe_var hN hv hd hcd, lk_vb⟩
theorem se_mv (i : Nat) {x : Str} (hN : X.N[i]? = some x := by rfl) (hv : Vis X.env.scope x := by first | exact Or.inl rfl | exact Or.inr (Or.inl rfl) | exact Or.inr (Or.inr rfl)) (hd : (x == ("__debug__" : Str)) = false := by decide)
    (hcd : (x == ("__classdict__" : Str)) = false := by decide) : SE X C (.Name x pos) (tVar i) (eMv i) := ⟨pe_var hN hv hd hcd, lk_mv⟩
theorem lk_c {v : V} {d : D} (h : ∀ B, Rp C.K B v d) : LkE C (tC v) (eC d) := fun ρ σ B H Q S g => g v B H S Ext.refl (h B)
theorem se_int {i : Int} {j : Nat} : SE X C (.Constant (.int i) j pos) (tC (.int i)) (eC (.int i)) := ⟨pe_int, lk_c fun _ => .int i⟩
theorem se_str {i : Str} {j : Nat} : SE X C (.Constant (.str i) j pos) (tC (.str i)) (eC (.str i)) := ⟨pe_str, lk_c fun _ => .str i⟩
theorem se_bl {i : Bool} {j : Nat} : SE X C (.Constant (.bool i) j pos) (tC (.bl i)) (eC (.bool i)) := ⟨pe_bl, lk_c fun _ => .bl i⟩
theorem se_non {j : Nat} : SE X C (.Constant .none j pos) (tC .non) (eC .none) := ⟨pe_non, lk_c fun _ => .non⟩
def eNeg (f : EF) : EF := fun ρ => bindE (eSet f ρ) fun h ρ1 => match getH ρ1 h with
  | some (.int i) => .ok (.sh (.int (-i))) ρ1
  | _ => .stuck
theorem se_neg (l : SE X C e te fe) : SE X C (.UnaryOp .USub e pos) (tUn (rU fun i => .int (-i)) te) (eNeg fe) := ⟨pe_un un_neg l.pe, fun ρ σ B H Q S g => by
  refine l.lk.setBind S g fun hd ρ1 x B1 H1 S1 e1 y1 g1 => ?_
  split at g1
  · rename_i i ei
    exact ⟨i, (S1.tp y1 ei).int, g1 _ B1 H1 S1 Ext.refl (.int _)⟩
  · exact g1.elim⟩
inductive RA where | stuck | ok (hs : List Hd) (ρ : Rho) | exc (x : Xc) (ρ : Rho)
abbrev AF := Rho → RA
def HsOk (K : KW) (σ : St) (B : Hp) (v : V) : Hd → Prop
  | .sh d => Rp K B v d
  | .fr _ => False
  | .bw i => σ[i]? = some (some v)
  | .sp s g => ∃ a : Addr, v = .ref a ∧ B a = some (.met s g)
inductive HdL (K : KW) (σ : St) (B : Hp) : List V → List Hd → Prop
  | nil : HdL K σ B [] []
  | cons {v : V} {vs : List V} {h : Hd} {hs : List Hd} : HsOk K σ B v h → HdL K σ B vs hs → HdL K σ B (v :: vs) (h :: hs)
theorem HsOk.mono {K : KW} {σ : St} {B B1 : Hp} (e : Same B B1) {v : V} : ∀ {h : Hd}, HsOk K σ B v h → HsOk K σ B1 v h
  | .sh _, q => Rp.mono e q
  | .fr _, q => q
  | .bw _, q => q
  | .sp _ _, ⟨a, h1, h2⟩ => ⟨a, h1, e _ _ h2⟩
theorem HdL.mono {K : KW} {σ : St} {B B1 : Hp} (e : Same B B1) : ∀ {vs : List V} {hs : List Hd}, HdL K σ B vs hs → HdL K σ B1 vs hs
  | _, _, .nil => .nil
  | _, _, .cons h t => .cons (h.mono e) (HdL.mono e t)
theorem HdL.length {K : KW} {σ : St} {B : Hp} : ∀ {vs : List V} {hs : List Hd}, HdL K σ B vs hs → vs.length = hs.length
  | _, _, .nil => rfl
  | _, _, .cons h t => by rw [List.length_cons, List.length_cons, HdL.length t]
def GoodA (C : Ct) (ρ : Rho) (σ : St) (B H : Hp) (Q : List V → Hp → Prop) : RA → Prop
  | .stuck => False
  | .ok hs ρ' => ∀ vs B' H', Sim C.K ρ' σ B' H' → Ext ρ σ B H ρ' σ B' H' → HdL C.K σ B' vs hs → Q vs H'
  | .exc x ρ' => ∀ cls dct B' H', Sim C.K ρ' σ B' H' → Ext ρ σ B H ρ' σ B' H' → XcOk C B' x cls dct → C.W cls dct σ H'
def LkA (C : Ct) (t : TA) (f : AF) : Prop := ∀ ρ σ B H Q, Sim C.K ρ σ B H → GoodA C ρ σ B H Q (f ρ) → t σ H Q
structure SA (X : Cx) (C : Ct) (es : List Expr) (t : TA) (f : AF) : Prop where
  pa : PA X es t
  lk : LkA C t f
def aNil : AF := fun ρ => .ok [] ρ
def aCons (f : EF) (g : AF) : AF := fun ρ => match eSet f ρ with
  | .stuck => .stuck
  | .exc x ρ1 => .exc x ρ1
  | .ok h ρ1 => match g ρ1 with
    | .stuck => .stuck
    | .exc x ρ2 => .exc x ρ2
    | .ok hs ρ2 => .ok (h :: hs) ρ2
theorem GoodA.ext {ρ ρ1 : Rho} {σ : St} {B H B1 H1 : Hp} {Q : List V → Hp → Prop} (x : Ext ρ σ B H ρ1 σ B1 H1) : ∀ {r : RA}, GoodA C ρ σ B H Q r → GoodA C ρ1 σ B1 H1 Q r
  | .stuck, g => g
  | .ok _ _, g => fun vs B' H' s y z => g vs B' H' s (x.trans y) z
  | .exc _ _, g => fun c d B' H' s y z => g c d B' H' s (x.trans y) z
theorem hs_of {K : KW} {N : Addr → Prop} {ρ : Rho} {σ : St} {B H : Hp} {v : V} {h : Hd} (y : HdOk K N ρ σ B H v (setl h)) : HsOk K σ B v (setl h) := by
  cases h <;> exact y
theorem sa_nil : SA X C [] tNil aNil := ⟨pa_nil, fun ρ σ B H Q S g => g [] B H S Ext.refl .nil⟩
theorem sa_cons {t : TA} {g : AF} (l : SE X C e te fe) (m : SA X C es t g) (hs : starEach (e :: es) X.env = (false, eval e X.env) :: starEach es X.env := by rfl) : SA X C (e :: es) (tCons te t) (aCons fe g) := ⟨pa_cons l.pe m.pa hs, fun ρ σ B H Q S gd => by
  refine l.lk.set ρ σ B H _ S ?_
  unfold aCons at gd
  cases e : eSet fe ρ with
  | stuck => rw [e] at gd; exact gd
  | exc x ρ1 => rw [e] at gd; exact gd
  | ok h ρ1 =>
    rw [e] at gd
    intro v B1 H1 S1 x1 y1
    have y2 : HsOk C.K σ B1 v h := by
      unfold eSet bindE at e
      split at e
      · cases e
      · rename_i h' ρ' e'
        cases e
        exact hs_of y1
      · cases e
    refine m.lk ρ1 σ B1 H1 _ S1 ?_
    cases e2 : g ρ1 with
    | stuck => simp only [e2] at gd; exact gd
    | exc x ρ2 => simp only [e2] at gd; exact GoodA.ext x1 (r := .exc x ρ2) gd
    | ok hs ρ2 =>
      simp only [e2] at gd
      exact fun vs B2 H2 S2 x2 y3 => gd (v :: vs) B2 H2 S2 (x1.trans x2) (.cons (y2.mono x2.bb) y3)⟩
def bindA (r : RA) (k : List Hd → Rho → RE) : RE := match r with
  | .stuck => .stuck
  | .ok hs ρ => k hs ρ
  | .exc x ρ => .exc x ρ
theorem LkA.bind {t : TA} {f : AF} (l : LkA C t f) {ρ : Rho} {σ : St} {B H : Hp} (S : Sim C.K ρ σ B H) {Q : VK} {k : List Hd → Rho → RE} {Q' : List V → Hp → Prop} (g : GoodE C ρ σ B H Q (bindA (f ρ) k))
    (h : ∀ hs ρ1 vs B1 H1, Sim C.K ρ1 σ B1 H1 → Ext ρ σ B H ρ1 σ B1 H1 → HdL C.K σ B1 vs hs → GoodE C ρ1 σ B1 H1 Q (k hs ρ1) → Q' vs H1) : t σ H Q' := by
  refine l ρ σ B H Q' S ?_
  cases e : f ρ with
  | stuck => rw [e] at g; exact g
  | exc x ρ1 => rw [e] at g; exact g
  | ok hs ρ1 =>
    rw [e] at g
    exact fun vs B1 H1 s x y => h hs ρ1 vs B1 H1 s x y (GoodE.ext x g)
/-- all are data of their own -/
def shs : List Hd → Option (List D)
  | [] => some []
  | .sh d :: hs => (shs hs).map (d :: ·)
  | _ :: _ => none
theorem shs_ok {K : KW} {σ : St} {B : Hp} : ∀ {vs : List V} {hs : List Hd} {ds : List D}, HdL K σ B vs hs → shs hs = some ds → RpL K B vs ds
  | _, _, _, .nil, e => by cases e; exact .nil
  | _, .sh d :: hs, _, .cons h t, e => by
    obtain ⟨r, er, rfl⟩ := Option.map_eq_some_iff.mp (show (shs hs).map (d :: ·) = some _ from e)
    exact .cons h (shs_ok t er)
/-- what they are, looked at -/
def gets (ρ : Rho) : List Hd → Option (List D)
  | [] => some []
  | h :: hs => match getH ρ h, gets ρ hs with
    | some d, some ds => some (d :: ds)
    | _, _ => none
inductive TpL (K : KW) (B H : Hp) : List V → List D → Prop
  | nil : TpL K B H [] []
  | cons {v : V} {vs : List V} {d : D} {ds : List D} : Tp K B H v d → TpL K B H vs ds → TpL K B H (v :: vs) (d :: ds)
theorem hd_hs {K : KW} {N : Addr → Prop} {ρ : Rho} {σ : St} {B H : Hp} {v : V} : ∀ {h : Hd}, HsOk K σ B v h → HdOk K N ρ σ B H v h
  | .sh _, q => q
  | .bw _, q => q
  | .sp _ _, q => q
theorem gets_ok {ρ : Rho} {σ : St} {B H : Hp} (S : Sim C.K ρ σ B H) : ∀ {vs : List V} {hs : List Hd} {ds : List D}, HdL C.K σ B vs hs → gets ρ hs = some ds → TpL C.K B H vs ds
  | _, _, _, .nil, e => by cases e; exact .nil
  | _, h :: hs, _, .cons y t, e => by
    unfold gets at e
    split at e
    · rename_i d ds e1 e2
      cases e
      exact .cons (S.tp (N := fun _ => True) (hd_hs y) e1) (gets_ok S t e2)
    · cases e
def eTup (f : AF) : EF := fun ρ => bindA (f ρ) fun hs ρ1 => match shs hs with
  | some ds => if ds.length ≤ 1000 then .ok (.sh (.tuple ds)) ρ1 else .stuck
  | none => .stuck
def eLst (f : AF) : EF := fun ρ => bindA (f ρ) fun hs ρ1 => match shs hs with
  | some ds => if ds.length ≤ 1000 then .ok (.fr (.list ds)) ρ1 else .stuck
  | none => .stuck
theorem small {n : Nat} (h : n ≤ 1000) : n ≤ sizeLine := Nat.le_of_lt (small1000 h)
theorem se_tup {t : TA} {f : AF} {k : Nat} (l : SA X C es t f) : SE X C (.Tuple es k pos) (tTupX t) (eTup f) := ⟨pe_tupX l.pa, fun ρ σ B H Q S g => by
  refine l.lk.bind S g fun hs ρ1 vs B1 H1 S1 x1 y1 g1 => ?_
  split at g1
  · rename_i ds e
    split at g1
    · have r := shs_ok y1 e
      exact ⟨by rw [r.length]; exact small (by assumption), newT S1 r g1⟩
    · exact g1.elim
  · exact g1.elim⟩
theorem se_lst {t : TA} {f : AF} (l : SA X C es t f) : SE X C (.List es pos) (tLst t) (eLst f) := ⟨pe_lst l.pa, fun ρ σ B H Q S g => by
  refine l.lk.bind S g fun hs ρ1 vs B1 H1 S1 x1 y1 g1 => ?_
  split at g1
  · rename_i ds e
    split at g1
    · have r := shs_ok y1 e
      exact ⟨by rw [r.length]; exact small (by assumption), newL S1 r g1⟩
    · exact g1.elim
  · exact g1.elim⟩
def CalL (K : KW) (r : List V → Hp → VK → Prop) (o : List D → Option Hd) : Prop := ∀ ρ σ B H xs ds h Q, Sim K ρ σ B H → TpL K B H xs ds → o ds = some h →
  (∀ v B' H', Sim K ρ σ B' H' → Ext ρ σ B H ρ σ B' H' → HdOk K (New ρ σ H) ρ σ B' H' v h → Q v H') → r xs H Q
def eCB (o : List D → Option Hd) (f : AF) : EF := fun ρ => bindA (f ρ) fun hs ρ1 => match (gets ρ1 hs).bind o with
  | some h => .ok h ρ1
  | none => .stuck
theorem lk_cb {t : TA} {f : AF} {r : List V → Hp → VK → Prop} {o : List D → Option Hd} (hr : CalL C.K r o) (l : LkA C t f) : LkE C (tCB r t) (eCB o f) := fun ρ σ B H Q S g => by
  refine l.bind S g fun hs ρ1 vs B1 H1 S1 x1 y1 g1 => ?_
  split at g1
  · rename_i h e
    obtain ⟨ds, e1, e2⟩ := Option.bind_eq_some_iff.mp e
    exact hr ρ1 σ B1 H1 vs ds h Q S1 (gets_ok S1 y1 e1) e2 g1
  · exact g1.elim
theorem se_cb {x : Str} {id : String} {p : Pos} {t : TA} {f : AF} {r : List V → Hp → VK → Prop} {o : List D → Option Hd} (hr : CalL C.K r o) (hc : CallR X (.builtin id) r) (hm : X.mg x = none) (l : SA X C (e :: es) t f) (hv : bootBuiltins x = some (.builtin id) := by decide +kernel) (hg : Gl X x := by rfl)
    (hn : x ≠ "__name__" := by decide) (hdb : (x == ("__debug__" : Str)) = false := by decide) (he : starEach (e :: es) X.env = (false, eval e X.env) :: starEach es X.env := by rfl) (hpl : (backTo pos (starEach es X.env)).any (·.1) = false := by rfl) :
    SE X C (.Call (.Name x p) (e :: es) [] pos) (tCB r t) (eCB o f) := ⟨pe_callB hc hg hm hv l.pa hn hdb he hpl, lk_cb hr l.lk⟩
theorem se_ct {x : Str} {T : String} {p : Pos} {t : TA} {f : AF} {r : List V → Hp → VK → Prop} {o : List D → Option Hd} (hr : CalL C.K r o) (hc : CallR X (.type T) r) (hm : X.mg x = none) (l : SA X C (e :: es) t f) (hv : bootBuiltins x = some (.type T) := by decide +kernel) (hg : Gl X x := by rfl)
    (hn : x ≠ "__name__" := by decide) (hdb : (x == ("__debug__" : Str)) = false := by decide) (he : starEach (e :: es) X.env = (false, eval e X.env) :: starEach es X.env := by rfl) (hpl : (backTo pos (starEach es X.env)).any (·.1) = false := by rfl) :
    SE X C (.Call (.Name x p) (e :: es) [] pos) (tCB r t) (eCB o f) := ⟨pe_callTy hc hg hm hv l.pa hn hdb he hpl, lk_cb hr l.lk⟩
end
section
variable {K : KW}
/-- one argument, two -/
def un1 (o : D → Option Hd) : List D → Option Hd
  | [d] => o d
  | _ => none
def un2 (o : D → D → Option Hd) : List D → Option Hd
  | [d, e] => o d e
  | _ => none
theorem CalL.one {r : List V → Hp → VK → Prop} {o : D → Option Hd} (k : ∀ ρ σ B H x d h Q, Sim K ρ σ B H → Tp K B H x d → o d = some h →
    (∀ v B' H', Sim K ρ σ B' H' → Ext ρ σ B H ρ σ B' H' → HdOk K (New ρ σ H) ρ σ B' H' v h → Q v H') → r [x] H Q) : CalL K r (un1 o) := fun ρ σ B H xs ds h Q S y e q => by
  cases y with
  | nil => cases e
  | cons t u =>
    cases u with
    | nil => exact k ρ σ B H _ _ h Q S t e q
    | cons _ _ => cases e
theorem CalL.two {r : List V → Hp → VK → Prop} {o : D → D → Option Hd} (k : ∀ ρ σ B H x y d d' h Q, Sim K ρ σ B H → Tp K B H x d → Tp K B H y d' → o d d' = some h →
    (∀ v B' H', Sim K ρ σ B' H' → Ext ρ σ B H ρ σ B' H' → HdOk K (New ρ σ H) ρ σ B' H' v h → Q v H') → r [x, y] H Q) : CalL K r (un2 o) := fun ρ σ B H xs ds h Q S y e q => by
  cases y with
  | nil => cases e
  | cons t u =>
    cases u with
    | nil => cases e
    | cons u w =>
      cases w with
      | nil => exact k ρ σ B H _ _ _ _ h Q S t u e q
      | cons _ _ => cases e
def lenD : D → Option Hd
  | .list ds => some (.sh (.int ds.length))
  | .tuple ds => some (.sh (.int ds.length))
  | .str z => if z.length ≤ sizeLine then some (.sh (.int z.length)) else none
  | _ => none
def rLen (K : PySem.W.Frag) : List V → Hp → VK → Prop := fun xs H Q => ∃ x n, xs = [x] ∧ LenV K x H n ∧ Q (.int n) H
theorem cl_len : CalL K (rLen K) (un1 lenD) := CalL.one fun ρ σ B H x d h Q S t e k => by
  cases d with
  | list ds =>
    cases e
    obtain ⟨a, vs, rfl, ha, ra⟩ := t
    refine ⟨_, vs.length, rfl, .inl ⟨vs, ha, rfl⟩, ?_⟩
    rw [ra.length]
    exact now S (.int _) k
  | tuple ds =>
    cases e
    obtain ⟨a, vs, rfl, ha, ra⟩ := Tp.tup t
    refine ⟨_, vs.length, rfl, .inr ⟨vs, same_tT S.bh ha, rfl⟩, ?_⟩
    rw [ra.length]
    exact now S (.int _) k
  | str z =>
    obtain ⟨c, rfl⟩ := if_some e
    rw [Tp.str t]
    exact ⟨_, z.length, rfl, ⟨c, rfl⟩, now S (.int _) k⟩
  | _ => cases e
def listD : D → Option Hd
  | .list ds => some (.fr (.list ds))
  | .tuple ds => some (.fr (.list ds))
  | _ => none
def rListA (K : PySem.W.Frag) : List V → Hp → VK → Prop := fun xs H Q => ∃ p ys, xs = [.ref p] ∧ (SqL K H p ys ∨ SqT K H p ys) ∧ ∀ l, H l = none → Q (.ref l) (upd H l (.lst ys))
theorem cl_list : CalL K (rListA K) (un1 listD) := CalL.one fun ρ σ B H x d h Q S t e k => by
  cases d with
  | list ds =>
    cases e
    obtain ⟨a, vs, rfl, ha, ra⟩ := t
    exact ⟨a, vs, rfl, .inl ha, newL S ra k⟩
  | tuple ds =>
    cases e
    obtain ⟨a, vs, rfl, ha, ra⟩ := Tp.tup t
    exact ⟨a, vs, rfl, .inr (same_tT S.bh ha), newL S ra k⟩
  | _ => cases e
def tupleD : D → Option Hd
  | .list ds => some (.sh (.tuple ds))
  | .tuple ds => some (.sh (.tuple ds))
  | _ => none
abbrev rTupleA := rTupX
theorem cl_tuple : CalL K (rTupleA K) (un1 tupleD) := CalL.one fun ρ σ B H x d h Q S t e k => by
  cases d with
  | list ds =>
    cases e
    obtain ⟨a, vs, rfl, ha, ra⟩ := t
    exact ⟨a, vs, rfl, .inl ⟨ha, newT S ra k⟩⟩
  | tuple ds =>
    cases e
    obtain ⟨a, vs, rfl, ha, ra⟩ := Tp.tupX t
    exact ⟨a, vs, rfl, .inr ⟨(same_xT S.bh ha).sq, now S (.tup ha ra) k⟩⟩
  | _ => cases e
/-- isinstance of a built-in type -/
def tyOf : D → String
  | .none => "NoneType"
  | .bool _ => "bool"
  | .int _ => "int"
  | .str _ => "str"
  | .list _ => "list"
  | .tuple _ => "tuple"
  | .dict ps => if xnB ps then "Exception" else "dict"
def isXn : D → Bool | .dict ps => xnB ps | _ => false
theorem tyX {B H : Hp} (s : SameT B H) {v : V} {d : D} (h : Tp K B H v d) (hx : isXn d = false) : TyX K H v (.type (tyOf d)) ∨ ∃ a w ep xs, v = .ref a ∧ H a = some (dX w a ep xs) ∧ tyOf d = "dict" := by
  cases d with
  | none => rw [h.non]; exact .inl (.base .non)
  | bool b => rw [h.bl]; exact .inl (.base (.bl b))
  | int i => rw [h.int]; exact .inl (.base (.int i))
  | str z => rw [h.str]; exact .inl (.base (.str z))
  | list ds =>
    obtain ⟨a, vs, rfl, ha, _⟩ := h
    rcases ha with (ha | ⟨o, ha⟩) | ⟨o, its, n, e, c, _⟩
    · exact .inl (.base (.lst ha))
    · exact .inl (.base (.frz ha))
    · exact .inl (.kList e c)
  | tuple ds =>
    obtain ⟨a, vs, rfl, ha, _⟩ := h.tup
    rcases same_tT s ha with (ha | ⟨o, ha⟩) | ⟨o, its, n, e, c, _⟩
    · exact .inl (.base (.tup ha))
    · exact .inl (.fTuple ha)
    · exact .inl (.kTuple e c)
  | dict ps =>
    have hx : xnB ps = false := hx
    have et : tyOf (.dict ps) = "dict" := by show (if xnB ps then "Exception" else "dict") = _; rw [hx]; rfl
    rcases h with ⟨a, ep, b, xs, rfl, ha, _⟩ | ⟨z, _⟩
    · exact .inr ⟨a, K.w, ep, xs, rfl, ha, et⟩
    · rw [hx] at z; cases z
end
theorem xcB_ok {K : PySem.W.Frag} {cls : Value} (h : xcB K cls = true) : ∃ D, cls = .ref D ∧ (PySem.W.clsIn K D).isSome = true ∧ PySem.W.findIn K (.ref D) "__getattribute__" = some (some (.builtin "BaseException.__getattribute__")) ∧ PySem.W.findIn K (.ref D) "__getattr__" = some none ∧
    PySem.W.subIn K (.ref D) (.type "BaseException") = some true ∧ PySem.W.hasDictIn K D = true ∧ PySem.W.findIn K (.ref D) "__class__" = some (some (.builtin "object.__class__")) ∧ PySem.W.specialIn K (.builtin "object.__class__") "__get__" = some (some (.builtin "getset_descriptor.__get__")) ∧
    PySem.W.takesIn K (.builtin "object.__class__") = some true ∧ PySem.W.mroIn K D (.type "object") = some true ∧ ∀ T ∈ ["tuple", "str", "bool", "int", "list", "dict"], PySem.W.kitOne K (.ref D) (.type T) = some false := by
  unfold xcB at h
  split at h
  · rename_i D
    simp only [Bool.and_eq_true, decide_eq_true_eq] at h
    obtain ⟨h1, h2, h3, h4, h5, h6, h7, h8, h9, h10⟩ := h
    exact ⟨D, rfl, h1, h2, h3, h4, h5, h6, h7, h8, h9, fun T hT => of_decide_eq_true (List.all_eq_true.mp h10 T hT)⟩
  · cases h
theorem exV_at {P : Program} {w : World} {H : Hp} {h : Heap} {a : Addr} {cls : Value} {d : Option Addr} (hok : HOk P w H h) (e : H a = some (exV a cls d)) : ∃ (oe : Obj) (vs : Array Value), h.get? a = some oe ∧ Zc cls d oe ∧ oe.data = .fields vs := by
  have x : ObjOk P w H h a (.ext fun h => ∃ (oe : Obj) (vs : Array Value), h.get? a = some oe ∧ Zc cls d oe ∧ oe.data = .fields vs) := hok a _ e
  exact x.1
theorem exV_inst {X : Cx} {pins : List (Addr × Obj)} {σ : St} {H : Hp} {s : Shared} {a D : Addr} {d : Option Addr} {fs : List (Str × V)} (I : Inv X pins σ H s) (e : H a = some (exV a (.ref D) d)) (x : XdB H d fs) :
    ∃ (oe : Obj) (od : Option Obj), PySem.W.InstAt s.heap a oe D od := by
  obtain ⟨oe, vs, ha, hz, hd⟩ := exV_at I.hok e
  rcases x with ⟨rfl, _⟩ | ⟨dd, rfl, ed⟩
  · exact ⟨oe, none, ha, hz.1, by unfold PySem.W.notCls; rw [hd] <;> rfl, by rw [hz.2]; trivial⟩
  · have hx : ObjOk X.prog X.w H s.heap dd (.xd fs) := I.hok dd _ ed
    obtain ⟨mA, hns, hr⟩ := hx
    obtain ⟨od, ho, hl⟩ := lookIn_ns hns
    exact ⟨oe, some od, ha, hz.1, by unfold PySem.W.notCls; rw [hd] <;> rfl, by rw [hz.2]; exact ho⟩
def rIsX (K : PySem.W.Frag) : List V → Hp → VK → Prop := fun xs H Q => ∃ (a : Addr) (c : V) (D : Addr) (d : Option Addr) (fs : List (Str × V)) (u : Value) (b : Bool), xs = [.ref a, c] ∧ ClsV c u ∧ H a = some (exV a (.ref D) d) ∧ XdB H d fs ∧ xcB K (.ref D) = true ∧ PySem.W.kitOne K (.ref D) u = some b ∧ Q (.bl b) H
theorem call_isX {X : Cx} : CallR X (.builtin "isinstance") (rIsX X.K) := by
  intro pins s σ H xs us Q I r h
  obtain ⟨a, c, D, d, fs, u, b, rfl, k, ea, xd, xb, e, q⟩ := h
  obtain ⟨u1, u2, rfl, r1, r2⟩ := vals2 r
  have e2 := k.eq r2
  subst e2
  obtain rfl : u1 = Value.ref a := r1
  obtain ⟨oe, od, J⟩ := exV_inst I ea xd
  obtain ⟨D', eD, h1, h2, h3, h4, h5, h6, h7, h8, h9, _⟩ := xcB_ok xb
  cases eD
  exact PySem.W.kia_one (PySem.W.kitx_exc h1 h2 h3 h4 h6 h7 h8 h9) I.kIn J e (fun z => nomatch z) fun tk => ⟨.bl b, H, I.tok tk, rfl, q⟩
/-- of a dict whose keys are tuples -/
def rIsD (K : PySem.W.Frag) : List V → Hp → VK → Prop := fun xs H Q => ∃ (a : Addr) (c : V) (w : World) (ep : Nat) (es : List (NestedKey × Value × Value)) (u : Value) (b : Bool), xs = [.ref a, c] ∧ ClsV c u ∧ H a = some (dX w a ep es) ∧ PySem.W.kitOne K (.type "dict") u = some b ∧ Q (.bl b) H
theorem call_isD {X : Cx} : CallR X (.builtin "isinstance") (rIsD X.K) := by
  rintro pins s σ H xs us Q I r ⟨a, c, w, ep, es, u, b, rfl, k, ea, e, q⟩
  obtain ⟨u1, u2, rfl, r1, r2⟩ := vals2 r
  obtain rfl := k.eq r2
  obtain rfl : u1 = Value.ref a := r1
  obtain ⟨⟨o, _, h1, h2, _⟩, _⟩ := I.hok a _ ea
  exact PySem.W.kia_one PySem.W.kitx_dict I.kIn ⟨o, h1, h2.1⟩ e (fun z => nomatch z) fun tk => ⟨.bl b, H, I.tok tk, rfl, q⟩
def rIsiA (K : PySem.W.Frag) : List V → Hp → VK → Prop := fun xs H Q => rIsi K xs H Q ∨ (rIsX K xs H Q ∨ rIsD K xs H Q)
theorem call_isiA {X : Cx} : CallR X (.builtin "isinstance") (rIsiA X.K) := by
  intro pins s σ H xs us Q I r h
  rcases h with h | h | h
  · exact call_isi pins s σ H xs us Q I r h
  · exact call_isX pins s σ H xs us Q I r h
  · exact call_isD pins s σ H xs us Q I r h
/-- what is kept of an exception's datum -/
theorem Tp.xn {K : KW} {B H : Hp} {v : V} {d : D} (h : Tp K B H v d) (s : SameT B H) (hp : K.pt = true → ∀ s g, d ≠ ptrD s g) (hx : isXn d = true) : ∃ (a : Addr) (c : Str) (dd : Option Addr) (fs : List (Str × V)) (ds : List D), v = .ref a ∧ d = xnD c (fs.map (·.1)) ds ∧ H a = some (exV a (cvK K c) dd) ∧ xcB K (cvK K c) = true ∧ XdB H dd fs ∧ RpL K B (fs.map (·.2)) ds := by
  cases d with
  | dict ps =>
    have hx : xnB ps = true := hx
    have no : ∀ {b xs}, RpX K B b xs ps → False := fun r => by
      cases r with
      | nil => cases hx
      | @cons _ _ _ _ _ _ _ kd _ _ h1 _ _ _ _ _ _ =>
        cases kd <;> first | (cases hx; done) | cases h1
    rcases h with ⟨_, _, _, _, _, _, r⟩ | ⟨_, h⟩
    · exact (no r).elim
    · cases h with
      | dct _ r => exact (no r).elim
      | ptr p _ => exact absurd rfl (hp p _ _)
      | exn h1 h2 h3 h4 => exact ⟨_, _, _, _, _, rfl, rfl, s.at h1 (fun _ _ z => by unfold exV at z; cases z), h2, h3.t s, h4⟩
  | _ => cases hx
section
variable {X : Cx} {C : Ct} {e : Expr} {te : TE} {fe : EF} {pos : Pos}
def eIsi (p : D → Bool) (f : EF) : EF := fun ρ => bindE (eSet f ρ) fun h ρ1 => match getH ρ1 h with
  | some d => .ok (.sh (.bool (p d))) ρ1
  | none => .stuck
theorem lk_isi (hpt : C.K.pt = false) {T : String} {p : D → Bool} (hp : ∀ d, kitB (tyOf d) T = some (p d)) (hT : T ∈ ["tuple", "str", "bool", "int", "list", "dict"]) (hTx : kitB "Exception" T = some false) (l : LkE C te fe) : LkE C (tCB (rIsiA C.K) (tCons te (tCons (tC (.ty T)) tNil))) (eIsi p fe) := fun ρ σ B H Q S g => by
  refine l.setBind S g fun hd ρ1 x B1 H1 S1 e1 y1 g1 => ?_
  split at g1
  · rename_i d ed
    cases hx : isXn d with
    | false =>
      rcases tyX S1.bh (S1.tp y1 ed) hx with ty | ⟨a, w, ep, es, rfl, ha, et⟩
      · refine .inl ⟨x, .ty T, _, _, _, rfl,   .ty T, ty, kit_ty (hp d), ?_⟩
        exact g1 _ B1 H1 S1 Ext.refl (.bl _)
      · refine .inr (.inr ⟨a, .ty T, w, ep, es, _, _, rfl, .ty T, ha, kit_ty (by have := hp d; rw [et] at this; exact this), ?_⟩)
        exact g1 _ B1 H1 S1 Ext.refl (.bl _)
    | true =>
      obtain ⟨a, c, dd, fs, ds, rfl, rfl, h1, h2, h3, h4⟩ := (S1.tp y1 ed).xn S1.bh (fun z => by rw [hpt] at z; cases z) hx
      obtain ⟨D, eD, _, _, _, _, _, _, _, _, _, hk⟩ := xcB_ok h2
      rw [eD] at h1 h2
      refine .inr (.inl ⟨a, .ty T, D, dd, fs, _, _, rfl, .ty T, h1, h3, h2, hk T hT, ?_⟩)
      have e : p (xnD c (fs.map (·.1)) ds) = false := by
        have z := hp (xnD c (fs.map (·.1)) ds)
        rw [show tyOf (xnD c (fs.map (·.1)) ds) = "Exception" from rfl, hTx] at z
        exact (Option.some.inj z).symm
      rw [e] at g1
      exact g1 _ B1 H1 S1 Ext.refl (.bl _)
  · exact g1.elim
theorem se_isi {x : Str} {T : String} {p : D → Bool} {q1 q2 : Pos} (hp : ∀ d, kitB (tyOf d) T = some (p d)) (hm : X.mg "isinstance" = none) (hmT : X.mg x = none) (l : SE X C e te fe) (hvT : bootBuiltins x = some (.type T) := by decide +kernel) (hT : T ∈ ["tuple", "str", "bool", "int", "list", "dict"] := by decide) (hTx : kitB "Exception" T = some false := by decide +kernel) (hk : X.K = C.K := by rfl) (hg : Gl X "isinstance" := by rfl) (hgT : Gl X x := by rfl)
    (hnT : x ≠ "__name__" := by decide) (hdT : (x == ("__debug__" : Str)) = false := by decide)
    (he : starEach (e :: [.Name x q2]) X.env = (false, eval e X.env) :: starEach [.Name x q2] X.env := by rfl) (hpt : C.K.pt = false := by first | rfl | assumption) :
    SE X C (.Call (.Name "isinstance" q1) [e, .Name x q2] [] pos) (tCB (rIsiA C.K) (tCons te (tCons (tC (.ty T)) tNil))) (eIsi p fe) :=
  ⟨by rw [← hk]; exact pe_callB call_isiA hg hm (by decide +kernel) (pa_cons l.pe (pa_cons (pe_bltn hgT hmT hvT rfl hnT hdT) pa_nil) he) (by decide) (by decide) he, lk_isi hpt hp hT hTx l.lk⟩
def isBool : D → Bool | .bool _ => true | _ => false
theorem kit_bool : ∀ d, kitB (tyOf d) "bool" = some (isBool d)
  | .none => by show kitB "NoneType" "bool" = some false; decide +kernel
  | .tuple _ => by show kitB "tuple" "bool" = some false; decide +kernel
  | .bool _ => by show kitB "bool" "bool" = some true; decide +kernel
  | .int _ => by show kitB "int" "bool" = some false; decide +kernel
  | .str _ => by show kitB "str" "bool" = some false; decide +kernel
  | .list _ => by show kitB "list" "bool" = some false; decide +kernel
  | .dict ps => by
    show kitB (if xnB ps then "Exception" else "dict") "bool" = some false
    cases xnB ps <;> decide +kernel
end
end GS
namespace GS
open PySem L2
/-- what a def does: of its parameters' cells what comes back, and the lent cell behind -/
abbrev FF := Rho → RE
def spF (K : KW) (cv : Str → Value) (n : Nat) (F : FF) : Sp := fun vs H Q E => ∃ ρ B, (vs.length = n ∧ ρ.length = n) ∧ Sim K ρ (vs.map some) B H ∧
  GoodE ⟨K, cv, fun cls d _ H' => E cls d H'⟩ ρ (vs.map some) B H Q (F ρ)
def argC (ρ : Rho) (io : Bool) : Hd → Option Cel
  | .sh d => if io then none else some ⟨d, .sh⟩
  | .bw i => if io then (match slot ρ i with
    | some ⟨d, .ow⟩ => some ⟨d, .io⟩
    | some ⟨d, .io⟩ => some ⟨d, .io⟩
    | _ => none) else none
  | .fr _ => none
  | .sp _ _ => none
/-- the callee's cells; io: the place of the lent argument -/
def args (ρ : Rho) (io : Option Nat) : Nat → List Hd → Option Rho
  | _, [] => some []
  | k, h :: hs => match argC ρ (decide (io = some k)) h, args ρ io (k + 1) hs with
    | some c, some r => some (some c :: r)
    | _, _ => none
def putB (ρ : Rho) (io : Option Nat) (hs : List Hd) (outs : Rho) : Option Rho := match io with
  | none => some ρ
  | some j => match hs[j]? with
    | some (.bw i) => match slot ρ i, slot outs j with
      | some c, some c' => some (ρ.set i (some ⟨c'.d, c.fl⟩))
      | _, _ => none
    | _ => none
def eCall (n : Nat) (io : Option Nat) (F : FF) (fs : AF) : EF := fun ρ => bindA (fs ρ) fun hs ρ1 => match args ρ1 io 0 hs with
  | none => .stuck
  | some ρ0 => if ρ0.length ≠ n then .stuck else match F ρ0 with
    | .stuck => .stuck
    | .ok h outs => match h, putB ρ1 io hs outs with
      | .bw _, _ => .stuck
      | .sp _ _, _ => .stuck
      | _, none => .stuck
      | _, some ρ2 => .ok h ρ2
    | .exc x outs => match putB ρ1 io hs outs with
      | none => .stuck
      | some ρ2 => .exc x ρ2
theorem argC_sh {ρ : Rho} {b : Bool} {d : D} {c : Cel} (h : argC ρ b (.sh d) = some c) : b = false ∧ c = ⟨d, .sh⟩ := by
  cases b
  · cases h; exact ⟨rfl, rfl⟩
  · cases h
theorem argC_bw {ρ : Rho} {b : Bool} {i : Nat} {c : Cel} (h : argC ρ b (.bw i) = some c) : b = true ∧ ∃ d fl, ρ[i]? = some (some ⟨d, fl⟩) ∧ fl ≠ .sh ∧ fl ≠ .st ∧ c = ⟨d, .io⟩ := by
  cases b
  · cases h
  · refine ⟨rfl, ?_⟩
    replace h : (match slot ρ i with | some ⟨d, .ow⟩ => some ⟨d, .io⟩ | some ⟨d, .io⟩ => some ⟨d, .io⟩ | _ => none) = some c := h
    split at h
    · rename_i d es
      cases h
      exact ⟨d, .ow, slot_some es, by simp, by simp, rfl⟩
    · rename_i d es
      cases h
      exact ⟨d, .io, slot_some es, by simp, by simp, rfl⟩
    · cases h
theorem args_at {ρ : Rho} {io : Option Nat} : ∀ {k : Nat} {hs : List Hd} {r : Rho}, args ρ io k hs = some r → r.length = hs.length ∧ ∀ (j : Nat) (c : Cel), r[j]? = some (some c) → ∃ h, hs[j]? = some h ∧ argC ρ (decide (io = some (k + j))) h = some c
  | _, [], _, e => by cases e; exact ⟨rfl, fun j c h => by simp at h⟩
  | k, h :: hs, r, e => by
    unfold args at e
    split at e
    · rename_i c r' e1 e2
      cases e
      obtain ⟨l, q⟩ := args_at e2
      refine ⟨by rw [List.length_cons, List.length_cons, l], fun j c' hj => ?_⟩
      cases j with
      | zero => simp at hj; subst hj; exact ⟨h, rfl, e1⟩
      | succ j =>
        obtain ⟨h', q1, q2⟩ := q j c' (by simpa using hj)
        exact ⟨h', by simpa using q1, by rw [show k + (j + 1) = k + 1 + j by omega]; exact q2⟩
    · cases e
theorem args_has {ρ : Rho} {io : Option Nat} : ∀ {k : Nat} {hs : List Hd} {r : Rho} {j : Nat} {h : Hd}, args ρ io k hs = some r → hs[j]? = some h → ∃ c, r[j]? = some (some c)
  | _, [], _, _, _, _, h => by simp at h
  | k, h :: hs, r, j, h', e, hj => by
    unfold args at e
    split at e
    · rename_i c r' e1 e2
      cases e
      cases j with
      | zero => exact ⟨c, rfl⟩
      | succ j =>
        obtain ⟨c', q⟩ := args_has (j := j) e2 (by simpa using hj)
        exact ⟨c', by simpa using q⟩
    · cases e
theorem HdL.get {K : KW} {σ : St} {B : Hp} : ∀ {vs : List V} {hs : List Hd} {j : Nat} {h : Hd}, HdL K σ B vs hs → hs[j]? = some h → ∃ v, vs[j]? = some v ∧ HsOk K σ B v h
  | _, _, _, _, .nil, e => by simp at e
  | _, _, 0, _, .cons h _, e => by simp at e; subst e; exact ⟨_, rfl, h⟩
  | _, _, j + 1, h, .cons _ t, e => by
    obtain ⟨v, q1, q2⟩ := HdL.get (j := j) (h := h) t (by simpa using e)
    exact ⟨v, by simpa using q1, q2⟩
section
variable {K : KW} {ρ ρ0 ρ0' ρ2 : Rho} {σ : St} {B H B' H' : Hp} {io : Option Nat} {hs : List Hd} {vs : List V}
/-- the callee's cell j that is lent is the caller's slot i -/
theorem args_own (e : args ρ io 0 hs = some ρ0) {j : Nat} {c : Cel} (hc : ρ0[j]? = some (some c)) (nf : c.fl ≠ .sh) : io = some j ∧ ∃ i d fl, hs[j]? = some (.bw i) ∧ ρ[i]? = some (some ⟨d, fl⟩) ∧ fl ≠ .sh ∧ fl ≠ .st ∧ c = ⟨d, .io⟩ := by
  obtain ⟨_, q⟩ := args_at e
  obtain ⟨h, h1, h2⟩ := q j c hc
  rw [Nat.zero_add] at h2
  cases h with
  | sh d =>
    obtain ⟨_, rfl⟩ := argC_sh h2
    exact absurd rfl nf
  | fr d => cases h2
  | sp _ _ => cases h2
  | bw i =>
    obtain ⟨b, d, fl, q1, q2, q3, q4⟩ := argC_bw h2
    exact ⟨of_decide_eq_true b, i, d, fl, h1, q1, q2, q3, q4⟩
theorem args_nst (e : args ρ io 0 hs = some ρ0) (i : Nat) (d : D) : ρ0[i]? ≠ some (some (Cel.mk d .st)) := fun h => by
  obtain ⟨_, _, _, _, _, _, _, _, z⟩ := args_own e h (by simp)
  cases z
theorem args_sim (S : Sim K ρ σ B H) (y : HdL K σ B vs hs) (e : args ρ io 0 hs = some ρ0) : Sim K ρ0 (vs.map some) B H := by
  obtain ⟨l, q⟩ := args_at e
  have ll : ρ0.length = (vs.map some).length := by rw [l, List.length_map, y.length]
  refine ⟨S.bh, ⟨by omega, fun i h1 h2 => by omega⟩, fun j c hj _ => ?_, fun i j ci cj a hi hj ni nj _ _ => ?_, ⟨fun i d h => absurd h (args_nst e i d), S.st.id'⟩⟩
  · obtain ⟨h, h1, h2⟩ := q j c hj
    obtain ⟨v, hv, ok⟩ := y.get h1
    refine ⟨v, by rw [List.getElem?_map, hv]; rfl, ?_⟩
    by_cases nf : c.fl = .sh
    · refine .inl ⟨nf, ?_⟩
      cases h with
      | sh d =>
        obtain ⟨_, rfl⟩ := argC_sh h2
        exact ok
      | fr d => cases h2
      | sp _ _ => cases h2
      | bw i =>
        obtain ⟨_, d, fl, _, _, _, rfl⟩ := argC_bw h2
        cases nf
    · obtain ⟨_, i, d, fl, h3, h4, h5, hst, rfl⟩ := args_own e hj nf
      rw [h1] at h3
      cases h3
      obtain ⟨v', e1, cok⟩ := S.sl i _ h4 hst
      have ok' : σ[i]? = some (some v) := ok
      rw [ok'] at e1
      cases e1
      rcases cok with ⟨z, _⟩ | ⟨_, z⟩
      · exact absurd z h5
      · exact .inr ⟨by simp, z⟩
  · obtain ⟨e1, _⟩ := args_own e hi ni
    obtain ⟨e2, _⟩ := args_own e hj nj
    rw [e1] at e2
    cases e2
    rfl
theorem args_ownA (y : HdL K σ B vs hs) (e : args ρ io 0 hs = some ρ0) {a : Addr} (h : OwnA ρ0 (vs.map some) a) : OwnA ρ σ a := by
  obtain ⟨j, c, h1, h2, h3⟩ := h
  obtain ⟨_, i, d, fl, q1, q2, q3, _, _⟩ := args_own e h1 h2
  obtain ⟨v, hv, ok⟩ := y.get q1
  rw [List.getElem?_map, hv] at h3
  cases h3
  exact ⟨i, _, q2, q3, ok⟩
/-- behind the call -/
theorem back_sim (S : Sim K ρ σ B H) (y : HdL K σ B vs hs) (e : args ρ io 0 hs = some ρ0) (S' : Sim K ρ0' (vs.map some) B' H') (x : Ext ρ0 (vs.map some) B H ρ0' (vs.map some) B' H') (p : putB ρ io hs ρ0' = some ρ2) :
    Sim K ρ2 σ B' H' ∧ Ext ρ σ B H ρ2 σ B' H' ∧ (∀ a, New ρ0 (vs.map some) H a → New ρ σ H a) ∧ ∀ a, ¬ OwnA ρ0' (vs.map some) a → New ρ0 (vs.map some) H a → ¬ OwnA ρ2 σ a := by
  -- a slot of the caller that is not lent
  have sub0 : ∀ a, OwnA ρ0 (vs.map some) a → OwnA ρ σ a := fun a h => args_ownA y e h
  have newN : ∀ a, New ρ0 (vs.map some) H a → New ρ σ H a := fun a h => h.elim .inl fun h => .inr (sub0 a h)
  -- what ρ2 is
  have key : (∀ (k : Nat) (c : Cel), ρ2[k]? = some (some c) → (ρ[k]? = some (some c) ∧ ∀ j, io = some j → hs[j]? ≠ some (.bw k)) ∨ ∃ j c0 c', io = some j ∧ hs[j]? = some (.bw k) ∧ ρ[k]? = some (some c0) ∧ ρ0'[j]? = some (some c') ∧ c = ⟨c'.d, c0.fl⟩) ∧
      ρ2.length = ρ.length ∧ (∀ (k : Nat) (c : Cel), ρ[k]? = some (some c) → ∃ c2, ρ2[k]? = some (some c2) ∧ c2.fl = c.fl) := by
    unfold putB at p
    split at p
    · cases p
      exact ⟨fun k c h => .inl ⟨h, fun j z => nomatch z⟩, rfl, fun k c h => ⟨c, h, rfl⟩⟩
    · rename_i j
      split at p
      · rename_i i hi
        split at p
        · rename_i c0 c' e1 e2
          cases p
          have e1 := slot_some e1
          have e2 := slot_some e2
          refine ⟨fun k c h => ?_, by rw [List.length_set], fun k c h => ?_⟩
          · rcases set_get h with ⟨rfl, ec⟩ | ⟨ne, h⟩
            · cases ec
              exact .inr ⟨j, c0, c', rfl, hi, e1, e2, rfl⟩
            · refine .inl ⟨h, fun j' z w => ?_⟩
              cases z
              rw [hi] at w
              cases w
              exact ne rfl
          · by_cases hk : i = k
            · subst hk
              rw [e1] at h
              cases h
              exact ⟨_, set_at (lt_of e1), rfl⟩
            · exact ⟨c, by rw [set_other hk]; exact h, rfl⟩
        · cases p
      · cases p
  obtain ⟨k1, k2, k3⟩ := key
  -- an owned slot that is not lent keeps its object
  have keep : ∀ (k : Nat) (c : Cel) (a : Addr), ρ[k]? = some (some c) → c.fl ≠ .sh → σ[k]? = some (some (.ref a)) → (∀ j, io = some j → hs[j]? ≠ some (.bw k)) → ¬ OwnA ρ0 (vs.map some) a := fun k c a hk hf hs' hn ho => by
    obtain ⟨j, c0, h1, h2, h3⟩ := ho
    obtain ⟨q0, i, d, fl, q1, q2, q3, _, _⟩ := args_own e h1 h2
    obtain ⟨v, hv, ok⟩ := y.get q1
    rw [List.getElem?_map, hv] at h3
    cases h3
    have := S.dj i k _ c a q2 hk q3 hf ok hs'
    subst this
    exact hn j q0 q1
  have ownBack : ∀ a, OwnA ρ2 σ a → OwnA ρ σ a := fun a ⟨k, c, h1, h2, h3⟩ => by
    rcases k1 k c h1 with ⟨h, _⟩ | ⟨j, c0, c', _, _, h, _, rfl⟩
    · exact ⟨k, c, h, h2, h3⟩
    · exact ⟨k, c0, h, h2, h3⟩
  have noT : ∀ a, ¬ TokA ρ0 B a := fun a ⟨i, s, μ, g, c, q, _⟩ => args_nst e i _ q
  have tkB : ∀ a s g, B' a = some (.met s g) → B a = some (.met s g) := fun a s g q => (x.tx.tn a s g q).elim (fun h => h) fun ⟨i, μ, h⟩ => absurd h (args_nst e i _)
  have lentS : ∀ (j k : Nat), hs[j]? = some (.bw k) → io = some j → ∀ d, ρ[k]? ≠ some (some (Cel.mk d .st)) := fun j k q1 hj d h => by
    obtain ⟨cs, hcs⟩ := args_has e q1
    obtain ⟨_, qq⟩ := args_at e
    obtain ⟨h', w1, w2⟩ := qq j cs hcs
    rw [q1] at w1
    cases w1
    obtain ⟨_, d', fl, r1, _, r3, _⟩ := argC_bw w2
    rw [h] at r1
    cases r1
    exact r3 rfl
  have stB : ∀ (k : Nat) (d : D), ρ2[k]? = some (some (Cel.mk d .st)) → ρ[k]? = some (some (Cel.mk d .st)) := fun k d q => by
    rcases k1 k _ q with ⟨h, _⟩ | ⟨j, c0, c', hj, q1, h, q2, z⟩
    · exact h
    · obtain ⟨d0, f0⟩ := c0
      cases z
      exact absurd h (lentS j k q1 hj d0)
  have tkH : ∀ a s g, B a = some (.met s g) → H' a = H a := fun a s g q => by
    obtain ⟨u, hu⟩ := S.bh.there q
    have no : ¬ OwnA ρ0 (vs.map some) a := fun z => by
      have := (S.ownH (sub0 a z)).1
      rw [q] at this; cases this
    rw [hu]
    exact x.keepT hu no (noT a)
  refine ⟨⟨S'.bh, ⟨by rw [k2]; exact S.len.le, fun k h1 h2 => ?_⟩, fun k c hk hs => ?_, fun i j ci cj a hi hj ni nj ei ej => ?_, S.st.keep x.bb tkB tkH stB rfl⟩, ⟨x.bb, fun a o h => (x.nw a o h).imp id (newN a), fun a o h n => .inl (x.keepT h (fun z => n (sub0 a z)) (noT a)), fun a h => .inr (ownBack a h), fun k c hk hf => ?_, fun k c hk hf => ?_, .of stB tkB⟩, newN, fun a n1 n2 ho => ?_⟩
  · obtain ⟨d, q⟩ := S.len.ex k h1 (by rw [← k2]; exact h2)
    obtain ⟨c2, q2, q3⟩ := k3 k _ q
    obtain ⟨d2, f2⟩ := c2
    cases q3
    exact ⟨d2, q2⟩
  · rcases k1 k c hk with ⟨h, hn⟩ | ⟨j, c0, c', hj, q1, h, q2, rfl⟩
    · obtain ⟨v, ev, ok⟩ := S.sl k c h hs
      refine ⟨v, ev, ok.mono x.bb fun a hv hb ho hf => ?_⟩
      subst hv
      obtain ⟨o, eo⟩ := ho
      obtain ⟨r1, r2, _⟩ := x.keepN eo hb (keep k c a h hf ev hn)
      exact ⟨r2, by rw [r1, eo]⟩
    · obtain ⟨v, ev, ok⟩ := y.get q1
      have ok' : σ[k]? = some (some v) := ok
      refine ⟨v, ok', ?_⟩
      -- the lent cell is lent at the start, so it is behind
      obtain ⟨cs, hcs⟩ := args_has e q1
      by_cases hsh : cs.fl = .sh
      · exfalso
        obtain ⟨_, qq⟩ := args_at e
        obtain ⟨h', w1, w2⟩ := qq j cs hcs
        rw [q1] at w1
        cases w1
        obtain ⟨_, d, fl, _, _, _, rfl⟩ := argC_bw w2
        cases hsh
      · obtain ⟨_, i, d, fl, r1, r2, r3, r4, rfl⟩ := args_own e hcs hsh
        rw [q1] at r1
        cases r1
        rw [h] at r2
        cases r2
        obtain ⟨_, c2, w1, w2⟩ := x.io j _ hcs rfl
        rw [q2] at w1
        cases w1
        obtain ⟨v', e1, cok⟩ := S'.sl j c' q2 (by rw [w2]; simp)
        rw [List.getElem?_map, ev] at e1
        cases e1
        rcases cok with ⟨z, _⟩ | ⟨_, z⟩
        · rw [w2] at z; cases z
        · exact .inr ⟨r3, z⟩
  · have f1 : ∃ c1, ρ[i]? = some (some c1) ∧ c1.fl ≠ .sh := by
      rcases k1 i ci hi with ⟨h, _⟩ | ⟨_, c0, _, _, _, h, _, rfl⟩
      · exact ⟨ci, h, ni⟩
      · exact ⟨c0, h, ni⟩
    have f2 : ∃ c1, ρ[j]? = some (some c1) ∧ c1.fl ≠ .sh := by
      rcases k1 j cj hj with ⟨h, _⟩ | ⟨_, c0, _, _, _, h, _, rfl⟩
      · exact ⟨cj, h, nj⟩
      · exact ⟨c0, h, nj⟩
    obtain ⟨c1, a1, a2⟩ := f1
    obtain ⟨c2, b1, b2⟩ := f2
    exact S.dj i j c1 c2 a a1 b1 a2 b2 ei ej
  · obtain ⟨c2, h1, h2⟩ := k3 k c hk
    exact ⟨rfl, c2, h1, by rw [h2, hf]⟩
  · rcases k1 k c hk with ⟨h, _⟩ | ⟨_, c0, _, _, _, h, _, rfl⟩
    · exact ⟨c, h, hf⟩
    · exact ⟨c0, h, hf⟩
  · obtain ⟨k, c, h1, h2, h3⟩ := ho
    rcases k1 k c h1 with ⟨h, hn⟩ | ⟨j, c0, c', hj, q1, h, q2, rfl⟩
    · have n0 := keep k c a h h2 h3 hn
      have := S.ownH ⟨k, c, h, h2, h3⟩
      obtain ⟨_, o, eo⟩ := this
      rcases n2 with z | z
      · rw [eo] at z; cases z
      · exact n0 z
    · obtain ⟨v, ev, ok⟩ := y.get q1
      have ok' : σ[k]? = some (some v) := ok
      rw [h3] at ok'
      cases ok'
      obtain ⟨cs, hcs⟩ := args_has e q1
      by_cases hsh : cs.fl = .sh
      · obtain ⟨_, qq⟩ := args_at e
        obtain ⟨h', w1, w2⟩ := qq j cs hcs
        rw [q1] at w1
        cases w1
        obtain ⟨_, d, fl, _, _, _, rfl⟩ := argC_bw w2
        cases hsh
      · obtain ⟨_, i, d, fl, r1, r2, r3, r4, rfl⟩ := args_own e hcs hsh
        obtain ⟨_, c2, w1, w2⟩ := x.io j _ hcs rfl
        rw [q2] at w1
        cases w1
        exact n1 ⟨j, c', q2, by rw [w2]; simp, by rw [List.getElem?_map, ev]; rfl⟩
end
section
variable {X : Cx} {C : Ct} {e : Expr} {es : List Expr} {pos p : Pos} {x : Str} {k n : Nat} {f : Addr} {fd : FuncData} {ps : List Str} {io : Option Nat} {F : FF} {t : TA} {g : AF}
theorem lk_call (l : LkA C t g) : LkE C (tCallS (spF C.K C.cv n F) (WE C.W) t) (eCall n io F g) := fun ρ σ B H Q S gd => by
  refine l.bind S gd fun hs ρ1 vs B1 H1 S1 x1 y1 g1 => ?_
  split at g1
  · exact g1.elim
  · rename_i ρ0 ea
    split at g1
    · exact g1.elim
    · rename_i hl
      have hl : ρ0.length = n := Classical.not_not.mp hl
      refine ⟨ρ0, B1, ⟨by rw [y1.length, ← (args_at ea).1]; exact hl, hl⟩, args_sim S1 y1 ea, ?_⟩
      cases ef : F ρ0 with
      | stuck => rw [ef] at g1; exact g1
      | exc c outs =>
        rw [ef] at g1
        dsimp only at g1
        split at g1
        · exact g1.elim
        · rename_i ρ2 ep
          intro cls dct B2 H2 S2 x2 ok
          obtain ⟨S3, x3, _, _⟩ := back_sim S1 y1 ea S2 x2 ep
          exact g1 cls dct B2 H2 S3 x3 ok
      | ok h outs =>
        rw [ef] at g1
        dsimp only at g1
        intro v B2 H2 S2 x2 y2
        cases ep : putB ρ1 io hs outs with
        | none => rw [ep] at g1; cases h <;> exact g1.elim
        | some ρ2 =>
          rw [ep] at g1
          obtain ⟨S3, x3, n1, n2⟩ := back_sim S1 y1 ea S2 x2 ep
          cases h with
          | sh d => exact g1 v B2 H2 S3 x3 y2
          | fr d =>
            obtain ⟨a, r1, r2, r3, r4, r5⟩ := y2
            exact g1 v B2 H2 S3 x3 ⟨a, r1, r2, r3, n2 a r4 r5, n1 a r5⟩
          | bw i => exact g1.elim
          | sp _ _ => exact g1.elim
theorem se_call (FO : FnOk X.prog X.w X.K X.mg X.base (L2.CX X.prog X.w) k f fd ps (spF C.K C.cv n F)) (hr : Room k X.A) (hm : X.mg x = some (.ref f)) (hkp : PySem.W.keepIn X.K (.ref f) = true) (hb : Binds X.K fd ps []) (tk : Takes X C.W)
    (l : SA X C (e :: es) t g) (io : Option Nat) (hg : Gl X x := by rfl) (hdb : (x == ("__debug__" : Str)) = false := by decide) (he : starEach (e :: es) X.env = (false, eval e X.env) :: starEach es X.env := by rfl)
    (hpl : (backTo pos (starEach es X.env)).any (·.1) = false := by rfl) : SE X C (.Call (.Name x p) (e :: es) [] pos) (tCallS (spF C.K C.cv n F) (WE C.W) t) (eCall n io F g) :=
  ⟨pe_callS FO hr hg hm hkp hb (fun σ => passAt tk σ) l.pa hdb he hpl, lk_call l.lk⟩
end
end GS
namespace GS
open PySem L2
def GoodS (C : Ct) (ρ : Rho) (σ : St) (B H : Hp) (D : Ends) : RS → Prop
  | .stuck => False
  | .nx ρ' => ∀ σ' B' H', Sim C.K ρ' σ' B' H' → Ext ρ σ B H ρ' σ' B' H' → D.nx σ' H'
  | .bk ρ' => ∀ σ' B' H', Sim C.K ρ' σ' B' H' → Ext ρ σ B H ρ' σ' B' H' → D.bk σ' H'
  | .ct ρ' => ∀ σ' B' H', Sim C.K ρ' σ' B' H' → Ext ρ σ B H ρ' σ' B' H' → D.ct σ' H'
  | .rt h ρ' => ∀ v σ' B' H', Sim C.K ρ' σ' B' H' → Ext ρ σ B H ρ' σ' B' H' → HdOk C.K (New ρ σ H) ρ' σ' B' H' v h → D.rt v H'
  | .exc x ρ' => ∀ cls dct σ' B' H', Sim C.K ρ' σ' B' H' → Ext ρ σ B H ρ' σ' B' H' → XcOk C B' x cls dct → C.W cls dct σ' H'
def LkS (C : Ct) (t : TS) (g : SF) : Prop := ∀ ρ σ B H D, Sim C.K ρ σ B H → GoodS C ρ σ B H D (g ρ) → t D σ H
structure SS (X : Cx) (C : Ct) (st : Stmt) (t : TS) (g : SF) : Prop where
  ps : PS X st t
  lk : LkS C t g
structure SSs (X : Cx) (C : Ct) (st : List Stmt) (t : TS) (g : SF) : Prop where
  ps : PSs X st t
  lk : LkS C t g
section
variable {X : Cx} {C : Ct} {ρ ρ1 : Rho} {σ σ1 : St} {B H B1 H1 : Hp} {Ed : Ends} {t u : TS} {f g : SF} {st : Stmt} {rest : List Stmt} {pos : Pos}
theorem GoodS.ext (e : Ext ρ σ B H ρ1 σ1 B1 H1) : ∀ {r : RS}, GoodS C ρ σ B H Ed r → GoodS C ρ1 σ1 B1 H1 Ed r
  | .stuck, h => h
  | .nx _, h => fun σ' B' H' s x => h σ' B' H' s (e.trans x)
  | .bk _, h => fun σ' B' H' s x => h σ' B' H' s (e.trans x)
  | .ct _, h => fun σ' B' H' s x => h σ' B' H' s (e.trans x)
  | .rt _ _, h => fun v σ' B' H' s x y => h v σ' B' H' s (e.trans x) (y.mono fun _ z => e.back z)
  | .exc _ _, h => fun c d σ' B' H' s x => h c d σ' B' H' s (e.trans x)
def sNil : SF := fun ρ => .nx ρ
def bindS (r : RS) (k : Rho → RS) : RS := match r with
  | .nx ρ => k ρ
  | r => r
def sSeq (f g : SF) : SF := fun ρ => bindS (f ρ) g
theorem lk_seq (lf : LkS C t f) (lg : LkS C u g) : LkS C (tSeq t u) (sSeq f g) := fun ρ σ B H D S gd => by
  refine lf ρ σ B H _ S ?_
  unfold sSeq bindS at gd
  cases e : f ρ with
  | nx ρ1 =>
    rw [e] at gd
    exact fun σ' B' H' s x => lg ρ1 σ' B' H' D s (GoodS.ext x gd)
  | stuck => rw [e] at gd; exact gd
  | bk _ => rw [e] at gd; exact gd
  | ct _ => rw [e] at gd; exact gd
  | rt _ _ => rw [e] at gd; exact gd
  | exc _ _ => rw [e] at gd; exact gd
theorem sss_nil : SSs X C [] tNext sNil := ⟨pss_nil, fun ρ σ B H D S g => g σ B H S Ext.refl⟩
theorem sss_cons (a : SS X C st t f) (b : SSs X C rest u g) : SSs X C (st :: rest) (tSeq t u) (sSeq f g) := ⟨pss_cons a.ps b.ps, lk_seq a.lk b.lk⟩
theorem sss_one (a : SS X C st t f) : SSs X C [st] t f := ⟨pss_one a.ps, a.lk⟩
def bindES (r : RE) (k : Hd → Rho → RS) : RS := match r with
  | .stuck => .stuck
  | .ok h ρ => k h ρ
  | .exc x ρ => .exc x ρ
theorem LkE.bindS {te : TE} {fe : EF} (l : LkE C te fe) (S : Sim C.K ρ σ B H) {k : Hd → Rho → RS} {Q' : VK} (g : GoodS C ρ σ B H Ed (bindES (fe ρ) k))
    (h : ∀ hd ρ1 v B1 H1, Sim C.K ρ1 σ B1 H1 → Ext ρ σ B H ρ1 σ B1 H1 → HdOk C.K (New ρ σ H) ρ1 σ B1 H1 v hd → GoodS C ρ σ B H Ed (k hd ρ1) → Q' v H1) : te σ H Q' := by
  refine l ρ σ B H Q' S ?_
  cases e : fe ρ with
  | stuck => rw [e] at g; exact g
  | ok hd ρ1 => rw [e] at g; exact fun v B1 H1 s x y => h hd ρ1 v B1 H1 s x y g
  | exc x ρ1 => rw [e] at g; exact fun c d B' H' s x => g c d σ B' H' s x
variable {e : Expr} {te : TE} {fe : EF}
def sRet (fe : EF) : SF := fun ρ => bindES (fe ρ) fun h ρ1 => match h with
  | .bw i => match capH ρ1 (.bw i) with
    | some d => .rt (.sh d) ρ1
    | none => .stuck
  | .sp _ _ => .stuck
  | h => .rt h ρ1
theorem cap_bw (S : Sim C.K ρ σ B H) {i : Nat} {d : D} {v : V} (y : σ[i]? = some (some v)) (e : capH ρ (.bw i) = some d) : Rp C.K B v d := by
  replace e : (match slot ρ i with | some ⟨d, .sh⟩ => some d | _ => none) = some d := e
  split at e
  · rename_i d' e'
    cases e
    obtain ⟨v', q1, q2⟩ := S.sl i _ (slot_some e') (by simp)
    rw [y] at q1
    cases q1
    rcases q2 with ⟨_, q2⟩ | ⟨q, _⟩
    · exact q2
    · exact absurd rfl q
  · cases e
theorem ss_ret (l : SE X C e te fe) : SS X C (.Return (some e) pos) (tRet te) (sRet fe) := ⟨ps_ret l.pe, fun ρ σ B H D S g => by
  refine l.lk.bindS S g fun hd ρ1 v B1 H1 S1 x1 y1 g1 => ?_
  cases hd with
  | sh d => exact g1 v σ B1 H1 S1 x1 y1
  | fr d => exact g1 v σ B1 H1 S1 x1 y1
  | bw i =>
    dsimp only at g1
    split at g1
    · rename_i d ed
      exact g1 v σ B1 H1 S1 x1 (cap_bw S1 y1 ed)
    · exact g1.elim
  | sp _ _ => exact g1.elim⟩
def bindBS (r : RE) (k : Bool → Rho → RS) : RS := match r with
  | .ok (.sh (.bool b)) ρ => k b ρ
  | .exc x ρ => .exc x ρ
  | _ => .stuck
theorem LkT.bindS {tt : TT} {ft : EF} (l : LkT C tt ft) (S : Sim C.K ρ σ B H) {k : Bool → Rho → RS} {Q' : Bool → Hp → Prop} (g : GoodS C ρ σ B H Ed (bindBS (ft ρ) k))
    (h : ∀ b ρ1 B1 H1, Sim C.K ρ1 σ B1 H1 → Ext ρ σ B H ρ1 σ B1 H1 → GoodS C ρ1 σ B1 H1 Ed (k b ρ1) → Q' b H1) : tt σ H Q' := by
  refine l ρ σ B H Q' S ?_
  cases e : ft ρ with
  | stuck => rw [e] at g; exact g
  | exc x ρ1 => rw [e] at g; exact fun c d B' H' s x => g c d σ B' H' s x
  | ok hd ρ1 =>
    rw [e] at g
    cases hd with
    | sh d =>
      cases d with
      | bool b => exact fun B1 H1 s x => h b ρ1 B1 H1 s x (GoodS.ext x g)
      | _ => exact g
    | _ => exact g
def sIf (ft : EF) (f g : SF) : SF := fun ρ => bindBS (ft ρ) fun b ρ1 => if b then f ρ1 else g ρ1
theorem ss_if {c : Expr} {a b : List Stmt} {tt : TT} {ft : EF} (l : ST X C c tt ft) (la : SSs X C a t f) (lb : SSs X C b u g) : SS X C (.If c a b pos) (tIfS tt t u) (sIf ft f g) := ⟨ps_if l.pt la.ps lb.ps, fun ρ σ B H D S gd =>
  l.lk.bindS S gd fun b ρ1 B1 H1 S1 x1 g1 => by
    cases b with
    | true => exact la.lk ρ1 σ B1 H1 D S1 g1
    | false => exact lb.lk ρ1 σ B1 H1 D S1 g1⟩
def ioAt (ρ : Rho) (i : Nat) : Bool := match slot ρ i with
  | some ⟨_, .io⟩ => true
  | some ⟨_, .st⟩ => true
  | _ => false
theorem not_io {i : Nat} (h : ioAt ρ i = false) {c : Cel} (e : ρ[i]? = some (some c)) : c.fl ≠ .io := fun z => by
  unfold ioAt slot at h
  rw [e] at h
  obtain ⟨d, fl⟩ := c
  cases z
  cases h
theorem not_st {i : Nat} (h : ioAt ρ i = false) (d : D) : ρ[i]? ≠ some (some (Cel.mk d .st)) := fun e => by
  unfold ioAt slot at h
  rw [e] at h
  cases h
/-- what may be put into slot i of the state behind -/
theorem store_ok {K : KW} (S : Sim K ρ1 σ B1 H1) (x : Ext ρ σ B H ρ1 σ B1 H1) {i : Nat} {c : Cel} {v : V} (hi : i < ρ1.length) (hn : ioAt ρ1 i = false) (hf : c.fl ≠ .io) (ok : COk K B1 H1 c v)
    (hnew : c.fl ≠ .sh → ∀ a, v = .ref a → New ρ σ H a ∧ ∀ j cj, i ≠ j → ρ1[j]? = some (some cj) → cj.fl ≠ .sh → σ[j]? ≠ some (some (.ref a))) (hst : c.fl ≠ .st := by simp) :
    Sim K (ρ1.set i (some c)) (σ.set i (some v)) B1 H1 ∧ Ext ρ σ B H (ρ1.set i (some c)) (σ.set i (some v)) B1 H1 := by
  have hl := S.len.lt hi (not_st hn)
  have st1 : ∀ (j : Nat) (d : D), (ρ1.set i (some c))[j]? = some (some (Cel.mk d .st)) → ρ1[j]? = some (some (Cel.mk d .st)) := fun j d h => st_set (fun d e => by cases e; exact hst rfl) h
  have ats : (σ.set i (some v))[i]? = some (some v) := by rw [List.getElem?_set, if_pos rfl, if_pos (by omega)]
  have oth : ∀ j, i ≠ j → (σ.set i (some v))[j]? = σ[j]? := fun j h => by rw [List.getElem?_set, if_neg h]
  refine ⟨⟨S.bh, (S.len.set hl).setσ, fun j cj hj hs => ?_, fun j k cj ck a hj hk nj nk ej ek => ?_, S.st.keep (Same.refl _) (fun _ _ _ h => h) (fun _ _ _ _ => rfl) st1 (by rw [List.length_set])⟩, ⟨x.bb, x.nw, x.kp, fun a ha => ?_, fun j cj hj hjf => ?_, fun j cj hj hjf => ?_, x.tx.st st1⟩⟩
  · rcases set_get hj with ⟨rfl, ec⟩ | ⟨ne, hj⟩
    · cases ec; exact ⟨v, ats, ok⟩
    · rw [oth j ne]; exact S.sl j cj hj hs
  · rcases set_get hj with ⟨rfl, ec⟩ | ⟨ne, hj⟩
    · rcases set_get hk with ⟨rfl, _⟩ | ⟨ne', hk⟩
      · rfl
      · cases ec
        rw [ats] at ej
        cases ej
        rw [oth k ne'] at ek
        exact absurd ek ((hnew nj a rfl).2 k ck ne' hk nk)
    · rcases set_get hk with ⟨rfl, ec⟩ | ⟨ne', hk⟩
      · cases ec
        rw [ats] at ek
        cases ek
        rw [oth j ne] at ej
        exact absurd ej ((hnew nk a rfl).2 j cj ne hj nj)
      · rw [oth j ne] at ej
        rw [oth k ne'] at ek
        exact S.dj j k cj ck a hj hk nj nk ej ek
  · obtain ⟨j, cj, hj, nj, ej⟩ := ha
    rcases set_get hj with ⟨rfl, ec⟩ | ⟨ne, hj⟩
    · cases ec
      rw [ats] at ej
      cases ej
      exact (hnew nj a rfl).1
    · rw [oth j ne] at ej
      exact x.sub a ⟨j, cj, hj, nj, ej⟩
  · obtain ⟨e1, c1, q1, q2⟩ := x.io j cj hj hjf
    have ne : i ≠ j := fun z => by subst z; exact not_io hn q1 q2
    exact ⟨(oth j ne).trans e1, c1, (set_other ne).trans q1, q2⟩
  · rcases set_get hj with ⟨rfl, ec⟩ | ⟨ne, hj⟩
    · cases ec; exact absurd hjf hf
    · exact x.oi j cj hj hjf
def setR (ρ : Rho) (i : Nat) (c : Cel) : RS := if i < ρ.length && !ioAt ρ i then .nx (ρ.set i (some c)) else .stuck
def setHd (ρ1 : Rho) (i : Nat) : Hd → RS
  | .sh d => setR ρ1 i ⟨d, .sh⟩
  | .fr d => setR ρ1 i ⟨d, .ow⟩
  | .bw j => match capH ρ1 (.bw j) with
    | some d => setR ρ1 i ⟨d, .sh⟩
    | none => .stuck
  | .sp _ _ => .stuck
def sSet (i : Nat) (fe : EF) : SF := fun ρ => bindES (fe ρ) fun h ρ1 => setHd ρ1 i h
theorem setR_ok {i : Nat} {c : Cel} (g : GoodS C ρ σ B H Ed (setR ρ1 i c)) : i < ρ1.length ∧ ioAt ρ1 i = false ∧ ∀ σ' B' H', Sim C.K (ρ1.set i (some c)) σ' B' H' → Ext ρ σ B H (ρ1.set i (some c)) σ' B' H' → Ed.nx σ' H' := by
  unfold setR at g
  split at g
  · rename_i h
    simp only [Bool.and_eq_true, decide_eq_true_eq, Bool.not_eq_true'] at h
    exact ⟨h.1, h.2, g⟩
  · exact g.elim
/-- storing what an expression gave -/
theorem put_hd (S1 : Sim C.K ρ1 σ B1 H1) (x1 : Ext ρ σ B H ρ1 σ B1 H1) {hd : Hd} {v : V} (y1 : HdOk C.K (New ρ σ H) ρ1 σ B1 H1 v hd) {i : Nat} (g : GoodS C ρ σ B H Ed (setHd ρ1 i hd)) : Ed.nx (σ.set i (some v)) H1 := by
  cases hd with
  | sh d =>
    obtain ⟨h1, h2, h3⟩ := setR_ok g
    obtain ⟨S2, x2⟩ := store_ok S1 x1 (c := ⟨d, .sh⟩) h1 h2 (by simp) (.inl ⟨rfl, y1⟩) fun z => absurd rfl z
    exact h3 _ _ _ S2 x2
  | fr d =>
    obtain ⟨h1, h2, h3⟩ := setR_ok g
    obtain ⟨a, rfl, q1, q2, q3, q4⟩ := y1
    obtain ⟨S2, x2⟩ := store_ok S1 x1 (c := ⟨d, .ow⟩) h1 h2 (by simp) (.inr ⟨by simp, a, rfl, q1, q2⟩) fun _ b e => by
      cases e
      exact ⟨q4, fun j cj _ hj nj ej => q3 ⟨j, cj, hj, nj, ej⟩⟩
    exact h3 _ _ _ S2 x2
  | bw j =>
    unfold setHd at g
    dsimp only at g
    split at g
    · rename_i d ed
      obtain ⟨h1, h2, h3⟩ := setR_ok g
      obtain ⟨S2, x2⟩ := store_ok S1 x1 (c := ⟨d, .sh⟩) h1 h2 (by simp) (.inl ⟨rfl, cap_bw S1 y1 ed⟩) fun z => absurd rfl z
      exact h3 _ _ _ S2 x2
    · exact g.elim
  | sp _ _ => exact g.elim
theorem lk_set {i : Nat} (l : LkE C te fe) : LkS C (tAsg te (gName i)) (sSet i fe) := fun ρ σ B H D S g =>
  l.bindS S g fun hd ρ1 v B1 H1 S1 x1 y1 g1 => put_hd S1 x1 y1 g1
theorem ss_set {i : Nat} {x : Str} {pos' : Pos} (hN : X.N.Nodup) (l : SE X C e te fe) (hi : X.N[i]? = some x := by rfl) (hx : Loc X.env.scope x := by first | exact Or.inl rfl | exact Or.inr rfl) (hs : swapsWith e (some (.Name x pos')) pos.line X.env = pure false := by rfl)
    (hf : X.fn x = true ∨ X.env.scope.names.lookup x = some .local := by first | exact .inl rfl | exact .inr rfl | assumption) : SS X C (.Assign [.Name x pos'] e pos) (tAsg te (gName i)) (sSet i fe) := ⟨ps_set hN hi hx l.pe hs hf, lk_set l.lk⟩
def LkG (C : Ct) (g : TG) (f : D → Rho → Option Rho) : Prop := ∀ ρ σ B H v d ρ' Q, Sim C.K ρ σ B H → Rp C.K B v d → f d ρ = some ρ' → (∀ σ' B' H', Sim C.K ρ' σ' B' H' → Ext ρ σ B H ρ' σ' B' H' → Q σ' H') → g v σ H Q
def LkGs (C : Ct) (g : TGs) (f : List D → Rho → Option Rho) : Prop := ∀ ρ σ B H vs ds ρ' Q, Sim C.K ρ σ B H → RpL C.K B vs ds → f ds ρ = some ρ' → (∀ σ' B' H', Sim C.K ρ' σ' B' H' → Ext ρ σ B H ρ' σ' B' H' → Q σ' H') → g vs σ H Q
structure SG (X : Cx) (C : Ct) (tg : Expr) (t : TG) (f : D → Rho → Option Rho) : Prop where
  pg : PG X tg t
  lk : LkG C t f
structure SGs (X : Cx) (C : Ct) (tg : List Expr) (t : TGs) (f : List D → Rho → Option Rho) : Prop where
  pg : PGs X tg t
  lk : LkGs C t f
def gN (i : Nat) : D → Rho → Option Rho := fun d ρ => if i < ρ.length && !ioAt ρ i then some (ρ.set i (some ⟨d, .sh⟩)) else none
theorem lk_gN {i : Nat} : LkG C (gName i) (gN i) := fun ρ σ B H v d ρ' Q S r e k => by
  unfold gN at e
  obtain ⟨h, rfl⟩ := if_some e
  simp only [Bool.and_eq_true, decide_eq_true_eq, Bool.not_eq_true'] at h
  obtain ⟨S2, x2⟩ := store_ok S Ext.refl (c := ⟨d, .sh⟩) h.1 h.2 (by simp) (.inl ⟨rfl, r⟩) fun z => absurd rfl z
  exact k _ _ _ S2 x2
def gsN : List D → Rho → Option Rho := fun ds ρ => match ds with
  | [] => some ρ
  | _ => none
def gsC (f : D → Rho → Option Rho) (g : List D → Rho → Option Rho) : List D → Rho → Option Rho := fun ds ρ => match ds with
  | d :: ds => (f d ρ).bind (g ds)
  | [] => none
def gT (n : Nat) (f : List D → Rho → Option Rho) : D → Rho → Option Rho := fun d ρ => match d with
  | .tuple ds => if ds.length = n then f ds ρ else none
  | .list ds => if ds.length = n then f ds ρ else none
  | _ => none
/-- a tuple or a list taken apart -/
def gTL (K : PySem.W.Frag) (n : Nat) (t : TGs) : TG := fun v σ H Q => gTup K n t v σ H Q ∨ gUnl K n t v σ H Q
theorem pg_tl {es : List Expr} {k : Nat} {t : TGs} {n : Nat} (hc : X.calm = true) (h : PGs X es t) (hn : (assignEach es X.env).length = n) (hst : (assignEach es X.env).findIdx? (·.1) = none) : PG X (.Tuple es k pos) (gTL X.K n t) :=
  ⟨fun pins s σ H v u Q I r hw => hw.elim ((pg_tup hc h hn hst).run pins s σ H v u Q I r) ((pg_unl hc h hn hst).run pins s σ H v u Q I r)⟩
theorem sg_name {i : Nat} {x : Str} (hN : X.N.Nodup) (hi : X.N[i]? = some x := by rfl) (hx : Loc X.env.scope x := by first | exact Or.inl rfl | exact Or.inr rfl)
    (hf : X.fn x = true ∨ X.env.scope.names.lookup x = some .local := by first | exact .inl rfl | exact .inr rfl | assumption) : SG X C (.Name x pos) (gName i) (gN i) := ⟨pg_name hN hi hx hf, lk_gN⟩
theorem sgs_nil : SGs X C [] gNil gsN := ⟨pgs_nil, fun ρ σ B H vs ds ρ' Q S r e k => by
  cases r with
  | nil => cases e; exact ⟨rfl, k _ _ _ S Ext.refl⟩
  | cons _ _ => cases e⟩
theorem lk_gC {tg : TG} {tgs : TGs} {f : D → Rho → Option Rho} {g : List D → Rho → Option Rho} (a : LkG C tg f) (b : LkGs C tgs g) : LkGs C (gCons tg tgs) (gsC f g) := fun ρ σ B H vs ds ρ' Q S r e k => by
  cases r with
  | nil => cases e
  | cons h t =>
    obtain ⟨ρ1, e1, e2⟩ := Option.bind_eq_some_iff.mp (show (f _ ρ).bind (g _) = some ρ' from e)
    refine ⟨_, _, rfl, a ρ σ B H _ _ ρ1 _ S h e1 fun σ1 B1 H1 S1 x1 => ?_⟩
    exact b ρ1 σ1 B1 H1 _ _ ρ' Q S1 (t.mono x1.bb) e2 fun σ2 B2 H2 S2 x2 => k _ _ _ S2 (x1.trans x2)
theorem sgs_cons {a : Expr} {as : List Expr} {tg : TG} {tgs : TGs} {f : D → Rho → Option Rho} {g : List D → Rho → Option Rho} (h : SG X C a tg f) (t : SGs X C as tgs g) (hs : (assignEach (a :: as) X.env).map (·.2) = assign a X.env :: (assignEach as X.env).map (·.2) := by rfl) : SGs X C (a :: as) (gCons tg tgs) (gsC f g) := ⟨pgs_cons h.pg t.pg hs, lk_gC h.lk t.lk⟩
theorem lk_gT {tgs : TGs} {n : Nat} {g : List D → Rho → Option Rho} (b : LkGs C tgs g) : LkG C (gTL C.K n tgs) (gT n g) := fun ρ σ B H v d ρ' Q S r e k => by
  cases d with
  | tuple ds =>
    replace e : (if ds.length = n then g ds ρ else none) = some ρ' := e
    split at e
    · obtain ⟨a, vs, rfl, ha, ra⟩ := r.tupE
      exact .inl ⟨a, vs, rfl, same_tT S.bh ha, by rw [ra.length]; assumption, b ρ σ B H vs ds ρ' Q S ra e k⟩
    · cases e
  | list ds =>
    replace e : (if ds.length = n then g ds ρ else none) = some ρ' := e
    split at e
    · cases r with
      | lst ha ra => exact .inr ⟨_, _, rfl, same_lT S.bh ha, by rw [ra.length]; assumption, b ρ σ B H _ ds ρ' Q S ra e k⟩
    · cases e
  | _ => cases e
theorem sg_tup {as : List Expr} {tgs : TGs} {n k : Nat} {g : List D → Rho → Option Rho} (hc : X.calm = true) (t : SGs X C as tgs g) (hk : X.K = C.K := by rfl) (hn : (assignEach as X.env).length = n := by rfl) (hst : (assignEach as X.env).findIdx? (·.1) = none := by rfl) : SG X C (.Tuple as k pos) (gTL C.K n tgs) (gT n g) := ⟨by rw [← hk]; exact pg_tl hc t.pg hn hst, lk_gT t.lk⟩
end
end GS
namespace GS
open PySem L2
/-- a list, a tuple, a text: whichever comes -/
def iSeq (K : PySem.W.Frag) (w : World) (te : TE) : TI := fun σ H R => te σ H fun x H1 =>
  (∃ a, x = .ref a ∧ (∃ xs, SqL K H1 a xs) ∧ R (Itl K a) H1) ∨ (∃ a, x = .ref a ∧ (∃ xs, SqT K H1 a xs) ∧ R (Itt K a) H1) ∨ (∃ z, x = .str z ∧ R (Its z) H1) ∨ ∃ a ep xs vs, x = .ref a ∧ H1 a = some (dX w a ep xs) ∧ Vals vs (xs.map (·.2.1)) ∧ R (Itx w a ep xs vs) H1
theorem pi_seq {X : Cx} {tg e : Expr} {te : TE} (he : PE X e te) : PI X tg e (iSeq X.K X.w te) := by
  refine ⟨fun pins s σ H R I h => ?_⟩
  refine thn (he.run pins s σ H _ I h) fun v s1 ⟨x, H1, I1, r1, q1⟩ => ?_
  rcases q1 with ⟨a, e, ⟨xs, hq⟩, q⟩ | ⟨a, e, ⟨xs, hq⟩, q⟩ | ⟨x, ex, q⟩ | ⟨d, ep, xs, vs, ex, hd, rv, q⟩
  · subst e
    cases r1
    obtain ⟨its, rv, p, hz⟩ := I1.list hq
    refine wpAny_pyIter_list p.isList ?_
    exact pi_one (tk := s1.toks) I1 _ (turn_list a _) ⟨_, Heap.get?_push_size _ rfl, rfl, rfl⟩ q
  · subst e
    cases r1
    obtain ⟨its, rv, p, hz⟩ := I1.tuple hq
    refine wpAny_pyIter_tuple (show s1.heap.IsTuple a its.toArray from p) ?_
    exact pi_one (tk := s1.toks) I1 _ (turn_tuple a _) ⟨_, Heap.get?_push_size _ rfl, rfl, rfl⟩ q
  · subst ex
    obtain ⟨t, rfl⟩ := r1
    cases ha : x.cps.all (· < 128)
    · exact wpAny_pyIter_wide ha (pi_one (tk := s1.toks) I1 _ (turn_str _ x t "str_iterator" (.inr rfl)) ⟨_, Heap.get?_push_size _ rfl, rfl, rfl⟩ q)
    · exact wpAny_pyIter_ascii ha (pi_one (tk := s1.toks) I1 _ (turn_str _ x t "str_ascii_iterator" (.inl rfl)) ⟨_, Heap.get?_push_size _ rfl, rfl, rfl⟩ q)
  · subst ex
    obtain rfl : v = Value.ref d := r1
    obtain ⟨es, hm, he, _, hs⟩ := dX_raw I1.hok hd
    have ls : es.size = vs.length := by rw [← Array.length_toList, he, List.length_map, rv.length, List.length_map]
    refine wpAny_pyIter_dict_raw hs hm (pi_one (tk := s1.toks) I1 _ (turn_dX _ rv) ⟨_, Heap.get?_push_size _ rfl, rfl, ?_⟩ q)
    rw [ls] <;> rfl
/-- what the i-th turn gives -/
def YOk (K : KW) (B : Hp) (ds : List D) : Nat → Hp → V → Hp → Prop := fun i H x H' => ∃ d, ds[i]? = some d ∧
  ((H' = H ∧ Rp K B x d) ∨ ∃ T o vs es, x = .ref T ∧ H T = none ∧ o.dict = none ∧ H' = upd H T (.frz o (.tup vs)) ∧ d = .tuple es ∧ RpL K B vs es)
def ItOk (K : KW) (B : Hp) (ds : List D) (J : It) : Prop := Walk J ds.length (fun H => SameT B H) (YOk K B ds)
inductive RI where | stuck | ok (ds : List D) (ρ : Rho) | exc (x : Xc) (ρ : Rho)
abbrev IF := Rho → RI
def GoodI (C : Ct) (ρ : Rho) (σ : St) (B H : Hp) (R : It → Hp → Prop) : RI → Prop
  | .stuck => False
  | .ok ds ρ' => ∀ J B' H', Sim C.K ρ' σ B' H' → Ext ρ σ B H ρ' σ B' H' → ItOk C.K B' ds J → R J H'
  | .exc x ρ' => ∀ cls dct B' H', Sim C.K ρ' σ B' H' → Ext ρ σ B H ρ' σ B' H' → XcOk C B' x cls dct → C.W cls dct σ H'
def LkI (C : Ct) (w : TI) (f : IF) : Prop := ∀ ρ σ B H R, Sim C.K ρ σ B H → GoodI C ρ σ B H R (f ρ) → w σ H R
structure SI (X : Cx) (C : Ct) (tg it : Expr) (w : TI) (f : IF) : Prop where
  pi : PI X tg it w
  lk : LkI C w f
def bindEI (r : RE) (k : Hd → Rho → RI) : RI := match r with
  | .stuck => .stuck
  | .ok h ρ => k h ρ
  | .exc x ρ => .exc x ρ
def items : D → Option (List D)
  | .list ds => some ds
  | .tuple ds => some ds
  | .str z => some (z.cps.toList.map fun c => .str ⟨#[c]⟩)
  | .dict ps => if xnB ps then none else some (ps.map (·.1))
  | _ => none
/-- for over a list, a tuple or a text that is shared -/
def iSq (fe : EF) : IF := fun ρ => bindEI (eCap fe ρ) fun h ρ1 => match h with
  | .sh d => match items d with
    | some ds => .ok ds ρ1
    | none => .stuck
  | _ => .stuck
section
variable {X : Cx} {C : Ct} {ρ ρ1 : Rho} {σ σ1 : St} {B H B1 H1 : Hp} {e tg : Expr} {te : TE} {fe : EF} {pos p : Pos}
theorem LkE.bindI (l : LkE C te fe) (S : Sim C.K ρ σ B H) {k : Hd → Rho → RI} {R : It → Hp → Prop} {Q' : VK} (g : GoodI C ρ σ B H R (bindEI (fe ρ) k))
    (h : ∀ hd ρ1 v B1 H1, Sim C.K ρ1 σ B1 H1 → Ext ρ σ B H ρ1 σ B1 H1 → HdOk C.K (New ρ σ H) ρ1 σ B1 H1 v hd → GoodI C ρ σ B H R (k hd ρ1) → Q' v H1) : te σ H Q' := by
  refine l ρ σ B H Q' S ?_
  cases e : fe ρ with
  | stuck => rw [e] at g; exact g
  | ok hd ρ1 => rw [e] at g; exact fun v B1 H1 s x y => h hd ρ1 v B1 H1 s x y g
  | exc x ρ1 => rw [e] at g; exact g
theorem it_list {K : KW} {a : Addr} {vs : List V} {ds : List D} (h : SqL K B a vs) (r : RpL K B vs ds) : ItOk K B ds (Itl K a) := by
  unfold ItOk
  rw [← r.length]
  refine (walk_list (K := K) (a := a) (xs := vs)).mono (fun H s => same_lT s h) fun i H x H' hi s y => ?_
  obtain ⟨rfl, hv⟩ := y
  obtain ⟨d, q1, q2⟩ := r.getV hv
  exact ⟨d, q1, .inl ⟨rfl, q2⟩⟩
theorem it_tup {K : KW} {a : Addr} {vs : List V} {ds : List D} (h : SqT K B a vs) (r : RpL K B vs ds) : ItOk K B ds (Itt K a) := by
  unfold ItOk
  rw [← r.length]
  refine (walk_tup (K := K) (a := a) (xs := vs)).mono (fun H s => same_tT s h) fun i H x H' hi s y => ?_
  obtain ⟨rfl, hv⟩ := y
  obtain ⟨d, q1, q2⟩ := r.getV hv
  exact ⟨d, q1, .inl ⟨rfl, q2⟩⟩
theorem it_str {K : KW} {z : Str} : ItOk K B (z.cps.toList.map fun c => .str ⟨#[c]⟩) (Its z) := by
  unfold ItOk
  rw [List.length_map, Array.length_toList]
  refine (walk_str (z := z)).mono (fun H _ => trivial) fun i H x H' hi s y => ?_
  obtain ⟨rfl, c, hc, rfl⟩ := y
  refine ⟨.str ⟨#[c]⟩, ?_, .inl ⟨rfl, .str _⟩⟩
  rw [List.getElem?_map, Array.getElem?_toList, hc]
  rfl
theorem rpx_keys {K : KW} {b : Bool} : ∀ {xs : List (NestedKey × Value × Value)} {ps : List (D × D)}, RpX K B b xs ps → ∃ vs, Vals vs (xs.map (·.2.1)) ∧ RpL K B vs (ps.map (·.1))
  | _, _, .nil => ⟨[], .nil, .nil⟩
  | _, _, .cons (kv := kv) _ _ h3 h4 _ _ h7 => by
    obtain ⟨vs, q1, q2⟩ := rpx_keys h7
    exact ⟨kv :: vs, .cons h4 q1, .cons h3 q2⟩
theorem it_dct {K : KW} {a : Addr} {ep : Nat} {xs : List (NestedKey × Value × Value)} {vs : List V} {ds : List D} (h : B a = some (dX K.w a ep xs)) (r : RpL K B vs ds) : ItOk K B ds (Itx K.w a ep xs vs) := by
  unfold ItOk
  rw [← r.length]
  refine walk_dX.mono (fun H s => s.at h (fun _ _ z => by unfold dX at z; cases z)) fun i H x H' hi s y => ?_
  obtain ⟨rfl, hv⟩ := y
  obtain ⟨d, q1, q2⟩ := r.getV hv
  exact ⟨d, q1, .inl ⟨rfl, q2⟩⟩
theorem lk_sq (l : LkE C te fe) : LkI C (iSeq C.K C.K.w te) (iSq fe) := fun ρ σ B H R S g => by
  refine l.cap.bindI S g fun hd ρ1 v B1 H1 S1 x1 y1 g1 => ?_
  cases hd with
  | sh d =>
    dsimp only at g1
    split at g1
    · rename_i ds ed
      cases d with
      | list es =>
        cases ed
        obtain ⟨a, vs, rfl, ha, ra⟩ := Rp.lstE y1
        exact .inl ⟨a, rfl, ⟨vs, same_lT S1.bh ha⟩, g1 _ _ _ S1 x1 (it_list ha ra)⟩
      | tuple es =>
        cases ed
        obtain ⟨a, vs, rfl, ha, ra⟩ := Rp.tupE y1
        exact .inr (.inl ⟨a, rfl, ⟨vs, same_tT S1.bh ha⟩, g1 _ _ _ S1 x1 (it_tup ha ra)⟩)
      | str z =>
        cases ed
        cases (show Rp C.K B1 v (.str z) from y1)
        exact .inr (.inr (.inl ⟨z, rfl, g1 _ _ _ S1 x1 it_str⟩))
      | dict ps =>
        obtain ⟨c, rfl⟩ : xnB ps = false ∧ ds = ps.map (·.1) := by
          replace ed : (if xnB ps then none else some (ps.map (·.1))) = some ds := ed
          split at ed
          · cases ed
          · rename_i c
            exact ⟨by simpa using c, (Option.some.inj ed).symm⟩
        cases (show Rp C.K B1 v (.dict ps) from y1) with
        | dct h r =>
          obtain ⟨vs, q1, q2⟩ := rpx_keys r
          exact .inr (.inr (.inr ⟨_, _, _, vs, rfl, S1.bh.at h (fun _ _ z => by unfold dX at z; cases z), q1, g1 _ _ _ S1 x1 (it_dct h q2)⟩))
        | exn _ _ _ _ => cases c
        | ptr _ _ => cases c
      | _ => cases ed
    · exact g1.elim
  | _ => exact g1.elim
theorem si_sq (l : SE X C e te fe) (hk : X.K = C.K := by rfl) (hw : X.w = C.K.w := by rfl) : SI X C tg e (iSeq C.K C.K.w te) (iSq fe) := ⟨by rw [← hk, ← hw]; exact pi_seq l.pe, lk_sq l.lk⟩
def rgD (lo : Int) (n : Nat) : List D := (List.range n).map fun (i : Nat) => PyData.int (lo + (i : Int))
theorem it_range {K : KW} {lo : Int} {n : Nat} : ItOk K B (rgD lo n) (Itr lo n) := by
  unfold ItOk rgD
  rw [List.length_map, List.length_range]
  refine (walk_range (lo := lo) (n := n)).mono (fun H _ => trivial) fun i H x H' hi s y => ?_
  obtain ⟨rfl, rfl⟩ := y
  refine ⟨.int (lo + i), ?_, .inl ⟨rfl, .int _⟩⟩
  rw [List.getElem?_map, List.getElem?_range hi]
  rfl
def okR (i : Int) : Bool := Nat.ble i.natAbs 1000000000
def iR1 (fe : EF) : IF := fun ρ => bindEI (eSet fe ρ) fun h ρ1 => match getH ρ1 h with
  | some (.int j) => if okR j then .ok (rgD 0 j.toNat) ρ1 else .stuck
  | _ => .stuck
theorem e62 : (2 : Int) ^ 62 = 4611686018427387904 := by decide +kernel
theorem okR_ok {i : Int} (h : okR i = true) : -(2 ^ 62) ≤ i ∧ i < 2 ^ 62 := by
  have := Nat.le_of_ble_eq_true h
  rw [e62]
  omega
theorem si_r1 (l : SE X C e te fe) (hm : X.mg "range" = none) (hg : Gl X "range" := by rfl) (hs : starEach [e] X.env = [(false, eval e X.env)] := by rfl) : SI X C tg (.Call (.Name "range" p) [e] [] pos) (iRng1 (tCons te tNil)) (iR1 fe) := ⟨pi_range1 hg hm (pa_cons l.pe pa_nil hs) hs, fun ρ σ B H R S g => by
  refine l.lk.set.bindI S g fun hd ρ1 v B1 H1 S1 x1 y1 g1 => ?_
  split at g1
  · rename_i j ej
    split at g1
    · rename_i ok
      obtain ⟨h1, h2⟩ := okR_ok ok
      exact ⟨j, by rw [(S1.tp y1 ej).int], h1, h2, g1 _ _ _ S1 x1 it_range⟩
    · exact g1.elim
  · exact g1.elim⟩
def iR2 (fa fb : EF) : IF := fun ρ => bindEI (eSet fa ρ) fun ha ρ1 => bindEI (eSet fb ρ1) fun hb ρ2 => match getH ρ2 ha, getH ρ2 hb with
  | some (.int i), some (.int j) => if okR i && okR j then .ok (rgD i (j - i).toNat) ρ2 else .stuck
  | _, _ => .stuck
theorem GoodI.ext (x : Ext ρ σ B H ρ1 σ B1 H1) {R : It → Hp → Prop} : ∀ {r : RI}, GoodI C ρ σ B H R r → GoodI C ρ1 σ B1 H1 R r
  | .stuck, g => g
  | .ok _ _, g => fun J B' H' s y z => g J B' H' s (x.trans y) z
  | .exc _ _, g => fun c d B' H' s y z => g c d B' H' s (x.trans y) z
theorem setl_setl (h : Hd) : setl (setl h) = setl h := by cases h <;> rfl
theorem set_set {fe : EF} {hd : Hd} (e : eSet fe ρ = .ok hd ρ1) : setl hd = hd := by
  unfold eSet bindE at e
  split at e
  · cases e
  · cases e
    exact setl_setl _
  · cases e
theorem LkE.setBindI (l : LkE C te fe) (S : Sim C.K ρ σ B H) {k : Hd → Rho → RI} {R : It → Hp → Prop} {Q' : VK} (g : GoodI C ρ σ B H R (bindEI (eSet fe ρ) k))
    (h : ∀ hd ρ1 v B1 H1, Sim C.K ρ1 σ B1 H1 → Ext ρ σ B H ρ1 σ B1 H1 → HdOk C.K (New ρ σ H) ρ1 σ B1 H1 v (setl hd) → GoodI C ρ1 σ B1 H1 R (k (setl hd) ρ1) → Q' v H1) : te σ H Q' := by
  refine l.set ρ σ B H Q' S ?_
  cases e : eSet fe ρ with
  | stuck => rw [e] at g; exact g
  | ok hd ρ1 =>
    rw [e] at g
    refine fun v B1 H1 s x y => h hd ρ1 v B1 H1 s x ?_ ?_
    · rw [set_set e]; exact y
    · rw [set_set e]; exact GoodI.ext x g
  | exc x ρ1 => rw [e] at g; exact g
theorem si_r2 {a b : Expr} {ta tb : TE} {fa fb : EF} (la : SE X C a ta fa) (lb : SE X C b tb fb) (hm : X.mg "range" = none) (hg : Gl X "range" := by rfl) (hs : starEach [a, b] X.env = [(false, eval a X.env), (false, eval b X.env)] := by rfl) (hs2 : starEach [b] X.env = [(false, eval b X.env)] := by rfl) :
    SI X C tg (.Call (.Name "range" p) [a, b] [] pos) (iRng2 (tCons ta (tCons tb tNil))) (iR2 fa fb) := ⟨pi_range2 hg hm (pa_cons la.pe (pa_cons lb.pe pa_nil hs2) (by rw [hs, hs2])) hs hs2, fun ρ σ B H R S g => by
  refine la.lk.setBindI S g fun ha ρ1 v B1 H1 S1 x1 y1 g1 => ?_
  refine lb.lk.setBindI S1 g1 fun hb ρ2 u B2 H2 S2 x2 y2 g2 => ?_
  split at g2
  · rename_i i j ei ej
    split at g2
    · rename_i ok
      rw [Bool.and_eq_true] at ok
      obtain ⟨h1, h2⟩ := okR_ok ok.1
      obtain ⟨h3, h4⟩ := okR_ok ok.2
      exact ⟨i, j, by rw [(S2.tp (N := fun _ => True) (HdOk.ext x2 y1) ei).int, (S2.tp y2 ej).int], ⟨h1, h2, h3, h4⟩, g2 _ _ _ S2 Ext.refl it_range⟩
    · exact g2.elim
  · exact g2.elim⟩
def forL (g : D → Rho → Option Rho) (b : SF) : List D → Rho → RS
  | [], ρ => .nx ρ
  | d :: ds, ρ => match g d ρ with
    | none => .stuck
    | some ρ1 => match b ρ1 with
      | .nx ρ2 => forL g b ds ρ2
      | .ct ρ2 => forL g b ds ρ2
      | .bk ρ2 => .nx ρ2
      | r => r
def sFor (fi : IF) (g : D → Rho → Option Rho) (b : SF) : SF := fun ρ => match fi ρ with
  | .stuck => .stuck
  | .exc x ρ1 => .exc x ρ1
  | .ok ds ρ1 => forL g b ds ρ1
theorem lk_for {w : TI} {tgt : TG} {tb : TS} {fi : IF} {g : D → Rho → Option Rho} {b : SF} (li : LkI C w fi) (lg : LkG C tgt g) (lb : LkS C tb b) : LkS C (tFor w tgt tb) (sFor fi g b) := fun ρ σ B H E S gd => by
  refine li ρ σ B H _ S ?_
  unfold sFor at gd
  cases e : fi ρ with
  | stuck => rw [e] at gd; exact gd
  | exc x ρ1 => rw [e] at gd; exact fun c d B' H' s x => gd c d σ B' H' s x
  | ok ds ρ1 =>
    rw [e] at gd
    replace gd : GoodS C ρ σ B H E (forL g b ds ρ1) := gd
    intro J B1 H1 S1 x1 ok
    refine for_it ok (fun i σ' H' => ∃ ρ' B', Sim C.K ρ' σ' B' H' ∧ Ext ρ σ B H ρ' σ' B' H' ∧ Same B1 B' ∧ GoodS C ρ σ B H E (forL g b (ds.drop i) ρ')) ⟨ρ1, B1, S1, x1, Same.refl _, gd⟩ (fun i σ' H' _ ⟨ρ', B', S', _, s', _⟩ => Same.transT s' S'.bh) ?_ ?_
    · rintro i v σ' H' H2 hi ⟨ρ', B', S', x', s', g'⟩ ⟨d, ed, y⟩
      have hd : ds.drop i = d :: ds.drop (i + 1) := by
        have := List.drop_eq_getElem_cons hi
        rw [this]
        congr 1
        exact Option.some.inj ((List.getElem?_eq_getElem hi).symm.trans ed)
      rw [hd] at g'
      have step : ∃ B2, Sim C.K ρ' σ' B2 H2 ∧ Ext ρ σ B H ρ' σ' B2 H2 ∧ Same B1 B2 ∧ Rp C.K B2 v d := by
        rcases y with ⟨rfl, r⟩ | ⟨T, o, vs, es, rfl, hT, ho, rfl, rfl, r⟩
        · exact ⟨B', S', x', s', r.mono s'⟩
        · obtain ⟨S2, x2⟩ := S'.newB hT (.frz o (.tup vs))
          exact ⟨_, S2, x'.trans x2, s'.trans x2.bb, .tup (XT.new ho) (r.mono (s'.trans x2.bb))⟩
      obtain ⟨B2, S2, x2, s2, r2⟩ := step
      unfold forL at g'
      cases eg : g d ρ' with
      | none => rw [eg] at g'; exact g'.elim
      | some ρ3 =>
        rw [eg] at g'
        refine lg ρ' σ' B2 H2 v d ρ3 _ S2 r2 eg fun σ3 B3 H3 S3 x3 => ?_
        refine lb ρ3 σ3 B3 H3 _ S3 ?_
        have x3' := x2.trans x3
        cases eb : b ρ3 with
        | stuck => simp only [eb] at g'; exact g'
        | nx ρ4 => simp only [eb] at g'; exact fun σ4 B4 H4 S4 x4 => ⟨ρ4, B4, S4, x3'.trans x4, (s2.trans x3.bb).trans x4.bb, g'⟩
        | ct ρ4 => simp only [eb] at g'; exact fun σ4 B4 H4 S4 x4 => ⟨ρ4, B4, S4, x3'.trans x4, (s2.trans x3.bb).trans x4.bb, g'⟩
        | bk ρ4 => simp only [eb] at g'; exact fun σ4 B4 H4 S4 x4 => g' σ4 B4 H4 S4 (x3'.trans x4)
        | rt h ρ4 => simp only [eb] at g'; exact GoodS.ext (r := .rt h ρ4) x3' g'
        | exc c ρ4 => simp only [eb] at g'; exact GoodS.ext (r := .exc c ρ4) x3' g'
    · rintro σ' H' ⟨ρ', B', S', x', _, g'⟩
      rw [List.drop_length] at g'
      exact g' σ' B' H' S' x'
theorem ss_for {it : Expr} {body : List Stmt} {w : TI} {tgt : TG} {tb : TS} {fi : IF} {g : D → Rho → Option Rho} {b : SF} (hp : PassesOwn (model X.prog X.w) X.A X.env X.xe) (hc : X.calm = true) (li : SI X C tg it w fi) (lg : SG X C tg tgt g) (lb : SSs X C body tb b)
    (hs : ∀ x, foldedSetIterable it X.env x = pure x := by intro _; rfl) : SS X C (.For tg it body [] pos) (tFor w tgt tb) (sFor fi g b) := ⟨ps_for hp hc li.pi lg.pg lb.ps hs, lk_for li.lk lg.lk lb.lk⟩
def wipeR (ρ : Rho) : List Nat → Rho
  | [] => ρ
  | v :: vs => (wipeR ρ vs).set v none
/-- the turns: acc what is made so far -/
def lcL (vs : List Nat) (g : D → Rho → Option Rho) (ft fe : EF) : List D → List D → Rho → RE
  | [], acc, ρ => .ok (.fr (.list acc)) ρ
  | d :: ds, acc, ρ => match g d ρ with
    | none => .stuck
    | some ρ1 => bindB (ft ρ1) fun c ρ2 => if c then bindE (eCap fe ρ2) fun h ρ3 => match h with
        | .sh y => if acc.length < sizeLine then lcL vs g ft fe ds (acc ++ [y]) (wipeR ρ3 vs) else .stuck
        | _ => .stuck
      else lcL vs g ft fe ds acc (wipeR ρ2 vs)
def eLc (vs : List Nat) (fi : IF) (g : D → Rho → Option Rho) (ft fe : EF) : EF := fun ρ => match fi ρ with
  | .stuck => .stuck
  | .exc x ρ1 => .exc x ρ1
  | .ok ds ρ1 => if vs.all fun i => !ioAt ρ1 i then lcL vs g ft fe ds [] (wipeR ρ1 vs) else .stuck
theorem wipeR_len (ρ : Rho) : ∀ vs : List Nat, (wipeR ρ vs).length = ρ.length
  | [] => rfl
  | v :: vs => by unfold wipeR; rw [List.length_set, wipeR_len ρ vs]
theorem wipeR_some {ρ : Rho} {i : Nat} {c : Cel} : ∀ {vs : List Nat}, (wipeR ρ vs)[i]? = some (some c) → ρ[i]? = some (some c) ∧ i ∉ vs
  | [], h => ⟨h, by simp⟩
  | v :: vs, h => by
    unfold wipeR at h
    rcases set_get h with ⟨_, ec⟩ | ⟨ne, h⟩
    · cases ec
    · obtain ⟨h1, h2⟩ := wipeR_some h
      exact ⟨h1, by simp only [List.mem_cons, not_or]; exact ⟨fun e => ne e.symm, h2⟩⟩
theorem wipeR_keep {ρ : Rho} {i : Nat} : ∀ {vs : List Nat}, i ∉ vs → (wipeR ρ vs)[i]? = ρ[i]?
  | [], _ => rfl
  | v :: vs, h => by
    simp only [List.mem_cons, not_or] at h
    unfold wipeR
    rw [set_other (fun e => h.1 e.symm)]
    exact wipeR_keep h.2
theorem wipe_keep {σ : St} {i : Nat} : ∀ {vs : List Nat}, i ∉ vs → (wipe σ vs)[i]? = σ[i]?
  | [], _ => rfl
  | v :: vs, h => by
    simp only [List.mem_cons, not_or] at h
    unfold wipe
    rw [List.getElem?_set, if_neg (fun e => h.1 e.symm)]
    exact wipe_keep h.2
/-- slots are forgotten on both sides -/
theorem Sim.wipe {K : KW} {σ' : St} (S : Sim K ρ σ B H) (vs : List Nat) (hst : ∀ i ∈ vs, ∀ d : D, ρ[i]? ≠ some (some (Cel.mk d .st))) (hl : σ'.length = σ.length) (he : ∀ i, i ∉ vs → σ'[i]? = σ[i]?) : Sim K (wipeR ρ vs) σ' B H := by
  refine ⟨S.bh, ⟨by rw [wipeR_len, hl]; exact S.len.le, fun i h1 h2 => by
    rw [wipeR_len] at h2
    obtain ⟨d, q⟩ := S.len.ex i (by omega) h2
    exact ⟨d, by rw [wipeR_keep fun m => hst i m d q]; exact q⟩⟩, fun i c h hs => ?_, fun i j ci cj a hi hj ni nj ei ej => ?_, S.st.keep (Same.refl B) (fun _ _ _ h => h) (fun _ _ _ _ => rfl) (fun _ _ h => (wipeR_some h).1) hl⟩
  · obtain ⟨h1, h2⟩ := wipeR_some h
    rw [he i h2]
    exact S.sl i c h1 hs
  · obtain ⟨h1, h2⟩ := wipeR_some hi
    obtain ⟨h3, h4⟩ := wipeR_some hj
    rw [he i h2] at ei
    rw [he j h4] at ej
    exact S.dj i j ci cj a h1 h3 ni nj ei ej
theorem Ext.wipe {σ' : St} (x : Ext ρ σ B H ρ1 σ1 B1 H1) (vs : List Nat) (hn : ∀ i ∈ vs, ∀ c, ρ[i]? = some (some c) → c.fl ≠ .io) (he : ∀ i, i ∉ vs → σ'[i]? = σ1[i]?) : Ext ρ σ B H (wipeR ρ1 vs) σ' B1 H1 := by
  refine ⟨x.bb, x.nw, x.kp, fun a ⟨i, c, h1, h2, h3⟩ => ?_, fun i c h1 h2 => ?_, fun i c h1 h2 => ?_, x.tx.st fun _ _ h => (wipeR_some h).1⟩
  · obtain ⟨q1, q2⟩ := wipeR_some h1
    rw [he i q2] at h3
    exact x.sub a ⟨i, c, q1, h2, h3⟩
  · have ni : i ∉ vs := fun z => hn i z c h1 h2
    obtain ⟨e1, c1, q1, q2⟩ := x.io i c h1 h2
    exact ⟨(he i ni).trans e1, c1, (wipeR_keep ni).trans q1, q2⟩
  · obtain ⟨q1, _⟩ := wipeR_some h1
    exact x.oi i c q1 h2
end
end GS
namespace GS
open PySem L2
section
variable {X : Cx} {C : Ct} {ρ ρ1 : Rho} {σ σ1 σ' : St} {B H B1 H1 : Hp} {e tg : Expr} {te : TE} {fe : EF} {pos p : Pos} {vs : List Nat} {K : KW}
theorem wipe_get (σ : St) (j : Nat) : ∀ vs : List Nat, (wipe σ vs)[j]? = if j ∈ vs then (if j < σ.length then some none else none) else σ[j]?
  | [] => by simp [wipe]
  | v :: vs => by
    unfold wipe
    rw [List.getElem?_set, wipe_get σ j vs, wipe_length]
    by_cases h : v = j
    · subst h; simp
    · have h' : ¬ j = v := fun z => h z.symm
      simp [h, h']
theorem wipe_set {i : Nat} {x : Option V} (h : i ∈ vs) : wipe (σ.set i x) vs = wipe σ vs := by
  apply List.ext_getElem?
  intro j
  rw [wipe_get, wipe_get, List.length_set]
  by_cases hj : j ∈ vs
  · simp [hj]
  · rw [if_neg hj, if_neg hj, List.getElem?_set, if_neg (fun (z : i = j) => hj (z ▸ h))]
theorem of_wipe (h : wipe σ1 vs = wipe σ vs) : σ1.length = σ.length ∧ ∀ i, i ∉ vs → σ1[i]? = σ[i]? := by
  refine ⟨by rw [← wipe_length σ1 vs, h, wipe_length], fun i hi => ?_⟩
  rw [← wipe_keep hi, h, wipe_keep hi]
/-- targets of a comprehension -/
def LkGw (C : Ct) (vs : List Nat) (g : TG) (f : D → Rho → Option Rho) : Prop := ∀ ρ σ B H v d ρ' Q, Sim C.K ρ σ B H → Rp C.K B v d → f d ρ = some ρ' → (∀ σ' B' H', Sim C.K ρ' σ' B' H' → Ext ρ σ B H ρ' σ' B' H' → wipe σ' vs = wipe σ vs → Q σ' H') → g v σ H Q
def LkGws (C : Ct) (vs : List Nat) (g : TGs) (f : List D → Rho → Option Rho) : Prop := ∀ ρ σ B H ws ds ρ' Q, Sim C.K ρ σ B H → RpL C.K B ws ds → f ds ρ = some ρ' → (∀ σ' B' H', Sim C.K ρ' σ' B' H' → Ext ρ σ B H ρ' σ' B' H' → wipe σ' vs = wipe σ vs → Q σ' H') → g ws σ H Q
theorem lkw_N {i : Nat} (hi : i ∈ vs) : LkGw C vs (gName i) (gN i) := fun ρ σ B H v d ρ' Q S r e k => by
  unfold gN at e
  obtain ⟨h, rfl⟩ := if_some e
  simp only [Bool.and_eq_true, decide_eq_true_eq, Bool.not_eq_true'] at h
  obtain ⟨S2, x2⟩ := store_ok S Ext.refl (c := ⟨d, .sh⟩) h.1 h.2 (by simp) (.inl ⟨rfl, r⟩) fun z => absurd rfl z
  exact k _ _ _ S2 x2 (wipe_set hi)
theorem lkw_nil : LkGws C vs gNil gsN := fun ρ σ B H ws ds ρ' Q S r e k => by
  cases r with
  | nil => cases e; exact ⟨rfl, k _ _ _ S Ext.refl rfl⟩
  | cons _ _ => cases e
theorem lkw_C {tg : TG} {tgs : TGs} {f : D → Rho → Option Rho} {g : List D → Rho → Option Rho} (a : LkGw C vs tg f) (b : LkGws C vs tgs g) : LkGws C vs (gCons tg tgs) (gsC f g) := fun ρ σ B H ws ds ρ' Q S r e k => by
  cases r with
  | nil => cases e
  | cons h t =>
    obtain ⟨ρ1, e1, e2⟩ := Option.bind_eq_some_iff.mp (show (f _ ρ).bind (g _) = some ρ' from e)
    refine ⟨_, _, rfl, a ρ σ B H _ _ ρ1 _ S h e1 fun σ1 B1 H1 S1 x1 w1 => ?_⟩
    exact b ρ1 σ1 B1 H1 _ _ ρ' Q S1 (t.mono x1.bb) e2 fun σ2 B2 H2 S2 x2 w2 => k _ _ _ S2 (x1.trans x2) (w2.trans w1)
theorem lkw_T {tgs : TGs} {n : Nat} {g : List D → Rho → Option Rho} (b : LkGws C vs tgs g) : LkGw C vs (gTL C.K n tgs) (gT n g) := fun ρ σ B H v d ρ' Q S r e k => by
  cases d with
  | tuple ds =>
    replace e : (if ds.length = n then g ds ρ else none) = some ρ' := e
    split at e
    · obtain ⟨a, ws, rfl, ha, ra⟩ := r.tupE
      exact .inl ⟨a, ws, rfl, same_tT S.bh ha, by rw [ra.length]; assumption, b ρ σ B H ws ds ρ' Q S ra e k⟩
    · cases e
  | list ds =>
    replace e : (if ds.length = n then g ds ρ else none) = some ρ' := e
    split at e
    · cases r with
      | lst ha ra => exact .inr ⟨_, _, rfl, same_lT S.bh ha, by rw [ra.length]; assumption, b ρ σ B H _ ds ρ' Q S ra e k⟩
    · cases e
  | _ => cases e
/-- without exceptions -/
def eNox (f : EF) : EF := fun ρ => match f ρ with
  | .exc _ _ => .stuck
  | r => r
abbrev Ct.nox (C : Ct) : Ct := { C with W := fun _ _ _ _ => False }
theorem LkE.ofNox {t : TE} {f : EF} (l : LkE C.nox t f) : LkE C t (eNox f) := fun ρ σ B H Q S g => by
  refine l ρ σ B H Q S ?_
  unfold eNox at g
  cases e : f ρ with
  | stuck => rw [e] at g; exact g
  | ok h ρ1 => rw [e] at g; exact g
  | exc x ρ1 => rw [e] at g; exact g.elim
theorem LkT.ofNox {t : TT} {f : EF} (l : LkT C.nox t f) : LkT C t (eNox f) := fun ρ σ B H Q S g => by
  refine l ρ σ B H Q S ?_
  unfold eNox at g
  cases e : f ρ with
  | stuck => rw [e] at g; exact g
  | ok h ρ1 =>
    rw [e] at g
    cases h with
    | sh d => cases d <;> exact g
    | _ => exact g
  | exc x ρ1 => rw [e] at g; exact g.elim
theorem eNox_ne (f : EF) (ρ : Rho) {x : Xc} {ρ1 : Rho} : eNox f ρ ≠ .exc x ρ1 := fun h => by
  unfold eNox at h
  split at h
  · cases h
  · rename_i z; exact z _ _ h
theorem cap_nox_ne (f : EF) (ρ : Rho) {x : Xc} {ρ1 : Rho} : eCap (eNox f) ρ ≠ .exc x ρ1 := fun h => by
  unfold eCap bindE at h
  split at h
  · cases h
  · dsimp only at h
    split at h <;> cases h
  · rename_i e; exact eNox_ne _ _ e
def NoV (ρ : Rho) (vs : List Nat) : Prop := ∀ (i : Nat) (c : Cel), ρ[i]? = some (some c) → i ∉ vs
theorem noV_wipe : NoV (wipeR ρ vs) vs := fun i c h => (wipeR_some h).2
theorem Sim.swap (S : Sim K ρ σ B H) (n : NoV ρ vs) (hl : σ'.length = σ.length) (he : ∀ i, i ∉ vs → σ'[i]? = σ[i]?) : Sim K ρ σ' B H := by
  refine ⟨S.bh, S.len.of hl, fun i c h hs => ?_, fun i j ci cj a hi hj ni nj ei ej => ?_, S.st.keep (Same.refl B) (fun _ _ _ h => h) (fun _ _ _ _ => rfl) (fun _ _ h => h) hl⟩
  · rw [he i (n i c h)]; exact S.sl i c h hs
  · rw [he i (n i ci hi)] at ei
    rw [he j (n j cj hj)] at ej
    exact S.dj i j ci cj a hi hj ni nj ei ej
theorem Sim.tweak (S : Sim K ρ σ B H) {q : Addr} {o : HO} (hb : B q = none) (hn : ¬ OwnA ρ σ q) : Sim K ρ σ B (upd H q o) := by
  refine ⟨fun b u z => ?_, S.len, fun i c h hs => ?_, S.dj, S.st.keep (Same.refl B) (fun _ _ _ h => h) (fun a s g e => upd_ne (ne_of_none e hb)) (fun _ _ h => h) rfl⟩
  · rw [upd_ne (ne_of_none z hb)]; exact S.bh _ _ z
  · obtain ⟨v, ev, ok⟩ := S.sl i c h hs
    refine ⟨v, ev, ok.mono (Same.refl B) fun a hv ha ho hf => ⟨ha, ?_⟩⟩
    have ne : a ≠ q := fun z => by subst z hv; exact hn ⟨i, c, h, hf, ev⟩
    rw [upd_ne ne]
theorem Ext.tweak (x : Ext ρ σ B H ρ1 σ1 B1 H1) {q : Addr} {o : HO} (hn : New ρ σ H q) : Ext ρ σ B H ρ1 σ1 B1 (upd H1 q o) := by
  refine ⟨x.bb, x.nw, fun a u h n => ?_, x.sub, x.io, x.oi, x.tx⟩
  have ne : a ≠ q := fun z => by
    subst z
    rcases hn with z | z
    · rw [h] at z; cases z
    · exact n z
  rw [upd_ne ne]
  exact x.kp a u h n
theorem OwnA.swap {a : Addr} (n : NoV ρ vs) (he : ∀ i, i ∉ vs → σ'[i]? = σ[i]?) (h : OwnA ρ σ' a) : OwnA ρ σ a := by
  obtain ⟨i, c, h1, h2, h3⟩ := h
  exact ⟨i, c, h1, h2, (he i (n i c h1)).symm.trans h3⟩
theorem Ext.swapL (x : Ext ρ σ' B H ρ1 σ1 B1 H1) (n : NoV ρ vs) (he : ∀ i, i ∉ vs → σ'[i]? = σ[i]?) (ho : ∀ (i : Nat) c, ρ[i]? = some (some c) → c.fl = .io → σ1[i]? = σ[i]?) : Ext ρ σ B H ρ1 σ1 B1 H1 := by
  have own : ∀ a, OwnA ρ σ' a → OwnA ρ σ a := fun a h => h.swap n he
  have own' : ∀ a, OwnA ρ σ a → OwnA ρ σ' a := fun a h => h.swap n fun i hi => (he i hi).symm
  exact ⟨x.bb, fun a o h => (x.nw a o h).imp id fun z => z.elim .inl fun z => .inr (own a z), fun a o h z => x.kp a o h (fun w => z (own a w)), fun a h => (x.sub a h).elim .inl fun z => .inr (own a z),
    fun i c h1 h2 => ⟨ho i c h1 h2, (x.io i c h1 h2).2⟩, x.oi, ⟨fun a h => (x.tx.tk a h).imp id fun z => z.elim .inl fun z => .inr (own a z), x.tx.tn, x.tx.kt⟩⟩
theorem lk_lc {w : TI} {tgt : TG} {tt : TT} {fi : IF} {g : D → Rho → Option Rho} {ft : EF} (li : LkI C w fi) (lg : LkGw C vs tgt g) (lt : LkT C.nox tt ft) (le : LkE C.nox te fe) : LkE C (tLc w tgt tt te vs) (eLc vs fi g (eNox ft) (eNox fe)) := fun ρ σ B H Q S gd => by
  have lt' := lt.ofNox
  have le' := le.ofNox
  refine li ρ σ B H _ S ?_
  unfold eLc at gd
  cases e : fi ρ with
  | stuck => rw [e] at gd; exact gd
  | exc x ρ1 => rw [e] at gd; exact gd
  | ok ds ρ1 =>
    rw [e] at gd
    replace gd : GoodE C ρ σ B H Q (if vs.all fun i => !ioAt ρ1 i then lcL vs g (eNox ft) (eNox fe) ds [] (wipeR ρ1 vs) else .stuck) := gd
    by_cases hio : (vs.all fun i => !ioAt ρ1 i) = true
    case neg => rw [if_neg hio] at gd; exact gd.elim
    rw [if_pos hio] at gd
    intro J B1 H1 S1 x1 ok Dd hD
    have hio' : ∀ i ∈ vs, ∀ c, ρ1[i]? = some (some c) → c.fl ≠ .io := fun i hi c hc => by
      have := List.all_eq_true.mp hio i hi
      exact not_io (by simpa using this) hc
    have hst' : ∀ i ∈ vs, ∀ d : D, ρ1[i]? ≠ some (some (Cel.mk d .st)) := fun i hi d hc => by
      have := List.all_eq_true.mp hio i hi
      exact not_st (by simpa using this) d hc
    have hio0 : ∀ i ∈ vs, ∀ c, ρ[i]? = some (some c) → c.fl ≠ .io := fun i hi c hc hf => by
      obtain ⟨_, c', q1, q2⟩ := x1.io i c hc hf
      exact hio' i hi c' q1 q2
    obtain ⟨bD, nD⟩ := S1.free hD
    have newD : New ρ σ H Dd := x1.back (.inl hD)
    have wk : ∀ i, i ∉ vs → (wipe σ vs)[i]? = σ[i]? := fun i hi => wipe_keep hi
    have wl : (wipe σ vs).length = σ.length := wipe_length σ vs
    -- the start
    have S0 : Sim C.K (wipeR ρ1 vs) σ B1 (upd H1 Dd (.lst [])) := (S1.wipe vs hst' rfl fun _ _ => rfl).tweak bD fun ⟨i, c, h1, h2, h3⟩ => nD ⟨i, c, (wipeR_some h1).1, h2, h3⟩
    have x0 : Ext ρ σ B H (wipeR ρ1 vs) σ B1 (upd H1 Dd (.lst [])) := (x1.wipe vs hio0 fun _ _ => rfl).tweak newD
    refine lc_it ok (fun i Hc => ∃ ρ' B' vacc acc, Sim C.K ρ' σ B' Hc ∧ NoV ρ' vs ∧ Ext ρ σ B H ρ' σ B' Hc ∧ Same B1 B' ∧ Hc Dd = some (.lst vacc) ∧ B' Dd = none ∧ ¬ OwnA ρ' σ Dd ∧ RpL C.K B' vacc acc ∧ GoodE C ρ σ B H Q (lcL vs g (eNox ft) (eNox fe) (ds.drop i) acc ρ'))
      ⟨wipeR ρ1 vs, B1, [], [], S0, noV_wipe, x0, Same.refl _, upd_same, bD, fun ⟨i, c, h1, h2, h3⟩ => nD ⟨i, c, (wipeR_some h1).1, h2, h3⟩, .nil, gd⟩ (fun i Hc _ ⟨ρ', B', _, _, S', _, _, s', _⟩ => Same.transT s' S'.bh) ?_ ?_
    · rintro i v Hc H2 hi ⟨ρ', B', vacc, acc, S', nv, x', s', hacc, bacc, nacc, racc, g'⟩ ⟨d, ed, y⟩
      have hd : ds.drop i = d :: ds.drop (i + 1) := by
        have := List.drop_eq_getElem_cons hi
        rw [this]
        congr 1
        exact Option.some.inj ((List.getElem?_eq_getElem hi).symm.trans ed)
      rw [hd] at g'
      -- the turn's item
      have step : ∃ B2, Sim C.K ρ' σ B2 H2 ∧ Ext ρ σ B H ρ' σ B2 H2 ∧ Same B1 B2 ∧ Rp C.K B2 v d ∧ H2 Dd = some (.lst vacc) ∧ B2 Dd = none ∧ RpL C.K B2 vacc acc := by
        rcases y with ⟨rfl, r⟩ | ⟨T, o, ws, es, rfl, hT, ho, rfl, rfl, r⟩
        · exact ⟨B', S', x', s', r.mono s', hacc, bacc, racc⟩
        · obtain ⟨S2, x2⟩ := S'.newB hT (.frz o (.tup ws))
          have ne : Dd ≠ T := ne_of_none hacc hT
          exact ⟨_, S2, x'.trans x2, s'.trans x2.bb, .tup (XT.new ho) (r.mono (s'.trans x2.bb)), by rw [upd_ne ne]; exact hacc, by rw [upd_ne ne]; exact bacc, racc.mono x2.bb⟩
      obtain ⟨B2, S2, x2, s2, r2, hacc2, bacc2, racc2⟩ := step
      unfold lcL at g'
      cases eg : g d ρ' with
      | none => rw [eg] at g'; exact g'.elim
      | some ρ3 =>
        rw [eg] at g'
        have S2w : Sim C.K ρ' (wipe σ vs) B2 H2 := S2.swap nv wl wk
        refine lg ρ' (wipe σ vs) B2 H2 v d ρ3 _ S2w r2 eg fun σ3 B3 H3 S3 x3 w3 => ?_
        have w3' : wipe σ3 vs = wipe σ vs := by
          rw [w3]
          apply List.ext_getElem?
          intro j
          rw [wipe_get, wl, wipe_get]
          by_cases hj : j ∈ vs <;> simp [hj]
        obtain ⟨l3, k3⟩ := of_wipe w3'
        refine ⟨w3', ?_⟩
        have nacc' : ¬ OwnA ρ' (wipe σ vs) Dd := fun z => nacc (z.swap nv wk)
        obtain ⟨hacc3, bacc3, nacc3⟩ := x3.keepN hacc2 bacc2 nacc'
        -- from the start to here, at σ3
        have x3s : Ext ρ σ B H ρ3 σ3 B3 H3 := x2.trans (x3.swapL nv wk fun j c h1 h2 => k3 j (nv j c h1))
        dsimp only at g'
        refine lt' ρ3 σ3 B3 H3 _ S3 ?_
        cases et : eNox ft ρ3 with
        | stuck => rw [et] at g'; exact g'.elim
        | exc c ρ4 => exact absurd et (eNox_ne _ _)
        | ok h ρ4 =>
          rw [et] at g'
          cases h with
          | fr _ => exact g'.elim
          | bw _ => exact g'.elim
          | sp _ _ => exact g'.elim
          | sh dd =>
            cases dd with
            | bool b =>
              replace g' : GoodE C ρ σ B H Q (if b then bindE (eCap (eNox fe) ρ4) fun h ρ3 => match h with
                | .sh y => if acc.length < sizeLine then lcL vs g (eNox ft) (eNox fe) (ds.drop (i + 1)) (acc ++ [y]) (wipeR ρ3 vs) else .stuck
                | _ => .stuck
                else lcL vs g (eNox ft) (eNox fe) (ds.drop (i + 1)) acc (wipeR ρ4 vs)) := g'
              intro B4 H4 S4 x4
              obtain ⟨hacc4, bacc4, nacc4⟩ := x4.keepN hacc3 bacc3 nacc3
              have x4s : Ext ρ σ B H ρ4 σ3 B4 H4 := x3s.trans x4
              have racc4 := (racc2.mono x3.bb).mono x4.bb
              have hst4 : ∀ i ∈ vs, ∀ d : D, ρ4[i]? ≠ some (some (Cel.mk d .st)) := fun i hi d => S4.noSt (x3.trans x4).tx (fun d q => nv i _ q hi) d
              have s4 : Same B1 B4 := (s2.trans x3.bb).trans x4.bb
              cases b with
              | false =>
                rw [if_neg Bool.false_ne_true] at g' ⊢
                exact ⟨wipeR ρ4 vs, B4, vacc, acc, S4.wipe vs hst4 l3.symm fun j hj => (k3 j hj).symm, noV_wipe, x4s.wipe vs hio0 fun j hj => (k3 j hj).symm, s4, hacc4, bacc4,
                  fun ⟨j, c, h1, h2, h3⟩ => nacc4 ⟨j, c, (wipeR_some h1).1, h2, (k3 j (wipeR_some h1).2).trans h3⟩, racc4, g'⟩
              | true =>
                rw [if_pos rfl] at g' ⊢
                refine le'.cap ρ4 σ3 B4 H4 _ S4 ?_
                cases ee : eCap (eNox fe) ρ4 with
                | stuck => rw [ee] at g'; exact g'.elim
                | exc c ρ5 => exact absurd ee (cap_nox_ne _ _)
                | ok h ρ5 =>
                  rw [ee] at g'
                  cases h with
                  | fr _ => exact g'.elim
                  | bw _ => exact g'.elim
                  | sp _ _ => exact g'.elim
                  | sh y =>
                    replace g' : GoodE C ρ σ B H Q (if acc.length < sizeLine then lcL vs g (eNox ft) (eNox fe) (ds.drop (i + 1)) (acc ++ [y]) (wipeR ρ5 vs) else .stuck) := g'
                    intro u B5 H5 S5 x5 y5
                    obtain ⟨hacc5, bacc5, nacc5⟩ := x5.keepN hacc4 bacc4 nacc4
                    by_cases hsz : acc.length < sizeLine
                    case neg => rw [if_neg hsz] at g'; exact g'.elim
                    rw [if_pos hsz] at g'
                    have nown : ¬ OwnA (wipeR ρ5 vs) σ Dd := fun ⟨j, c, h1, h2, h3⟩ => nacc5 ⟨j, c, (wipeR_some h1).1, h2, (k3 j (wipeR_some h1).2).trans h3⟩
                    refine ⟨vacc, hacc5, by rw [racc.length]; exact hsz, wipeR ρ5 vs, B5, vacc ++ [u], acc ++ [y], (S5.wipe vs (fun i hi d => S5.noSt ((x3.trans x4).trans x5).tx (fun d q => nv i _ q hi) d) l3.symm fun j hj => (k3 j hj).symm).tweak bacc5 nown, noV_wipe,
                      ((x4s.trans x5).wipe vs hio0 fun j hj => (k3 j hj).symm).tweak newD, s4.trans x5.bb, upd_same, bacc5, nown, (racc4.mono x5.bb).append (.cons y5 .nil), g'⟩
            | _ => exact g'.elim
    · rintro Hc ⟨ρ', B', vacc, acc, S', nv, x', s', hacc, bacc, nacc, racc, g'⟩
      rw [List.drop_length] at g'
      exact g' _ B' Hc S' x' ⟨Dd, rfl, bacc, ⟨vacc, hacc, racc⟩, nacc, newD⟩
/-- a comprehension with one for -/
theorem se_lc {elt it : Expr} {ifs : List Expr} {scope : Scope} {own : List (Str × Nat)} {w : TI} {tgt : TG} {tt : TT} {fi : IF} {g : D → Rho → Option Rho} {ft : EF} (hc : X.calm = true) (hN : X.N.Nodup) (li : SI X C tg it w fi) (ok : BlkOk X.N X.env.scope scope own)
    (hg : ∀ (s : Shared) (H : Hp) (c : Addr) (cl : List (Str × Addr)) (fp : List Addr), PG (X.blk s H scope (compEnvC scope cl c X.env) fp) tg tgt) (lg : LkGw C (own.map (·.2)) tgt g)
    (ht : ∀ (s : Shared) (H : Hp) (c : Addr) (cl : List (Str × Addr)) (fp : List Addr), PTs (X.blk s H scope (compEnvC scope cl c X.env) fp) ifs tt) (lt : LkT C.nox tt ft)
    (he : ∀ (s : Shared) (H : Hp) (c : Addr) (cl : List (Str × Addr)) (fp : List Addr), PE (X.blk s H scope (compEnvC scope cl c X.env) fp) elt te) (le : LkE C.nox te fe)
    (hs : ∀ x, foldedSetIterable it X.env x = pure x := by intro _; rfl) : SE X C (.ListComp elt [⟨tg, it, ifs, 0⟩] scope pos) (tLc w tgt tt te (own.map (·.2))) (eLc (own.map (·.2)) fi g (eNox ft) (eNox fe)) :=
  ⟨pe_lc hc hN li.pi ok hg ht he hs, lk_lc li.lk lg lt le⟩
end
end GS
namespace GS
open PySem L2
section
variable {X : Cx} {C : Ct} {ρ ρ1 : Rho} {σ σ1 σ' : St} {B H B1 H1 : Hp} {e tg : Expr} {te : TE} {fe : EF} {pos p : Pos} {vs : List Nat} {K : KW}
theorem Sim.mut (S : Sim K ρ σ B H) {i : Nat} {c : Cel} {a : Addr} {o : HO} {d : D} (hi : ρ[i]? = some (some c)) (hf : c.fl ≠ .sh) (ha : σ[i]? = some (some (.ref a))) (ow : Ow K B a (some o) d) :
    Sim K (ρ.set i (some ⟨d, c.fl⟩)) σ B (upd H a o) ∧ Ext ρ σ B H (ρ.set i (some ⟨d, c.fl⟩)) σ B (upd H a o) := by
  have nst := S.nst hi ha
  obtain ⟨v, ev, ok⟩ := S.sl i c hi nst
  rw [ha] at ev
  cases ev
  rcases ok with ⟨z, _⟩ | ⟨_, b, eb, hb, _⟩
  · exact absurd z hf
  cases eb
  have hs : ∀ (j : Nat) (dd : D), (ρ.set i (some ⟨d, c.fl⟩))[j]? = some (some (Cel.mk dd .st)) → ρ[j]? = some (some (Cel.mk dd .st)) := fun j dd h => st_set (fun d' z => nst (by injection z with z; injection z)) h
  refine ⟨⟨fun b u z => ?_, S.len.set (S.ltσ hi nst), fun j cj hj hjn => ?_, fun j k cj ck b hj hk nj nk ej ek => ?_, S.st.keep (Same.refl B) (fun _ _ _ h => h) (fun b s g z => by rw [upd_ne (ne_of_none z hb)]) hs rfl⟩, ⟨Same.refl B, fun b u z => .inl z, fun b u z n => ?_, fun b z => ?_, fun j cj hj hjf => ?_, fun j cj hj hjf => ?_, .r hs⟩⟩
  · rw [upd_ne (ne_of_none z hb)]; exact S.bh _ _ z
  · rcases set_get hj with ⟨rfl, ec⟩ | ⟨ne, hj⟩
    · cases ec
      exact ⟨.ref a, ha, .inr ⟨hf, a, rfl, hb, by rw [upd_same]; exact ow⟩⟩
    · obtain ⟨v, ev, ok⟩ := S.sl j cj hj hjn
      refine ⟨v, ev, ok.mono (Same.refl B) fun b hv hb' ho' hf' => ⟨hb', ?_⟩⟩
      have nb : b ≠ a := fun z => by
        subst z hv
        exact ne (S.dj i j c cj b hi hj hf hf' ha ev)
      rw [upd_ne nb]
  · have f1 : ∃ c1, ρ[j]? = some (some c1) ∧ c1.fl ≠ .sh := by
      rcases set_get hj with ⟨rfl, ec⟩ | ⟨_, hj⟩
      · cases ec; exact ⟨c, hi, hf⟩
      · exact ⟨cj, hj, nj⟩
    have f2 : ∃ c1, ρ[k]? = some (some c1) ∧ c1.fl ≠ .sh := by
      rcases set_get hk with ⟨rfl, ec⟩ | ⟨_, hk⟩
      · cases ec; exact ⟨c, hi, hf⟩
      · exact ⟨ck, hk, nk⟩
    obtain ⟨c1, a1, a2⟩ := f1
    obtain ⟨c2, b1, b2⟩ := f2
    exact S.dj j k c1 c2 b a1 b1 a2 b2 ej ek
  · have nb : b ≠ a := fun q => by subst q; exact n ⟨i, c, hi, hf, ha⟩
    rw [upd_ne nb]; exact .inl z
  · obtain ⟨j, cj, hj, nj, ej⟩ := z
    rcases set_get hj with ⟨rfl, ec⟩ | ⟨_, hj⟩
    · cases ec; exact .inr ⟨i, c, hi, hf, ej⟩
    · exact .inr ⟨j, cj, hj, nj, ej⟩
  · by_cases hij : i = j
    · subst hij
      rw [hi] at hj
      cases hj
      exact ⟨rfl, _, set_at (lt_of hi), hjf⟩
    · exact ⟨rfl, cj, by rw [set_other hij]; exact hj, hjf⟩
  · rcases set_get hj with ⟨rfl, ec⟩ | ⟨_, hj⟩
    · cases ec; exact ⟨c, hi, hjf⟩
    · exact ⟨cj, hj, hjf⟩
/-- the object of an owned slot -/
theorem Sim.own (S : Sim K ρ σ B H) {i : Nat} {c : Cel} (hi : ρ[i]? = some (some c)) (hf : c.fl ≠ .sh) (hn : c.fl ≠ .st) : ∃ a, σ[i]? = some (some (.ref a)) ∧ B a = none ∧ Ow K B a (H a) c.d := by
  obtain ⟨v, ev, ok⟩ := S.sl i c hi hn
  rcases ok with ⟨z, _⟩ | ⟨_, b, rfl, hb, ho⟩
  · exact absurd z hf
  · exact ⟨b, ev, hb, ho⟩
/-- a slot that may be changed -/
def mutS (ρ : Rho) (i : Nat) (k : D → Option D) : RS := match slot ρ i with
  | some ⟨d, .ow⟩ => match k d with
    | some d' => .nx (ρ.set i (some ⟨d', .ow⟩))
    | none => .stuck
  | some ⟨d, .io⟩ => match k d with
    | some d' => .nx (ρ.set i (some ⟨d', .io⟩))
    | none => .stuck
  | _ => .stuck
theorem mutS_ok {E : Ends} {i : Nat} {k : D → Option D} (g : GoodS C ρ σ B H E (mutS ρ1 i k)) : ∃ c d', ρ1[i]? = some (some c) ∧ c.fl ≠ .sh ∧ c.fl ≠ .st ∧ k c.d = some d' ∧ GoodS C ρ σ B H E (.nx (ρ1.set i (some ⟨d', c.fl⟩))) := by
  unfold mutS at g
  split at g
  · rename_i d es
    split at g
    · rename_i d' ek
      exact ⟨_, d', slot_some es, by simp, by simp, ek, g⟩
    · exact g.elim
  · rename_i d es
    split at g
    · rename_i d' ek
      exact ⟨_, d', slot_some es, by simp, by simp, ek, g⟩
    · exact g.elim
  · exact g.elim
def appD (y : D) : D → Option D
  | .list ds => if ds.length < sizeLine then some (.list (ds ++ [y])) else none
  | _ => none
def isL (ρ : Rho) (i : Nat) : Bool := match slot ρ i with
  | some ⟨.list _, _⟩ => true
  | _ => false
def sApp (i : Nat) (fe : EF) : SF := fun ρ => if isL ρ i then bindES (eCap fe ρ) fun h ρ1 => match h with
  | .sh y => mutS ρ1 i (appD y)
  | _ => .stuck else .stuck
theorem isL_ok (S : Sim K ρ σ B H) {i : Nat} (h : isL ρ i = true) : ∃ a vs, σ[i]? = some (some (.ref a)) ∧ SqL K H a vs := by
  unfold isL at h
  split at h
  · rename_i ds fl es
    have nst : fl ≠ .st := fun z => by
      subst z
      obtain ⟨_, s, μ, e, _⟩ := S.st.at' i _ (slot_some es)
      cases e
    obtain ⟨v, ev, ok⟩ := S.sl i _ (slot_some es) nst
    rcases ok with ⟨_, q⟩ | ⟨_, a, rfl, _, vs, q, _⟩
    · obtain ⟨a, vs, rfl, ha, _⟩ := Rp.lstE q
      exact ⟨a, vs, ev, same_lT S.bh ha⟩
    · exact ⟨a, vs, ev, .inl (.inl q)⟩
  · cases h
theorem tyL {a : Addr} {vs : List V} (h : SqL K H a vs) : tyV K "list" (.ref a) H := .inl ⟨rfl, _, h⟩
theorem ss_app {i : Nat} {x : Str} {q1 q2 q3 : Pos} (l : SE X C e te fe) (hN : X.N[i]? = some x := by rfl) (hv : Vis X.env.scope x := by first | exact Or.inl rfl | exact Or.inr (Or.inl rfl) | exact Or.inr (Or.inr rfl)) (hd : (x == ("__debug__" : Str)) = false := by decide)
    (hcd : (x == ("__classdict__" : Str)) = false := by decide) (hk : X.K = C.K := by rfl) (hs : starEach [e] X.env = (false, eval e X.env) :: starEach [] X.env := by rfl)
    (hfew : ((backTo q3 (starEach [e] X.env)).all (fun x => !x.1) && (backToKw q3 (keywordEach [] X.env)).all (fun x => x.1.isSome) && decide ([e].length + ([] : List Keyword).length + (if ([] : List Keyword).isEmpty then 0 else 1) < 30)) = true := by rfl)
    (hline : (q2.endLine == q3.line) = true := by rfl) :
    SS X C (.Expr (.Call (.Attribute (.Name x q1) "append" q2) [e] [] q3) pos) (tDrop (tBM C.K "list" rAppend (tVar i) (tCons te tNil))) (sApp i fe) := by
  refine ⟨by rw [← hk]; exact ps_expr (pe_bm PySem.F.plainAttrs_list PySem.F.slot_list_append PySem.F.type_list_append mt_append (pe_var hN hv hd hcd) (pa_cons l.pe pa_nil hs) rfl hfew hline hs), fun ρ σ B H E S g => ?_⟩
  unfold sApp at g
  by_cases hl : isL ρ i = true
  case neg => rw [if_neg hl] at g; exact g.elim
  rw [if_pos hl] at g
  obtain ⟨a, vs, ea, sq⟩ := isL_ok S hl
  refine ⟨.ref a, ea, tyL sq, ?_⟩
  refine l.lk.cap.bindS S g fun hd ρ1 v B1 H1 S1 x1 y1 g1 => ?_
  cases hd with
  | sh y =>
    obtain ⟨c, d', h1, h2, hst, h3, h4⟩ := mutS_ok g1
    obtain ⟨a', ea', hb, ow⟩ := S1.own h1 h2 hst
    rw [ea] at ea'
    cases ea'
    obtain ⟨d, fl⟩ := c
    cases d with
    | list ds =>
      obtain ⟨hc, rfl⟩ := if_some (show (if ds.length < sizeLine then some (.list (ds ++ [y])) else none) = some d' from h3)
      obtain ⟨ws, ew, rw'⟩ := ow
      have ow' : Ow C.K B1 a (some (.lst (ws ++ [v]))) (.list (ds ++ [y])) := ⟨_, rfl, rw'.append (.cons y1 .nil)⟩
      obtain ⟨S2, x2⟩ := S1.mut h1 h2 ea ow'
      exact ⟨a, ws, v, rfl, rfl, ew, by rw [rw'.length]; exact hc, h4 _ _ _ S2 (x1.trans x2)⟩
    | _ => cases h3
  | _ => exact g1.elim
end
def ioC : Option Cel → Option Cel
  | some ⟨d, .io⟩ => some ⟨d, .io⟩
  | some ⟨d, .st⟩ => some ⟨d, .st⟩
  | _ => none
def outR (ρ : Rho) (n : Nat) : Rho := (List.range n).map fun i => ioC (slot ρ i)
def fnF (m n : Nat) (g : SF) : FF := fun ρ => match g (ρ ++ List.replicate (m - n) none) with
  | .rt (.bw _) _ => .stuck
  | .rt (.sp _ _) _ => .stuck
  | .rt h ρ1 => .ok h (outR ρ1 n)
  | .nx ρ1 => .ok (.sh .none) (outR ρ1 n)
  | .exc x ρ1 => .exc x (outR ρ1 n)
  | _ => .stuck
theorem ioC_some {o : Option Cel} {c : Cel} (h : ioC o = some c) : o = some c ∧ (c.fl = .io ∨ c.fl = .st) := by
  unfold ioC at h
  split at h
  · cases h; exact ⟨rfl, .inl rfl⟩
  · cases h; exact ⟨rfl, .inr rfl⟩
  · cases h
theorem outR_at {ρ : Rho} {n i : Nat} {c : Cel} (h : (outR ρ n)[i]? = some (some c)) : i < n ∧ ρ[i]? = some (some c) ∧ (c.fl = .io ∨ c.fl = .st) := by
  unfold outR at h
  rw [List.getElem?_map] at h
  by_cases hi : i < n
  · rw [List.getElem?_range hi] at h
    obtain ⟨q1, q2⟩ := ioC_some (Option.some.inj h)
    exact ⟨hi, slot_some q1, q2⟩
  · rw [List.getElem?_eq_none (by rw [List.length_range]; omega)] at h
    cases h
theorem slot_of {ρ : Rho} {i : Nat} {c : Cel} (h : ρ[i]? = some (some c)) : slot ρ i = some c := by
  unfold slot
  rw [h]
theorem outR_has {ρ : Rho} {n i : Nat} {c : Cel} (hi : i < n) (h : ρ[i]? = some (some c)) (hf : c.fl = .io) : (outR ρ n)[i]? = some (some c) := by
  unfold outR
  rw [List.getElem?_map, List.getElem?_range hi]
  show some (ioC (slot ρ i)) = _
  rw [slot_of h]
  obtain ⟨d, fl⟩ := c
  cases hf
  rfl
section
variable {K : KW} {ρ ρ1 : Rho} {σ1 : St} {B H B1 H1 : Hp} {N : List Str} {vs : List V} {n : Nat}
theorem start_get {i : Nat} (h : i < vs.length) : (L2.start N vs)[i]? = (vs.map some)[i]? := by
  unfold L2.start
  rw [List.getElem?_append_left (by simpa using h)]
theorem ap_get {m : Nat} {i : Nat} {c : Cel} (h : (ρ ++ List.replicate m none)[i]? = some (some c)) : i < ρ.length ∧ ρ[i]? = some (some c) := by
  by_cases hi : i < ρ.length
  · rw [List.getElem?_append_left hi] at h; exact ⟨hi, h⟩
  · rw [List.getElem?_append_right (by omega), List.getElem?_replicate] at h
    split at h <;> cases h
theorem ap_of {m : Nat} {i : Nat} {c : Cel} (h : ρ[i]? = some (some c)) : (ρ ++ List.replicate m none)[i]? = some (some c) := by
  rw [List.getElem?_append_left (lt_of h)]; exact h
theorem entry_own {m : Nat} (hl : ρ.length = vs.length) {a : Addr} : OwnA (ρ ++ List.replicate m none) (L2.start N vs) a ↔ OwnA ρ (vs.map some) a := by
  constructor
  · rintro ⟨i, c, h1, h2, h3⟩
    obtain ⟨q1, q2⟩ := ap_get h1
    exact ⟨i, c, q2, h2, by rw [← start_get (by omega)]; exact h3⟩
  · rintro ⟨i, c, h1, h2, h3⟩
    exact ⟨i, c, ap_of h1, h2, by rw [start_get (by have := lt_of h1; omega)]; exact h3⟩
theorem args_noSt (S : Sim K ρ (vs.map some) B H) (hl : ρ.length = vs.length) (i : Nat) (d : D) : ρ[i]? ≠ some (some (Cel.mk d .st)) := fun h => by
  have := (S.st.at' i d h).1
  have := lt_of h
  rw [List.length_map] at *
  omega
theorem entry_sim (S : Sim K ρ (vs.map some) B H) (hl : ρ.length = vs.length) (hN : vs.length ≤ N.length) : Sim K (ρ ++ List.replicate (N.length - vs.length) none) (L2.start N vs) B H := by
  refine ⟨S.bh, ⟨?_, fun i h1 h2 => ?_⟩, fun i c h hs => ?_, fun i j ci cj a hi hj ni nj ei ej => ?_, ⟨fun i d h => absurd (ap_get h).2 (args_noSt S hl i d), S.st.id'⟩⟩
  · unfold L2.start
    rw [List.length_append, List.length_append, List.length_replicate, List.length_replicate, List.length_map, hl]
    omega
  · exfalso
    unfold L2.start at h1
    rw [List.length_append, List.length_replicate] at h2
    rw [List.length_append, List.length_replicate, List.length_map] at h1
    omega
  · obtain ⟨q1, q2⟩ := ap_get h
    obtain ⟨v, ev, ok⟩ := S.sl i c q2 hs
    exact ⟨v, by rw [start_get (by omega)]; exact ev, ok⟩
  · obtain ⟨q1, q2⟩ := ap_get hi
    obtain ⟨q3, q4⟩ := ap_get hj
    rw [start_get (by omega)] at ei ej
    exact S.dj i j ci cj a q2 q4 ni nj ei ej
/-- the body's end as the caller sees it -/
theorem exit_sim {m : Nat} (S : Sim K ρ (vs.map some) B H) (hl : ρ.length = vs.length) (hn : ρ.length = n) (S1 : Sim K ρ1 σ1 B1 H1) (x : Ext (ρ ++ List.replicate m none) (L2.start N vs) B H ρ1 σ1 B1 H1) :
    Sim K (outR ρ1 n) (vs.map some) B1 H1 ∧ Ext ρ (vs.map some) B H (outR ρ1 n) (vs.map some) B1 H1 ∧ (∀ a, OwnA (outR ρ1 n) (vs.map some) a → OwnA ρ1 σ1 a) ∧ ∀ a, New (ρ ++ List.replicate m none) (L2.start N vs) H a → New ρ (vs.map some) H a := by
  have hnew : ∀ a, New (ρ ++ List.replicate m none) (L2.start N vs) H a → New ρ (vs.map some) H a := fun a h => h.imp id (entry_own hl).mp
  have noS : ∀ (i : Nat) (d : D), (ρ ++ List.replicate m none)[i]? ≠ some (some (Cel.mk d .st)) := fun i d h => args_noSt S hl i d (ap_get h).2
  -- a lent slot stands as at the entry
  have same : ∀ (i : Nat) (c : Cel), (outR ρ1 n)[i]? = some (some c) → i < vs.length ∧ ρ1[i]? = some (some c) ∧ c.fl = .io ∧ σ1[i]? = (vs.map some)[i]? := fun i c h => by
    obtain ⟨q1, q2, q3⟩ := outR_at h
    replace q3 : c.fl = .io := q3.elim id fun z => by
      obtain ⟨d, fl⟩ := c
      cases z
      exact absurd q2 (S1.noSt x.tx (noS i) d)
    obtain ⟨c', r1, r2⟩ := x.oi i c q2 q3
    obtain ⟨w1, _⟩ := ap_get r1
    have e := (x.io i c' r1 r2).1
    rw [start_get (by omega)] at e
    exact ⟨by omega, q2, q3, e⟩
  have own : ∀ a, OwnA (outR ρ1 n) (vs.map some) a → OwnA ρ1 σ1 a := fun a ⟨i, c, h1, h2, h3⟩ => by
    obtain ⟨_, q2, _, q4⟩ := same i c h1
    exact ⟨i, c, q2, h2, q4.trans h3⟩
  have noO : ∀ (i : Nat) (d : D), (outR ρ1 n)[i]? ≠ some (some (Cel.mk d .st)) := fun i d h => by
    obtain ⟨_, _, q, _⟩ := same i _ h
    cases q
  have tkB : ∀ a s g, B1 a = some (.met s g) → B a = some (.met s g) := fun a s g q => (x.tx.tn a s g q).elim (fun h => h) fun ⟨i, μ, h⟩ => absurd h (noS i _)
  have noT : ∀ a, ¬ TokA (ρ ++ List.replicate m none) B a := fun a ⟨i, s, μ, g, c, q, _⟩ => noS i _ q
  refine ⟨⟨S1.bh, ⟨?_, fun i h1 h2 => ?_⟩, fun i c h hs => ?_, fun i j ci cj a hi hj ni nj ei ej => ?_, ⟨fun i d h => absurd h (noO i d), S1.st.id'⟩⟩, ⟨x.bb, fun a o h => (x.nw a o h).imp id (hnew a), fun a o h z => .inl (x.keepT h (fun w => z ((entry_own hl).mp w)) (noT a)), fun a h => hnew a (x.sub a (own a h)), fun i c h1 h2 => ?_, fun i c h1 h2 => ?_, .of (fun i d h => absurd h (noO i d)) tkB⟩, own, hnew⟩
  · unfold outR
    rw [List.length_map, List.length_map, List.length_range]
    omega
  · exfalso
    unfold outR at h2
    rw [List.length_map, List.length_range] at h2
    rw [List.length_map] at h1
    omega
  · obtain ⟨_, q2, _, q4⟩ := same i c h
    obtain ⟨v, ev, ok⟩ := S1.sl i c q2 hs
    exact ⟨v, q4.symm.trans ev, ok⟩
  · obtain ⟨_, q2, _, q4⟩ := same i ci hi
    obtain ⟨_, r2, _, r4⟩ := same j cj hj
    exact S1.dj i j ci cj a q2 r2 ni nj (q4.trans ei) (r4.trans ej)
  · obtain ⟨_, c', q1, q2⟩ := x.io i c (ap_of h1) h2
    exact ⟨rfl, c', outR_has (by have := lt_of h1; omega) q1 q2, q2⟩
  · obtain ⟨_, q2, q3, _⟩ := same i c h1
    obtain ⟨c', r1, r2⟩ := x.oi i c q2 q3
    exact ⟨c', (ap_get r1).2, r2⟩
end
section
variable {P : Program} {w : World} {K : KW} {mg : Str → Option Value} {base : Heap} {cv : Str → Value}
abbrev cxF (P : Program) (w : World) (K : PySem.W.Frag) (mg : Str → Option Value) (base : Heap) (N : List Str) (qual : Str) (st : Stmt) (f : Addr) (cdv : Value) (A : Around) (outer : List Env) (s : Shared) (H : Hp) (E : XK) : Cx :=
  cxOf (L2.CX P w) P w K mg base N qual (defScope st) f cdv A outer s H E
abbrev ctF (K : KW) (cv : Str → Value) (E : XK) : Ct := ⟨K, cv, fun cls d _ H' => E cls d H'⟩
/-- THE RULE for a def: from its body -/
theorem fn_mk {x qual : Str} {st : Stmt} {f : Addr} {fd : FuncData} {N ps : List Str} {k : Nat} {g : SF} (F : Fun K x qual st f fd) (S : FnScope N ps (defScope st))
    (hb : ∀ (cdv : Value) (A : Around) (outer : List Env) (s : Shared) (H : Hp) (E : XK), Room k (cxF P w K mg base N qual st f cdv A outer s H E).A → Takes (cxF P w K mg base N qual st f cdv A outer s H E) (ctF K cv E).W →
      PassesOwn (model P w) (cxF P w K mg base N qual st f cdv A outer s H E).A (cxF P w K mg base N qual st f cdv A outer s H E).env (cxF P w K mg base N qual st f cdv A outer s H E).xe →
      ∃ t, SSs (cxF P w K mg base N qual st f cdv A outer s H E) (ctF K cv E) (defBody st) t g) :
    FnOk P w K mg base (L2.CX P w) (k + 1) f fd ps (spF K cv ps.length (fnF N.length ps.length g)) := by
  have hpl : ps.length ≤ N.length := by have := congrArg List.length S.pre; rw [List.length_take] at this; omega
  refine F.okX S (fun vs H Q E h => ?_) (fun cdv A outer s H vs Q E hr h => ?_)
  · obtain ⟨ρ, B, hl, Sm, _⟩ := h
    exact hl.1
  · obtain ⟨ρ, B, ⟨hv, hn⟩, Sm, gd⟩ := h
    have hl : ρ.length = vs.length := by omega
    obtain ⟨t, ht⟩ := hb cdv A outer s H E hr (takes_of rfl rfl rfl rfl) (passes_of rfl)
    refine ⟨t, ht.ps, ht.lk (ρ ++ List.replicate (N.length - ps.length) none) _ B H _ (by rw [← hv]; exact entry_sim Sm hl (by omega)) ?_⟩
    unfold fnF at gd
    cases eg : g (ρ ++ List.replicate (N.length - ps.length) none) with
    | stuck => rw [eg] at gd; exact gd
    | bk _ => rw [eg] at gd; exact gd.elim
    | ct _ => rw [eg] at gd; exact gd.elim
    | nx ρ1 =>
      rw [eg] at gd
      intro σ1 B1 H1 S1 x1
      obtain ⟨S2, x2, _, _⟩ := exit_sim Sm hl hn S1 x1
      exact gd .non B1 H1 S2 x2 .non
    | exc c ρ1 =>
      rw [eg] at gd
      intro cls dct σ1 B1 H1 S1 x1 ok
      obtain ⟨S2, x2, _, _⟩ := exit_sim Sm hl hn S1 x1
      exact gd cls dct B1 H1 S2 x2 ok
    | rt h ρ1 =>
      rw [eg] at gd
      intro v σ1 B1 H1 S1 x1 y1
      obtain ⟨S2, x2, n1, n2⟩ := exit_sim Sm hl hn S1 x1
      cases h with
      | sh d => exact gd v B1 H1 S2 x2 y1
      | fr d =>
        obtain ⟨a, r1, r2, r3, r4, r5⟩ := y1
        exact gd v B1 H1 S2 x2 ⟨a, r1, r2, r3, fun z => r4 (n1 a z), n2 a r5⟩
      | bw i => exact gd.elim
      | sp _ _ => exact gd.elim
theorem fn_zero {f : Addr} {fd : FuncData} {ps : List Str} {n : Nat} (hn : n = ps.length) : FnOk P w K mg base (L2.CX P w) 0 f fd ps (spF K cv n fun _ => .stuck) :=
  ⟨fun vs H Q E ⟨_, _, _, _, h⟩ => h.elim, fun A outer s H args us vs Q E _ _ _ _ ⟨_, _, _, _, h⟩ => h.elim⟩
theorem rpl_ints {B : Hp} : ∀ ns : List Int, RpL K B (ns.map V.int) (ns.map PyData.int)
  | [] => .nil
  | n :: ns => .cons (.int n) (rpl_ints ns)
/-- the law's promise from what it computes -/
theorem law_sp {F : FF} {H : Hp} {a : Addr} {ns : List Int} {outs : Rho} (h : SqL K H a (ns.map V.int)) (e : F [some ⟨.list (ns.map .int), .sh⟩] = .ok (.sh (.bool true)) outs) {E : XK} :
    spF K cv 1 F [.ref a] H (fun v _ => v = .bl true) E := by
  let B : Hp := fun b => if b = a then (match H a with | some (.met _ _) => none | o => o) else none
  have bH : Same B H := fun b o q => by
    show H b = some o
    simp only [B] at q
    split at q
    · rename_i e; subst e
      split at q
      · cases q
      · exact q
    · cases q
  have nm : ∀ b s g, B b ≠ some (.met s g) := fun b s g q => by
    simp only [B] at q
    split at q
    · split at q
      · cases q
      · rename_i n; exact n _ _ q
    · cases q
  have hB : SqL K B a (ns.map V.int) := h.elim (fun r => .inl (by
    have q : ∀ o, (∀ s g, o ≠ .met s g) → H a = some o → B a = some o := fun o n q => by
      simp only [B, if_true]
      rw [q]
      cases o <;> first | rfl | exact absurd rfl (n _ _)
    exact Or.imp (q _ (fun _ _ z => by cases z)) (fun ⟨o, z⟩ => ⟨o, q _ (fun _ _ z => by cases z) z⟩) r)) .inr
  refine ⟨[some ⟨.list (ns.map .int), .sh⟩], B, ⟨rfl, rfl⟩, ⟨Same.t bH, ⟨Nat.le_refl _, fun i h1 h2 => ?_⟩, fun i c hi _ => ?_, fun i j ci cj b hi hj ni nj _ _ => ?_, ⟨fun i d hi => ?_, fun b s g q => absurd q (nm b s g)⟩⟩, ?_⟩
  · simp at h1 h2
    omega
  · match i, hi with
    | 0, hi =>
      cases hi
      exact ⟨.ref a, rfl, .inl ⟨rfl, .lst hB (rpl_ints ns)⟩⟩
    | i + 1, hi => simp at hi
  · match i, hi with
    | 0, hi =>
      cases hi
      exact absurd rfl ni
    | i + 1, hi => simp at hi
  · match i, hi with
    | 0, hi => cases hi
    | i + 1, hi => simp at hi
  · rw [e]
    intro v B' H' S x y
    cases (show Rp K B' v (.bool true) from y)
    rfl
end
end GS
namespace GS
open PySem L2
section
variable {X : Cx} {C : Ct} {ρ ρ1 : Rho} {σ σ1 σ' : St} {B H B1 H1 : Hp} {e tg : Expr} {te : TE} {fe : EF} {pos p : Pos} {vs : List Nat} {K : KW}
/-- a name handed back: its own list is given away -/
def eRv (i : Nat) : EF := fun ρ => match slot ρ i with
  | some ⟨d, .sh⟩ => .ok (.sh d) ρ
  | some ⟨d, .ow⟩ => .ok (.fr d) (ρ.set i none)
  | _ => .stuck
theorem lk_rv {i : Nat} : LkE C (tVar i) (eRv i) := fun ρ σ B H Q S g => by
  unfold eRv at g
  cases h : slot ρ i with
  | none => rw [h] at g; exact g.elim
  | some c =>
    rw [h] at g
    obtain ⟨d, fl⟩ := c
    have hi := slot_some h
    cases fl with
    | sh =>
      obtain ⟨v, e, q⟩ := S.sl i _ hi (by simp)
      rcases q with ⟨_, q⟩ | ⟨q, _⟩
      · exact ⟨v, e, g v B H S Ext.refl q⟩
      · exact absurd rfl q
    | ow =>
      obtain ⟨a, e, S1, x1, r⟩ := S.give hi
      exact ⟨.ref a, e, g _ B H S1 x1 r⟩
    | io => exact g.elim
    | st => exact g.elim
theorem se_rv (i : Nat) {x : Str} (hN : X.N[i]? = some x := by rfl) (hv : Vis X.env.scope x := by first | exact Or.inl rfl | exact Or.inr (Or.inl rfl) | exact Or.inr (Or.inr rfl)) (hd : (x == ("__debug__" : Str)) = false := by decide)
    (hcd : (x == ("__classdict__" : Str)) = false := by decide) : SE X C (.Name x pos) (tVar i) (eRv i) := ⟨pe_var hN hv hd hcd, lk_rv⟩
/-- targets and tests of a comprehension -/
structure SGw (X : Cx) (C : Ct) (vs : List Nat) (tg : Expr) (t : TG) (f : D → Rho → Option Rho) : Prop where
  pg : PG X tg t
  lk : LkGw C vs t f
structure SGws (X : Cx) (C : Ct) (vs : List Nat) (tg : List Expr) (t : TGs) (f : List D → Rho → Option Rho) : Prop where
  pg : PGs X tg t
  lk : LkGws C vs t f
theorem sgw_name {i : Nat} {x : Str} (hN : X.N.Nodup) (hm : i ∈ vs := by simp) (hi : X.N[i]? = some x := by rfl) (hx : Loc X.env.scope x := by first | exact Or.inl rfl | exact Or.inr rfl)
    (hf : X.fn x = true ∨ X.env.scope.names.lookup x = some .local := by first | exact .inl rfl | exact .inr rfl | assumption) : SGw X C vs (.Name x pos) (gName i) (gN i) := ⟨pg_name hN hi hx hf, lkw_N hm⟩
theorem sgws_nil : SGws X C vs [] gNil gsN := ⟨pgs_nil, lkw_nil⟩
theorem sgws_cons {a : Expr} {as : List Expr} {tg : TG} {tgs : TGs} {f : D → Rho → Option Rho} {g : List D → Rho → Option Rho} (h : SGw X C vs a tg f) (t : SGws X C vs as tgs g) (hs : (assignEach (a :: as) X.env).map (·.2) = assign a X.env :: (assignEach as X.env).map (·.2) := by rfl) : SGws X C vs (a :: as) (gCons tg tgs) (gsC f g) := ⟨pgs_cons h.pg t.pg hs, lkw_C h.lk t.lk⟩
theorem sgw_tup {as : List Expr} {tgs : TGs} {n k : Nat} {g : List D → Rho → Option Rho} (hc : X.calm = true) (t : SGws X C vs as tgs g) (hk : X.K = C.K := by rfl) (hn : (assignEach as X.env).length = n := by rfl) (hst : (assignEach as X.env).findIdx? (·.1) = none := by rfl) : SGw X C vs (.Tuple as k pos) (gTL C.K n tgs) (gT n g) := ⟨by rw [← hk]; exact pg_tl hc t.pg hn hst, lkw_T t.lk⟩
structure SP (X : Cx) (C : Ct) (ifs : List Expr) (t : TT) (f : EF) : Prop where
  pt : PTs X ifs t
  lk : LkT C t f
def eYes : EF := fun ρ => .ok (.sh (.bool true)) ρ
theorem sp_nil : SP X C [] tYes eYes := ⟨pts_nil, fun ρ σ B H Q S g => g B H S Ext.refl⟩
theorem sp_one {t : TT} {f : EF} (h : ST X C e t f) : SP X C [e] t f := ⟨pts_one h.pt, h.lk⟩
abbrev bk (X : Cx) (scope : Scope) (s : Shared) (H : Hp) (c : Addr) (cl : List (Str × Addr)) (fp : List Addr) : Cx := X.blk s H scope (compEnvC scope cl c X.env) fp
theorem se_comp {elt it : Expr} {ifs : List Expr} {scope : Scope} {own : List (Str × Nat)} {w : TI} {tgt : TG} {tt : TT} {fi : IF} {g : D → Rho → Option Rho} {ft : EF} (hc : X.calm = true) (hN : X.N.Nodup) (ok : BlkOk X.N X.env.scope scope own) (li : SI X C tg it w fi)
    (hg : ∀ s H c cl fp, SGw (bk X scope s H c cl fp) C (own.map (·.2)) tg tgt g) (ht : ∀ s H c cl fp, SP (bk X scope s H c cl fp) C.nox ifs tt ft) (he : ∀ s H c cl fp, SE (bk X scope s H c cl fp) C.nox elt te fe)
    (hs : ∀ x, foldedSetIterable it X.env x = pure x := by intro _; rfl) : SE X C (.ListComp elt [⟨tg, it, ifs, 0⟩] scope pos) (tLc w tgt tt te (own.map (·.2))) (eLc (own.map (·.2)) fi g (eNox ft) (eNox fe)) :=
  se_lc hc hN li ok (fun s H c cl fp => (hg s H c cl fp).pg) (hg X.s_0 X.H_0 0 [] []).lk (fun s H c cl fp => (ht s H c cl fp).pt) (ht X.s_0 X.H_0 0 [] []).lk (fun s H c cl fp => (he s H c cl fp).pe) (he X.s_0 X.H_0 0 [] []).lk hs
/-- x = [..] -/
theorem ss_setLc {i : Nat} {y : Str} {py spos : Pos} {elt it : Expr} {ifs : List Expr} {scope : Scope} {own : List (Str × Nat)} {w : TI} {tgt : TG} {tt : TT} {fi : IF} {g : D → Rho → Option Rho} {ft : EF} (hc : X.calm = true) (hN : X.N.Nodup) (ok : BlkOk X.N X.env.scope scope own) (li : SI X C tg it w fi)
    (hg : ∀ s H c cl fp, SGw (bk X scope s H c cl fp) C (own.map (·.2)) tg tgt g) (ht : ∀ s H c cl fp, SP (bk X scope s H c cl fp) C.nox ifs tt ft) (he : ∀ s H c cl fp, SE (bk X scope s H c cl fp) C.nox elt te fe)
    (hsw : swapsWith (.ListComp elt [⟨tg, it, ifs, 0⟩] scope pos) (some (.Name y py)) spos.line X.env = pure true) (hy : X.N[i]? = some y := by rfl) (hyl : X.env.scope.names.lookup y = some .local := by rfl)
    (hs : ∀ x, foldedSetIterable it X.env x = pure x := by intro _; rfl) : SS X C (.Assign [.Name y py] (.ListComp elt [⟨tg, it, ifs, 0⟩] scope pos) spos) (tAsg (tLc w tgt tt te (own.map (·.2))) (gName i)) (sSet i (eLc (own.map (·.2)) fi g (eNox ft) (eNox fe))) :=
  ⟨ps_setLc hc hN hy hyl hsw li.pi ok (fun s H c cl fp => (hg s H c cl fp).pg) (fun s H c cl fp => (ht s H c cl fp).pt) (fun s H c cl fp => (he s H c cl fp).pe) hs,
    lk_set (lk_lc li.lk (hg X.s_0 X.H_0 0 [] []).lk (ht X.s_0 X.H_0 0 [] []).lk (he X.s_0 X.H_0 0 [] []).lk)⟩
end
theorem fn_of' {P : Program} {w : World} {K : KW} {mg : Str → Option Value} {base : Heap} {cv : Str → Value} {x qual : Str} {st : Stmt} {f : Addr} {fd : FuncData} (N : List Str) {ps : List Str} {k m n : Nat} {g : SF} (hm : N.length = m) (hn : ps.length = n) (F : Fun K x qual st f fd) (S : FnScope N ps (defScope st))
    (hb : ∀ (cdv : Value) (A : Around) (outer : List Env) (s : Shared) (H : Hp) (E : XK), Room k (cxF P w K mg base N qual st f cdv A outer s H E).A → Takes (cxF P w K mg base N qual st f cdv A outer s H E) (ctF K cv E).W →
      PassesOwn (model P w) (cxF P w K mg base N qual st f cdv A outer s H E).A (cxF P w K mg base N qual st f cdv A outer s H E).env (cxF P w K mg base N qual st f cdv A outer s H E).xe →
      ∃ t, SSs (cxF P w K mg base N qual st f cdv A outer s H E) (ctF K cv E) (defBody st) t g) :
    FnOk P w K mg base (L2.CX P w) (k + 1) f fd ps (spF K cv n (fnF m n g)) := by
  subst hm hn
  exact fn_mk F S hb
end GS
namespace GS
open PySem L2
section
variable {ρ ρ1 : Rho} {c : Prop} [Decidable c]
@[simp] theorem bindE_ok (h : Hd) (k : Hd → Rho → RE) : bindE (.ok h ρ) k = k h ρ := rfl
@[simp] theorem bindE_st (k : Hd → Rho → RE) : bindE .stuck k = .stuck := rfl
@[simp] theorem bindE_ex (x : Xc) (k : Hd → Rho → RE) : bindE (.exc x ρ) k = .exc x ρ := rfl
@[simp] theorem bindE_if (a b : RE) (k : Hd → Rho → RE) : bindE (if c then a else b) k = if c then bindE a k else bindE b k := by split <;> rfl
@[simp] theorem bindB_ok (b : Bool) (k : Bool → Rho → RE) : bindB (.ok (.sh (.bool b)) ρ) k = k b ρ := rfl
@[simp] theorem bindB_st (k : Bool → Rho → RE) : bindB .stuck k = .stuck := rfl
@[simp] theorem bindB_ex (x : Xc) (k : Bool → Rho → RE) : bindB (.exc x ρ) k = .exc x ρ := rfl
@[simp] theorem bindB_if (a b : RE) (k : Bool → Rho → RE) : bindB (if c then a else b) k = if c then bindB a k else bindB b k := by split <;> rfl
@[simp] theorem bindA_ok (h : List Hd) (k : List Hd → Rho → RE) : bindA (.ok h ρ) k = k h ρ := rfl
@[simp] theorem bindA_st (k : List Hd → Rho → RE) : bindA .stuck k = .stuck := rfl
@[simp] theorem bindA_ex (x : Xc) (k : List Hd → Rho → RE) : bindA (.exc x ρ) k = .exc x ρ := rfl
@[simp] theorem bindA_if (a b : RA) (k : List Hd → Rho → RE) : bindA (if c then a else b) k = if c then bindA a k else bindA b k := by split <;> rfl
@[simp] theorem bindES_ok (h : Hd) (k : Hd → Rho → RS) : bindES (.ok h ρ) k = k h ρ := rfl
@[simp] theorem bindES_st (k : Hd → Rho → RS) : bindES .stuck k = .stuck := rfl
@[simp] theorem bindES_ex (x : Xc) (k : Hd → Rho → RS) : bindES (.exc x ρ) k = .exc x ρ := rfl
@[simp] theorem bindES_if (a b : RE) (k : Hd → Rho → RS) : bindES (if c then a else b) k = if c then bindES a k else bindES b k := by split <;> rfl
@[simp] theorem bindBS_ok (b : Bool) (k : Bool → Rho → RS) : bindBS (.ok (.sh (.bool b)) ρ) k = k b ρ := rfl
@[simp] theorem bindBS_st (k : Bool → Rho → RS) : bindBS .stuck k = .stuck := rfl
@[simp] theorem bindBS_ex (x : Xc) (k : Bool → Rho → RS) : bindBS (.exc x ρ) k = .exc x ρ := rfl
@[simp] theorem bindBS_if (a b : RE) (k : Bool → Rho → RS) : bindBS (if c then a else b) k = if c then bindBS a k else bindBS b k := by split <;> rfl
@[simp] theorem bindEI_ok (h : Hd) (k : Hd → Rho → RI) : bindEI (.ok h ρ) k = k h ρ := rfl
@[simp] theorem bindEI_st (k : Hd → Rho → RI) : bindEI .stuck k = .stuck := rfl
@[simp] theorem bindEI_ex (x : Xc) (k : Hd → Rho → RI) : bindEI (.exc x ρ) k = .exc x ρ := rfl
@[simp] theorem bindEI_if (a b : RE) (k : Hd → Rho → RI) : bindEI (if c then a else b) k = if c then bindEI a k else bindEI b k := by split <;> rfl
@[simp] theorem bindS_nx (k : Rho → RS) : bindS (.nx ρ) k = k ρ := rfl
@[simp] theorem bindS_st (k : Rho → RS) : bindS .stuck k = .stuck := rfl
@[simp] theorem bindS_rt (h : Hd) (k : Rho → RS) : bindS (.rt h ρ) k = .rt h ρ := rfl
@[simp] theorem bindS_ex (x : Xc) (k : Rho → RS) : bindS (.exc x ρ) k = .exc x ρ := rfl
@[simp] theorem bindS_bk (k : Rho → RS) : bindS (.bk ρ) k = .bk ρ := rfl
@[simp] theorem bindS_ct (k : Rho → RS) : bindS (.ct ρ) k = .ct ρ := rfl
@[simp] theorem bindS_if (a b : RS) (k : Rho → RS) : bindS (if c then a else b) k = if c then bindS a k else bindS b k := by split <;> rfl
@[simp] theorem slot_nil (i : Nat) : slot [] i = none := rfl
@[simp] theorem slot_zero (x : Option Cel) : slot (x :: ρ) 0 = x := by cases x <;> rfl
@[simp] theorem slot_succ (x : Option Cel) (i : Nat) : slot (x :: ρ) (i + 1) = slot ρ i := rfl
@[simp] theorem getH_sh (d : D) : getH ρ (.sh d) = some d := rfl
@[simp] theorem getH_fr (d : D) : getH ρ (.fr d) = some d := rfl
@[simp] theorem getH_bw (i : Nat) : getH ρ (.bw i) = (slot ρ i).map (·.d) := rfl
@[simp] theorem setl_sh (d : D) : setl (.sh d) = .sh d := rfl
@[simp] theorem setl_fr (d : D) : setl (.fr d) = .sh d := rfl
@[simp] theorem setl_bw (i : Nat) : setl (.bw i) = .bw i := rfl
@[simp] theorem capH_sh (d : D) : capH ρ (.sh d) = some d := rfl
@[simp] theorem capH_fr (d : D) : capH ρ (.fr d) = some d := rfl
@[simp] theorem capH_bw (i : Nat) : capH ρ (.bw i) = match slot ρ i with | some ⟨d, .sh⟩ => some d | _ => none := rfl
@[simp] theorem eC_eq (d : D) : eC d ρ = .ok (.sh d) ρ := rfl
@[simp] theorem eVb_eq (i : Nat) : eVb i ρ = match slot ρ i with | some ⟨_, .st⟩ => .stuck | some _ => .ok (.bw i) ρ | none => .stuck := rfl
@[simp] theorem eMv_eq (i : Nat) : eMv i ρ = match slot ρ i with | some ⟨d, .sh⟩ => .ok (.sh d) ρ | some ⟨d, .ow⟩ => .ok (.sh d) (ρ.set i (some ⟨d, .sh⟩)) | _ => .stuck := rfl
@[simp] theorem eRv_eq (i : Nat) : eRv i ρ = match slot ρ i with | some ⟨d, .sh⟩ => .ok (.sh d) ρ | some ⟨d, .ow⟩ => .ok (.fr d) (ρ.set i none) | _ => .stuck := rfl
@[simp] theorem eCap_eq (f : EF) : eCap f ρ = bindE (f ρ) fun h ρ' => match capH ρ' h with | some d => .ok (.sh d) ρ' | none => .stuck := rfl
@[simp] theorem eSet_eq (f : EF) : eSet f ρ = bindE (f ρ) fun h ρ' => .ok (setl h) ρ' := rfl
/-- of two data -/
def resO (o : Option Hd) (ρ : Rho) : RE := match o with | some h => .ok h ρ | none => .stuck
@[simp] theorem resO_s (h : Hd) : resO (some h) ρ = .ok h ρ := rfl
@[simp] theorem resO_n : resO none ρ = .stuck := rfl
@[simp] theorem resO_if (a b : Option Hd) : resO (if c then a else b) ρ = if c then resO a ρ else resO b ρ := by split <;> rfl
def bin2 (o : D → D → Option Hd) (a b : Option D) (ρ : Rho) : RE := match a, b with
  | some x, some y => resO (o x y) ρ
  | _, _ => .stuck
@[simp] theorem bin2_s (o : D → D → Option Hd) (x y : D) : bin2 o (some x) (some y) ρ = resO (o x y) ρ := rfl
@[simp] theorem eBin_eq (o : D → D → Option Hd) (f g : EF) : eBin o f g ρ = bindE (eSet f ρ) fun ha ρ1 => bindE (eSet g ρ1) fun hb ρ2 => bin2 o (getH ρ2 ha) (getH ρ2 hb) ρ2 := by
  unfold eBin bin2 resO
  rfl
def chn (o' : D → D → Option Hd) (hb : Hd) (fc : EF) (r : Option Hd) (ρ2 : Rho) : RE := match r with
  | some (.sh (.bool b)) => if b then bindE (eSet fc ρ2) (fun hc ρ3 => bin2 o' (getH ρ3 hb) (getH ρ3 hc) ρ3) else .ok (.sh (.bool false)) ρ2
  | _ => .stuck
@[simp] theorem chn_b (o' : D → D → Option Hd) (hb : Hd) (fc : EF) (b : Bool) : chn o' hb fc (some (.sh (.bool b))) ρ = if b then bindE (eSet fc ρ) (fun hc ρ3 => bin2 o' (getH ρ3 hb) (getH ρ3 hc) ρ3) else .ok (.sh (.bool false)) ρ := rfl
def chn0 (o o' : D → D → Option Hd) (hb : Hd) (fc : EF) (a b : Option D) (ρ2 : Rho) : RE := match a, b with
  | some x, some y => chn o' hb fc (o x y) ρ2
  | _, _ => .stuck
@[simp] theorem chn0_s (o o' : D → D → Option Hd) (hb : Hd) (fc : EF) (x y : D) : chn0 o o' hb fc (some x) (some y) ρ = chn o' hb fc (o x y) ρ := rfl
@[simp] theorem eChain_eq (o o' : D → D → Option Hd) (fa fb fc : EF) : eChain o o' fa fb fc ρ = bindE (eSet fa ρ) fun ha ρ1 => bindE (eSet fb ρ1) fun hb ρ2 => chn0 o o' hb fc (getH ρ2 ha) (getH ρ2 hb) ρ2 := by
  unfold eChain chn0 chn bin2 resO
  rfl
def tst (d : Option D) (ρ : Rho) : RE := match d with
  | some (.bool b) => .ok (.sh (.bool b)) ρ
  | _ => .stuck
@[simp] theorem tst_b (b : Bool) : tst (some (.bool b)) ρ = .ok (.sh (.bool b)) ρ := rfl
@[simp] theorem eB_eq (f : EF) : eB f ρ = bindE (eSet f ρ) fun h ρ1 => tst (getH ρ1 h) ρ1 := by unfold eB tst; rfl
@[simp] theorem eNot_eq (f : EF) : eNot f ρ = bindB (f ρ) fun b ρ1 => .ok (.sh (.bool (!b))) ρ1 := rfl
@[simp] theorem eAnd_eq (f g : EF) : eAnd f g ρ = bindB (f ρ) fun b ρ1 => if b then g ρ1 else .ok (.sh (.bool false)) ρ1 := rfl
@[simp] theorem eOr_eq (f g : EF) : eOr f g ρ = bindB (f ρ) fun b ρ1 => if b then .ok (.sh (.bool true)) ρ1 else g ρ1 := rfl
@[simp] theorem eIf_eq (f g h : EF) : eIf f g h ρ = bindB (f ρ) fun b ρ1 => if b then g ρ1 else h ρ1 := rfl
def negR (d : Option D) (ρ : Rho) : RE := match d with
  | some (.int i) => .ok (.sh (.int (-i))) ρ
  | _ => .stuck
@[simp] theorem negR_i (i : Int) : negR (some (.int i)) ρ = .ok (.sh (.int (-i))) ρ := rfl
@[simp] theorem eNeg_eq (f : EF) : eNeg f ρ = bindE (eSet f ρ) fun h ρ1 => negR (getH ρ1 h) ρ1 := by unfold eNeg negR; rfl
@[simp] theorem ePart_n (k : Option Int → Rho → RE) : ePart none ρ k = k none ρ := rfl
def partR (d : Option D) (ρ : Rho) (k : Option Int → Rho → RE) : RE := match d with
  | some (.int i) => k (some i) ρ
  | _ => .stuck
@[simp] theorem partR_i (i : Int) (k : Option Int → Rho → RE) : partR (some (.int i)) ρ k = k (some i) ρ := rfl
@[simp] theorem ePart_s (f : EF) (k : Option Int → Rho → RE) : ePart (some f) ρ k = bindE (eSet f ρ) fun h ρ1 => partR (getH ρ1 h) ρ1 k := by unfold ePart partR; rfl
@[simp] theorem eSl_eq (fe : EF) (fl fh : Option EF) : eSl fe fl fh ρ = bindE (eSet fe ρ) fun h ρ1 => ePart fl ρ1 fun lo ρ2 => ePart fh ρ2 fun hi ρ3 => resO ((getH ρ3 h).bind (slD lo hi)) ρ3 := by unfold eSl resO; rfl
@[simp] theorem aNil_eq : aNil ρ = .ok [] ρ := rfl
def consA (h : Hd) (r : RA) : RA := match r with
  | .stuck => .stuck
  | .exc x ρ2 => .exc x ρ2
  | .ok hs ρ2 => .ok (h :: hs) ρ2
def bindEA (r : RE) (k : Hd → Rho → RA) : RA := match r with
  | .stuck => .stuck
  | .exc x ρ1 => .exc x ρ1
  | .ok h ρ1 => k h ρ1
@[simp] theorem bindEA_ok (h : Hd) (k : Hd → Rho → RA) : bindEA (.ok h ρ) k = k h ρ := rfl
@[simp] theorem bindEA_st (k : Hd → Rho → RA) : bindEA .stuck k = .stuck := rfl
@[simp] theorem bindEA_ex (x : Xc) (k : Hd → Rho → RA) : bindEA (.exc x ρ) k = .exc x ρ := rfl
@[simp] theorem bindEA_if (a b : RE) (k : Hd → Rho → RA) : bindEA (if c then a else b) k = if c then bindEA a k else bindEA b k := by split <;> rfl
@[simp] theorem consA_ok (h : Hd) (hs : List Hd) : consA h (.ok hs ρ) = .ok (h :: hs) ρ := rfl
@[simp] theorem consA_st (h : Hd) : consA h .stuck = .stuck := rfl
@[simp] theorem consA_if (h : Hd) (a b : RA) : consA h (if c then a else b) = if c then consA h a else consA h b := by split <;> rfl
@[simp] theorem aCons_eq (f : EF) (g : AF) : aCons f g ρ = bindEA (eSet f ρ) fun h ρ1 => consA h (g ρ1) := by unfold aCons bindEA consA; rfl
@[simp] theorem shs_nil : shs [] = some [] := rfl
@[simp] theorem shs_cons (d : D) (hs : List Hd) : shs (.sh d :: hs) = (shs hs).map (d :: ·) := rfl
def tupR (d : Option (List D)) (ρ : Rho) : RE := match d with
  | some ds => if ds.length ≤ 1000 then .ok (.sh (.tuple ds)) ρ else .stuck
  | none => .stuck
def lstR (d : Option (List D)) (ρ : Rho) : RE := match d with
  | some ds => if ds.length ≤ 1000 then .ok (.fr (.list ds)) ρ else .stuck
  | none => .stuck
@[simp] theorem tupR_s (ds : List D) : tupR (some ds) ρ = if ds.length ≤ 1000 then .ok (.sh (.tuple ds)) ρ else .stuck := rfl
@[simp] theorem lstR_s (ds : List D) : lstR (some ds) ρ = if ds.length ≤ 1000 then .ok (.fr (.list ds)) ρ else .stuck := rfl
@[simp] theorem eTup_eq (f : AF) : eTup f ρ = bindA (f ρ) fun hs ρ1 => tupR (shs hs) ρ1 := by unfold eTup tupR; rfl
@[simp] theorem eLst_eq (f : AF) : eLst f ρ = bindA (f ρ) fun hs ρ1 => lstR (shs hs) ρ1 := by unfold eLst lstR; rfl
@[simp] theorem gets_nil : gets ρ [] = some [] := rfl
def cons2 (a : Option D) (b : Option (List D)) : Option (List D) := match a, b with
  | some d, some ds => some (d :: ds)
  | _, _ => none
@[simp] theorem cons2_s (d : D) (ds : List D) : cons2 (some d) (some ds) = some (d :: ds) := rfl
@[simp] theorem gets_cons (h : Hd) (hs : List Hd) : gets ρ (h :: hs) = cons2 (getH ρ h) (gets ρ hs) := by
  unfold cons2
  rw [gets]
  try rfl
@[simp] theorem eCB_eq (o : List D → Option Hd) (f : AF) : eCB o f ρ = bindA (f ρ) fun hs ρ1 => resO ((gets ρ1 hs).bind o) ρ1 := by unfold eCB resO; rfl
@[simp] theorem un1_1 (o : D → Option Hd) (d : D) : un1 o [d] = o d := rfl
@[simp] theorem un2_2 (o : D → D → Option Hd) (d e : D) : un2 o [d, e] = o d e := rfl
def isiR (p : D → Bool) (d : Option D) (ρ : Rho) : RE := match d with
  | some d => .ok (.sh (.bool (p d))) ρ
  | none => .stuck
@[simp] theorem isiR_s (p : D → Bool) (d : D) : isiR p (some d) ρ = .ok (.sh (.bool (p d))) ρ := rfl
@[simp] theorem eIsi_eq (p : D → Bool) (f : EF) : eIsi p f ρ = bindE (eSet f ρ) fun h ρ1 => isiR p (getH ρ1 h) ρ1 := by unfold eIsi isiR; rfl
@[simp] theorem isBool_b (b : Bool) : isBool (.bool b) = true := rfl
@[simp] theorem sNil_eq : sNil ρ = .nx ρ := rfl
@[simp] theorem sSeq_eq (f g : SF) : sSeq f g ρ = bindS (f ρ) g := rfl
def retR (h : Hd) (ρ : Rho) : RS := match h with
  | .bw i => match capH ρ (.bw i) with
    | some d => .rt (.sh d) ρ
    | none => .stuck
  | .sp _ _ => .stuck
  | h => .rt h ρ
@[simp] theorem retR_sh (d : D) : retR (.sh d) ρ = .rt (.sh d) ρ := rfl
@[simp] theorem retR_fr (d : D) : retR (.fr d) ρ = .rt (.fr d) ρ := rfl
@[simp] theorem sRet_eq (f : EF) : sRet f ρ = bindES (f ρ) retR := by unfold sRet; rfl
@[simp] theorem sIf_eq (ft : EF) (f g : SF) : sIf ft f g ρ = bindBS (ft ρ) fun b ρ1 => if b then f ρ1 else g ρ1 := rfl
@[simp] theorem ioAt_nil (i : Nat) : ioAt [] i = false := rfl
@[simp] theorem ioAt_zn : ioAt (none :: ρ) 0 = false := rfl
@[simp] theorem ioAt_zs (d : D) : ioAt (some ⟨d, .sh⟩ :: ρ) 0 = false := rfl
@[simp] theorem ioAt_zo (d : D) : ioAt (some ⟨d, .ow⟩ :: ρ) 0 = false := rfl
@[simp] theorem ioAt_succ (x : Option Cel) (i : Nat) : ioAt (x :: ρ) (i + 1) = ioAt ρ i := rfl
@[simp] theorem sSet_eq (i : Nat) (f : EF) : sSet i f ρ = bindES (f ρ) fun h ρ1 => setHd ρ1 i h := rfl
@[simp] theorem setHd_sh (i : Nat) (d : D) : setHd ρ i (.sh d) = setR ρ i ⟨d, .sh⟩ := rfl
@[simp] theorem setHd_fr (i : Nat) (d : D) : setHd ρ i (.fr d) = setR ρ i ⟨d, .ow⟩ := rfl
def bindI (r : RI) (k : List D → Rho → RS) : RS := match r with
  | .stuck => .stuck
  | .exc x ρ1 => .exc x ρ1
  | .ok ds ρ1 => k ds ρ1
@[simp] theorem bindI_ok (ds : List D) (k : List D → Rho → RS) : bindI (.ok ds ρ) k = k ds ρ := rfl
@[simp] theorem bindI_st (k : List D → Rho → RS) : bindI .stuck k = .stuck := rfl
@[simp] theorem bindI_if (a b : RI) (k : List D → Rho → RS) : bindI (if c then a else b) k = if c then bindI a k else bindI b k := by split <;> rfl
@[simp] theorem sFor_eq (fi : IF) (g : D → Rho → Option Rho) (b : SF) : sFor fi g b ρ = bindI (fi ρ) fun ds ρ1 => forL g b ds ρ1 := by unfold sFor bindI; rfl
def seqR (h : Hd) (ρ : Rho) : RI := match h with
  | .sh d => match items d with
    | some ds => .ok ds ρ
    | none => .stuck
  | _ => .stuck
@[simp] theorem seqR_l (ds : List D) : seqR (.sh (.list ds)) ρ = .ok ds ρ := rfl
@[simp] theorem seqR_t (ds : List D) : seqR (.sh (.tuple ds)) ρ = .ok ds ρ := rfl
@[simp] theorem seqR_s (z : Str) : seqR (.sh (.str z)) ρ = .ok (z.cps.toList.map fun c => .str ⟨#[c]⟩) ρ := rfl
@[simp] theorem iSq_eq (f : EF) : iSq f ρ = bindEI (eCap f ρ) seqR := by unfold iSq; rfl
def rgR (d : Option D) (ρ : Rho) : RI := match d with
  | some (.int j) => if okR j then .ok (rgD 0 j.toNat) ρ else .stuck
  | _ => .stuck
@[simp] theorem rgR_i (j : Int) : rgR (some (.int j)) ρ = if okR j then .ok (rgD 0 j.toNat) ρ else .stuck := rfl
@[simp] theorem iR1_eq (f : EF) : iR1 f ρ = bindEI (eSet f ρ) fun h ρ1 => rgR (getH ρ1 h) ρ1 := by unfold iR1 rgR; rfl
def bindIE (r : RI) (k : List D → Rho → RE) : RE := match r with
  | .stuck => .stuck
  | .exc x ρ1 => .exc x ρ1
  | .ok ds ρ1 => k ds ρ1
@[simp] theorem bindIE_ok (ds : List D) (k : List D → Rho → RE) : bindIE (.ok ds ρ) k = k ds ρ := rfl
@[simp] theorem bindIE_st (k : List D → Rho → RE) : bindIE .stuck k = .stuck := rfl
@[simp] theorem bindIE_if (a b : RI) (k : List D → Rho → RE) : bindIE (if c then a else b) k = if c then bindIE a k else bindIE b k := by split <;> rfl
@[simp] theorem eLc_eq (vs : List Nat) (fi : IF) (g : D → Rho → Option Rho) (ft fe : EF) : eLc vs fi g ft fe ρ = bindIE (fi ρ) fun ds ρ1 => if vs.all fun i => !ioAt ρ1 i then lcL vs g ft fe ds [] (wipeR ρ1 vs) else .stuck := by unfold eLc bindIE; rfl
@[simp] theorem eNox_eq (f : EF) : eNox f ρ = match f ρ with | .exc _ _ => .stuck | r => r := rfl
@[simp] theorem wipeR_nil : wipeR ρ [] = ρ := rfl
@[simp] theorem wipeR_cons (v : Nat) (vs : List Nat) : wipeR ρ (v :: vs) = (wipeR ρ vs).set v none := rfl
@[simp] theorem addD_i (i j : Int) : addD (.int i) (.int j) = some (.sh (.int (i + j))) := rfl
@[simp] theorem addD_s (i j : Str) : addD (.str i) (.str j) = if i.length + j.length ≤ sizeLine then some (.sh (.str (i ++ j))) else none := rfl
@[simp] theorem addD_t (i j : List D) : addD (.tuple i) (.tuple j) = if i.length + j.length ≤ sizeLine then some (.sh (.tuple (i ++ j))) else none := rfl
@[simp] theorem addD_l (i j : List D) : addD (.list i) (.list j) = if i.length + j.length ≤ sizeLine then some (.fr (.list (i ++ j))) else none := rfl
@[simp] theorem subD_i (i j : Int) : subD (.int i) (.int j) = some (.sh (.int (i - j))) := rfl
theorem mulD_i (i j : Int) : mulD (.int i) (.int j) = if cMul i j then some (.sh (.int (i * j))) else none := rfl
theorem divD_i (i j : Int) : divD (.int i) (.int j) = if decide (0 < j) && Nat.ble j.natAbs 1073741823 then some (.sh (.int (i / j))) else none := rfl
theorem modD_i (i j : Int) : modD (.int i) (.int j) = if decide (0 < j) then some (.sh (.int (i % j))) else none := rfl
@[simp] theorem resO_div {i j : Int} (h0 : 0 < j) (h1 : j < 1073741824) : resO (divD (.int i) (.int j)) ρ = .ok (.sh (.int (i / j))) ρ := by
  rw [divD_i, decide_eq_true h0, Nat.ble_eq_true_of_le (show j.natAbs ≤ 1073741823 by omega)]; rfl
@[simp] theorem resO_mod {i j : Int} (h0 : 0 < j) : resO (modD (.int i) (.int j)) ρ = .ok (.sh (.int (i % j))) ρ := by
  rw [modD_i, decide_eq_true h0]; rfl
@[simp] theorem resO_mul {i j : Int} (h : cMul i j = true) : resO (mulD (.int i) (.int j)) ρ = .ok (.sh (.int (i * j))) ρ := by
  rw [mulD_i, h]; rfl
theorem cMul_l {i j : Int} (h : i.natAbs < 18446744073709551616) : cMul i j = true := by
  unfold cMul
  rw [Nat.ble_eq_true_of_le (show i.natAbs ≤ 18446744073709551615 by omega), Bool.true_or]
theorem cMul_r {i j : Int} (h : j.natAbs < 18446744073709551616) : cMul i j = true := by
  unfold cMul
  rw [Nat.ble_eq_true_of_le (show j.natAbs ≤ 18446744073709551615 by omega), Bool.or_true]
theorem powD_i (i j : Int) : powD (.int i) (.int j) = if decide (0 ≤ j) && Nat.ble j.natAbs 1000000 && Nat.ble i.natAbs 18446744073709551615 then some (.sh (.int (i ^ j.toNat))) else none := rfl
@[simp] theorem resO_pow {i j : Int} (h0 : 0 ≤ j) (h1 : j ≤ 1000000) (h2 : i.natAbs < 18446744073709551616) : resO (powD (.int i) (.int j)) ρ = .ok (.sh (.int (i ^ j.toNat))) ρ := by
  rw [powD_i, decide_eq_true h0, Nat.ble_eq_true_of_le (show j.natAbs ≤ 1000000 by omega), Nat.ble_eq_true_of_le (show i.natAbs ≤ 18446744073709551615 by omega)]; rfl
@[simp] theorem ltI_i (f : Int → Int → Bool) (i j : Int) : ltI f (.int i) (.int j) = some (.sh (.bool (f i j))) := rfl
@[simp] theorem lenD_l (ds : List D) : lenD (.list ds) = some (.sh (.int ds.length)) := rfl
@[simp] theorem lenD_t (ds : List D) : lenD (.tuple ds) = some (.sh (.int ds.length)) := rfl
@[simp] theorem lenD_s (z : Str) : lenD (.str z) = if z.length ≤ sizeLine then some (.sh (.int z.length)) else none := rfl
@[simp] theorem ixD_l (ds : List D) (i : Int) : ixD (.list ds) (.int i) = (atI ds i).map Hd.sh := rfl
@[simp] theorem ixD_t (ds : List D) (i : Int) : ixD (.tuple ds) (.int i) = (atI ds i).map Hd.sh := rfl
@[simp] theorem ixD_s (z : Str) (i : Int) : ixD (.str z) (.int i) = if z.length ≤ sizeLine then (atI z.cps.toList i).map fun c => Hd.sh (.str ⟨#[c]⟩) else none := rfl
@[simp] theorem slD_l (lo hi : Option Int) (ds : List D) : slD lo hi (.list ds) = some (.fr (.list (cutD ds lo hi))) := rfl
@[simp] theorem slD_t (lo hi : Option Int) (ds : List D) : slD lo hi (.tuple ds) = some (.sh (.tuple (cutD ds lo hi))) := rfl
@[simp] theorem slD_s (lo hi : Option Int) (z : Str) : slD lo hi (.str z) = if z.length ≤ sizeLine then some (.sh (.str (cutS z lo hi))) else none := rfl
@[simp] theorem listD_l (ds : List D) : listD (.list ds) = some (.fr (.list ds)) := rfl
@[simp] theorem listD_t (ds : List D) : listD (.tuple ds) = some (.fr (.list ds)) := rfl
@[simp] theorem tupleD_l (ds : List D) : tupleD (.list ds) = some (.sh (.tuple ds)) := rfl
@[simp] theorem tupleD_t (ds : List D) : tupleD (.tuple ds) = some (.sh (.tuple ds)) := rfl
@[simp] theorem inD_c (neg : Bool) (c : Nat) (z : Str) : inD neg (.str ⟨#[c]⟩) (.str z) = some (.sh (.bool (neg ^^ decide (c ∈ z.cps.toList)))) := rfl
end
end GS
namespace GS
open PySem L2
section
variable {ρ ρ1 : Rho} {c : Prop} [Decidable c]
/-- a def's end -/
def finR (n : Nat) (r : RS) : RE := match r with
  | .rt (.bw _) _ => .stuck
  | .rt (.sp _ _) _ => .stuck
  | .rt h ρ1 => .ok h (outR ρ1 n)
  | .nx ρ1 => .ok (.sh .none) (outR ρ1 n)
  | .exc x ρ1 => .exc x (outR ρ1 n)
  | _ => .stuck
@[simp] theorem finR_sh (n : Nat) (d : D) : finR n (.rt (.sh d) ρ) = .ok (.sh d) (outR ρ n) := rfl
@[simp] theorem finR_fr (n : Nat) (d : D) : finR n (.rt (.fr d) ρ) = .ok (.fr d) (outR ρ n) := rfl
@[simp] theorem finR_nx (n : Nat) : finR n (.nx ρ) = .ok (.sh .none) (outR ρ n) := rfl
@[simp] theorem finR_ex (n : Nat) (x : Xc) : finR n (.exc x ρ) = .exc x (outR ρ n) := rfl
@[simp] theorem finR_if (n : Nat) (a b : RS) : finR n (if c then a else b) = if c then finR n a else finR n b := by split <;> rfl
theorem fnF_eq (m n : Nat) (g : SF) : fnF m n g ρ = finR n (g (ρ ++ List.replicate (m - n) none)) := by unfold fnF finR; rfl
@[simp] theorem ioC_sh (d : D) : ioC (some ⟨d, .sh⟩) = none := rfl
@[simp] theorem ioC_ow (d : D) : ioC (some ⟨d, .ow⟩) = none := rfl
@[simp] theorem ioC_io (d : D) : ioC (some ⟨d, .io⟩) = some ⟨d, .io⟩ := rfl
@[simp] theorem ioC_st (d : D) : ioC (some ⟨d, .st⟩) = some ⟨d, .st⟩ := rfl
@[simp] theorem ioC_no : ioC none = none := rfl
/-- a call -/
def backR (ρ1 : Rho) (io : Option Nat) (hs : List Hd) (r : RE) : RE := match r with
    | .stuck => .stuck
    | .ok h outs => match h, putB ρ1 io hs outs with
      | .bw _, _ => .stuck
      | .sp _ _, _ => .stuck
      | _, none => .stuck
      | _, some ρ2 => .ok h ρ2
    | .exc x outs => match putB ρ1 io hs outs with
      | none => .stuck
      | some ρ2 => .exc x ρ2
@[simp] theorem backR_sh (d : D) (hs : List Hd) (outs : Rho) : backR ρ none hs (.ok (.sh d) outs) = .ok (.sh d) ρ := rfl
@[simp] theorem backR_fr (d : D) (hs : List Hd) (outs : Rho) : backR ρ none hs (.ok (.fr d) outs) = .ok (.fr d) ρ := rfl
@[simp] theorem backR_ex (x : Xc) (hs : List Hd) (outs : Rho) : backR ρ none hs (.exc x outs) = .exc x ρ := rfl
@[simp] theorem backR_if (io : Option Nat) (hs : List Hd) (a b : RE) : backR ρ io hs (if c then a else b) = if c then backR ρ io hs a else backR ρ io hs b := by split <;> rfl
def callR (n : Nat) (io : Option Nat) (F : FF) (hs : List Hd) (ρ1 : Rho) (a : Option Rho) : RE := match a with
  | none => .stuck
  | some ρ0 => if ρ0.length ≠ n then .stuck else backR ρ1 io hs (F ρ0)
@[simp] theorem callR_s (n : Nat) (io : Option Nat) (F : FF) (hs : List Hd) (ρ0 : Rho) : callR n io F hs ρ (some ρ0) = if ρ0.length ≠ n then .stuck else backR ρ io hs (F ρ0) := rfl
@[simp] theorem eCall_eq (n : Nat) (io : Option Nat) (F : FF) (fs : AF) : eCall n io F fs ρ = bindA (fs ρ) fun hs ρ1 => callR n io F hs ρ1 (args ρ1 io 0 hs) := by
  unfold eCall callR backR
  rfl
@[simp] theorem args_nil (io : Option Nat) (k : Nat) : args ρ io k [] = some [] := rfl
def consC (a : Option Cel) (b : Option Rho) : Option Rho := match a, b with
  | some c, some r => some (some c :: r)
  | _, _ => none
@[simp] theorem consC_s (c : Cel) (r : Rho) : consC (some c) (some r) = some (some c :: r) := rfl
@[simp] theorem args_cons (io : Option Nat) (k : Nat) (h : Hd) (hs : List Hd) : args ρ io k (h :: hs) = consC (argC ρ (decide (io = some k)) h) (args ρ io (k + 1) hs) := by
  unfold consC
  rw [args]
  try rfl
@[simp] theorem argC_shf (d : D) : argC ρ false (.sh d) = some ⟨d, .sh⟩ := rfl
theorem okR_nat {m : Nat} (h : m ≤ 1000000000) : okR (m : Int) = true := by
  unfold okR
  rw [Int.natAbs_natCast]
  exact Nat.ble_eq_true_of_le h
@[simp] theorem forL_nil (g : D → Rho → Option Rho) (b : SF) : forL g b [] ρ = .nx ρ := rfl
/-- one turn's end -/
def turnR (k : Rho → RS) (r : RS) : RS := match r with
  | .nx ρ2 => k ρ2
  | .ct ρ2 => k ρ2
  | .bk ρ2 => .nx ρ2
  | r => r
@[simp] theorem turnR_nx (k : Rho → RS) : turnR k (.nx ρ) = k ρ := rfl
@[simp] theorem turnR_ct (k : Rho → RS) : turnR k (.ct ρ) = k ρ := rfl
@[simp] theorem turnR_bk (k : Rho → RS) : turnR k (.bk ρ) = .nx ρ := rfl
@[simp] theorem turnR_rt (k : Rho → RS) (h : Hd) : turnR k (.rt h ρ) = .rt h ρ := rfl
@[simp] theorem turnR_ex (k : Rho → RS) (x : Xc) : turnR k (.exc x ρ) = .exc x ρ := rfl
@[simp] theorem turnR_st (k : Rho → RS) : turnR k .stuck = .stuck := rfl
@[simp] theorem turnR_if (k : Rho → RS) (a b : RS) : turnR k (if c then a else b) = if c then turnR k a else turnR k b := by split <;> rfl
def optR (o : Option Rho) (k : Rho → RS) : RS := match o with
  | none => .stuck
  | some ρ1 => k ρ1
@[simp] theorem optR_s (k : Rho → RS) : optR (some ρ) k = k ρ := rfl
theorem forL_cons (g : D → Rho → Option Rho) (b : SF) (d : D) (ds : List D) : forL g b (d :: ds) ρ = optR (g d ρ) fun ρ1 => turnR (forL g b ds) (b ρ1) := by
  unfold optR turnR
  rw [forL]
  try rfl
def optE (o : Option Rho) (k : Rho → RE) : RE := match o with
  | none => .stuck
  | some ρ1 => k ρ1
@[simp] theorem optE_s (k : Rho → RE) : optE (some ρ) k = k ρ := rfl
theorem lcL_nil (vs : List Nat) (g : D → Rho → Option Rho) (ft fe : EF) (acc : List D) : lcL vs g ft fe [] acc ρ = .ok (.fr (.list acc)) ρ := rfl
def lcR (acc : List D) (k : List D → Rho → RE) (h : Hd) (ρ3 : Rho) : RE := match h with
  | .sh y => if acc.length < sizeLine then k (acc ++ [y]) ρ3 else .stuck
  | _ => .stuck
@[simp] theorem lcR_s (acc : List D) (k : List D → Rho → RE) (y : D) : lcR acc k (.sh y) ρ = if acc.length < sizeLine then k (acc ++ [y]) ρ else .stuck := rfl
theorem lcL_cons (vs : List Nat) (g : D → Rho → Option Rho) (ft fe : EF) (d : D) (ds acc : List D) : lcL vs g ft fe (d :: ds) acc ρ = optE (g d ρ) fun ρ1 => bindB (ft ρ1) fun c ρ2 => if c then bindE (eCap fe ρ2) (lcR acc fun acc' ρ3 => lcL vs g ft fe ds acc' (wipeR ρ3 vs)) else lcL vs g ft fe ds acc (wipeR ρ2 vs) := by
  unfold optE lcR
  rw [lcL]
  try rfl
@[simp] theorem gN_eq (i : Nat) (d : D) : gN i d ρ = if i < ρ.length && !ioAt ρ i then some (ρ.set i (some ⟨d, .sh⟩)) else none := rfl
@[simp] theorem optR_if (a b : Option Rho) (k : Rho → RS) : optR (if c then a else b) k = if c then optR a k else optR b k := by split <;> rfl
@[simp] theorem optE_if (a b : Option Rho) (k : Rho → RE) : optE (if c then a else b) k = if c then optE a k else optE b k := by split <;> rfl
@[simp] theorem setR_eq (i : Nat) (c : Cel) : setR ρ i c = if i < ρ.length && !ioAt ρ i then .nx (ρ.set i (some c)) else .stuck := rfl
theorem rgD_mid {lo : Int} {n : Nat} {pre : List D} {d : D} {post : List D} (h : rgD lo n = pre ++ d :: post) : pre.length < n ∧ d = .int (lo + (pre.length : Int)) := by
  have hl : (rgD lo n).length = n := by unfold rgD; rw [List.length_map, List.length_range]
  have h2 : (rgD lo n)[pre.length]? = some d := by rw [h, List.getElem?_append_right (Nat.le_refl _), Nat.sub_self]; rfl
  have h3 : pre.length < n := by rw [← hl]; exact (List.getElem?_eq_some_iff.mp h2).1
  refine ⟨h3, ?_⟩
  unfold rgD at h2
  rw [List.getElem?_map, List.getElem?_range h3] at h2
  exact (Option.some.inj h2).symm
theorem rgD_len (lo : Int) (n : Nat) : (rgD lo n).length = n := by unfold rgD; rw [List.length_map, List.length_range]
@[simp] theorem atI_zero {α : Type} (x : α) (xs : List α) : atI (x :: xs) 0 = some x := by
  have := atI_nat (xs := x :: xs) (j := 0) (v := x) rfl
  exact this
theorem atI_lt {α : Type} {xs : List α} {i : Int} (h0 : 0 ≤ i) (h1 : i < xs.length) : ∃ x, atI xs i = some x ∧ x ∈ xs := by
  have hk : i.toNat < xs.length := by omega
  have e : i = ((i.toNat : Nat) : Int) := by omega
  have q := atI_nat (xs := xs) (List.getElem?_eq_getElem hk)
  rw [← e] at q
  exact ⟨_, q, List.getElem_mem hk⟩
end
end GS
namespace GS
open PySem L2
def kEq : D → D → Bool
  | .int i, .int j => decide (i = j)
  | .str i, .str j => decide (i = j)
  | .tuple xs, .tuple ys => match tkD xs, tkD ys with
    | some k, some l => decide (k = l)
    | _, _ => false
  | _, _ => false
/-- ints and texts -/
def isS : D → Bool
  | .int _ => true
  | .str _ => true
  | _ => false
/-- what may be a key -/
def isK : D → Bool
  | .int _ => true
  | .str _ => true
  | .tuple ds => (tkD ds).isSome
  | _ => false
/-- a key of another sort than the dict's first -/
def mixB (ps : List (D × D)) (k : D) : Bool := match ps with
  | [] => false
  | p :: _ => tupB p.1 != tupB k
def dGet : List (D × D) → D → Option D
  | [], _ => none
  | (a, d) :: r, k => if kEq a k then some d else dGet r k
def dPut (ps : List (D × D)) (k v : D) : List (D × D) := if ps.any (fun p => kEq p.1 k) then ps.map (fun p => if kEq p.1 k then (p.1, v) else p) else ps ++ [(k, v)]
theorem isS_k {d : D} (h : isS d = true) : ∃ k, d = kD k := by
  cases d <;> first | (cases h; done) | skip
  · exact ⟨.inl _, rfl⟩
  · exact ⟨.inr _, rfl⟩
theorem tkD_tup {ds : List D} {k : NestedKey} (h : tkD ds = some k) : ∃ ks, k = .tup ks ∧ nkL ds = some ks ∧ k.depth ≤ 8 := by
  obtain ⟨ks, e1, e2⟩ := Option.bind_eq_some_iff.mp h
  obtain ⟨c, rfl⟩ := if_some e2
  exact ⟨ks, rfl, e1, c⟩
theorem isK_key {d : D} (h : isK d = true) : ∃ k, keyD d = some k := by
  cases d <;> first | (cases h; done) | skip
  · exact ⟨_, rfl⟩
  · exact ⟨_, rfl⟩
  · exact ⟨_, Option.some_get h |>.symm⟩
theorem kEq_key {a b : D} {k l : NestedKey} (ha : keyD a = some k) (hb : keyD b = some l) : kEq a b = decide (k = l) := by
  cases a <;> first | (cases ha; done) | skip
  · cases b <;> first | (cases hb; done) | skip
    · cases ha; cases hb; simp [kEq]
    · cases ha; cases hb; simp [kEq]
    · cases ha
      obtain ⟨ks, rfl, _⟩ := tkD_tup hb
      simp [kEq]
  · cases b <;> first | (cases hb; done) | skip
    · cases ha; cases hb; simp [kEq]
    · cases ha; cases hb; simp [kEq]
    · cases ha
      obtain ⟨ks, rfl, _⟩ := tkD_tup hb
      simp [kEq]
  · cases b <;> first | (cases hb; done) | skip
    · cases hb
      obtain ⟨ks, rfl, _⟩ := tkD_tup ha
      simp [kEq]
    · cases hb
      obtain ⟨ks, rfl, _⟩ := tkD_tup ha
      simp [kEq]
    · rename_i xs ys
      show (match tkD xs, tkD ys with | some k, some l => decide (k = l) | _, _ => false) = _
      rw [show tkD xs = some k from ha, show tkD ys = some l from hb]
section
variable {K : KW} {B H : Hp} {ρ : Rho} {σ : St} {x y v : V} {Q : VK} {b : Bool}
theorem Tp.key {k : Key} (h : Tp K B H v (kD k)) : v = kV k := by
  cases k
  · exact h.int
  · exact h.str
theorem rpx_get {kd : D} {k : NestedKey} (hk : keyD kd = some k) : ∀ {xs : List (NestedKey × Value × Value)} {ps : List (D × D)}, RpX K B b xs ps → (∀ d, dGet ps kd = some d → ∃ u v, look xs k = some u ∧ RelV v u ∧ Rp K B v d) ∧ (dGet ps kd = none → look xs k = none)
  | _, _, .nil => ⟨fun d h => (by cases h), fun _ => rfl⟩
  | _, _, .cons (k := k') (ku := ku) (u := u') (v := v') (xs := xs) (kd := kd') (d := d') (ps := ps) h1 h2 h3 h4 h5 h6 h7 => by
    obtain ⟨q1, q2⟩ := rpx_get hk h7
    have e1 : dGet ((kd', d') :: ps) kd = if k' = k then some d' else dGet ps kd := by
      show (if kEq kd' kd then some d' else dGet ps kd) = _
      rw [kEq_key h1 hk]
      by_cases e : k' = k <;> simp [e]
    rw [e1]
    by_cases e : k' = k
    · rw [if_pos e]
      refine ⟨fun d hd => ?_, fun hd => (by cases hd)⟩
      cases hd
      exact ⟨u', v', by simp [look, e], h5, h6⟩
    · rw [if_neg e]
      have e2 : look ((k', ku, u') :: xs) k = look xs k := by simp [look, e]
      rw [e2]
      exact ⟨q1, q2⟩
theorem rpx_is {kd : D} {k : NestedKey} (hk : keyD kd = some k) {xs : List (NestedKey × Value × Value)} {ps : List (D × D)} (h : RpX K B b xs ps) : (look xs k).isSome = (dGet ps kd).isSome := by
  obtain ⟨q1, q2⟩ := rpx_get hk h
  cases e : dGet ps kd with
  | none => rw [q2 e]; rfl
  | some d => obtain ⟨u, v, q, _⟩ := q1 d e; rw [q]; rfl
theorem rpx_len : ∀ {xs : List (NestedKey × Value × Value)} {ps : List (D × D)}, RpX K B b xs ps → xs.length = ps.length
  | _, _, .nil => rfl
  | _, _, .cons _ _ _ _ _ _ h => by rw [List.length_cons, List.length_cons, rpx_len h]
mutual
theorem nk_of {H : Hp} (s : SameT B H) : ∀ {v : V} (d : D) {k : NestedKey}, Rp K B v d → nkD d = some k → NK H v k
  | _, .none, _, .non, e => by cases e; exact .non
  | _, .bool _, _, .bl b, e => by cases e; exact .bl b
  | _, .int _, _, .int i, e => by cases e; exact .int i
  | _, .str _, _, .str x, e => by cases e; exact .str x
  | _, .tuple ds, _, .tup h t, e => by
    rw [nkD] at e
    obtain ⟨ks, e1, rfl⟩ := Option.map_eq_some_iff.mp e
    exact .tup (same_xT s h) (nks_of s ds t e1)
  | _, .list _, _, .lst _ _, e => by rw [nkD] at e; cases e
  | _, .dict _, _, .dct _ _, e => by rw [nkD] at e; cases e
  | _, .dict _, _, .exn _ _ _ _, e => by rw [nkD] at e; cases e
  | _, .dict _, _, .ptr _ _, e => by rw [nkD] at e; cases e
theorem nks_of {H : Hp} (s : SameT B H) : ∀ {vs : List V} (ds : List D) {ks : List NestedKey}, RpL K B vs ds → nkL ds = some ks → NKs H vs ks
  | _, [], _, .nil, e => by rw [nkL] at e; cases e; exact .nil
  | _, d :: ds, _, .cons h t, e => by
    rw [nkL] at e
    obtain ⟨k, e1, e2⟩ := Option.bind_eq_some_iff.mp e
    obtain ⟨ks, e3, rfl⟩ := Option.map_eq_some_iff.mp e2
    exact .cons (nk_of s d h e1) (nks_of s ds t e3)
end
/-- a key that is a tuple -/
theorem tk_of {H : Hp} (s : SameT B H) {v : V} {kd : D} {k : NestedKey} (h : Rp K B v kd) (e : keyD kd = some k) (ht : tupB kd = true) : ∃ b, KeyAt H v b k := by
  cases kd <;> first | (cases ht; done) | skip
  rename_i ds
  obtain ⟨ks, rfl, e1, c⟩ := tkD_tup (show tkD ds = some k from e)
  cases h with
  | tup q t => exact ⟨_, rfl, .tup (same_xT s q) (nks_of s ds t e1), c⟩
/-- a key that is none -/
theorem sk_of {v : V} {kd : D} {k : NestedKey} (h : Rp K B v kd) (e : keyD kd = some k) (ht : tupB kd = false) : ∃ kk, v = kV kk ∧ kd = kD kk ∧ k = nkK kk := by
  cases kd <;> first | (cases e; done) | (cases ht; done) | skip
  · cases e; cases h; exact ⟨.inl _, rfl, rfl, rfl⟩
  · cases e; cases h; exact ⟨.inr _, rfl, rfl, rfl⟩
theorem rpx_T {H : Hp} (s : SameT B H) : ∀ {xs : List (NestedKey × Value × Value)} {ps : List (D × D)}, RpX K B true xs ps → ∃ ys : List (NestedKey × Addr × Value), xs = ys.map refK ∧ KOk H ys ∧ ∀ y ∈ ys, ∃ kd, Rp K B (.ref y.2.1) kd ∧ keyD kd = some y.1 ∧ tupB kd = true
  | _, _, .nil => ⟨[], rfl, (fun _ m => by cases m), fun _ m => by cases m⟩
  | _, _, .cons (k := k) (u := u) (kd := kd) h1 h2 h3 h4 h5 h6 h7 => by
    obtain ⟨ys, rfl, q2, q3⟩ := rpx_T s h7
    obtain ⟨b, rfl, q4, q5⟩ := tk_of s h3 h1 h2
    cases h4
    refine ⟨(k, b, u) :: ys, rfl, fun y m => ?_, fun y m => ?_⟩
    · cases m with
      | head => exact ⟨q4, q5⟩
      | tail _ m => exact q2 y m
    · cases m with
      | head => exact ⟨kd, h3, h1, h2⟩
      | tail _ m => exact q3 y m
/-- keys that are ints and texts, by key and value -/
def RpS (K : KW) (B : Hp) : List (Key × Value) → List (D × D) → Prop := Paired fun p q => q.1 = kD p.1 ∧ ∃ v, RelV v p.2 ∧ Rp K B v q.2
theorem rpx_S : ∀ {xs : List (NestedKey × Value × Value)} {ps : List (D × D)}, RpX K B false xs ps → ∃ ys, xs = ys.map valK ∧ SOk ys ∧ RpS K B (pairK ys) ps
  | _, _, .nil => ⟨[], rfl, (fun _ m => by cases m), .nil⟩
  | _, _, .cons (ku := ku) (u := u) h1 h2 h3 h4 h5 h6 h7 => by
    obtain ⟨ys, rfl, q2, q3⟩ := rpx_S h7
    obtain ⟨kk, rfl, rfl, rfl⟩ := sk_of h3 h1 h2
    refine ⟨(kk, ku, u) :: ys, rfl, fun y m => ?_, .cons ⟨rfl, _, h5, h6⟩ q3⟩
    cases m with
    | head => exact (by
        cases kk
        · obtain ⟨t, rfl⟩ := h4; exact keyIs_int _ t
        · obtain ⟨t, rfl⟩ := h4; exact keyIs_str _ t)
    | tail _ m => exact q2 y m
theorem rp_kV (k : Key) : Rp K B (kV k) (kD k) := by
  cases k
  · exact .int _
  · exact .str _
theorem relV_key {k : Key} {u : Value} (h : keyIs k u = true) : RelV (kV k) u := by
  rcases keyIs_shape h with ⟨i, t, rfl, rfl⟩ | ⟨x, t, rfl, rfl⟩
  · exact ⟨t, rfl⟩
  · exact ⟨t, rfl⟩
theorem keyD_k (k : Key) : keyD (kD k) = some (nkK k) ∧ tupB (kD k) = false := by cases k <;> exact ⟨rfl, rfl⟩
theorem rps_X : ∀ {ys : List (Key × Value × Value)} {ps : List (D × D)}, SOk ys → RpS K B (pairK ys) ps → RpX K B false (ys.map valK) ps
  | [], _, _, r => by cases r; exact .nil
  | y :: ys, _, h, r => by
    cases r with
    | @cons p q _ qs hq t =>
      obtain ⟨kd, d⟩ := q
      obtain ⟨e1, v, e2, e3⟩ := hq
      simp only at e1
      subst e1
      obtain ⟨e4, e5⟩ := keyD_k y.1
      exact .cons e4 e5 (rp_kV y.1) (relV_key (h y (by simp))) e2 e3 (rps_X (fun z m => h z (by simp [m])) t)
theorem kEq_k (a b : Key) : kEq (kD a) (kD b) = decide (a = b) := by
  cases a <;> cases b <;> simp [kD, kEq]
theorem rps_any {k : Key} : ∀ {vs : List (Key × Value)} {ps : List (D × D)}, RpS K B vs ps → (vs.any fun kv => decide (kv.1 = k)) = ps.any fun p => kEq p.1 (kD k)
  | _, _, .nil => rfl
  | _, _, .cons h t => by rw [List.any_cons, List.any_cons, rps_any t, h.1, kEq_k]
theorem rps_map {k : Key} {d : D} {v : V} {u : Value} (r : RelV v u) (q : Rp K B v d) : ∀ {vs : List (Key × Value)} {ps : List (D × D)}, RpS K B vs ps → RpS K B (vs.map fun kv => if kv.1 = k then (kv.1, u) else kv) (ps.map fun p => if kEq p.1 (kD k) then (p.1, d) else p)
  | _, _, .nil => .nil
  | _, _, .cons (a := p) (b := z) h t => by
    rw [List.map_cons, List.map_cons, h.1, kEq_k]
    by_cases e : p.1 = k
    · simp only [e, if_true, decide_true]
      exact .cons ⟨rfl, v, r, q⟩ (rps_map r q t)
    · simp only [e, if_false, decide_false, Bool.false_eq_true]
      exact .cons h (rps_map r q t)
theorem rps_app {k : Key} {d : D} {v : V} {u : Value} (r : RelV v u) (q : Rp K B v d) : ∀ {vs : List (Key × Value)} {ps : List (D × D)}, RpS K B vs ps → RpS K B (vs ++ [(k, u)]) (ps ++ [(kD k, d)])
  | _, _, .nil => .cons ⟨rfl, v, r, q⟩ .nil
  | _, _, .cons h t => .cons h (rps_app r q t)
theorem rps_put {k : Key} {d : D} {v : V} {u : Value} (r : RelV v u) (q : Rp K B v d) {vs : List (Key × Value)} {ps : List (D × D)} (h : RpS K B vs ps) : RpS K B (stored vs k u) (dPut ps (kD k) d) := by
  unfold stored dPut
  rw [rps_any h]
  split
  · exact rps_map r q h
  · exact rps_app r q h
/-- keys that are tuples, put -/
theorem rpx_any {kd : D} {k : NestedKey} (hk : keyD kd = some k) : ∀ {ys : List (NestedKey × Addr × Value)} {ps : List (D × D)}, RpX K B true (ys.map refK) ps → (ps.any fun p => kEq p.1 kd) = (atKey ys k).isSome
  | [], _, h => by cases h; rfl
  | y :: ys, _, h => by
    cases h with
    | cons h1 h2 h3 h4 h5 h6 h7 =>
      have ih := rpx_any hk h7
      rw [List.any_cons, kEq_key h1 hk, ih]
      by_cases e : y.1 = k <;> simp [atKey, e]
theorem rpx_map {kd d : D} {k : NestedKey} {u : Value} {v : V} (hk : keyD kd = some k) (r : RelV v u) (q : Rp K B v d) : ∀ {ys : List (NestedKey × Addr × Value)} {ps : List (D × D)}, RpX K B true (ys.map refK) ps → RpX K B true ((ys.map (putAt k u)).map refK) (ps.map fun p => if kEq p.1 kd then (p.1, d) else p)
  | [], _, h => by cases h; exact .nil
  | y :: ys, _, h => by
    cases h with
    | cons h1 h2 h3 h4 h5 h6 h7 =>
      have ih := rpx_map hk r q h7
      rw [List.map_cons, List.map_cons, List.map_cons, kEq_key h1 hk]
      by_cases e : y.1 = k
      · simp only [putAt, e, if_true, decide_true]
        exact .cons (e ▸ h1) h2 h3 h4 r q ih
      · simp only [putAt, e, if_false, decide_false, Bool.false_eq_true]
        exact .cons h1 h2 h3 h4 h5 h6 ih
theorem rpx_app {kd d : D} {k : NestedKey} {a : Addr} {u : Value} {v : V} (hk : keyD kd = some k) (ht : tupB kd = true) (ha : Rp K B (.ref a) kd) (r : RelV v u) (q : Rp K B v d) : ∀ {ys : List (NestedKey × Addr × Value)} {ps : List (D × D)}, RpX K B true (ys.map refK) ps → RpX K B true ((ys ++ [(k, a, u)]).map refK) (ps ++ [(kd, d)])
  | [], _, h => by cases h; exact .cons hk ht ha rfl r q .nil
  | y :: ys, _, h => by
    cases h with
    | cons h1 h2 h3 h4 h5 h6 h7 => exact .cons h1 h2 h3 h4 h5 h6 (rpx_app hk ht ha r q h7)
theorem rpx_put {kd d : D} {k : NestedKey} {a : Addr} {u : Value} {v : V} (hk : keyD kd = some k) (ht : tupB kd = true) (ha : Rp K B (.ref a) kd) (r : RelV v u) (q : Rp K B v d) {ys : List (NestedKey × Addr × Value)} {ps : List (D × D)} (h : RpX K B true (ys.map refK) ps) : RpX K B true ((storedH ys k a u).map refK) (dPut ps kd d) := by
  unfold storedH dPut
  rw [rpx_any hk h]
  split
  · exact rpx_map hk r q h
  · exact rpx_app hk ht ha r q h
/-- of the sort of the key asked for -/
theorem rpx_sort {xs : List (NestedKey × Value × Value)} {ps : List (D × D)} {kd : D} (h : RpX K B b xs ps) (m : mixB ps kd = false) : RpX K B (tupB kd) xs ps := by
  cases h with
  | nil => exact .nil
  | cons h1 h2 h3 h4 h5 h6 h7 =>
    have m : (tupB _ != tupB kd) = false := m
    rw [h2] at m
    have e : b = tupB kd := by simpa using m
    subst e
    exact .cons h1 h2 h3 h4 h5 h6 h7
theorem rpx_got {xs : List (NestedKey × Value × Value)} {ps : List (D × D)} {kd d : D} {k : NestedKey} (hk : keyD kd = some k) (h : RpX K B b xs ps) (e : dGet ps kd = some d) : b = tupB kd := by
  induction ps generalizing xs with
  | nil => cases e
  | cons p ps ih =>
    cases h with
    | @cons _ k' _ _ _ _ _ kd' _ _ h1 h2 h3 h4 h5 h6 h7 =>
      by_cases q : k' = k
      · subst q
        rw [← h2]
        cases kd' <;> first | (cases h1; done) | skip
        · cases h1
          cases kd <;> first | (cases hk; done) | rfl | skip
          obtain ⟨ks, z, _⟩ := tkD_tup hk
          cases z
        · cases h1
          cases kd <;> first | (cases hk; done) | rfl | skip
          obtain ⟨ks, z, _⟩ := tkD_tup hk
          cases z
        · obtain ⟨ks, rfl, _⟩ := tkD_tup h1
          cases kd <;> first | (cases hk; done) | rfl
      · refine ih h7 ?_
        have e : (if kEq kd' kd then some _ else dGet ps kd) = some d := e
        rw [kEq_key h1 hk] at e
        simpa [q] using e
/-- y may be asked of it -/
theorem look_of {H : Hp} (s : SameT B H) {a : Addr} {ep : Nat} {xs : List (NestedKey × Value × Value)} {ps : List (D × D)} {kd : D} {k : NestedKey} (e : H a = some (dX K.w a ep xs)) (h : RpX K B (tupB kd) xs ps) (hk : keyD kd = some k) (r : Rp K B y kd) : LookX K.w H a y (look xs k) := by
  refine ⟨ep, xs, k, e, rfl, ?_⟩
  cases ht : tupB kd with
  | true =>
    rw [ht] at h
    obtain ⟨ys, rfl, q2, _⟩ := rpx_T s h
    obtain ⟨b, q⟩ := tk_of s r hk ht
    exact .inl ⟨b, ys, rfl, q2, q⟩
  | false =>
    rw [ht] at h
    obtain ⟨ys, rfl, q2, _⟩ := rpx_S h
    obtain ⟨kk, rfl, rfl, rfl⟩ := sk_of r hk ht
    exact .inr ⟨ys, kk, rfl, q2, rfl, rfl⟩
/-- what a dict stands as -/
theorem Tp.dcs {H : Hp} {v : V} {ps : List (D × D)} (h : Tp K B H v (.dict ps)) (hx : (∃ d, ps = [(.none, d)]) → False) : ∃ a ep b xs, v = .ref a ∧ H a = some (dX K.w a ep xs) ∧ RpX K B b xs ps := by
  rcases h with h | ⟨z, h⟩
  · exact h
  · cases h with
    | dct _ r =>
      cases r with
      | nil => cases z
      | @cons _ _ _ _ _ _ _ kd _ _ h1 _ _ _ _ _ _ => cases kd <;> first | (cases z; done) | cases h1
    | exn _ _ _ _ => exact (hx ⟨_, rfl⟩).elim
    | ptr _ _ => exact (hx ⟨_, rfl⟩).elim
theorem dGet_xn {ps : List (D × D)} (h : ∃ d, ps = [(.none, d)]) (k : D) : dGet ps k = none := by
  obtain ⟨d, rfl⟩ := h
  cases k <;> rfl
/-- a key as it stands -/
theorem Tp.rpK {H : Hp} {v : V} {kd : D} {k : NestedKey} (h : Tp K B H v kd) (hk : keyD kd = some k) : Rp K B v kd := by
  cases kd <;> first | (cases hk; done) | exact h
def dgD : D → D → Option Hd
  | .dict ps, k => if isK k then (dGet ps k).map Hd.sh else none
  | _, _ => none
theorem ol_dg : OpL K (rXG K.w) dgD := fun ρ σ B H x y dx dy h Q S tx ty e k => by
  cases dx <;> first | (cases (show none = some h from e); done) | skip
  rename_i ps
  replace e : (if isK dy then (dGet ps dy).map Hd.sh else none) = some h := e
  split at e
  · rename_i hk
    obtain ⟨d, e1, rfl⟩ := Option.map_eq_some_iff.mp e
    obtain ⟨a, ep, b, xs, rfl, ha, ra⟩ := tx.dcs fun z => by
      rw [dGet_xn z dy] at e1
      cases e1
    obtain ⟨nk, hn⟩ := isK_key hk
    have eb := rpx_got hn ra e1
    subst eb
    obtain ⟨u, v, q1, q2, q3⟩ := (rpx_get hn ra).1 d e1
    have q4 := look_of S.bh ha ra hn (ty.rpK hn)
    rw [q1] at q4
    exact ⟨a, u, v, rfl, q4, q2, now S q3 k⟩
  · cases e
def ixA : D → D → Option Hd
  | .dict ps, k => dgD (.dict ps) k
  | d, k => ixD d k
def rIxA (K : PySem.W.Frag) (w : World) : R2 := fun x y H Q => rIx K x y H Q ∨ rXG w x y H Q
theorem ol_ixA : OpL K (rIxA K K.w) ixA := fun ρ σ B H x y dx dy h Q S tx ty e k => by
  cases dx with
  | dict ps => exact .inr (ol_dg ρ σ B H x y _ dy h Q S tx ty e k)
  | _ => exact .inl (ol_ix ρ σ B H x y _ dy h Q S tx ty e k)
def dinD (neg : Bool) : D → D → Option Hd
  | k, .dict ps => if isK k && !xnB ps && !mixB ps k then some (.sh (.bool (neg ^^ (dGet ps k).isSome))) else none
  | _, _ => none
theorem ol_din {neg : Bool} : OpL K (rXin neg K.w) (dinD neg) := fun ρ σ B H x y dx dy h Q S tx ty e k => by
  cases dy <;> first | (cases dx <;> cases (show none = some h from e); done) | skip
  rename_i ps
  replace e : (if isK dx && !xnB ps && !mixB ps dx then some (Hd.sh (.bool (neg ^^ (dGet ps dx).isSome))) else none) = some h := by cases dx <;> exact e
  obtain ⟨hk, rfl⟩ := if_some e
  rw [Bool.and_eq_true, Bool.and_eq_true] at hk
  obtain ⟨⟨hk, hx⟩, hm⟩ := hk
  have hm : mixB ps dx = false := by simpa using hm
  obtain ⟨a, ep, b, xs, rfl, ha, ra⟩ := ty.dcs fun z => by
    obtain ⟨d, rfl⟩ := z
    cases hx
  obtain ⟨nk, hn⟩ := isK_key hk
  have ra := rpx_sort ra hm
  refine ⟨a, _, rfl, look_of S.bh ha ra hn (tx.rpK hn), ?_⟩
  rw [rpx_is hn ra]
  exact now S (.bl _) k
def inB (neg : Bool) : D → D → Option Hd
  | k, .dict ps => dinD neg k (.dict ps)
  | a, b => inD neg a b
theorem op_inB {X : Cx} (hu : X.A.units + 65 < cLine) : OpR X (compareOp .In) (fun x y H Q => rInA X.K x y H Q ∨ rXin false X.w x y H Q) := OpR.or (op_inA hu) (op_Xin hu)
theorem op_notInB {X : Cx} (hu : X.A.units + 65 < cLine) : OpR X (compareOp .NotIn) (fun x y H Q => rNotInA X.K x y H Q ∨ rXin true X.w x y H Q) := OpR.or (op_notInA hu) (op_Xni hu)
theorem ol_inB : OpL K (fun x y H Q => rInA K x y H Q ∨ rXin false K.w x y H Q) (inB false) := fun ρ σ B H x y dx dy h Q S tx ty e k => by
  cases dy with
  | dict ps => exact .inr (ol_din ρ σ B H x y dx _ h Q S tx ty (by cases dx <;> exact e) k)
  | _ => exact .inl (ol_in ρ σ B H x y dx _ h Q S tx ty (by cases dx <;> exact e) k)
theorem ol_notInB : OpL K (fun x y H Q => rNotInA K x y H Q ∨ rXin true K.w x y H Q) (inB true) := fun ρ σ B H x y dx dy h Q S tx ty e k => by
  cases dy with
  | dict ps => exact .inr (ol_din ρ σ B H x y dx _ h Q S tx ty (by cases dx <;> exact e) k)
  | _ => exact .inl (ol_notIn ρ σ B H x y dx _ h Q S tx ty (by cases dx <;> exact e) k)
end
section
variable {X : Cx} {C : Ct} {a b e : Expr} {ta tb te : TE} {fa fb fe : EF} {pos pos' q1 : Pos} {ρ ρ1 : Rho} {σ : St} {B H B1 H1 : Hp}
theorem se_ixA (hu : X.A.units + 65 < cLine) (la : SE X C a ta fa) (lb : SE X C b tb fb) (hk : X.K = C.K := by rfl) (hw : X.w = C.K.w := by rfl) (hs : PlainIx b := by intro _ _; rfl) : SE X C (.Subscript a b pos) (tOp (rIxA C.K C.K.w) ta tb) (eBin ixA fa fb) :=
  ⟨by rw [← hk, ← hw]; exact pe_ix (IxR.or ix_seq (ix_dX hu)) la.pe lb.pe hs, lk_op ol_ixA la.lk lb.lk⟩
def setD (k y : D) : D → Option D
  | .list ds => match k with
    | .int i => (ixN ds.length i).map fun j => .list (ds.set j y)
    | _ => none
  | .dict ps => if isK k && !mixB ps k && decide (ps.length < sizeLine) then some (.dict (dPut ps k y)) else none
  | _ => none
def rSetA (w : World) : TSet := fun o i v H Q => rSetL o i v H Q ∨ rXS w o i v H Q
theorem set_any (hu : X.A.units + 65 < cLine) : PSet X (rSetA X.w) := by
  intro pins s σ H o i v ov iv u Q I ro ri rv h
  rcases h with h | h
  · exact set_list pins s σ H o i v ov iv u Q I ro ri rv h
  · exact set_dX hu pins s σ H o i v ov iv u Q I ro ri rv h
def sPut (i : Nat) (fi fe : EF) : SF := fun ρ => bindES (eCap fe ρ) fun h ρ1 => match h with
  | .sh y => match slot ρ1 i with
    | none => .stuck
    | some ⟨_, .st⟩ => .stuck
    | some _ => bindES (eCap fi ρ1) fun hi ρ2 => match hi with
      | .sh k => mutS ρ2 i (setD k y)
      | _ => .stuck
  | _ => .stuck
theorem ss_put {i : Nat} {x : Str} (hu : X.A.units + 65 < cLine) (lb : SE X C b tb fb) (l : SE X C e te fe) (hN : X.N[i]? = some x := by rfl) (hv : Vis X.env.scope x := by first | exact Or.inl rfl | exact Or.inr (Or.inl rfl) | exact Or.inr (Or.inr rfl)) (hd : (x == ("__debug__" : Str)) = false := by decide)
    (hcd : (x == ("__classdict__" : Str)) = false := by decide)
    (ha : ∀ v, assign (.Subscript (.Name x q1) b pos') X.env v = (do
      let ov ← holding [v] (eval (.Name x q1) X.env)
      let iv ← holding [v, ov] (eval b X.env)
      standAt pos'
      holding [v, ov, iv] (setItem ov iv v)
      release [v, ov, iv] []) := by intro _; rfl)
    (hs : swapsWithSole [.Subscript (.Name x q1) b pos'] e pos.line X.env = pure false := by rfl) (hw : X.w = C.K.w := by rfl) :
    SS X C (.Assign [.Subscript (.Name x q1) b pos'] e pos) (tAsg te (gSub (tVar i) tb (rSetA C.K.w))) (sPut i fb fe) := by
  refine ⟨by rw [← hw]; exact ps_asg l.pe (pg_sub (pe_var hN hv hd hcd) lb.pe (set_any hu) ha) hs, fun ρ σ B H E S g => ?_⟩
  refine l.lk.cap.bindS S g fun hd ρ1 v B1 H1 S1 x1 y1 g1 => ?_
  cases hd with
  | sh y =>
    dsimp only at g1
    split at g1
    · exact g1.elim
    · exact g1.elim
    rename_i c nst ec
    obtain ⟨v0, e0, _⟩ := S1.sl i c (slot_some ec) (fun z => nst c.d (by rw [← z]))
    refine ⟨v0, e0, ?_⟩
    refine lb.lk.cap.bindS S1 (GoodS.ext x1 g1) fun hi ρ2 w B2 H2 S2 x2 y2 g2 => ?_
    cases hi with
    | sh k =>
      obtain ⟨c, d', h1, h2, hst, h3, h4⟩ := mutS_ok g2
      obtain ⟨a', ea', hb, ow⟩ := S2.own h1 h2 hst
      rw [e0] at ea'
      cases ea'
      obtain ⟨d, fl⟩ := c
      have y1' : Rp C.K B2 v y := Rp.mono x2.bb y1
      cases d with
      | list ds =>
        cases k <;> first | (cases h3; done) | skip
        rename_i ki
        obtain ⟨j, ej, rfl⟩ := Option.map_eq_some_iff.mp h3
        obtain ⟨ws, ew, rw'⟩ := ow
        have ow' : Ow C.K B2 a' (some (.lst (ws.set j v))) (.list (ds.set j y)) := ⟨_, rfl, RpL.set y1' j rw'⟩
        obtain ⟨S3, x3⟩ := S2.mut h1 h2 e0 ow'
        cases (show Rp C.K B2 w (.int ki) from y2)
        exact .inl ⟨a', ws, ki, j, rfl, rfl, ew, by rw [rw'.length]; exact ej, h4 _ _ _ S3 (x2.trans x3)⟩
      | dict ps =>
        obtain ⟨hc, rfl⟩ := if_some (show (if isK k && !mixB ps k && decide (ps.length < sizeLine) then some (PyData.dict (dPut ps k y)) else none) = some d' from h3)
        rw [Bool.and_eq_true, Bool.and_eq_true] at hc
        obtain ⟨⟨hk, hm⟩, hz⟩ := hc
        have hm : mixB ps k = false := by simpa using hm
        have hz := of_decide_eq_true hz
        obtain ⟨nk, hn⟩ := isK_key hk
        obtain ⟨ep, b, xs, ew, rk⟩ := ow
        have rk := rpx_sort rk hm
        refine .inr ⟨a', ep, xs, rfl, ew, by rw [rpx_len rk]; exact hz, ?_⟩
        cases ht : tupB k with
        | true =>
          rw [ht] at rk
          obtain ⟨ys, rfl, q2, _⟩ := rpx_T S2.bh rk
          obtain ⟨b, q⟩ := tk_of S2.bh y2 hn ht
          obtain rfl := q.1
          refine .inl ⟨b, ys, nk, rfl, q2, q, fun ep u ru => ?_⟩
          have ow' : Ow C.K B2 a' (some (dX C.K.w a' ep ((storedH ys nk b u).map refK))) (.dict (dPut ps k y)) := ⟨ep, true, _, rfl, rpx_put hn ht y2 ru y1' rk⟩
          obtain ⟨S3, x3⟩ := S2.mut h1 h2 e0 ow'
          exact h4 _ _ _ S3 (x2.trans x3)
        | false =>
          rw [ht] at rk
          obtain ⟨ys, rfl, q2, q3⟩ := rpx_S rk
          obtain ⟨kk, rfl, rfl, rfl⟩ := sk_of y2 hn ht
          refine .inr ⟨ys, kk, rfl, q2, rfl, fun ep u zs ru z1 z2 => ?_⟩
          have ow' : Ow C.K B2 a' (some (dX C.K.w a' ep (zs.map valK))) (.dict (dPut ps (kD kk) y)) := ⟨ep, false, _, rfl, rps_X z1 (by rw [z2]; exact rps_put ru y1' q3)⟩
          obtain ⟨S3, x3⟩ := S2.mut h1 h2 e0 ow'
          exact h4 _ _ _ S3 (x2.trans x3)
      | _ => cases h3
    | _ => exact g2.elim
  | _ => exact g1.elim
end
end GS
namespace GS
open PySem L2
inductive RP where | stuck | ok (ps : List (D × D)) (ρ : Rho) | exc (x : Xc) (ρ : Rho)
abbrev PF := Rho → RP
section
variable {X : Cx} {C : Ct} {a b e : Expr} {ta tb te tk tv : TE} {fa fb fe fk fv : EF} {pos pos' q1 : Pos} {ρ ρ1 : Rho} {σ : St} {B H B1 H1 : Hp} {K : KW}
def dNil : PF := fun ρ => .ok [] ρ
def dCons (fk fv : EF) (g : PF) : PF := fun ρ => match eCap fk ρ with
  | .stuck => .stuck
  | .exc x ρ1 => .exc x ρ1
  | .ok (.sh k) ρ1 => (match eCap fv ρ1 with
    | .stuck => .stuck
    | .exc x ρ2 => .exc x ρ2
    | .ok (.sh v) ρ2 => (match g ρ2 with
      | .stuck => .stuck
      | .exc x ρ3 => .exc x ρ3
      | .ok ps ρ3 => if isS k then .ok ((k, v) :: ps) ρ3 else .stuck)
    | .ok _ _ => .stuck)
  | .ok _ _ => .stuck
def GoodP (C : Ct) (ρ : Rho) (σ : St) (B H : Hp) (Q : List (V × V) → Hp → Prop) : RP → Prop
  | .stuck => False
  | .ok ps ρ' => ∀ kvs B' H', Sim C.K ρ' σ B' H' → Ext ρ σ B H ρ' σ B' H' → RpK C.K B' kvs ps → Q (kvs.map fun kv => (kV kv.1, kv.2)) H'
  | .exc x ρ' => ∀ cls dct B' H', Sim C.K ρ' σ B' H' → Ext ρ σ B H ρ' σ B' H' → XcOk C B' x cls dct → C.W cls dct σ H'
structure SD (X : Cx) (C : Ct) (pos : Pos) (keys : List (Option Expr)) (values : List Expr) (trs : List (TE × TE)) (g : PF) : Prop where
  pp : PPs X pos keys values trs
  lk : ∀ ρ σ B H Q, Sim C.K ρ σ B H → GoodP C ρ σ B H Q (g ρ) → tPairs trs σ H Q
theorem GoodP.ext {Q : List (V × V) → Hp → Prop} (x : Ext ρ σ B H ρ1 σ B1 H1) : ∀ {r : RP}, GoodP C ρ σ B H Q r → GoodP C ρ1 σ B1 H1 Q r
  | .stuck, g => g
  | .ok _ _, g => fun vs B' H' s y z => g vs B' H' s (x.trans y) z
  | .exc _ _, g => fun c d B' H' s y z => g c d B' H' s (x.trans y) z
theorem sd_nil : SD X C pos [] [] [] dNil := ⟨pps_nil, fun ρ σ B H Q S g => g [] B H S Ext.refl .nil⟩
theorem sd_cons {ks : List (Option Expr)} {vs : List Expr} {trs : List (TE × TE)} {g : PF} (lk : SE X C a tk fk) (lv : SE X C b tv fv) (r : SD X C pos ks vs trs g) : SD X C pos (some a :: ks) (b :: vs) ((tk, tv) :: trs) (dCons fk fv g) := by
  refine ⟨pps_cons lk.pe lv.pe r.pp, fun ρ σ B H Q S gd => ?_⟩
  refine lk.lk.cap ρ σ B H _ S ?_
  unfold dCons at gd
  cases e1 : eCap fk ρ with
  | stuck => rw [e1] at gd; exact gd
  | exc x ρ1 => rw [e1] at gd; exact gd
  | ok h1 ρ1 =>
    rw [e1] at gd
    cases h1 with
    | sh k =>
      intro x B1 H1 S1 x1 y1
      refine lv.lk.cap ρ1 σ B1 H1 _ S1 ?_
      dsimp only at gd
      cases e2 : eCap fv ρ1 with
      | stuck => rw [e2] at gd; exact gd
      | exc x ρ2 => rw [e2] at gd; exact fun c d B' H' s y z => gd c d B' H' s (x1.trans y) z
      | ok h2 ρ2 =>
        rw [e2] at gd
        cases h2 with
        | sh v =>
          intro y B2 H2 S2 x2 y2
          refine r.lk ρ2 σ B2 H2 _ S2 ?_
          dsimp only at gd
          cases e3 : g ρ2 with
          | stuck => rw [e3] at gd; exact gd
          | exc x ρ3 => rw [e3] at gd; exact fun c d B' H' s y z => gd c d B' H' s ((x1.trans x2).trans y) z
          | ok ps ρ3 =>
            rw [e3] at gd
            dsimp only at gd
            intro kvs B3 H3 S3 x3 y3
            split at gd
            · rename_i hk
              obtain ⟨ky, rfl⟩ := isS_k hk
              have ek : x = kV ky := (Tp.of S1.bh y1).key
              subst ek
              exact gd ((ky, y) :: kvs) B3 H3 S3 ((x1.trans x2).trans x3) (.cons (Rp.mono x3.bb y2) y3)
            · exact gd.elim
        | _ => exact gd.elim
    | _ => exact gd.elim
def dMerge (ps : List (D × D)) : List (D × D) := ps.foldl (fun acc p => dPut acc p.1 p.2) []
theorem rpk_S {kvs : List (Key × V)} {ps : List (D × D)} (h : RpK K B kvs ps) : ∀ {vs : List (Key × Value)}, KV kvs vs → RpS K B vs ps := by
  induction kvs generalizing ps with
  | nil => cases h; intro vs r; cases r; exact .nil
  | cons kv kvs ih =>
    cases h with
    | cons r t =>
      intro vs q
      cases q with
      | cons q1 q2 => exact .cons ⟨by rw [← q1.1], _, q1.2, r⟩ (ih t q2)
theorem rpk_any {k : Key} : ∀ {kvs : List (Key × V)} {ps : List (D × D)}, RpK K B kvs ps → (kvs.any fun kv => decide (kv.1 = k)) = ps.any fun p => kEq p.1 (kD k)
  | _, _, .nil => rfl
  | _, _, .cons h t => by rw [List.any_cons, List.any_cons, rpk_any t, kEq_k]
theorem rpk_map {k : Key} {v : V} {d : D} (r : Rp K B v d) : ∀ {kvs : List (Key × V)} {ps : List (D × D)}, RpK K B kvs ps → RpK K B (kvs.map fun kv => if kv.1 = k then (kv.1, v) else kv) (ps.map fun p => if kEq p.1 (kD k) then (p.1, d) else p)
  | _, _, .nil => .nil
  | _, _, .cons (k := k') h t => by
    rw [List.map_cons, List.map_cons, kEq_k]
    by_cases e : k' = k
    · simp only [e, if_true, decide_true]
      exact .cons r (rpk_map r t)
    · simp only [e, if_false, decide_false, Bool.false_eq_true]
      exact .cons h (rpk_map r t)
theorem rpk_app {k : Key} {v : V} {d : D} (r : Rp K B v d) : ∀ {kvs : List (Key × V)} {ps : List (D × D)}, RpK K B kvs ps → RpK K B (kvs ++ [(k, v)]) (ps ++ [(kD k, d)])
  | _, _, .nil => .cons r .nil
  | _, _, .cons h t => .cons h (rpk_app r t)
theorem rpk_len : ∀ {kvs : List (Key × V)} {ps : List (D × D)}, RpK K B kvs ps → kvs.length = ps.length
  | _, _, .nil => rfl
  | _, _, .cons _ t => by rw [List.length_cons, List.length_cons, rpk_len t]
theorem rpk_put {k : Key} {v : V} {d : D} {kvs : List (Key × V)} {ps : List (D × D)} (h : RpK K B kvs ps) (r : Rp K B v d) : RpK K B (putK kvs k v) (dPut ps (kD k) d) := by
  unfold putK dPut
  rw [rpk_any h]
  split
  · exact rpk_map r h
  · exact rpk_app r h
theorem rpk_merge {kvs : List (Key × V)} {ps : List (D × D)} (h : RpK K B kvs ps) : ∀ {k0 : List (Key × V)} {p0 : List (D × D)}, RpK K B k0 p0 → RpK K B (mergeK k0 kvs) (ps.foldl (fun acc p => dPut acc p.1 p.2) p0) := by
  induction kvs generalizing ps with
  | nil => cases h; exact fun h0 => h0
  | cons kv kvs ih =>
    cases h with
    | cons r t =>
      intro k0 p0 h0
      exact ih t (rpk_put h0 r)
def eDct (g : PF) : EF := fun ρ => match g ρ with
  | .stuck => .stuck
  | .exc x ρ1 => .exc x ρ1
  | .ok ps ρ1 => if ps.length ≤ 15 then .ok (.fr (.dict (dMerge ps))) ρ1 else .stuck
theorem se_dct {keys : List (Option Expr)} {values : List Expr} {trs : List (TE × TE)} {g : PF} (l : SD X C pos keys values trs g) (hall : keys.all (·.isSome) = true := by rfl) (hl : keys.length = values.length := by rfl) (h0 : keys ≠ [] := by intro h; cases h)
    (h15 : keys.length ≤ 15 := by decide) (hw : X.w = C.K.w := by rfl) : SE X C (.Dict keys values pos) (tRe C.K.w (tDisp trs)) (eDct g) := by
  refine ⟨by rw [← hw]; exact pe_re (pe_disp l.pp hall hl h0 h15), fun ρ σ B H Q S gd p hp => ?_⟩
  obtain ⟨S1, x1⟩ := S.newH hp (.dK [])
  obtain ⟨bp, np⟩ := S.free hp
  refine l.lk ρ σ B _ _ S1 ?_
  unfold eDct at gd
  cases e : g ρ with
  | stuck => rw [e] at gd; exact gd
  | exc x ρ1 => rw [e] at gd; exact fun c d B' H' s y z => gd c d B' H' s (x1.trans y) z
  | ok ps ρ1 =>
    rw [e] at gd
    dsimp only at gd
    split at gd
    · rename_i hlen
      intro kvs B2 H2 S2 x2 r2
      have hp1 : (upd H p (.dK [])) p = some (.dK []) := upd_same
      have nown : ¬ OwnA ρ σ p := np
      have h2p : H2 p = some (.dK []) := x2.keepT hp1 nown fun ⟨_, _, _, _, _, _, z, _⟩ => by rw [bp] at z; cases z
      have notnew : ¬ New ρ σ (upd H p (.dK [])) p := fun z => by
        rcases z with z | z
        · rw [hp1] at z; cases z
        · exact nown z
      have b2p : B2 p = none := by
        cases eb : B2 p with
        | none => rfl
        | some o =>
          rcases x2.nw p o eb with z | z
          · rw [bp] at z; cases z
          · exact absurd z notnew
      have n2 : ¬ OwnA ρ1 σ p := fun z => notnew (x2.sub p z)
      refine ⟨h2p, kvs, rfl, by rw [rpk_len r2]; exact hlen, ?_⟩
      refine ⟨p, _, rfl, upd_same, fun ep ys y1 y2 => ?_⟩
      rw [upd_upd]
      have S3 := S2.tweak (o := dX C.K.w p ep (ys.map valK)) b2p n2
      have x3 : Ext ρ σ B H ρ1 σ B2 (upd H2 p (dX C.K.w p ep (ys.map valK))) := (x1.trans x2).tweak (.inl hp)
      exact gd _ _ _ S3 x3 ⟨p, rfl, b2p, ⟨ep, false, _, upd_same, rps_X y1 (rpk_S (rpk_merge r2 .nil) y2)⟩, n2, .inl hp⟩
    · exact gd.elim
end
end GS
namespace GS
open PySem L2
section
variable {X : Cx} {C : Ct} {e0 : Expr} {es : List Expr} {pos p : Pos} {x : Str} {k n : Nat} {f : Addr} {fd : FuncData} {ps : List Str} {F : FF} {t : TA} {g : AF} {t0 : TE} {f0 : EF}
end
end GS
namespace GS
open PySem L2
section
variable {K : KW} {ρ : Rho} {σ : St} {B H : Hp} {v x y : V} {Q : VK}
def rRepS : R2 := fun x y H Q => ∃ z k, x = .str z ∧ y = .int k ∧ 0 ≤ k ∧ k ≤ 1000 ∧ z.length ≤ 1000 ∧ Q (.str (Txt.mul z k)) H
theorem op_repS {X : Cx} : OpR X (binaryOp .Mult) rRepS := by
  intro pins s σ H x y v u Q I rx ry h
  obtain ⟨z, k, rfl, rfl, h0, h1, hz, q⟩ := h
  obtain ⟨t, rfl⟩ := rx
  obtain ⟨t', rfl⟩ := ry
  refine SB.mul ⟨?_, fun a b => ?_, fun a b => ?_⟩ fun t'' k' => ⟨.str _, H, I.tok _, ⟨_, rfl⟩, q⟩
  · rw [decide_eq_false (by omega), decide_eq_false (by omega)]; rfl
  · have : (1000 : Int) ≤ (2 ^ 63 - 1) / k := by
      apply Int.le_ediv_of_mul_le (by omega)
      omega
    omega
  · have : z.length * k.toNat ≤ 1000 * 1000 := Nat.mul_le_mul hz (by omega)
    unfold Builtin.Str.tooLong
    rw [sizeLine_eq]
    simp
    omega
/-- a tuple so often, told exactly -/
def rRepX (K : PySem.W.Frag) : R2 := fun x y H Q => ∃ m k ys, x = .ref m ∧ y = .int k ∧ SqT K H m ys ∧ (ys ≠ [] ∧ 2 ≤ k ∧ k ≤ 1000 ∧ ys.length ≤ 1000) ∧ ∀ p o, H p = none → o.dict = none → Q (.ref p) (upd H p (.frz o (.tup (List.replicate k.toNat ys).flatten)))
theorem op_repX {X : Cx} : OpR X (binaryOp .Mult) (rRepX X.K) := by
  rintro pins s σ H x y v u Q J rx ry ⟨m, k, ys, rfl, rfl, hT, ⟨ne, k1, k2, hz⟩, q⟩
  cases rx
  obtain ⟨tt, rfl⟩ := ry
  obtain ⟨us, rv, ⟨⟨oc, od, oda, osl⟩, hob, ec, nn, ed⟩, hs⟩ := J.tuple hT
  simp only at ec ed
  subst ec ed
  have ll : us.length = ys.length := rv.length.symm
  have ie : us.toArray.isEmpty = false := by
    cases us with
    | nil => exact absurd (List.eq_nil_of_length_eq_zero ll.symm) ne
    | cons _ _ => rfl
  have sz : us.toArray.size = ys.length := by rw [List.size_toArray, ll]
  have pr : k.toNat * ys.length ≤ 1000 * 1000 := Nat.mul_le_mul (by omega) hz
  have pm : ((us.toArray.size : Nat) : Int) * k ≤ 1000000 := by
    rw [sz]
    have : ((ys.length : Nat) : Int) * k ≤ 1000 * k := Int.mul_le_mul_of_nonneg_right (by omega) (by omega)
    omega
  have fl : (List.replicate k.toNat us).flatten.length ≤ sizeLine := by
    rw [PyProof.Rows.lm_len_rep_flat, ll, sizeLine_eq]
    omega
  have d0 : (decide (k < -(2 ^ 63)) || decide (k ≥ 2 ^ 63)) = false := by rw [decide_eq_false (by omega), decide_eq_false (by omega)] <;> rfl
  have d1 : (us.toArray.isEmpty || k == 1) = false := by rw [ie, Bool.false_or]; exact beq_eq_false_iff_ne.mpr (by omega)
  have d2 : (decide (k ≤ 0) || us.toArray.isEmpty) = false := by rw [ie, Bool.or_false]; exact decide_eq_false (by omega)
  have d4 : Builtin.Tuple.tupleTooMany (((us.toArray.size : Nat) : Int) * k) = false := by
    unfold Builtin.Tuple.tupleTooMany
    rw [sizeLine_eq, decide_eq_false_iff_not]
    omega
  refine wpAny_binaryOp_repeat_ref (T := "tuple") (U := "int") (by decide) ⟨_, hob, rfl⟩ (fun z => typeIs_int z k tt) noFill_tuple_mul F.fills_int_mul F.slot_int_rmul repeat_tuple F.slot_int_index.lookup
    (call_meets F.slot_int_rmul (typeIs_int s k tt) F.entry_int_rmul (F.args_int_rmul_2 _ _) (int_rmul_tuple k tt m us.toArray nn od osl)
      ⟨hob, rfl, ⟨_, hob, rfl⟩, call_meets F.slot_tuple_mul ⟨_, hob, rfl⟩ F.entry_tuple_mul (F.args_tuple_mul_2 _ _) (tuple_mulW m us.toArray nn od osl k tt d0 d1 d2 (by omega) d4 (by rw [size_rep, List.size_toArray]; exact fl)) ⟨hob, ?_⟩⟩)
  rw [size_rep]
  exact ⟨.ref s.heap.objs.size, _, laidX (tk := s.toks) J (rv.rep k.toNat) (by rw [PyProof.Rows.lm_len_rep_flat, sizeLine_eq]; omega), rfl, q _ _ (J.hok.fresh (Nat.le_refl _)) rfl⟩
def mulA : D → D → Option Hd
  | .str z, .int k => if decide (0 ≤ k) && Nat.ble k.natAbs 1000 && Nat.ble z.length 1000 then some (.sh (.str (Txt.mul z k))) else none
  | .tuple ds, .int k => if decide (0 ≤ k) && Nat.ble 2 k.natAbs && Nat.ble k.natAbs 1000 && Nat.ble 1 ds.length && Nat.ble ds.length 1000 then some (.sh (.tuple (List.replicate k.toNat ds).flatten)) else none
  | d, e => mulD d e
def rMulA (K : PySem.W.Frag) : R2 := fun x y H Q => (rI CMul fun i j => .int (i * j)) x y H Q ∨ (rRepS x y H Q ∨ rRepX K x y H Q)
theorem op_mulA {X : Cx} : OpR X (binaryOp .Mult) (rMulA X.K) := OpR.or op_mul (OpR.or op_repS op_repX)
theorem RpL.rep {vs : List V} {ds : List D} (h : RpL K B vs ds) : ∀ n, RpL K B (List.replicate n vs).flatten (List.replicate n ds).flatten
  | 0 => .nil
  | n + 1 => by
    rw [List.replicate_succ, List.replicate_succ, List.flatten_cons, List.flatten_cons]
    exact h.append (RpL.rep h n)
theorem ol_mulA : OpL K (rMulA K) mulA := fun ρ σ B H x y dx dy h Q S tx ty e k => by
  cases dx with
  | str z =>
    cases dy <;> first | (cases (show none = some h from e); done) | skip
    rename_i i
    obtain ⟨c, rfl⟩ := if_some (show (if decide (0 ≤ i) && Nat.ble i.natAbs 1000 && Nat.ble z.length 1000 then some (Hd.sh (.str (Txt.mul z i))) else none) = some h from e)
    simp only [Bool.and_eq_true, decide_eq_true_eq] at c
    have h1 := Nat.le_of_ble_eq_true c.1.2
    rw [tx.str, ty.int]
    exact .inr (.inl ⟨z, i, rfl, rfl, c.1.1, by omega, Nat.le_of_ble_eq_true c.2, now S (.str _) k⟩)
  | tuple ds =>
    cases dy <;> first | (cases (show none = some h from e); done) | skip
    rename_i i
    obtain ⟨c, rfl⟩ := if_some (show (if decide (0 ≤ i) && Nat.ble 2 i.natAbs && Nat.ble i.natAbs 1000 && Nat.ble 1 ds.length && Nat.ble ds.length 1000 then some (Hd.sh (.tuple (List.replicate i.toNat ds).flatten)) else none) = some h from e)
    simp only [Bool.and_eq_true, decide_eq_true_eq] at c
    have h1 := Nat.le_of_ble_eq_true c.1.1.1.2
    have h2 := Nat.le_of_ble_eq_true c.1.1.2
    have h3 := Nat.le_of_ble_eq_true c.1.2
    have h4 := Nat.le_of_ble_eq_true c.2
    obtain ⟨a, vs, rfl, ha, ra⟩ := tx.tup
    have hl := ra.length
    rw [ty.int]
    exact .inr (.inr ⟨a, i, vs, rfl, rfl, same_tT S.bh ha, ⟨fun z => by subst z; cases ra; simp at h3, by omega, by omega, by omega⟩, newT S (ra.rep _) k⟩)
  | _ => exact .inl (ol_mul ρ σ B H x y _ dy h Q S tx ty e k)
def intsL : List D → Option (List Int)
  | [] => some []
  | .int b :: ds => (intsL ds).map (b :: ·)
  | _ :: _ => none
end
section
variable {X : Cx} {C : Ct} {a b e : Expr} {ta tb te : TE} {fa fb fe : EF} {pos p p1 p2 p3 : Pos}
end
end GS
namespace GS
open PySem L2
def mapR (k : Rho → Rho) : RS → RS
  | .stuck => .stuck
  | .nx ρ => .nx (k ρ)
  | .bk ρ => .bk (k ρ)
  | .ct ρ => .ct (k ρ)
  | .rt h ρ => .rt h (k ρ)
  | .exc x ρ => .exc x (k ρ)
/-- less is known -/
structure Weak (ρ ρ' : Rho) : Prop where
  len : ρ'.length = ρ.length
  sub : ∀ (i : Nat) (c : Cel), ρ'[i]? = some (some c) → ρ[i]? = some (some c)
  io : ∀ (i : Nat) (c : Cel), ρ[i]? = some (some c) → c.fl = .io ∨ c.fl = .st → ρ'[i]? = some (some c)
section
variable {K : KW} {X : Cx} {C : Ct} {ρ ρ1 ρ2 : Rho} {σ σ1 : St} {B H B1 H1 : Hp} {Ed : Ends} {t u : TS} {f g : SF} {st : Stmt} {rest : List Stmt} {pos : Pos}
theorem OwnA.weak (w : Weak ρ ρ1) {a : Addr} (h : OwnA ρ1 σ a) : OwnA ρ σ a := by
  obtain ⟨i, c, h1, h2, h3⟩ := h
  exact ⟨i, c, w.sub i c h1, h2, h3⟩
theorem Sim.weak (S : Sim K ρ σ B H) (w : Weak ρ ρ1) : Sim K ρ1 σ B H :=
  ⟨S.bh, ⟨by rw [w.len]; exact S.len.le, fun i h1 h2 => by
    obtain ⟨d, q⟩ := S.len.ex i h1 (by rw [← w.len]; exact h2)
    exact ⟨d, w.io i _ q (.inr rfl)⟩⟩, fun i c h => S.sl i c (w.sub i c h), fun i j ci cj a hi hj => S.dj i j ci cj a (w.sub i ci hi) (w.sub j cj hj),
    S.st.keep (Same.refl B) (fun _ _ _ h => h) (fun _ _ _ _ => rfl) (fun i d h => w.sub i _ h) rfl⟩
theorem Ext.weak (x : Ext ρ σ B H ρ1 σ1 B1 H1) (w : Weak ρ1 ρ2) : Ext ρ σ B H ρ2 σ1 B1 H1 :=
  ⟨x.bb, x.nw, x.kp, fun a h => x.sub a (OwnA.weak w h), fun i c h1 h2 => by
    obtain ⟨e1, c1, q1, q2⟩ := x.io i c h1 h2
    exact ⟨e1, c1, w.io i c1 q1 (.inl q2), q2⟩, fun i c h1 h2 => x.oi i c (w.sub i c h1) h2, x.tx.st fun i d h => w.sub i _ h⟩
theorem HdOk.weak {N : Addr → Prop} {v : V} (w : Weak ρ ρ1) : ∀ {h : Hd}, HdOk K N ρ σ B H v h → HdOk K N ρ1 σ B H v h
  | .sh _, q => q
  | .fr _, ⟨a, h1, h2, h3, h4, h5⟩ => ⟨a, h1, h2, h3, fun z => h4 (OwnA.weak w z), h5⟩
  | .bw _, q => q
  | .sp _ _, q => q
theorem lk_weak {k : Rho → Rho} {f : SF} (hk : ∀ ρ' σ' B' H', Sim C.K ρ' σ' B' H' → Ext ρ σ B H ρ' σ' B' H' → Weak ρ' (k ρ')) (g : GoodS C ρ σ B H Ed (mapR k (f ρ))) : GoodS C ρ σ B H Ed (f ρ) := by
  cases e : f ρ with
  | stuck => rw [e] at g; exact g
  | nx ρ' => rw [e] at g; exact fun σ' B' H' s x => g σ' B' H' (s.weak (hk _ _ _ _ s x)) (x.weak (hk _ _ _ _ s x))
  | bk ρ' => rw [e] at g; exact fun σ' B' H' s x => g σ' B' H' (s.weak (hk _ _ _ _ s x)) (x.weak (hk _ _ _ _ s x))
  | ct ρ' => rw [e] at g; exact fun σ' B' H' s x => g σ' B' H' (s.weak (hk _ _ _ _ s x)) (x.weak (hk _ _ _ _ s x))
  | rt h ρ' => rw [e] at g; exact fun v σ' B' H' s x y => g v σ' B' H' (s.weak (hk _ _ _ _ s x)) (x.weak (hk _ _ _ _ s x)) (y.weak (hk _ _ _ _ s x))
  | exc y ρ' => rw [e] at g; exact fun c d σ' B' H' s x z => g c d σ' B' H' (s.weak (hk _ _ _ _ s x)) (x.weak (hk _ _ _ _ s x)) z
def sKill (vs : List Nat) (f : SF) : SF := fun ρ => if vs.all fun i => !ioAt ρ i then mapR (fun ρ => wipeR ρ vs) (f ρ) else .stuck
theorem weak_wipe {vs : List Nat} (h : ∀ i ∈ vs, ∀ c, ρ[i]? = some (some c) → c.fl ≠ .io ∧ c.fl ≠ .st) : Weak ρ (wipeR ρ vs) :=
  ⟨wipeR_len _ _, fun i c e => (wipeR_some e).1, fun i c e z => by
    have ni : i ∉ vs := fun q => z.elim (h i q c e).1 (h i q c e).2
    rw [wipeR_keep ni]; exact e⟩
theorem lk_kill {vs : List Nat} (l : LkS C t f) : LkS C t (sKill vs f) := fun ρ σ B H D S g => by
  unfold sKill at g
  split at g
  · rename_i hv
    refine l ρ σ B H D S (lk_weak (fun ρ' σ' B' H' s x => weak_wipe fun i hi c hc => ⟨fun hf => ?_, fun hf => ?_⟩) g)
    · have := List.all_eq_true.mp hv i hi
      obtain ⟨c', q1, q2⟩ := x.oi i c hc hf
      exact not_io (by simpa using this) q1 q2
    · have := List.all_eq_true.mp hv i hi
      obtain ⟨d, fl⟩ := c
      cases hf
      exact s.noSt x.tx (not_st (by simpa using this)) d hc
  · exact g.elim
theorem ss_kill {vs : List Nat} (l : SS X C st t f) : SS X C st t (sKill vs f) := ⟨l.ps, lk_kill l.lk⟩
theorem sss_kill {vs : List Nat} {sts : List Stmt} (l : SSs X C sts t f) : SSs X C sts t (sKill vs f) := ⟨l.ps, lk_kill l.lk⟩
theorem weak_io : Weak ρ (ρ.map ioC) := by
  refine ⟨List.length_map _, fun i c e => ?_, fun i c e z => ?_⟩
  · rw [List.getElem?_map] at e
    obtain ⟨o, h1, h2⟩ := Option.map_eq_some_iff.mp e
    rw [h1, (ioC_some h2).1]
  · rw [List.getElem?_map, e]
    obtain ⟨d, fl⟩ := c
    rcases z with z | z <;> cases z <;> rfl
/-- only what is lent stays -/
def sEnd (f : SF) : SF := fun ρ => mapR (fun ρ => ρ.map ioC) (f ρ)
theorem lk_end (l : LkS C t f) : LkS C t (sEnd f) := fun ρ σ B H D S g => l ρ σ B H D S (lk_weak (fun _ _ _ _ _ _ => weak_io) g)
theorem ss_end (l : SS X C st t f) : SS X C st t (sEnd f) := ⟨l.ps, lk_end l.lk⟩
end
end GS
namespace GS
open PySem L2
def flatEq : D → D → Option Bool
  | .str i, .str j => some (decide (i = j))
  | .int i, .int j => some (decide (i = j))
  | .bool i, .bool j => some (decide (i = j))
  | .none, .none => some true
  | .none, .str _ => some false
  | .str _, .none => some false
  | .none, .int _ => some false
  | .int _, .none => some false
  | _, _ => none
/-- no dicts, at most 190 deep -/
def okW (d : D) : Bool := GS.plain d && PyData.canLay0 d && Nat.ble d.depth 190
def eqB (neg : Bool) : D → D → Option Hd := fun x y => match flatEq x y with
  | some b => some (.sh (.bool (neg ^^ b)))
  | none => if okW x && okW y then some (.sh (.bool (neg ^^ PyData.eqv x y))) else none
def rEqW (K : PySem.W.Frag) : R2 := fun x y H Q => ∃ d e, Dp K H x d ∧ Dp K H y e ∧ PyData.canLay0 d = true ∧ PyData.canLay0 e = true ∧ d.depth ≤ 190 ∧ Q (.bl (PyData.eqv d e)) H
def rNeW (K : PySem.W.Frag) : R2 := fun x y H Q => ∃ d e, Dp K H x d ∧ Dp K H y e ∧ PyData.canLay0 d = true ∧ PyData.canLay0 e = true ∧ d.depth ≤ 190 ∧ Q (.bl (!PyData.eqv d e)) H
theorem op_eqW {X : Cx} (hu : X.A.units + 199 < cLine) : OpR X (compareOp .Eq) (rEqW X.K) := by
  intro pins s σ H x y v u Q I rx ry h
  obtain ⟨d, e, hd, he, sd, se, dp, q⟩ := h
  obtain ⟨as, r1⟩ := Dp.reads I d x v hd rx
  obtain ⟨bs, r2⟩ := Dp.reads I e y u he ry
  exact SeqAt.compareEq_reads r1 r2 sd se (by omega) ⟨.bl _, H, I, rfl, q⟩
theorem op_neW {X : Cx} (hu : X.A.units + 199 < cLine) : OpR X (compareOp .NotEq) (rNeW X.K) := by
  intro pins s σ H x y v u Q I rx ry h
  obtain ⟨d, e, hd, he, sd, se, dp, q⟩ := h
  obtain ⟨as, r1⟩ := Dp.reads I d x v hd rx
  obtain ⟨bs, r2⟩ := Dp.reads I e y u he ry
  exact SeqAt.compareNe_reads r1 r2 sd se (by omega) ⟨.bl _, H, I, rfl, q⟩
section
variable {K : KW}
theorem flatEq_V {B H : Hp} {x y : V} {dx dy : D} {b : Bool} (tx : Tp K B H x dx) (ty : Tp K B H y dy) (e : flatEq dx dy = some b) : scal x y = true ∧ decide (x = y) = b := by
  cases dx <;> cases dy <;> first | (cases (show none = some b from e); done) | skip
  · cases e; rw [tx.non, ty.non]; exact ⟨rfl, rfl⟩
  · cases e; rw [tx.non, ty.int]; exact ⟨rfl, by simp⟩
  · cases e; rw [tx.non, ty.str]; exact ⟨rfl, by simp⟩
  · cases e; rw [tx.bl, ty.bl]; exact ⟨rfl, by simp⟩
  · cases e; rw [tx.int, ty.non]; exact ⟨rfl, by simp⟩
  · cases e; rw [tx.int, ty.int]; exact ⟨rfl, by simp⟩
  · cases e; rw [tx.str, ty.non]; exact ⟨rfl, by simp⟩
  · cases e; rw [tx.str, ty.str]; exact ⟨rfl, by simp⟩
theorem op_eqB {X : Cx} (hu : X.A.units + 199 < cLine) : OpR X (compareOp .Eq) (fun x y H Q => rEq x y H Q ∨ rEqW X.K x y H Q) := OpR.or op_eq (op_eqW hu)
theorem op_neB {X : Cx} (hu : X.A.units + 199 < cLine) : OpR X (compareOp .NotEq) (fun x y H Q => rNe x y H Q ∨ rNeW X.K x y H Q) := OpR.or op_ne (op_neW hu)
theorem okW_ok {d : D} (h : okW d = true) : GS.plain d = true ∧ PyData.canLay0 d = true ∧ d.depth ≤ 190 := by
  unfold okW at h
  rw [Bool.and_eq_true, Bool.and_eq_true] at h
  exact ⟨h.1.1, h.1.2, Nat.le_of_ble_eq_true h.2⟩
theorem ol_eqB : OpL K (fun x y H Q => rEq x y H Q ∨ rEqW K x y H Q) (eqB false) := fun ρ σ B H x y dx dy h Q S tx ty e k => by
  unfold eqB at e
  split at e
  · rename_i b eb
    cases e
    obtain ⟨q1, q2⟩ := flatEq_V tx ty eb
    refine .inl ⟨q1, ?_⟩
    rw [q2]
    have := now (v := .bl (false ^^ b)) S (.bl _) k
    rwa [Bool.false_xor] at this
  · obtain ⟨c, rfl⟩ := if_some e
    rw [Bool.and_eq_true] at c
    obtain ⟨p1, c1, d1⟩ := okW_ok c.1
    obtain ⟨p2, c2, d2⟩ := okW_ok c.2
    refine .inr ⟨dx, dy, tx.dpT S.bh p1, ty.dpT S.bh p2, c1, c2, d1, ?_⟩
    have := now (v := .bl (false ^^ PyData.eqv dx dy)) S (.bl _) k
    rwa [Bool.false_xor] at this
theorem ol_neB : OpL K (fun x y H Q => rNe x y H Q ∨ rNeW K x y H Q) (eqB true) := fun ρ σ B H x y dx dy h Q S tx ty e k => by
  unfold eqB at e
  split at e
  · rename_i b eb
    cases e
    obtain ⟨q1, q2⟩ := flatEq_V tx ty eb
    refine .inl ⟨q1, ?_⟩
    rw [q2]
    have := now (v := .bl (true ^^ b)) S (.bl _) k
    rwa [Bool.true_xor] at this
  · obtain ⟨c, rfl⟩ := if_some e
    rw [Bool.and_eq_true] at c
    obtain ⟨p1, c1, d1⟩ := okW_ok c.1
    obtain ⟨p2, c2, d2⟩ := okW_ok c.2
    refine .inr ⟨dx, dy, tx.dpT S.bh p1, ty.dpT S.bh p2, c1, c2, d1, ?_⟩
    have := now (v := .bl (true ^^ PyData.eqv dx dy)) S (.bl _) k
    rwa [Bool.true_xor] at this
end
end GS
namespace GS
open PySem L2
def stuckF : FF := fun _ => .stuck
section
variable {ρ ρ1 : Rho} {c : Prop} [Decidable c]
@[simp] theorem mapR_st (k : Rho → Rho) : mapR k .stuck = .stuck := rfl
@[simp] theorem mapR_nx (k : Rho → Rho) : mapR k (.nx ρ) = .nx (k ρ) := rfl
@[simp] theorem mapR_bk (k : Rho → Rho) : mapR k (.bk ρ) = .bk (k ρ) := rfl
@[simp] theorem mapR_ct (k : Rho → Rho) : mapR k (.ct ρ) = .ct (k ρ) := rfl
@[simp] theorem mapR_rt (k : Rho → Rho) (h : Hd) : mapR k (.rt h ρ) = .rt h (k ρ) := rfl
@[simp] theorem mapR_ex (k : Rho → Rho) (x : Xc) : mapR k (.exc x ρ) = .exc x (k ρ) := rfl
@[simp] theorem mapR_if (k : Rho → Rho) (a b : RS) : mapR k (if c then a else b) = if c then mapR k a else mapR k b := by split <;> rfl
@[simp] theorem sKill_eq (vs : List Nat) (f : SF) : sKill vs f ρ = if vs.all fun i => !ioAt ρ i then mapR (fun ρ => wipeR ρ vs) (f ρ) else .stuck := rfl
@[simp] theorem sEnd_eq (f : SF) : sEnd f ρ = mapR (fun ρ => ρ.map ioC) (f ρ) := rfl
@[simp] theorem ioAt_zi (d : D) : ioAt (some ⟨d, .io⟩ :: ρ) 0 = true := rfl
@[simp] theorem outR_zero : outR ρ 0 = [] := rfl
@[simp] theorem outR_succ (x : Option Cel) (n : Nat) : outR (x :: ρ) (n + 1) = ioC x :: outR ρ n := by
  unfold outR
  rw [List.range_succ_eq_map, List.map_cons, List.map_map, slot_zero]
  rfl
@[simp] theorem ixA_l (ds : List D) (i : Int) : ixA (.list ds) (.int i) = (atI ds i).map Hd.sh := rfl
@[simp] theorem ixA_t (ds : List D) (i : Int) : ixA (.tuple ds) (.int i) = (atI ds i).map Hd.sh := rfl
@[simp] theorem ixA_s (z : Str) (i : Int) : ixA (.str z) (.int i) = if z.length ≤ sizeLine then (atI z.cps.toList i).map fun c => Hd.sh (.str ⟨#[c]⟩) else none := rfl
@[simp] theorem ixA_d (ps : List (D × D)) (k : D) : ixA (.dict ps) k = if isK k then (dGet ps k).map Hd.sh else none := rfl
@[simp] theorem isS_s (z : Str) : isS (.str z) = true := rfl
@[simp] theorem isS_i (z : Int) : isS (.int z) = true := rfl
@[simp] theorem mixB_nil (k : D) : mixB [] k = false := rfl
@[simp] theorem mixB_ss (z w : Str) (d : D) (ps : List (D × D)) : mixB ((.str z, d) :: ps) (.str w) = false := rfl
@[simp] theorem mixB_ii (z w : Int) (d : D) (ps : List (D × D)) : mixB ((.int z, d) :: ps) (.int w) = false := rfl
@[simp] theorem mixB_tt (z w : List D) (d : D) (ps : List (D × D)) : mixB ((.tuple z, d) :: ps) (.tuple w) = false := rfl
@[simp] theorem xnB_tup (z : List D) (d : D) (ps : List (D × D)) : xnB ((.tuple z, d) :: ps) = false := rfl
@[simp] theorem isK_s (z : Str) : isK (.str z) = true := rfl
@[simp] theorem isK_i (z : Int) : isK (.int z) = true := rfl
@[simp] theorem kEq_s (z w : Str) : kEq (.str z) (.str w) = decide (z = w) := rfl
@[simp] theorem kEq_i (z w : Int) : kEq (.int z) (.int w) = decide (z = w) := rfl
@[simp] theorem dGet_nil (k : D) : dGet [] k = none := rfl
@[simp] theorem dGet_cons (a d : D) (r : List (D × D)) (k : D) : dGet ((a, d) :: r) k = if kEq a k then some d else dGet r k := rfl
@[simp] theorem ofS_inj (a b : String) : (Str.ofString a = Str.ofString b) ↔ a = b := by
  constructor
  · intro h
    rw [Str.ofString_eq_toList, Str.ofString_eq_toList, Str.mk.injEq] at h
    have h2 : a.toList.map Char.toNat = b.toList.map Char.toNat := by
      have := congrArg Array.toList h
      simpa using this
    have h3 : a.toList = b.toList := (List.map_inj_right (fun x y e => Char.toNat_inj.mp e)).mp h2
    exact String.toList_inj.mp h3
  · intro h; rw [h]
theorem ofS_len (a : String) : (Str.ofString a).length = a.toList.length := by
  rw [Str.ofString_eq_toList]
  show (List.toArray _).size = _
  simp
theorem ofS_cps (a : String) : (Str.ofString a).cps.toList = a.toList.map Char.toNat := by
  rw [Str.ofString_eq_toList]
@[simp] theorem xnB_nil : xnB [] = false := rfl
@[simp] theorem xnB_str (x : Str) (d : D) (ps : List (D × D)) : xnB ((.str x, d) :: ps) = false := rfl
@[simp] theorem xnB_int (x : Int) (d : D) (ps : List (D × D)) : xnB ((.int x, d) :: ps) = false := rfl
@[simp] theorem inB_d (neg : Bool) (k : D) (ps : List (D × D)) : inB neg k (.dict ps) = if isK k && !xnB ps && !mixB ps k then some (.sh (.bool (neg ^^ (dGet ps k).isSome))) else none := by cases k <;> rfl
@[simp] theorem inB_c (neg : Bool) (c : Nat) (z : Str) : inB neg (.str ⟨#[c]⟩) (.str z) = some (.sh (.bool (neg ^^ decide (c ∈ z.cps.toList)))) := rfl
@[simp] theorem inB_t (neg : Bool) (d : D) (ds : List D) : inB neg d (.tuple ds) = if flatD d && ds.all flatD then some (.sh (.bool (neg ^^ ds.any fun z => PyData.eqv z d))) else none := by cases d <;> rfl
@[simp] theorem inB_l (neg : Bool) (d : D) (ds : List D) : inB neg d (.list ds) = if okEq d && okEq (.list ds) then some (.sh (.bool (neg ^^ ds.any fun z => PyData.eqv z d))) else none := by cases d <;> rfl
@[simp] theorem mulA_i (i j : Int) : mulA (.int i) (.int j) = mulD (.int i) (.int j) := rfl
theorem mulA_s (z : Str) (k : Int) : mulA (.str z) (.int k) = if decide (0 ≤ k) && Nat.ble k.natAbs 1000 && Nat.ble z.length 1000 then some (.sh (.str (Txt.mul z k))) else none := rfl
@[simp] theorem eqB_i (neg : Bool) (i j : Int) : eqB neg (.int i) (.int j) = some (.sh (.bool (neg ^^ decide (i = j)))) := rfl
@[simp] theorem eqB_s (neg : Bool) (i j : Str) : eqB neg (.str i) (.str j) = some (.sh (.bool (neg ^^ decide (i = j)))) := rfl
@[simp] theorem eqB_b (neg : Bool) (i j : Bool) : eqB neg (.bool i) (.bool j) = some (.sh (.bool (neg ^^ decide (i = j)))) := rfl
@[simp] theorem eqB_nn (neg : Bool) : eqB neg .none .none = some (.sh (.bool (neg ^^ true))) := rfl
@[simp] theorem eqB_ns (neg : Bool) (j : Str) : eqB neg .none (.str j) = some (.sh (.bool (neg ^^ false))) := rfl
@[simp] theorem eqB_sn (neg : Bool) (j : Str) : eqB neg (.str j) .none = some (.sh (.bool (neg ^^ false))) := rfl
@[simp] theorem eqB_ni (neg : Bool) (j : Int) : eqB neg .none (.int j) = some (.sh (.bool (neg ^^ false))) := rfl
@[simp] theorem eqB_in (neg : Bool) (j : Int) : eqB neg (.int j) .none = some (.sh (.bool (neg ^^ false))) := rfl
@[simp] theorem isD_nn (neg : Bool) : isD neg .none .none = some (.sh (.bool (!neg))) := rfl
@[simp] theorem isD_bn (neg b : Bool) : isD neg (.bool b) .none = some (.sh (.bool neg)) := rfl
@[simp] theorem isD_in (neg : Bool) (b : Int) : isD neg (.int b) .none = some (.sh (.bool neg)) := rfl
@[simp] theorem isD_sn (neg : Bool) (b : Str) : isD neg (.str b) .none = some (.sh (.bool neg)) := rfl
@[simp] theorem isD_tn (neg : Bool) (b : List D) : isD neg (.tuple b) .none = some (.sh (.bool neg)) := rfl
@[simp] theorem isD_ln (neg : Bool) (b : List D) : isD neg (.list b) .none = some (.sh (.bool neg)) := rfl
@[simp] theorem isD_dn (neg : Bool) (b : List (D × D)) : isD neg (.dict b) .none = some (.sh (.bool neg)) := rfl
@[simp] theorem isD_bb (neg a b : Bool) : isD neg (.bool a) (.bool b) = some (.sh (.bool (neg ^^ decide (a = b)))) := rfl
def mutO (fl : Fl) (o : Option D) (ρ : Rho) (i : Nat) : RS := match o with
  | some d' => .nx (ρ.set i (some ⟨d', fl⟩))
  | none => .stuck
def mutC (s : Option Cel) (ρ : Rho) (i : Nat) (k : D → Option D) : RS := match s with
  | some ⟨d, .ow⟩ => mutO .ow (k d) ρ i
  | some ⟨d, .io⟩ => mutO .io (k d) ρ i
  | _ => .stuck
@[simp] theorem mutO_s (fl : Fl) (d : D) (i : Nat) : mutO fl (some d) ρ i = .nx (ρ.set i (some ⟨d, fl⟩)) := rfl
@[simp] theorem mutO_if (fl : Fl) (a b : Option D) (i : Nat) : mutO fl (if c then a else b) ρ i = if c then mutO fl a ρ i else mutO fl b ρ i := by split <;> rfl
@[simp] theorem mutO_n (fl : Fl) (i : Nat) : mutO fl none ρ i = .stuck := rfl
@[simp] theorem mutC_ow (d : D) (i : Nat) (k : D → Option D) : mutC (some ⟨d, .ow⟩) ρ i k = mutO .ow (k d) ρ i := rfl
@[simp] theorem mutC_io (d : D) (i : Nat) (k : D → Option D) : mutC (some ⟨d, .io⟩) ρ i k = mutO .io (k d) ρ i := rfl
@[simp] theorem mutS_eq (i : Nat) (k : D → Option D) : mutS ρ i k = mutC (slot ρ i) ρ i k := by
  unfold mutS mutC mutO
  rfl
@[simp] theorem appD_l (y : D) (ds : List D) : appD y (.list ds) = if ds.length < sizeLine then some (.list (ds ++ [y])) else none := rfl
def isLC : Option Cel → Bool
  | some ⟨.list _, _⟩ => true
  | _ => false
@[simp] theorem isLC_l (ds : List D) (fl : Fl) : isLC (some ⟨.list ds, fl⟩) = true := rfl
@[simp] theorem isL_eq (i : Nat) : isL ρ i = isLC (slot ρ i) := rfl
def appR (i : Nat) (h : Hd) (ρ : Rho) : RS := match h with
  | .sh y => mutS ρ i (appD y)
  | _ => .stuck
@[simp] theorem appR_sh (i : Nat) (y : D) : appR i (.sh y) ρ = mutS ρ i (appD y) := rfl
@[simp] theorem sApp_eq (i : Nat) (f : EF) : sApp i f ρ = if isL ρ i then bindES (eCap f ρ) (appR i) else .stuck := by unfold sApp; rfl
def putK (i : Nat) (y : D) (h : Hd) (ρ : Rho) : RS := match h with
  | .sh k => mutS ρ i (setD k y)
  | _ => .stuck
def putC (s : Option Cel) (i : Nat) (fi : EF) (y : D) (ρ : Rho) : RS := match s with
  | none => .stuck
  | some ⟨_, .st⟩ => .stuck
  | some _ => bindES (eCap fi ρ) (putK i y)
def putR (i : Nat) (fi : EF) (h : Hd) (ρ : Rho) : RS := match h with
  | .sh y => putC (slot ρ i) i fi y ρ
  | _ => .stuck
@[simp] theorem putK_sh (i : Nat) (k y : D) : putK i y (.sh k) ρ = mutS ρ i (setD k y) := rfl
@[simp] theorem putC_s (d : D) (i : Nat) (fi : EF) (y : D) : putC (some ⟨d, .sh⟩) i fi y ρ = bindES (eCap fi ρ) (putK i y) := rfl
@[simp] theorem putC_o (d : D) (i : Nat) (fi : EF) (y : D) : putC (some ⟨d, .ow⟩) i fi y ρ = bindES (eCap fi ρ) (putK i y) := rfl
@[simp] theorem putC_i (d : D) (i : Nat) (fi : EF) (y : D) : putC (some ⟨d, .io⟩) i fi y ρ = bindES (eCap fi ρ) (putK i y) := rfl
@[simp] theorem putR_sh (i : Nat) (fi : EF) (y : D) : putR i fi (.sh y) ρ = putC (slot ρ i) i fi y ρ := rfl
@[simp] theorem sPut_eq (i : Nat) (fi fe : EF) : sPut i fi fe ρ = bindES (eCap fe ρ) (putR i fi) := by
  unfold sPut putR putC putK
  rfl
@[simp] theorem setD_d (k y : D) (ps : List (D × D)) : setD k y (.dict ps) = if isK k && !mixB ps k && decide (ps.length < sizeLine) then some (.dict (dPut ps k y)) else none := rfl
@[simp] theorem setD_l (i : Int) (y : D) (ds : List D) : setD (.int i) y (.list ds) = (ixN ds.length i).map fun j => .list (ds.set j y) := rfl
@[simp] theorem gT_t (n : Nat) (f : List D → Rho → Option Rho) (ds : List D) : gT n f (.tuple ds) ρ = if ds.length = n then f ds ρ else none := rfl
@[simp] theorem gT_l (n : Nat) (f : List D → Rho → Option Rho) (ds : List D) : gT n f (.list ds) ρ = if ds.length = n then f ds ρ else none := rfl
@[simp] theorem gsN_n : gsN [] ρ = some ρ := rfl
@[simp] theorem gsC_c (f : D → Rho → Option Rho) (g : List D → Rho → Option Rho) (d : D) (ds : List D) : gsC f g (d :: ds) ρ = (f d ρ).bind (g ds) := rfl
def bindP (r : RP) (k : List (D × D) → Rho → RE) : RE := match r with
  | .stuck => .stuck
  | .exc x ρ1 => .exc x ρ1
  | .ok ps ρ1 => k ps ρ1
@[simp] theorem bindP_ok (ps : List (D × D)) (k : List (D × D) → Rho → RE) : bindP (.ok ps ρ) k = k ps ρ := rfl
@[simp] theorem eDct_eq (g : PF) : eDct g ρ = bindP (g ρ) fun ps ρ1 => if ps.length ≤ 15 then .ok (.fr (.dict (dMerge ps))) ρ1 else .stuck := by unfold eDct bindP; rfl
@[simp] theorem dNil_eq : dNil ρ = .ok [] ρ := rfl
def consP (k v : D) (r : RP) : RP := match r with
  | .stuck => .stuck
  | .exc x ρ3 => .exc x ρ3
  | .ok ps ρ3 => if isS k then .ok ((k, v) :: ps) ρ3 else .stuck
@[simp] theorem consP_ok (k v : D) (ps : List (D × D)) : consP k v (.ok ps ρ) = if isS k then .ok ((k, v) :: ps) ρ else .stuck := rfl
def valP (k : D) (g : PF) (r : RE) : RP := match r with
  | .stuck => .stuck
  | .exc x ρ2 => .exc x ρ2
  | .ok (.sh v) ρ2 => consP k v (g ρ2)
  | .ok _ _ => .stuck
@[simp] theorem valP_ok (k v : D) (g : PF) : valP k g (.ok (.sh v) ρ) = consP k v (g ρ) := rfl
def keyP (fv : EF) (g : PF) (r : RE) : RP := match r with
  | .stuck => .stuck
  | .exc x ρ1 => .exc x ρ1
  | .ok (.sh k) ρ1 => valP k g (eCap fv ρ1)
  | .ok _ _ => .stuck
@[simp] theorem keyP_ok (k : D) (fv : EF) (g : PF) : keyP fv g (.ok (.sh k) ρ) = valP k g (eCap fv ρ) := rfl
@[simp] theorem dCons_eq (fk fv : EF) (g : PF) : dCons fk fv g ρ = keyP fv g (eCap fk ρ) := by
  unfold dCons keyP valP consP
  rfl
@[simp] theorem argC_bwo (i : Nat) : argC ρ true (.bw i) = match slot ρ i with
    | some ⟨d, .ow⟩ => some ⟨d, .io⟩
    | some ⟨d, .io⟩ => some ⟨d, .io⟩
    | _ => none := rfl
def putBC (ρ : Rho) (i : Nat) (a b : Option Cel) : Option Rho := match a, b with
  | some c, some c' => some (ρ.set i (some ⟨c'.d, c.fl⟩))
  | _, _ => none
@[simp] theorem putBC_s (i : Nat) (a b : Cel) : putBC ρ i (some a) (some b) = some (ρ.set i (some ⟨b.d, a.fl⟩)) := rfl
theorem putB_bw (i j : Nat) (hs : List Hd) (outs : Rho) (h : hs[j]? = some (.bw i)) : putB ρ (some j) hs outs = putBC ρ i (slot ρ i) (slot outs j) := by
  unfold putB putBC
  dsimp only
  rw [h]
  try rfl
/-- one argument lent, the first one -/
@[simp] theorem backR_io0 (i : Nat) (hs : List Hd) (d : D) (d' : D) (fl : Fl) (outs : Rho) : backR ρ (some 0) (.bw i :: hs) (.ok (.sh d) (some ⟨d', fl⟩ :: outs)) = match slot ρ i with
    | some c => .ok (.sh d) (ρ.set i (some ⟨d', c.fl⟩))
    | none => .stuck := by
  unfold backR
  dsimp only
  rw [putB_bw i 0 _ _ rfl, slot_zero]
  cases slot ρ i <;> rfl
@[simp] theorem backR_io0f (i : Nat) (hs : List Hd) (d : D) (d' : D) (fl : Fl) (outs : Rho) : backR ρ (some 0) (.bw i :: hs) (.ok (.fr d) (some ⟨d', fl⟩ :: outs)) = match slot ρ i with
    | some c => .ok (.fr d) (ρ.set i (some ⟨d', c.fl⟩))
    | none => .stuck := by
  unfold backR
  dsimp only
  rw [putB_bw i 0 _ _ rfl, slot_zero]
  cases slot ρ i <;> rfl
/-- a loop that only looks: it leaves with r at the first item that p does not hold of -/
theorem forL_look {α : Type} {g : D → Rho → Option Rho} {b : SF} (ρ ρ' : Rho) (it : α → D) (p : α → Bool) (r : Hd) : ∀ (as : List α),
    (∀ a, a ∈ as → optR (g (it a) ρ) b = if p a then .nx ρ else .rt r ρ') → forL g b (as.map it) ρ = if as.all p then .nx ρ else .rt r ρ'
  | [], _ => rfl
  | a :: as, k => by
    have h1 := k a (List.mem_cons_self ..)
    have q := forL_look ρ ρ' it p r as fun a m => k a (List.mem_cons_of_mem _ m)
    rw [List.map_cons, forL_cons]
    unfold optR at h1 ⊢
    split at h1
    · split at h1 <;> cases h1
    · dsimp only
      rw [h1]
      cases hp : p a <;> simp [hp, q]
/-- a loop by an invariant of its own state -/
theorem forL_by' {S : Type} {g : D → Rho → Option Rho} {b : SF} (emb : S → Rho) {all : List D} (P : List D → S → Prop) : ∀ (ds pre : List D) (s : S), pre ++ ds = all → P pre s →
    (∀ pre d post s, all = pre ++ d :: post → P pre s → ∃ s', optR (g d (emb s)) b = .nx (emb s') ∧ P (pre ++ [d]) s') → ∃ s', forL g b ds (emb s) = .nx (emb s') ∧ P all s'
  | [], pre, s, e, h, _ => ⟨s, rfl, by rw [← e, List.append_nil]; exact h⟩
  | a :: as, pre, s, e, h, k => by
    obtain ⟨s1, h1, h2⟩ := k pre a as s e.symm h
    obtain ⟨s2, q1, q2⟩ := forL_by' emb P as (pre ++ [a]) s1 (by rw [List.append_assoc]; exact e) h2 k
    refine ⟨s2, ?_, q2⟩
    rw [forL_cons]
    unfold optR at h1 ⊢
    split at h1
    · cases h1
    · dsimp only
      rw [h1, turnR_nx, q1]
theorem forL_by {S : Type} {g : D → Rho → Option Rho} {b : SF} (emb : S → Rho) (P : List D → S → Prop) (ds : List D) (s : S) (h : P [] s)
    (k : ∀ pre d post s, ds = pre ++ d :: post → P pre s → ∃ s', optR (g d (emb s)) b = .nx (emb s') ∧ P (pre ++ [d]) s') : ∃ s', forL g b ds (emb s) = .nx (emb s') ∧ P ds s' :=
  forL_by' emb P ds [] s rfl h k
/-- a comprehension over things, by a test and an element -/
theorem lcL_fm {α : Type} {vs : List Nat} {g : D → Rho → Option Rho} {ft fe : EF} (ρ : Rho) (it : α → D) (p : α → Bool) (el : α → D) : ∀ (as : List α) (acc : List D), acc.length + as.length ≤ sizeLine →
    (∀ a, a ∈ as → ∃ ρ1, g (it a) ρ = some ρ1 ∧ (∃ ρ2, ft ρ1 = .ok (.sh (.bool (p a))) ρ2 ∧ wipeR ρ2 vs = ρ ∧ (p a = true → ∃ ρ3, eCap fe ρ2 = .ok (.sh (el a)) ρ3 ∧ wipeR ρ3 vs = ρ))) →
    lcL vs g ft fe (as.map it) acc ρ = .ok (.fr (.list (acc ++ (as.filter p).map el))) ρ
  | [], acc, _, _ => by simp [lcL_nil]
  | a :: as, acc, hl, k => by
    rw [List.length_cons] at hl
    obtain ⟨ρ1, h1, ρ2, h2, h3, h4⟩ := k a (List.mem_cons_self ..)
    rw [List.map_cons, lcL_cons, h1, optE_s, h2, bindB_ok]
    cases hp : p a with
    | true =>
      obtain ⟨ρ3, h5, h6⟩ := h4 hp
      rw [if_pos rfl, h5, bindE_ok, lcR_s, if_pos (by omega), h6, lcL_fm ρ it p el as _ (by rw [List.length_append, List.length_singleton]; omega) fun a m => k a (List.mem_cons_of_mem _ m), List.filter_cons_of_pos hp]
      simp
    | false =>
      rw [if_neg Bool.false_ne_true, h3, lcL_fm ρ it p el as _ (by omega) fun a m => k a (List.mem_cons_of_mem _ m), List.filter_cons_of_neg (by rw [hp]; exact Bool.false_ne_true)]
/-- .. where nothing else changes; up: what a turn sees -/
theorem lcL_up {α : Type} {vs : List Nat} {g : D → Rho → Option Rho} {ft fe : EF} (ρ : Rho) (it : α → D) (up : α → Rho) (p : α → Bool) (el : α → D) (as : List α) (acc : List D) (hl : acc.length + as.length ≤ sizeLine)
    (k : ∀ a, a ∈ as → g (it a) ρ = some (up a) ∧ ft (up a) = .ok (.sh (.bool (p a))) (up a) ∧ wipeR (up a) vs = ρ ∧ (p a = true → eCap fe (up a) = .ok (.sh (el a)) (up a))) :
    lcL vs g ft fe (as.map it) acc ρ = .ok (.fr (.list (acc ++ (as.filter p).map el))) ρ :=
  lcL_fm ρ it p el as acc hl fun a m => by
    obtain ⟨h1, h2, h3, h4⟩ := k a m
    exact ⟨_, h1, _, h2, h3, fun h => ⟨_, h4 h, h3⟩⟩
/-- .. without a test -/
theorem lcL_all {α : Type} {vs : List Nat} {g : D → Rho → Option Rho} {fe : EF} (ρ : Rho) (it : α → D) (up : α → Rho) (el : α → D) (as : List α) (acc : List D) (hl : acc.length + as.length ≤ sizeLine)
    (k : ∀ a, a ∈ as → g (it a) ρ = some (up a) ∧ wipeR (up a) vs = ρ ∧ eCap fe (up a) = .ok (.sh (el a)) (up a)) :
    lcL vs g (eNox eYes) fe (as.map it) acc ρ = .ok (.fr (.list (acc ++ as.map el))) ρ := by
  have := lcL_up (ft := eNox eYes) (fe := fe) ρ it up (fun _ => true) el as acc hl fun a m => by
    obtain ⟨h1, h2, h3⟩ := k a m
    exact ⟨h1, rfl, h2, fun _ => h3⟩
  rw [this, List.filter_eq_self.mpr fun _ _ => rfl]
/-- a loop that leaves with what the first item tells -/
theorem forL_find {α : Type} {g : D → Rho → Option Rho} {b : SF} (ρ ρ' : Rho) (it : α → D) (f : α → Option Hd) : ∀ (as : List α),
    (∀ a, a ∈ as → optR (g (it a) ρ) b = match f a with | none => .nx ρ | some h => .rt h ρ') → forL g b (as.map it) ρ = match as.findSome? f with | none => .nx ρ | some h => .rt h ρ'
  | [], _ => rfl
  | a :: as, k => by
    have h1 := k a (List.mem_cons_self ..)
    have q := forL_find ρ ρ' it f as fun a m => k a (List.mem_cons_of_mem _ m)
    rw [List.map_cons, forL_cons, List.findSome?_cons]
    unfold optR at h1 ⊢
    split at h1
    · split at h1 <;> cases h1
    · dsimp only
      rw [h1]
      cases hp : f a <;> simp [q]
end
theorem fits {n : Nat} (h : n ≤ 1000000) : n ≤ sizeLine := Nat.le_trans h (by decide)
theorem fitsl {n : Nat} (h : n < 1000000) : n < sizeLine := Nat.lt_of_lt_of_le h (by decide)
theorem len_eq (s : Str) : s.length = s.cps.toList.length := by rw [Array.length_toList]; rfl
theorem app_len (a b : Str) : (a ++ b).length = a.length + b.length := by
  show (a.cps ++ b.cps).size = a.cps.size + b.cps.size
  exact Array.size_append
theorem app_cps (a b : Str) : (a ++ b).cps.toList = a.cps.toList ++ b.cps.toList := by
  show (a.cps ++ b.cps).toList = _
  simp
theorem one_len (c : Nat) : (⟨#[c]⟩ : Str).length = 1 := rfl
theorem cut_len (z : Str) (lo hi : Option Int) : (cutS z lo hi).length ≤ z.length := by
  show (List.toArray _).size ≤ _
  rw [List.size_toArray, List.length_take, List.length_drop, Array.length_toList]
  show min _ (z.cps.size - _) ≤ z.cps.size
  omega
end GS
namespace GM
open PySem L2 GS
end GM
namespace GM
open PySem L2 GS
abbrev GRT : Str := Str.ofString "ABCDEFGHIJKLMNOPQRSTUVWXYZ"
abbrev SML : Str := Str.ofString "abcdefghijklmnopqrstuvwxyz"
abbrev FIG : Str := Str.ofString "0123456789"
def okN (F : Str) (c : Nat) : Bool := decide (c ∈ F.cps) || decide (c ∈ FIG.cps)
def nameL (F : Str) : List Nat → Bool
  | [] => false
  | c :: cs => decide ((c :: cs).length ≤ 24) && decide (c ∈ F.cps) && (c :: cs).all (okN F)
def nameB (s : Str) : Bool := nameL GRT s.cps.toList
def signB (s : Str) : Bool := decide (1 ≤ s.cps.toList.length) && decide (s.cps.toList.length ≤ 6) && s.cps.toList.all fun c => decide (c ∈ SML.cps)
end GM
namespace GM
open PySem L2 GS
end GM
namespace GM
open PySem L2 GS
mutual
/-- no text in it is too long -/
def szB : D → Bool
  | .str s => Nat.ble s.length 100000
  | .list ds => szL ds
  | .tuple ds => szL ds
  | .dict _ => false
  | _ => true
def szL : List D → Bool
  | [] => true
  | d :: ds => szB d && szL ds
end
def takesB : D → Bool
  | .none => true
  | .tuple [.str n, .bool _] => nameB n
  | _ => false
mutual
def isTree : D → Bool
  | .tuple (.str w :: r) =>
    if w = Str.ofString "knot" then (match r with
      | [.str n, tk, .tuple ks] => nameB n && (takesB tk && (decide (1 ≤ ks.length) && (decide (ks.length ≤ 8) && isTreeL ks)))
      | _ => false)
    else if w = Str.ofString "void" then r.isEmpty
    else (match r with
      | [.str s] => if w = Str.ofString "sign" then signB s else if w = Str.ofString "hole" then nameB s else if w = Str.ofString "foot" then nameB s else false
      | _ => false)
  | _ => false
def isTreeL : List D → Bool
  | [] => true
  | d :: ds => isTree d && isTreeL ds
end
def knotB : List D → Bool
  | [_, .str n, tk, .tuple ks] => nameB n && (takesB tk && (decide (1 ≤ ks.length) && (decide (ks.length ≤ 8) && isTreeL ks)))
  | _ => false
def KnotSp (n : Nat) (F : FF) : Prop := ∀ ds : List D, szB (.tuple ds) = true → (PyData.tuple ds).depth ≤ n → F [some ⟨.tuple ds, .sh⟩] = .ok (.sh (.bool (knotB ds))) [none]
end GM
namespace GM
open PySem L2 GS
inductive Tr where
  | sign (s : Str)
  | void
  | hole (n : Str)
  | foot (n : Str)
  | knot (n : Str) (tk : Option (Str × Bool)) (ks : List Tr)
  deriving Inhabited
def encTk : Option (Str × Bool) → D
  | none => .none
  | some (m, b) => .tuple [.str m, .bool b]
def okTk : Option (Str × Bool) → Bool
  | none => true
  | some (m, _) => nameB m
mutual
def Tr.enc : Tr → D
  | .sign s => .tuple [.str (Str.ofString "sign"), .str s]
  | .void => .tuple [.str (Str.ofString "void")]
  | .hole n => .tuple [.str (Str.ofString "hole"), .str n]
  | .foot n => .tuple [.str (Str.ofString "foot"), .str n]
  | .knot n tk ks => .tuple [.str (Str.ofString "knot"), .str n, encTk tk, .tuple (Tr.encL ks)]
def Tr.encL : List Tr → List D
  | [] => []
  | t :: ts => t.enc :: Tr.encL ts
end
mutual
def Tr.ok : Tr → Bool
  | .sign s => signB s
  | .void => true
  | .hole n => nameB n
  | .foot n => nameB n
  | .knot n tk ks => nameB n && (okTk tk && (decide (1 ≤ ks.length) && (decide (ks.length ≤ 8) && Tr.okL ks)))
def Tr.okL : List Tr → Bool
  | [] => true
  | t :: ts => t.ok && Tr.okL ts
end
mutual
def Tr.ht : Tr → Nat
  | .knot _ _ ks => Tr.htL ks + 1
  | _ => 0
def Tr.htL : List Tr → Nat
  | [] => 0
  | t :: ts => max t.ht (Tr.htL ts)
end
theorem encL_map (ts : List Tr) : Tr.encL ts = ts.map Tr.enc := by
  induction ts with
  | nil => rfl
  | cons t ts ih => rw [Tr.encL, ih, List.map_cons]
theorem ht_mem {ts : List Tr} {t : Tr} (m : t ∈ ts) : t.ht ≤ Tr.htL ts := by
  induction ts with
  | nil => cases m
  | cons e ts ih =>
    rw [Tr.htL]
    cases m with
    | head => omega
    | tail _ m => have := ih m; omega
theorem htL_of {ts : List Tr} {n : Nat} (h : ∀ t ∈ ts, t.ht ≤ n) : Tr.htL ts ≤ n := by
  induction ts with
  | nil => rw [Tr.htL]; omega
  | cons e ts ih =>
    rw [Tr.htL]
    have := h e (by simp)
    have := ih fun t m => h t (by simp [m])
    omega
mutual
/-- no dicts, texts of code points -/
def cleanB : D → Bool
  | .str x => PyData.strOk x
  | .list ds => cleanL ds
  | .tuple ds => cleanL ds
  | .dict _ => false
  | _ => true
def cleanL : List D → Bool
  | [] => true
  | d :: ds => cleanB d && cleanL ds
end
mutual
theorem clean_ok : ∀ d : D, cleanB d = true → plain d = true ∧ PyData.canLay0 d = true
  | .none, _ => ⟨rfl, rfl⟩
  | .bool _, _ => ⟨rfl, rfl⟩
  | .int _, _ => ⟨rfl, rfl⟩
  | .str x, h => ⟨rfl, h⟩
  | .list ds, h => by
    rw [cleanB] at h
    obtain ⟨h1, h2⟩ := cleanL_ok ds h
    exact ⟨by rw [GS.plain]; exact h1, by rw [PyData.canLay0]; exact h2⟩
  | .tuple ds, h => by
    rw [cleanB] at h
    obtain ⟨h1, h2⟩ := cleanL_ok ds h
    exact ⟨by rw [GS.plain]; exact h1, by rw [PyData.canLay0]; exact h2⟩
  | .dict _, h => by cases h
theorem cleanL_ok : ∀ ds : List D, cleanL ds = true → plainL ds = true ∧ PyData.canLayAll0 ds = true
  | [], _ => ⟨rfl, rfl⟩
  | d :: ds, h => by
    rw [cleanL, Bool.and_eq_true] at h
    obtain ⟨h1, h2⟩ := clean_ok d h.1
    obtain ⟨h3, h4⟩ := cleanL_ok ds h.2
    exact ⟨by rw [plainL, h1, h3]; rfl, by rw [PyData.canLayAll0, h2, h4]; rfl⟩
end
theorem okEq_of {d : D} (h : cleanB d = true) (hd : d.depth ≤ 64) : okEq d = true := by
  obtain ⟨h1, h2⟩ := clean_ok d h
  unfold okEq SeqAt.shaped
  rw [h1, h2, decide_eq_true hd]; rfl
theorem cleanL_of {ds : List D} (h : ∀ d ∈ ds, cleanB d = true) : cleanL ds = true := by
  induction ds with
  | nil => rfl
  | cons e ds ih => rw [cleanL, h e (by simp), ih fun t m => h t (by simp [m])]; rfl
theorem depthAll_of {ds : List D} {n : Nat} (h : ∀ d ∈ ds, d.depth ≤ n) : PyData.depthAll ds ≤ n := by
  induction ds with
  | nil => rw [PyData.depthAll]; omega
  | cons e ds ih =>
    rw [PyData.depthAll]
    have := h e (by simp)
    have := ih fun t m => h t (by simp [m])
    omega
end GM
namespace GM
open PySem L2 GS
/-- _law_leaf(cell); slots 0:cell 1:sign -/
def m_law_leaf (F__law_name : FF) : SF := (sSeq (sSet 1 (eBin ixA (eLst (aCons (eC (.str (Str.ofString "a"))) (aCons (eC (.str (Str.ofString "b"))) (aCons (eC (.str (Str.ofString "ab"))) (aCons (eC (.str (Str.ofString "top"))) (aCons (eC (.str (Str.ofString "abcdef"))) (aCons (eC (.str (Str.ofString "void"))) aNil))))))) (eBin modD (eBin divD (eVb 0) (eC (.int 4))) (eC (.int 6))))) (sEnd (sRet (eBin ixA (eLst (aCons (eTup (aCons (eC (.str (Str.ofString "sign"))) (aCons (eMv 1) aNil))) (aCons (eTup (aCons (eC (.str (Str.ofString "void"))) aNil)) (aCons (eTup (aCons (eC (.str (Str.ofString "hole"))) (aCons (eCall 1 none F__law_name (aCons (eBin divD (eVb 0) (eC (.int 4))) aNil)) aNil))) (aCons (eTup (aCons (eC (.str (Str.ofString "foot"))) (aCons (eCall 1 none F__law_name (aCons (eBin divD (eVb 0) (eC (.int 4))) aNil)) aNil))) aNil))))) (eBin modD (eVb 0) (eC (.int 4)))))))
theorem m_law_leaf_eq (F__law_name : FF) (ρ : Rho) : fnF 2 1 (m_law_leaf F__law_name) ρ = finR 1 (m_law_leaf F__law_name (ρ ++ [none])) := fnF_eq 2 1 _
end GM
namespace GS
open PySem L2
/-- one of a list -/
def pick {α : Type} [Inhabited α] (xs : List α) (i : Int) : α := (atI xs i).getD default
theorem atI_pick {α : Type} [Inhabited α] {xs : List α} {i : Int} (h0 : 0 ≤ i) (h1 : i < xs.length) : atI xs i = some (pick xs i) ∧ pick xs i ∈ xs := by
  obtain ⟨x, h2, h3⟩ := atI_lt h0 h1
  unfold pick
  rw [h2]
  exact ⟨rfl, h3⟩
@[simp] theorem atI_mod {α : Type} [Inhabited α] {xs : List α} {c n : Int} (h0 : 0 < n) (h : n = xs.length) : atI xs (c % n) = some (pick xs (c % n)) :=
  (atI_pick (Int.emod_nonneg _ (by omega)) (by rw [← h]; exact Int.emod_lt_of_pos _ h0)).1
theorem pick_mem {α : Type} [Inhabited α] {xs : List α} {c n : Int} (h0 : 0 < n) (h : n = xs.length) : pick xs (c % n) ∈ xs :=
  (atI_pick (Int.emod_nonneg _ (by omega)) (by rw [← h]; exact Int.emod_lt_of_pos _ h0)).2
@[simp] theorem atI_1 {α : Type} (a b : α) (r : List α) : atI (a :: b :: r) 1 = some b := by
  have := atI_nat (xs := a :: b :: r) (j := 1) (v := b) rfl
  exact this
@[simp] theorem atI_2 {α : Type} (a b c : α) (r : List α) : atI (a :: b :: c :: r) 2 = some c := by
  have := atI_nat (xs := a :: b :: c :: r) (j := 2) (v := c) rfl
  exact this
@[simp] theorem atI_3 {α : Type} (a b c d : α) (r : List α) : atI (a :: b :: c :: d :: r) 3 = some d := by
  have := atI_nat (xs := a :: b :: c :: d :: r) (j := 3) (v := d) rfl
  exact this
instance : Inhabited D := ⟨.none⟩
/-- .. of a def that is lent its first argument -/
def RetI (r : RE) (rest : Rho) (P : Hd → D → Prop) : Prop := ∃ h b, r = .ok h (some ⟨b, .io⟩ :: rest) ∧ P h b
@[simp] theorem RetI_ok (h : Hd) (b : D) (rest : Rho) (P : Hd → D → Prop) : RetI (.ok h (some ⟨b, .io⟩ :: rest)) rest P ↔ P h b := ⟨fun ⟨_, _, e, h⟩ => by cases e; exact h, fun h => ⟨_, _, rfl, h⟩⟩
@[simp] theorem strOk_ofS (a : String) : PyData.strOk (Str.ofString a) = true := by
  unfold PyData.strOk
  rw [← Array.all_toList, ofS_cps, List.all_eq_true]
  intro c m
  obtain ⟨ch, _, rfl⟩ := List.mem_map.mp m
  have := ch.valid
  refine decide_eq_true ?_
  unfold Char.toNat
  rcases this with h | h
  · have : ch.val.toNat < 0xd800 := h
    omega
  · exact h.2
end GS
namespace GM
open PySem L2 GS
/-- the state that cells are drawn from -/
def stD (ns : List Int) (a : Int) : Option Int → D
  | none => .dict [(.str (Str.ofString "script"), .list (ns.map .int)), (.str (Str.ofString "at"), .int a)]
  | some k => .dict [(.str (Str.ofString "script"), .list (ns.map .int)), (.str (Str.ofString "at"), .int a), (.str (Str.ofString "keys"), .int k)]
def NameGen (F : FF) : Prop := ∀ c : Int, ∃ s : Str, F [some ⟨.int c, .sh⟩] = .ok (.sh (.str s)) [none] ∧ nameB s = true
/-- drawn leaves and trees -/
def LeafGen (F : FF) : Prop := ∀ c : Int, ∃ t : Tr, F [some ⟨.int c, .sh⟩] = .ok (.sh t.enc) [none] ∧ t.ok = true ∧ t.ht = 0
theorem law_leaf_ok {F : FF} (hn : NameGen F) : LeafGen (fnF 2 1 (m_law_leaf F)) := fun c => by
  obtain ⟨s, hs, ns⟩ := hn (c / 4)
  have ms := pick_mem (xs := [PyData.str (Str.ofString "a"), .str (Str.ofString "b"), .str (Str.ofString "ab"), .str (Str.ofString "top"), .str (Str.ofString "abcdef"), .str (Str.ofString "void")]) (c := c / 4) (n := 6) (by decide) rfl
  obtain ⟨z, ez, hz⟩ : ∃ z : Str, pick [PyData.str (Str.ofString "a"), .str (Str.ofString "b"), .str (Str.ofString "ab"), .str (Str.ofString "top"), .str (Str.ofString "abcdef"), .str (Str.ofString "void")] (c / 4 % 6) = .str z ∧ signB z = true := by
    simp only [List.mem_cons, List.not_mem_nil, or_false] at ms
    rcases ms with e | e | e | e | e | e <;> rw [e] <;> exact ⟨_, rfl, by decide +kernel⟩
  have mt := pick_mem (xs := [Tr.enc (.sign z), Tr.enc .void, Tr.enc (.hole s), Tr.enc (.foot s)]) (c := c) (n := 4) (by decide) rfl
  obtain ⟨t, et, ht, h0⟩ : ∃ t : Tr, pick [Tr.enc (.sign z), Tr.enc .void, Tr.enc (.hole s), Tr.enc (.foot s)] (c % 4) = t.enc ∧ t.ok = true ∧ t.ht = 0 := by
    simp only [List.mem_cons, List.not_mem_nil, or_false] at mt
    rcases mt with e | e | e | e <;> rw [e]
    · exact ⟨_, rfl, hz, rfl⟩
    · exact ⟨_, rfl, rfl, rfl⟩
    · exact ⟨_, rfl, ns, rfl⟩
    · exact ⟨_, rfl, ns, rfl⟩
  refine ⟨t, ?_, ht, h0⟩
  simp only [Tr.enc] at et
  rw [m_law_leaf_eq]
  simp [m_law_leaf, hs, ez, et]
end GM
namespace GS
open PySem L2
theorem cutD_to (ds : List D) (i : Nat) : cutD ds none (some (i : Int)) = ds.take i := by
  unfold cutD
  rw [HT.sIx_none, HT.sIx_nat]
  simp only [List.drop_zero, Nat.sub_zero]
  by_cases h : i ≤ ds.length
  · rw [Nat.min_eq_left h]
  · rw [Nat.min_eq_right (by omega), List.take_of_length_le (Nat.le_refl _), List.take_of_length_le (by omega)]
theorem cutD_from (ds : List D) (i : Nat) : cutD ds (some (i : Int)) none = ds.drop i := by
  unfold cutD
  rw [HT.sIx_none, HT.sIx_nat]
  by_cases h : i ≤ ds.length
  · rw [Nat.min_eq_left h, List.take_of_length_le (by rw [List.length_drop]; omega)]
  · rw [Nat.min_eq_right (by omega), List.drop_of_length_le (Nat.le_refl _), List.drop_of_length_le (by omega), List.take_nil]
theorem cutS_to (z : Str) (i : Nat) : (cutS z none (some (i : Int))).cps.toList = z.cps.toList.take i := by
  have hl : z.cps.toList.length = z.length := (len_eq z).symm
  unfold cutS
  rw [HT.sIx_none, HT.sIx_nat]
  simp only [List.drop_zero, Nat.sub_zero]
  by_cases h : i ≤ z.length
  · rw [Nat.min_eq_left h]
  · rw [Nat.min_eq_right (by omega), ← hl, List.take_of_length_le (Nat.le_refl _), List.take_of_length_le (by omega)]
theorem cutS_from (z : Str) (i : Nat) : (cutS z (some (i : Int)) none).cps.toList = z.cps.toList.drop i := by
  have hl : z.cps.toList.length = z.length := (len_eq z).symm
  unfold cutS
  rw [HT.sIx_none, HT.sIx_nat]
  by_cases h : i ≤ z.length
  · rw [Nat.min_eq_left h, List.take_of_length_le (by rw [List.length_drop]; omega)]
  · rw [Nat.min_eq_right (by omega), List.drop_of_length_le (by omega), List.drop_of_length_le (by omega), List.take_nil]
end GS
namespace GM
open PySem L2 GS
/-- _law_box(script); slots 0:script 1:seed 2:great 3:cell -/
def m_law_box_b1 : SF := (sKill [3] (sSeq (sSet 1 (eBin modD (eBin addD (eBin addD (eBin mulA (eVb 1) (eC (.int 69621))) (eBin modD (eVb 3) (eC (.int 2147483629)))) (eC (.int 1))) (eC (.int 2147483647)))) (sIf (eB (eBin (ltI fun i j => decide (j ≤ i)) (eVb 3) (eBin powD (eC (.int 10)) (eC (.int 18))))) (sApp 2 (eMv 3)) sNil)))
def m_law_box : SF := (sSeq (sSet 1 (eC (.int 1))) (sSeq (sSet 2 (eLst aNil)) (sSeq (sFor (iSq (eMv 0)) (gN 3) (m_law_box_b1)) (sEnd (sRet (eLst (aCons (eMv 1) (aCons (eC (.int 0)) (aCons (eMv 2) aNil)))))))))
theorem m_law_box_eq (ρ : Rho) : fnF 4 1 (m_law_box) ρ = finR 1 (m_law_box (ρ ++ [none, none, none])) := fnF_eq 4 1 _
/-- _law_pick(box, count); slots 0:box 1:count 2:stir 3:digit -/
def m_law_pick : SF := (sSeq (sIf (eAnd (eB (eBin (eqB false) (eBin ixA (eVb 0) (eC (.int 1))) (eC (.int 0)))) (eB (eBin (ltI fun i j => decide (j < i)) (eCB (un1 lenD) (aCons (eBin ixA (eVb 0) (eC (.int 2))) aNil)) (eC (.int 0))))) (sSeq (sPut 0 (eC (.int 1)) (eBin ixA (eBin ixA (eVb 0) (eC (.int 2))) (eC (.int 0)))) (sPut 0 (eC (.int 2)) (eSl (eBin ixA (eVb 0) (eC (.int 2))) (some (eC (.int 1))) none))) sNil) (sSeq (sKill [3] (sIf (eB (eBin (ltI fun i j => decide (j < i)) (eBin ixA (eVb 0) (eC (.int 1))) (eC (.int 0)))) (sSeq (sSet 3 (eBin modD (eBin ixA (eVb 0) (eC (.int 1))) (eVb 1))) (sSeq (sPut 0 (eC (.int 1)) (eBin divD (eBin ixA (eVb 0) (eC (.int 1))) (eVb 1))) (sEnd (sRet (eRv 3))))) sNil)) (sSeq (sPut 0 (eC (.int 0)) (eBin modD (eBin addD (eBin mulA (eBin ixA (eVb 0) (eC (.int 0))) (eC (.int 48271))) (eC (.int 7919))) (eC (.int 2147483647)))) (sSeq (sSet 2 (eBin modD (eBin mulA (eBin ixA (eVb 0) (eC (.int 0))) (eBin ixA (eVb 0) (eC (.int 0)))) (eC (.int 2147483629)))) (sEnd (sRet (eBin modD (eBin divD (eBin modD (eBin mulA (eVb 2) (eC (.int 40692))) (eC (.int 2147483587))) (eC (.int 8))) (eVb 1))))))))
theorem m_law_pick_eq (ρ : Rho) : fnF 4 2 (m_law_pick) ρ = finR 2 (m_law_pick (ρ ++ [none, none])) := fnF_eq 4 2 _
/-- _law_words(box, heads, tail, count); slots 0:box 1:heads 2:tail 3:count 4:stem 5:k 6:at 7:turn 8:some 9:word -/
def m_law_words_b1 (F__law_pick : FF) : SF := (sKill [5, 9] (sSeq (sSet 9 (eBin addD (eBin addD (eSl (eVb 4) none (some (eVb 6))) (eBin ixA (eVb 1) (eBin modD (eBin addD (eVb 7) (eBin mulA (eVb 5) (eC (.int 5)))) (eC (.int 26))))) (eSl (eVb 4) (some (eVb 6)) none))) (sApp 8 (eBin addD (eVb 9) (eBin mulA (eVb 2) (eCall 2 (some 0) F__law_pick (aCons (eVb 0) (aCons (eC (.int 2)) aNil))))))))
def m_law_words_b2 (F__law_pick : FF) : SF := (sKill [5] (sSet 4 (eBin addD (eVb 4) (eBin ixA (eVb 1) (eCall 2 (some 0) F__law_pick (aCons (eVb 0) (aCons (eC (.int 26)) aNil)))))))
def m_law_words (F__law_pick : FF) : SF := (sSeq (sSet 4 (eC (.str (Str.ofString "")))) (sSeq (sFor (iR1 (eCall 2 (some 0) F__law_pick (aCons (eVb 0) (aCons (eC (.int 4)) aNil)))) (gN 5) (m_law_words_b2 F__law_pick)) (sSeq (sSet 6 (eCall 2 (some 0) F__law_pick (aCons (eVb 0) (aCons (eBin addD (eCB (un1 lenD) (aCons (eVb 4) aNil)) (eC (.int 1))) aNil)))) (sSeq (sSet 7 (eCall 2 (some 0) F__law_pick (aCons (eVb 0) (aCons (eC (.int 26)) aNil)))) (sSeq (sSet 8 (eLst aNil)) (sSeq (sFor (iR1 (eVb 3)) (gN 5) (m_law_words_b1 F__law_pick)) (sEnd (sRet (eRv 8)))))))))
theorem m_law_words_eq (F__law_pick : FF) (ρ : Rho) : fnF 10 4 (m_law_words F__law_pick) ρ = finR 4 (m_law_words F__law_pick (ρ ++ [none, none, none, none, none, none])) := fnF_eq 10 4 _
end GM
namespace GM
open PySem L2 GS
/-- a box -/
def Bx (d : D) : Prop := ∃ (s g : Int) (gs : List Int), d = .list [.int s, .int g, .list (gs.map .int)] ∧ 0 ≤ s ∧ s < 2147483647
def PickSp (F : FF) : Prop := ∀ (b : D) (n : Nat), Bx b → 0 < n → n < 1073741824 → ∃ (r : Nat) (b' : D), F [some ⟨b, .io⟩, some ⟨.int n, .sh⟩] = .ok (.sh (.int r)) [some ⟨b', .io⟩, none] ∧ Bx b' ∧ r < n
theorem cut1 (g : Int) (gs : List Int) : cutD ((g :: gs).map PyData.int) (some 1) none = gs.map .int := by
  unfold cutD
  have h1 : HT.sIx ((g :: gs).map PyData.int).length 0 (some 1) = 1 := by
    simp [HT.sIx]
  have h2 : HT.sIx ((g :: gs).map PyData.int).length ((g :: gs).map PyData.int).length none = gs.length + 1 := by
    simp [HT.sIx]
  rw [h1, h2]
  simp [List.take_of_length_le]
theorem law_pick_ok : PickSp (fnF 4 2 m_law_pick) := fun b n hb h0 hn => by
  obtain ⟨s, g, gs, rfl, s1, s2⟩ := hb
  have n0 : (0 : Int) < (n : Int) := by omega
  have n1 : (n : Int) < 1073741824 := by omega
  have i0 : ixN 3 0 = some 0 := rfl
  have i1 : ixN 3 1 = some 1 := rfl
  have i2 : ixN 3 2 = some 2 := rfl
  have m1 : cMul s 48271 = true := cMul_r (by decide)
  obtain ⟨t, ht⟩ : ∃ t, (s * 48271 + 7919) % 2147483647 = t := ⟨_, rfl⟩
  have t1 := Int.emod_nonneg (s * 48271 + 7919) (show (2147483647 : Int) ≠ 0 by decide)
  have t2 := Int.emod_lt_of_pos (s * 48271 + 7919) (show (0 : Int) < 2147483647 by decide)
  rw [ht] at t1 t2
  have m2 : cMul t t = true := cMul_r (by omega)
  have m3 : cMul (t * t % 2147483629) 40692 = true := cMul_r (by decide)
  suffices h : RetI (fnF 4 2 m_law_pick [some ⟨.list [.int s, .int g, .list (gs.map .int)], .io⟩, some ⟨.int n, .sh⟩]) [none] (fun h b => Bx b ∧ ∃ i : Int, h = .sh (.int i) ∧ 0 ≤ i ∧ i < n) by
    obtain ⟨h, b, e, hb, i, rfl, e0, e1⟩ := h
    exact ⟨i.toNat, b, by rw [e, Int.toNat_of_nonneg e0], hb, by omega⟩
  rw [m_law_pick_eq]
  have fin : ∀ (i : Int) (g' : Int) (gs' : List Int) (s' : Int), 0 ≤ s' → s' < 2147483647 → (Bx (.list [.int s', .int g', .list (gs'.map .int)]) ∧ 0 ≤ i % n ∧ i % n < n) := fun i g' gs' s' q1 q2 =>
    ⟨⟨s', g', gs', rfl, q1, q2⟩, Int.emod_nonneg _ (by omega), Int.emod_lt_of_pos _ n0⟩
  by_cases c : g = 0 ∧ gs ≠ []
  · obtain ⟨rfl, c2⟩ := c
    cases gs with
    | nil => exact absurd rfl c2
    | cons x xs =>
      have hc := cut1 x xs
      rw [List.map_cons] at hc
      by_cases hx : 0 < x
      · simp [m_law_pick, i1, i2, hc, hx, h0, n1, resO_div, resO_mod]
        exact fin _ _ _ _ s1 s2
      · simp [m_law_pick, i0, i1, i2, hc, hx, h0, n1, resO_div, resO_mod, m1, m2, m3, ht]
        exact fin _ _ _ _ t1 t2
  · by_cases hg : 0 < g
    · have z : ¬ g = 0 := by omega
      simp [m_law_pick, i1, i2, z, hg, h0, n1, resO_div, resO_mod]
      exact fin _ _ _ _ s1 s2
    · by_cases z : g = 0
      · have : gs = [] := by
          by_cases q : gs = []
          · exact q
          · exact absurd ⟨z, q⟩ c
        subst this
        simp [m_law_pick, i0, i1, i2, z, h0, n1, resO_div, resO_mod, m1, m2, m3, ht]
        exact fin _ _ [] _ t1 t2
      · simp [m_law_pick, i0, i1, i2, z, hg, h0, n1, resO_div, resO_mod, m1, m2, m3, ht]
        exact fin _ _ _ _ t1 t2
def BoxSp (F : FF) : Prop := ∀ ns : List Int, ns.length ≤ 100000 → ∃ b, F [some ⟨.list (ns.map .int), .sh⟩] = .ok (.fr b) [none] ∧ Bx b
theorem law_box_ok : BoxSp (fnF 4 1 m_law_box) := fun ns hl => by
  have hp : ∀ ρ : Rho, resO (powD (.int 10) (.int 18)) ρ = .ok (.sh (.int (10 ^ 18))) ρ := fun ρ => by
    rw [resO_pow (by decide) (by decide) (by decide)]; rfl
  obtain ⟨⟨s, gs⟩, hf, h1, h2, h3⟩ := forL_by (S := Int × List Int) (g := gN 3) (b := m_law_box_b1) (fun p => [some ⟨.list (ns.map .int), .sh⟩, some ⟨.int p.1, .sh⟩, some ⟨.list (p.2.map .int), .ow⟩, none])
    (fun pre p => 0 ≤ p.1 ∧ p.1 < 2147483647 ∧ p.2.length ≤ pre.length) (ns.map .int) (1, []) ⟨by decide, by decide, by simp⟩ (fun pre d post ⟨s, gs⟩ hd ⟨h1, h2, h3⟩ => by
      obtain ⟨c, hc, rfl⟩ : ∃ c ∈ ns, PyData.int c = d := List.mem_map.mp (by rw [hd]; simp)
      have hlen : pre.length < ns.length := by
        have := congrArg List.length hd
        simp at this
        omega
      dsimp only at h1 h2 h3 ⊢
      have m1 : cMul s 69621 = true := cMul_r (by decide)
      have hz : gs.length < sizeLine := fitsl (by omega)
      have t1 := Int.emod_nonneg (s * 69621 + c % 2147483629 + 1) (show (2147483647 : Int) ≠ 0 by decide)
      have t2 := Int.emod_lt_of_pos (s * 69621 + c % 2147483629 + 1) (show (0 : Int) < 2147483647 by decide)
      by_cases q : 10 ^ 18 ≤ c
      · refine ⟨((s * 69621 + c % 2147483629 + 1) % 2147483647, gs ++ [c]), ?_, t1, t2, by simp; omega⟩
        simp [m_law_box_b1, m1, hp, q, hz]
        simp at q
        simp [q, hz]
      · refine ⟨((s * 69621 + c % 2147483629 + 1) % 2147483647, gs), ?_, t1, t2, by simp; omega⟩
        simp [m_law_box_b1, m1, hp, q]
        simp at q
        intro q2
        omega)
  refine ⟨.list [.int s, .int 0, .list (gs.map .int)], ?_, s, 0, gs, rfl, h1, h2⟩
  rw [m_law_box_eq]
  dsimp only at hf
  simp [m_law_box, hf]
  simp at hf
  simp [hf]
/-- the words that are drawn: at most four letters, the first one a head, and a tail perhaps -/
def WordOk (heads tail : Str) (w : Str) : Prop := w.length ≤ 5 ∧ (∃ c cs, w.cps.toList = c :: cs ∧ c ∈ heads.cps.toList) ∧ ∀ c ∈ w.cps.toList, c ∈ heads.cps.toList ∨ c ∈ tail.cps.toList
theorem mul01 (z : Str) (r : Nat) (h : r < 2) (hz : z.length = 1) : ∃ u : Str, mulA (.str z) (.int r) = some (.sh (.str u)) ∧ u.length ≤ 1 ∧ ∀ c ∈ u.cps.toList, c ∈ z.cps.toList := by
  refine ⟨Txt.mul z r, ?_, ?_, ?_⟩
  · rw [mulA_s, if_pos]
    rw [hz]
    rcases (show r = 0 ∨ r = 1 by omega) with rfl | rfl <;> decide
  · rcases (show r = 0 ∨ r = 1 by omega) with rfl | rfl
    · simp [Txt.mul]; decide
    · simp [Txt.mul, hz]
  · rcases (show r = 0 ∨ r = 1 by omega) with rfl | rfl
    · simp [Txt.mul]; simp [Str.empty]
    · simp [Txt.mul]
end GM
namespace PySem
open Sem (wp)
open AutoSeq1 (wpAny_loadPart')
theorem meets_enumerate_newT (l : Addr) (items : Array Value) (n : Nat) (dct : Option Addr) (sl : Array (Option Value)) :
    Meets (Builtin.«enumerate.__new__» ⟨[.type "enumerate", .ref l], []⟩) (fun _ R s => s.heap.get? l = some { cls := .type "tuple", dict := dct, data := .seq items n, slots := sl } ∧
      R (.ok (.ret (.ref (s.heap.push { cls := .type "tuple_iterator", data := .fields #[.ref l, .int 0 0] }).objs.size)))
        { s with heap := (s.heap.push { cls := .type "tuple_iterator", data := .fields #[.ref l, .int 0 0] }).push { cls := .type "enumerate", data := .fields #[.none, .bool false, .ref s.heap.objs.size, rawInt 0, .none, .none] } }) :=
  .of_wp fun prog w A R s h => by
    obtain ⟨hp, g, d, tk, os⟩ := s; obtain ⟨hl, h⟩ := h
    have hsub := sub_enumerate
    have hL : Heap.IsTuple (Shared.heap ⟨hp, g, d, tk, os⟩) l items := ⟨_, hl, rfl, n, rfl⟩
    wp_walk using wpAny_loadPart' hl
    refine wpAny_stack_any fun st => wpAny_pure ?_
    split
    · rename_i c _ _ _ _ _
      cases (c == Value.type "enumerate")
      · wp_walk using wpAny_loadPart' hl, wpAny_pyIter_tuple hL
        exact ⟨_, rfl, h⟩
      · wp_walk using wpAny_loadPart' hl, wpAny_pyIter_tuple hL
        exact ⟨_, rfl, h⟩
    · wp_walk using wpAny_loadPart' hl, wpAny_pyIter_tuple hL
      exact ⟨_, rfl, h⟩
section
variable {prog : Program} {w : World} {A : Around} {E : Value → Shared → Prop} {s : Shared}
theorem call_enumerate_tuple {l : Addr} {items : Array Value} {Q : Value → Shared → Prop} (hL : s.heap.IsTuple l items)
    (h : ∀ h', IsEnum h' (s.heap.objs.size + 1) s.heap.objs.size 0 .none → h'.IsTupleIter s.heap.objs.size l 0 → h'.objs.size = s.heap.objs.size + 2 →
      (∀ b o, s.heap.get? b = some o → h'.get? b = some o) → Q (.ref (s.heap.objs.size + 1)) { s with heap := h' }) :
    wpAny (model prog w) A (call (.type "enumerate") [.ref l]) Q E s := by
  obtain ⟨⟨c, dct, dt, sl⟩, hl, hc, n, hd⟩ := hL
  replace hc : c = .type "tuple" := hc
  replace hd : dt = .seq items n := hd
  subst hc hd
  refine callType_new F.called_enumerate (by decide) (F.typeCall_enumerate_1 _) (F.newCall_enumerate_1 _) (fun obj => F.args_object_init_2 obj _) F.entry_enumerate_new
    (meets_enumerate_newT l items n dct sl) ⟨hl, ?_⟩
  have hz : (s.heap.push { cls := .type "tuple_iterator", data := .fields #[.ref l, .int 0 0] }).objs.size = s.heap.objs.size + 1 := Heap.size_push ..
  show _ ∧ _
  rw [hz]
  have he : IsEnum ((s.heap.push { cls := .type "tuple_iterator", data := .fields #[.ref l, .int 0 0] }).push
      { cls := .type "enumerate", data := .fields #[.none, .bool false, .ref s.heap.objs.size, rawInt 0, .none, .none] }) (s.heap.objs.size + 1) s.heap.objs.size 0 .none := by
    have := Heap.get?_push_size (s.heap.push { cls := .type "tuple_iterator", data := .fields #[.ref l, .int 0 0] })
      (o := { cls := .type "enumerate", data := .fields #[.none, .bool false, .ref s.heap.objs.size, rawInt 0, .none, .none] }) rfl
    rw [hz] at this; exact this
  refine ⟨⟨_, he, rfl⟩, h _ he ⟨_, Heap.get?_push_of_some _ (Heap.get?_push_size _ rfl), rfl, rfl⟩ (by rw [Heap.size_push, hz]) fun b o x => Heap.get?_push_of_some _ (Heap.get?_push_of_some _ x)⟩
theorem wpAny_pyNext_enumT_end {e it l : Addr} {i : Nat} {items : Array Value} {old : Value} {Q : Option Value → Shared → Prop} (hh : A.handled = none)
    (he : IsEnum s.heap e it i old) (hit : s.heap.IsTupleIter it l i) (hl : s.heap.IsTuple l items) (hx : items[i]? = none)
    (hQ : ∀ h', Heap.ExtBut it s.heap h' → Q none { s with heap := h' }) : wpAny (model prog w) A (pyNext (.ref e)) Q E s := by
  have hT : s.TypeIs (.ref e) "enumerate" := ⟨_, he, rfl⟩
  unfold pyNext
  refine wpAny_bind (wpAny_attempt (wpAny_callSpecial?_slot (name := Str.ofString "__next__") hT F.slot_enumerate_next
    (wpAny_call_entry F.slot_enumerate_next hT F.entry_enumerate_next ?_ (F.args_enumerate_next_1 _))))
  show wpAny _ _ (field (.ref e) 2 >>= _) _ _ _
  refine wpAny_bind (wpAny_field he rfl (x := .ref it) rfl ?_)
  refine wpAny_bind (wpAny_nextOf_tuple_end hh hit hl hx fun h' x he' hx' => ?_)
  obtain ⟨o, ho, hc⟩ := hx'
  refine wpAny_bind (wpAny_isInstance (T := "StopIteration") (b := true) ⟨o, ho, hc⟩ isSubtype_stop ?_)
  exact wpAny_pure (hQ _ he')
end
end PySem
namespace L2
open PySem PySem.Spec PyProof.Rows
def Iet (K : PySem.W.Frag) (a : Addr) : It :=
  ⟨fun i H => ∃ (xs : List V) (x : V), SqT K H a xs ∧ xs[i]? = some x, fun i H v H' => ∃ T o x, v = .ref T ∧ H T = none ∧ o.dict = none ∧ H' = upd H T (.frz o (.tup [.int (i : Nat), x])) ∧ ∀ xs, SqT K H a xs → xs[i]? = some x, fun i H => ∃ xs : List V, SqT K H a xs ∧ xs.length ≤ i⟩
theorem turn_enumT {P : Program} {w : World} {K : PySem.W.Frag} {elts : List Expr} {kk : Nat} {tpos : Pos} (a e it : Addr) :
    Turn P w K (.Tuple elts kk tpos) (Iet K a) [e, it] e (fun i h => (∃ old, IsEnum h e it ((i : Nat) : Int) old) ∧ h.IsTupleIter it a i ∧ e ≠ it) where
  mem := by simp
  obj := fun i h st b hb => by
    obtain ⟨⟨old, he⟩, ⟨o, ho, hc, hd⟩, _⟩ := st
    have e' : b = e ∨ b = it := by simpa using hb
    rcases e' with z | z
    · rw [z]; exact ⟨_, he, fun v q => nomatch q⟩
    · rw [z]; exact ⟨o, ho, fun v q => by rw [hd] at q; cases q⟩
  keep := fun i h h' st k => let ⟨⟨old, he⟩, hi, hne⟩ := st; ⟨⟨old, k e (by simp) _ he⟩, hi.at fun o q => k it (by simp) o q, hne⟩
  item := by
    intro X hP hw hK hc i pins s σ H E I hf st hg
    subst hP hw hK
    obtain ⟨⟨old, he⟩, hit, hne⟩ := st
    obtain ⟨xs, x, hq, hx⟩ := hg
    obtain ⟨its, rv, p, hz⟩ := I.tuple hq
    obtain ⟨u, hu, ru⟩ := rv.get hx
    have hel : e < s.heap.objs.size := Heap.lt_size he
    have hil : it < s.heap.objs.size := by obtain ⟨_, q, _⟩ := hit; exact Heap.lt_size q
    have pt : s.heap.IsTuple a its.toArray := p
    have hea : e ≠ a := fun z => by
      obtain ⟨o, ho, hc', _⟩ := pt
      rw [← z] at ho
      have he' : s.heap.get? e = _ := he
      rw [he'] at ho
      cases ho
      simp at hc'
    have hai : a ≠ it := fun z => by
      obtain ⟨o, ho, hc', _⟩ := pt
      obtain ⟨o2, ho2, hc2, _⟩ := hit
      rw [z, ho2] at ho
      cases ho
      rw [hc2] at hc'
      simp at hc'
    have hlen : i < its.toArray.size := by
      have := (List.getElem?_eq_some_iff.mp hu).1
      simpa using this
    refine wpAny_pyNext_enum_itemD (Draws.tuple (show X.A.in1.handled = none from I.ok.hd hc) it a hai its.toArray) he ⟨hit, pt⟩ hlen hne (by simp; exact ⟨hne, hea⟩) fun u' h' tk hu' ho hst hT hsz hk => ?_
    have eu : u' = u := by
      have h1 : its.toArray[i]? = some u' := hu'
      have h2 : its[i]? = some u' := by simpa using h1
      rw [hu] at h2
      cases h2; rfl
    subst eu
    obtain ⟨hit', _⟩ := hst
    refine ⟨_, rfl, wpAny_letOwnedTupleGo_enum (s := { s with heap := h', toks := tk + 1 }) ho fun h'' he' sb => ?_⟩
    have hT2 : h''.get? s.heap.objs.size = some { cls := .type "tuple", data := .seq #[.int i tk, u'] } := (sb.2 _ (Nat.ne_of_gt hel)).trans hT
    have new : ObjOk X.prog X.w (upd H s.heap.objs.size (.frz { cls := .type "tuple", data := .seq #[.int i tk, u'] } (.tup [.int (i : Nat), x]))) h'' s.heap.objs.size (.frz { cls := .type "tuple", data := .seq #[.int i tk, u'] } (.tup [.int (i : Nat), x])) :=
      ⟨hT2, by show 2 ≤ sizeLine; decide, [.int i tk, u'], .cons ⟨_, rfl⟩ (.cons ru .nil), ⟨_, hT2, rfl, _, rfl⟩⟩
    have I1 : Inv X pins σ (upd H s.heap.objs.size (.frz { cls := .type "tuple", data := .seq #[.int i tk, u'] } (.tup [.int (i : Nat), x]))) { s with heap := h'', toks := tk + 1 } :=
      I.turnedNew (ch := [e, it]) (fun b ob nb q => (sb.2 b (fun z => nb (by simp [z]))).trans (hk b ob (fun z => nb (by simp [z])) (fun z => nb (by simp [z])) q)) hf (Nat.le_refl _) new
    refine ⟨.ref s.heap.objs.size, _, I1, rfl, ⟨_, _, x, rfl, I.hok.fresh (Nat.le_refl _), rfl, rfl, fun ys hy => by rw [I.tuple_inj hy hq]; exact hx⟩, ⟨⟨u', ?_⟩, hit'.at fun o q => (sb.2 it (Ne.symm hne)).trans q, hne⟩, fun b hb => ?_⟩
    · have e1 : ((i + 1 : Nat) : Int) = (i : Int) + 1 := by omega
      rw [e1]; exact he'
    · have hb' : b < s.heap.objs.size := by
        have e' : b = e ∨ b = it := by simpa using hb
        rcases e' with z | z
        · rw [z]; exact hel
        · rw [z]; exact hil
      rw [upd_ne (Nat.ne_of_lt hb')]
      exact (hf b hb).1
  done := by
    intro X hP hw hK hc i pins s σ H E I hf st hg
    subst hP hw hK
    obtain ⟨⟨old, he⟩, hit, hne⟩ := st
    obtain ⟨xs, hq, hx⟩ := hg
    obtain ⟨its, rv, p, hz⟩ := I.tuple hq
    obtain ⟨f0, f1, f2, f3, f4, f5⟩ := hf it (by simp)
    have hl := rv.length
    exact wpAny_pyNext_enumT_end (I.ok.hd hc) he hit (show s.heap.IsTuple a its.toArray from p) (by simp; omega) fun h' eb => ⟨rfl, I.turned (t' := s.toks) (fun b o hb q => eb b o hb q) f0 f1 f3 f4 f5⟩
  self := fun A i s Q E st h => let ⟨⟨_, he⟩, _⟩ := st; wpAny_pyIter_enum he h
def IetL (K : PySem.W.Frag) (a : Addr) : It :=
  ⟨fun i H => ∃ (xs : List V) (x : V), SqL K H a xs ∧ xs[i]? = some x, fun i H v H' => ∃ T o x, v = .ref T ∧ H T = none ∧ o.dict = none ∧ H' = upd H T (.frz o (.tup [.int (i : Nat), x])) ∧ ∀ xs, SqL K H a xs → xs[i]? = some x, fun i H => ∃ xs : List V, SqL K H a xs ∧ xs.length ≤ i⟩
theorem turn_enumL {P : Program} {w : World} {K : PySem.W.Frag} {elts : List Expr} {kk : Nat} {tpos : Pos} (a e it : Addr) :
    Turn P w K (.Tuple elts kk tpos) (IetL K a) [e, it] e (fun i h => (∃ old, IsEnum h e it ((i : Nat) : Int) old) ∧ h.IsListIter it a i ∧ e ≠ it) where
  mem := by simp
  obj := fun i h st b hb => by
    obtain ⟨⟨old, he⟩, ⟨o, ho, hc, hd⟩, _⟩ := st
    have e' : b = e ∨ b = it := by simpa using hb
    rcases e' with z | z
    · rw [z]; exact ⟨_, he, fun v q => nomatch q⟩
    · rw [z]; exact ⟨o, ho, fun v q => by rw [hd] at q; cases q⟩
  keep := fun i h h' st k => let ⟨⟨old, he⟩, hi, hne⟩ := st; ⟨⟨old, k e (by simp) _ he⟩, hi.at fun o q => k it (by simp) o q, hne⟩
  item := by
    intro X hP hw hK hc i pins s σ H E I hf st hg
    subst hP hw hK
    obtain ⟨⟨old, he⟩, hit, hne⟩ := st
    obtain ⟨xs, x, hq, hx⟩ := hg
    obtain ⟨its, rv, p, hz⟩ := I.list hq
    obtain ⟨u, hu, ru⟩ := rv.get hx
    have hel : e < s.heap.objs.size := Heap.lt_size he
    have hil : it < s.heap.objs.size := by obtain ⟨_, q, _⟩ := hit; exact Heap.lt_size q
    have pt : s.heap.IsList a its.toArray := p.isList
    have hea : e ≠ a := fun z => by
      obtain ⟨o, ho, hc', _⟩ := pt
      rw [← z] at ho
      have he' : s.heap.get? e = _ := he
      rw [he'] at ho
      cases ho
      simp at hc'
    have hai : a ≠ it := fun z => by
      obtain ⟨o, ho, hc', _⟩ := pt
      obtain ⟨o2, ho2, hc2, _⟩ := hit
      rw [z, ho2] at ho
      cases ho
      rw [hc2] at hc'
      simp at hc'
    have hlen : i < its.toArray.size := by
      have := (List.getElem?_eq_some_iff.mp hu).1
      simpa using this
    refine wpAny_pyNext_enum_itemD (Draws.list (show X.A.in1.handled = none from I.ok.hd hc) it a hai its.toArray) he ⟨hit, pt⟩ hlen hne (by simp; exact ⟨hne, hea⟩) fun u' h' tk hu' ho hst hT hsz hk => ?_
    have eu : u' = u := by
      have h1 : its.toArray[i]? = some u' := hu'
      have h2 : its[i]? = some u' := by simpa using h1
      rw [hu] at h2
      cases h2; rfl
    subst eu
    obtain ⟨hit', _⟩ := hst
    refine ⟨_, rfl, wpAny_letOwnedTupleGo_enum (s := { s with heap := h', toks := tk + 1 }) ho fun h'' he' sb => ?_⟩
    have hT2 : h''.get? s.heap.objs.size = some { cls := .type "tuple", data := .seq #[.int i tk, u'] } := (sb.2 _ (Nat.ne_of_gt hel)).trans hT
    have new : ObjOk X.prog X.w (upd H s.heap.objs.size (.frz { cls := .type "tuple", data := .seq #[.int i tk, u'] } (.tup [.int (i : Nat), x]))) h'' s.heap.objs.size (.frz { cls := .type "tuple", data := .seq #[.int i tk, u'] } (.tup [.int (i : Nat), x])) :=
      ⟨hT2, by show 2 ≤ sizeLine; decide, [.int i tk, u'], .cons ⟨_, rfl⟩ (.cons ru .nil), ⟨_, hT2, rfl, _, rfl⟩⟩
    have I1 : Inv X pins σ (upd H s.heap.objs.size (.frz { cls := .type "tuple", data := .seq #[.int i tk, u'] } (.tup [.int (i : Nat), x]))) { s with heap := h'', toks := tk + 1 } :=
      I.turnedNew (ch := [e, it]) (fun b ob nb q => (sb.2 b (fun z => nb (by simp [z]))).trans (hk b ob (fun z => nb (by simp [z])) (fun z => nb (by simp [z])) q)) hf (Nat.le_refl _) new
    refine ⟨.ref s.heap.objs.size, _, I1, rfl, ⟨_, _, x, rfl, I.hok.fresh (Nat.le_refl _), rfl, rfl, fun ys hy => by rw [I.list_inj hy hq]; exact hx⟩, ⟨⟨u', ?_⟩, hit'.at fun o q => (sb.2 it (Ne.symm hne)).trans q, hne⟩, fun b hb => ?_⟩
    · have e1 : ((i + 1 : Nat) : Int) = (i : Int) + 1 := by omega
      rw [e1]; exact he'
    · have hb' : b < s.heap.objs.size := by
        have e' : b = e ∨ b = it := by simpa using hb
        rcases e' with z | z
        · rw [z]; exact hel
        · rw [z]; exact hil
      rw [upd_ne (Nat.ne_of_lt hb')]
      exact (hf b hb).1
  done := by
    intro X hP hw hK hc i pins s σ H E I hf st hg
    subst hP hw hK
    obtain ⟨⟨old, he⟩, hit, hne⟩ := st
    obtain ⟨xs, hq, hx⟩ := hg
    obtain ⟨its, rv, p, hz⟩ := I.list hq
    obtain ⟨f0, f1, f2, f3, f4, f5⟩ := hf it (by simp)
    have hl := rv.length
    exact wpAny_pyNext_enum_end (I.ok.hd hc) he hit p.isList (by simp; omega) fun h' eb => ⟨rfl, I.turned (t' := s.toks) (fun b o hb q => eb b o hb q) f0 f1 f3 f4 f5⟩
  self := fun A i s Q E st h => let ⟨⟨_, he⟩, _⟩ := st; wpAny_pyIter_enum he h
/-- enumerate of a list or a tuple -/
def iEnumA (K : PySem.W.Frag) (ta : TA) : TI := fun σ H R => ta σ H fun vs H1 => (∃ a, vs = [.ref a] ∧ (∃ xs, SqL K H1 a xs) ∧ R (IetL K a) H1) ∨ (∃ a, vs = [.ref a] ∧ (∃ xs, SqT K H1 a xs) ∧ R (Iet K a) H1)
theorem pi_enumA {X : Cx} {e : Expr} {ta : TA} {p pos tpos : Pos} {elts : List Expr} {kk : Nat} (hg : Gl X "enumerate") (hm : X.mg "enumerate" = none) (ha : PA X [e] ta) (hs : starEach [e] X.env = [(false, eval e X.env)] := by rfl) :
    PI X (.Tuple elts kk tpos) (.Call (.Name "enumerate" p) [e] [] pos) (iEnumA X.K ta) := by
  refine ⟨fun pins s σ H R I h => ?_⟩
  refine Call_ (ld_blt I hg hm boot_enumerate (PyProof.Rows.callWith_type1 (thn (ha.run pos pins s σ H _ I h) fun us s1 ⟨vs, H1, I1, r1, q1⟩ => ?_) hs rfl))
  rcases q1 with ⟨a, ex, ⟨xs, hq⟩, q⟩ | ⟨a, ex, ⟨xs, hq⟩, q⟩
  all_goals
    subst ex
    cases r1 with
    | cons r rr =>
      cases rr
      cases r
      first
        | (obtain ⟨its, rv, p', hz⟩ := I1.list hq
           refine call_enumerate_list p'.isList fun h' he hit hsz hk => wpAny_pyIter_enum he ?_
           have I2 : Inv X pins σ H1 { s1 with heap := h' } := I1.kept (t' := s1.toks) hk
           refine ⟨s1.heap.objs.size + 1, [s1.heap.objs.size + 1, s1.heap.objs.size], _, _, H1, rfl, I2, turn_enumL a (s1.heap.objs.size + 1) s1.heap.objs.size, ⟨⟨.none, he⟩, hit, Nat.succ_ne_self _⟩, fun b hb => ?_, q⟩)
        | (obtain ⟨its, rv, p', hz⟩ := I1.tuple hq
           refine call_enumerate_tuple (show s1.heap.IsTuple a its.toArray from p') fun h' he hit hsz hk => wpAny_pyIter_enum he ?_
           have I2 : Inv X pins σ H1 { s1 with heap := h' } := I1.kept (t' := s1.toks) hk
           refine ⟨s1.heap.objs.size + 1, [s1.heap.objs.size + 1, s1.heap.objs.size], _, _, H1, rfl, I2, turn_enumT a (s1.heap.objs.size + 1) s1.heap.objs.size, ⟨⟨.none, he⟩, hit, Nat.succ_ne_self _⟩, fun b hb => ?_, q⟩)
      have e' : b = s1.heap.objs.size + 1 ∨ b = s1.heap.objs.size := by simpa using hb
      have hle : s1.heap.objs.size ≤ b := by
        rcases e' with z | z
        · rw [z]; exact Nat.le_add_right _ _
        · rw [z]; exact Nat.le_refl _
      exact I1.fpOk hle (I1.hok.fresh hle)
/-- pairs in new tuples -/
def YPairX (f g : Nat → Option V) : Nat → Hp → V → Hp → Prop := fun i H v H' => ∃ T o x y, v = .ref T ∧ H T = none ∧ o.dict = none ∧ H' = upd H T (.frz o (.tup [x, y])) ∧ f i = some x ∧ g i = some y
theorem walk_enumT {K : PySem.W.Frag} {a : Addr} {xs : List V} : Walk (Iet K a) xs.length (fun H => SqT K H a xs) (YPairX (fun i => some (.int (i : Nat))) (fun i => xs[i]?)) := by
  refine ⟨fun i _ hi q => ⟨xs, xs[i], q, by simp [hi]⟩, fun _ q => ⟨xs, q, Nat.le_refl _⟩, fun i H v H' _ q y => ?_⟩
  obtain ⟨T, o, x, h1, h2, h0, h3, h4⟩ := y
  exact ⟨T, o, .int (i : Nat), x, h1, h2, h0, h3, rfl, h4 xs q⟩
theorem walk_enumL {K : PySem.W.Frag} {a : Addr} {xs : List V} : Walk (IetL K a) xs.length (fun H => SqL K H a xs) (YPairX (fun i => some (.int (i : Nat))) (fun i => xs[i]?)) := by
  refine ⟨fun i _ hi q => ⟨xs, xs[i], q, by simp [hi]⟩, fun _ q => ⟨xs, q, Nat.le_refl _⟩, fun i H v H' _ q y => ?_⟩
  obtain ⟨T, o, x, h1, h2, h0, h3, h4⟩ := y
  exact ⟨T, o, .int (i : Nat), x, h1, h2, h0, h3, rfl, h4 xs q⟩
end L2
namespace GS
open PySem L2
/-- numbered -/
def enD (ds : List D) : List D := ds.mapIdx fun i d => .tuple [.int (i : Int), d]
def seqs : D → Option (List D)
  | .list ds => some ds
  | .tuple ds => some ds
  | _ => none
def iEn (fe : EF) : IF := fun ρ => bindEI (eCap fe ρ) fun h ρ1 => match h with
  | .sh d => match seqs d with
    | some ds => .ok (enD ds) ρ1
    | none => .stuck
  | _ => .stuck
section
variable {X : Cx} {C : Ct} {ρ ρ1 : Rho} {σ σ1 : St} {B H B1 H1 : Hp} {e tg : Expr} {te : TE} {fe : EF} {pos p tpos : Pos}
theorem enD_get (ds : List D) (i : Nat) (d : D) (h : ds[i]? = some d) : (enD ds)[i]? = some (.tuple [.int (i : Int), d]) := by
  unfold enD
  rw [List.getElem?_mapIdx, h]
  rfl
theorem it_en {K : KW} {J : It} {xs : List V} {ds : List D} {G : Hp → Prop} (w : Walk J xs.length G (YPairX (fun i => some (.int (i : Nat))) (fun i => xs[i]?))) (hG : ∀ H, SameT B H → G H) (r : RpL K B xs ds) : ItOk K B (enD ds) J := by
  unfold ItOk
  rw [show (enD ds).length = xs.length by unfold enD; rw [List.length_mapIdx, r.length]]
  refine w.mono hG fun i H x H' hi s y => ?_
  obtain ⟨T, o, a, b, h1, h2, h0, h3, h4, h5⟩ := y
  cases h4
  obtain ⟨d, q1, q2⟩ := r.getV h5
  exact ⟨_, enD_get ds i d q1, .inr ⟨T, o, _, _, h1, h2, h0, h3, rfl, .cons (.int _) (.cons q2 .nil)⟩⟩
theorem lk_en (l : LkE C te fe) : LkI C (iEnumA C.K (tCons te tNil)) (iEn fe) := fun ρ σ B H R S g => by
  refine l.cap.bindI S g fun hd ρ1 v B1 H1 S1 x1 y1 g1 => ?_
  cases hd with
  | sh d =>
    cases d with
    | list ds =>
      obtain ⟨a, vs, rfl, ha, ra⟩ := Rp.lstE y1
      exact .inl ⟨a, rfl, ⟨vs, same_lT S1.bh ha⟩, g1 _ B1 H1 S1 x1 (it_en walk_enumL (fun H s => same_lT s ha) ra)⟩
    | tuple ds =>
      obtain ⟨a, vs, rfl, ha, ra⟩ := Rp.tupE y1
      exact .inr ⟨a, rfl, ⟨vs, same_tT S1.bh ha⟩, g1 _ B1 H1 S1 x1 (it_en walk_enumT (fun H s => same_tT s ha) ra)⟩
    | _ => exact g1.elim
  | _ => exact g1.elim
theorem si_en {elts : List Expr} {kk : Nat} (l : SE X C e te fe) (hm : X.mg "enumerate" = none) (hg : Gl X "enumerate" := by rfl) (hk : X.K = C.K := by rfl) (hs : starEach [e] X.env = [(false, eval e X.env)] := by rfl) :
    SI X C (.Tuple elts kk tpos) (.Call (.Name "enumerate" p) [e] [] pos) (iEnumA C.K (tCons te tNil)) (iEn fe) := ⟨by rw [← hk]; exact pi_enumA hg hm (pa_cons l.pe pa_nil hs) hs, lk_en l.lk⟩
end
end GS
namespace GS
open PySem L2
section
variable {K : KW} {X : Cx} {C : Ct} {ρ ρ1 : Rho} {σ σ1 : St} {B H B1 H1 : Hp} {e e2 : Expr} {te ti : TE} {fe fi : EF} {pos : Pos} {st : Stmt}
end
end GS
namespace GS
open PySem L2
section
variable {ρ ρ1 : Rho} {c : Prop} [Decidable c]
def enR (h : Hd) (ρ : Rho) : RI := match h with
  | .sh d => match seqs d with
    | some ds => .ok (enD ds) ρ
    | none => .stuck
  | _ => .stuck
@[simp] theorem enR_l (ds : List D) : enR (.sh (.list ds)) ρ = .ok (enD ds) ρ := rfl
@[simp] theorem enR_t (ds : List D) : enR (.sh (.tuple ds)) ρ = .ok (enD ds) ρ := rfl
@[simp] theorem iEn_eq (f : EF) : iEn f ρ = bindEI (eCap f ρ) enR := by unfold iEn enR; rfl
theorem enD_len (ds : List D) : (enD ds).length = ds.length := by unfold enD; rw [List.length_mapIdx]
theorem enD_mid {ds pre post : List D} {d : D} (h : enD ds = pre ++ d :: post) : ∃ x, ds[pre.length]? = some x ∧ d = .tuple [.int (pre.length : Int), x] := by
  have h2 : (enD ds)[pre.length]? = some d := by rw [h, List.getElem?_append_right (Nat.le_refl _), Nat.sub_self]; rfl
  have h3 : pre.length < ds.length := by rw [← enD_len ds]; exact (List.getElem?_eq_some_iff.mp h2).1
  have h4 : ds[pre.length]? = some ds[pre.length] := List.getElem?_eq_getElem h3
  rw [enD_get ds _ _ h4] at h2
  exact ⟨_, h4, (Option.some.inj h2).symm⟩
/-- a loop that appends -/
theorem forL_app {α : Type} {g : D → Rho → Option Rho} {b : SF} (emb : List D → Rho) (it : α → D) (f : α → D) : ∀ (as : List α) (acc : List D), acc.length + as.length ≤ sizeLine →
    (∀ a acc, a ∈ as → acc.length < sizeLine → optR (g (it a) (emb acc)) b = .nx (emb (acc ++ [f a]))) → forL g b (as.map it) (emb acc) = .nx (emb (acc ++ as.map f))
  | [], acc, _, _ => by simp
  | a :: as, acc, hl, k => by
    rw [List.length_cons] at hl
    have h1 := k a acc (List.mem_cons_self ..) (by omega)
    have q := forL_app emb it f as (acc ++ [f a]) (by rw [List.length_append, List.length_singleton]; omega) fun a acc m => k a acc (List.mem_cons_of_mem _ m)
    rw [List.map_cons, forL_cons]
    unfold optR at h1 ⊢
    split at h1
    · cases h1
    · dsimp only
      rw [h1, turnR_nx, q]
      simp
end
end GS
namespace GS
open PySem L2
section
variable {K : KW} {X : Cx} {C : Ct} {a b : Expr} {ta tb : TE} {fa fb : EF} {apos pos : Pos}
end
end GS
namespace GS
open PySem L2
section
variable {ρ ρ1 : Rho} {c : Prop} [Decidable c]
end
end GS
namespace GS
open PySem L2 PySem.Spec PyProof.Rows
section
variable {X : Cx} {pins : List (Addr × Obj)} {σ : L2.St} {H : Hp} {s : Shared}
end
section
variable {X : Cx} {x n : Str} {c : Value} {i : Nat} {body suite : List Stmt} {b₀ : Stmt} {np pos pos' : Pos} {R : TS} {ts : TS} {Wout : WX}
end
end GS
namespace GS
open PySem L2
section
variable {K : KW} {ρ ρ1 : Rho} {σ σ1 : St} {B H B1 H1 : Hp}
end
section
variable {X : Cx} {C : Ct} {x n : Str} {c : Value} {i : Nat} {body suite : List Stmt} {b₀ : Stmt} {np pos pos' : Pos} {ts : TS} {fb fh : SF} {ns cs : List Str}
def tTry (C : Ct) (f : SF) : TS := fun D σ H => ∃ ρ B, Sim C.K ρ σ B H ∧ GoodS C ρ σ B H D (f ρ)
end
end GS
namespace GS
open PySem L2
section
variable {X : Cx} {C : Ct} {e : Expr} {te : TE} {fe : EF} {pos : Pos} {ns cs : List Str}
end
end GS
namespace GS
open PySem L2
/-- what the written part says of G, whose __init__ is ValueError's -/
def giB (K : PySem.W.Frag) (G : Addr) : Bool := decide (PySem.W.specialIn K (.ref G) "__getattribute__" = some (some (.builtin "type.__getattribute__"))) && (PySem.W.readsIn K G (.type "type") && match PySem.W.findCls K (.ref G) (.type "type") "__init__" with
  | some (.val v) => decide (v = .builtin "ValueError.__init__")
  | _ => false)
theorem giB_ok {K : PySem.W.Frag} {G : Addr} (h : giB K G = true) : PySem.W.specialIn K (.ref G) "__getattribute__" = some (some (.builtin "type.__getattribute__")) ∧ PySem.W.readsIn K G (.type "type") = true ∧ PySem.W.findCls K (.ref G) (.type "type") "__init__" = some (.val (.builtin "ValueError.__init__")) := by
  unfold giB at h
  rw [Bool.and_eq_true, Bool.and_eq_true, decide_eq_true_eq] at h
  obtain ⟨h1, h2, h3⟩ := h
  refine ⟨h1, h2, ?_⟩
  split at h3
  · rename_i v e
    rw [e, of_decide_eq_true h3]
  · cases h3
section
variable {X : Cx} {e : Expr} {es : List Expr} {ta : TA} {p1 p2 pos : Pos} {x : Str} {G : Addr}
open PySem.Spec PyProof.Rows in
theorem pe_ginit {pl : Sem Bool} (hgi : giB X.K G = true) (hm : X.mg x = some (.ref G)) (ha : PA X (e :: es) ta) (hg : Gl X x := by rfl) (hdb : (x == ("__debug__" : Str)) = false := by decide)
    (hc : eval (.Call (.Attribute (.Name x p1) "__init__" p2) (e :: es) [] pos) X.env = (do
      let ov ← eval (.Name x p1) X.env
      standAt p2.atName
      let (f, first) ← holding [ov] (getMethod ov "__init__" pl)
      callWith pos f first (backTo pos (starEach (e :: es) X.env)) (backToKw pos (keywordEach [] X.env))) := by rfl)
    (he : starEach (e :: es) X.env = (false, eval e X.env) :: starEach es X.env := by rfl) (hpl : (backTo pos (starEach es X.env)).any (·.1) = false := by rfl) :
    PE X (.Call (.Attribute (.Name x p1) "__init__" p2) (e :: es) [] pos) (tVeI X.K ta) := by
  obtain ⟨h1, h2, h3⟩ := giB_ok hgi
  refine ⟨fun pins s σ H Q I h => ?_⟩
  refine PySem.W.methodCall_KW (ld_glob I hg hm ?_ hdb) hc
  refine PySem.W.method_cls I.kIn h1 (PySem.W.cls_value I.kIn h2 h3 (by decide +kernel) ?_)
  show wpAny _ _ (callWith pos (Value.builtin "ValueError.__init__") [] (backTo pos (starEach (e :: es) X.env)) []) _ _ _
  refine PyProof.Rows.callWith_method1 (thn (ha.run pos pins _ σ H _ (I.tok _) h) fun us s1 ⟨vs, H1, I1, r1, a, C, ws, ev, hl, T, ea, q⟩ => ?_) he hpl
  subst ev
  cases r1 with
  | @cons _ u0 _ ur ra rw' =>
    obtain rfl : u0 = Value.ref a := ra
    have hlen : ur.length ≤ sizeLine := by
      rw [← Paired.length rw', sizeLine_eq]
      omega
    exact oinit_ok T I1 ea hlen fun s' J => ⟨.non, H1, J, rfl, q⟩
end
/-- what an own __init__ that sets the fields fns keeps -/
def spI (K : PySem.W.Frag) (fns : List Str) : Sp := fun vs H Q _ => ∃ (a C : Addr) (ys : List V), vs = .ref a :: ys ∧ ys.length = fns.length ∧ H a = some (exo a C none) ∧ OexC K C ∧ (∀ f ∈ fns, PySem.W.findIn K (.ref C) f = some none) ∧
  ∀ (dx : Addr) (H' : Hp), H dx = none → dx ≠ a → H' a = some (exo a C (some dx)) → H' dx = some (exd dx (fns.zip ys).reverse) → (∀ b, b ≠ a → b ≠ dx → H' b = H b) → Q .non H'
section
variable {P : Program} {w : World} {K : PySem.W.Frag} {mg : Str → Option Value} {base : Heap}
theorem fn_init1 {f qual msg : Str} {st : Stmt} {fI : Addr} {fd : FuncData} {k : Nat} (F : Fun K "__init__" qual st fI fd) (S : FnScope ["self", f] ["self", f] (defScope st))
    (hok : ∀ cdv A outer s H E, PSs (cxOf (L2.CX P w) P w K mg base ["self", f] qual (defScope st) fI cdv A outer s H E) (defBody st) (tSeq (tDrop (tVeI K (tCons (tVar 0) (tCons (tC (.str msg)) tNil)))) (tOst K f (tVar 0) (tVar 1)))) :
    FnOk P w K mg base (L2.CX P w) (k + 1) fI fd ["self", f] (spI K [f]) := by
  refine F.okX S (fun vs H Q E h => ?_) (fun cdv A outer s H vs Q E hr h => ⟨_, hok cdv A outer s H E, ?_⟩)
  · obtain ⟨a, C, ys, rfl, hl, _⟩ := h
    rw [List.length_cons, hl]; rfl
  · obtain ⟨a, C, ys, rfl, hl, ea, T, hno, q⟩ := h
    match ys, hl with
    | [y], _ =>
      refine ⟨.ref a, rfl, a, C, [.str msg], rfl, by rw [List.length_singleton]; omega, T, ea, ?_⟩
      refine ⟨y, rfl, .ref a, rfl, a, C, rfl, T, hno f (List.mem_singleton.mpr rfl), .inl ⟨ea, fun dx n ne => q dx _ n ne upd_same ?_ fun b h1 h2 => ?_⟩⟩
      · rw [upd_ne ne, upd_same]; rfl
      · rw [upd_ne h1, upd_ne h2]
end
end GS
namespace GS
open PySem L2
abbrev spFv (K : KW) (n : Nat) (F : FF) : Sp := spF K (cvK K) n F
/-- the __init__ as a row of the table: it says only that there is room for it -/
def iniF (k : Nat) : FF := fun _ => if k < 2 then .stuck else .ok (.sh .none) []
/-- .. and what stands behind the row -/
def IniOk (P : Program) (w : World) (K : PySem.W.Frag) (mg : Str → Option Value) (base : Heap) (k : Nat) (fI : Addr) (fd : FuncData) (fns : List Str) (F : FF) : Prop := F [] = .stuck ∨ ∃ k', k = k' + 1 ∧ FnOk P w K mg base (L2.CX P w) k' fI fd ("self" :: fns) (spI K fns)
/-- what the written part says of a class C with its own __init__ at fI -/
def oeB (K : PySem.W.Frag) (C fI : Addr) (fns : List Str) : Bool := decide (PySem.W.findIn K (.ref C) "__setattr__" = some (some (.builtin "object.__setattr__"))) && (decide (PySem.W.subIn K (.ref C) (.type "BaseException") = some true) && (decide (PySem.W.typeIn K (.ref C) = some (.type "type")) &&
  (PySem.W.keepIn K (.ref C) && (decide (PySem.W.findIn K (.ref C) "__init__" = some (some (.ref fI))) && (decide (PySem.W.typeIn K (.ref fI) = some (.type "function")) && fns.all fun f => decide (PySem.W.findIn K (.ref C) f = some none))))))
theorem oeB_ok {K : PySem.W.Frag} {C fI : Addr} {fns : List Str} (h : oeB K C fI fns = true) : PySem.W.findIn K (.ref C) "__setattr__" = some (some (.builtin "object.__setattr__")) ∧ PySem.W.subIn K (.ref C) (.type "BaseException") = some true ∧ PySem.W.typeIn K (.ref C) = some (.type "type") ∧
    PySem.W.keepIn K (.ref C) = true ∧ PySem.W.findIn K (.ref C) "__init__" = some (some (.ref fI)) ∧ PySem.W.typeIn K (.ref fI) = some (.type "function") ∧ ∀ f ∈ fns, PySem.W.findIn K (.ref C) f = some none := by
  unfold oeB at h
  simp only [Bool.and_eq_true, decide_eq_true_eq] at h
  obtain ⟨h1, h2, h3, h4, h5, h6, h7⟩ := h
  exact ⟨h1, h2, h3, h4, h5, h6, fun f hf => of_decide_eq_true (List.all_eq_true.mp h7 f hf)⟩
def sRaise (F : FF) (c : Str) (fns : List Str) (fa : AF) : SF := fun ρ => match F [] with
  | .stuck => .stuck
  | _ => match fa ρ with
    | .stuck => .stuck
    | .exc x ρ1 => .exc x ρ1
    | .ok hs ρ1 => match shs hs with
      | some ds => if ds.length = fns.length ∧ ds.length ≤ 1000 then .exc ⟨c, (fns.zip ds).reverse⟩ ρ1 else .stuck
      | none => .stuck
theorem zip_fst {α β : Type} : ∀ (l : List α) (m : List β), l.length = m.length → (l.zip m).map (·.1) = l
  | [], [], _ => rfl
  | [], _ :: _, h => by cases h
  | _ :: _, [], h => by cases h
  | a :: l, b :: m, h => by
    rw [List.zip_cons_cons, List.map_cons, zip_fst l m (by simpa using h)]
theorem zip_snd {α β : Type} : ∀ (l : List α) (m : List β), l.length = m.length → (l.zip m).map (·.2) = m
  | [], [], _ => rfl
  | [], _ :: _, h => by cases h
  | _ :: _, [], h => by cases h
  | a :: l, b :: m, h => by
    rw [List.zip_cons_cons, List.map_cons, zip_snd l m (by simpa using h)]
section
variable {X : Cx} {C : Ct} {e : Expr} {es : List Expr} {ta : TA} {fa : AF} {p pos pos' : Pos} {x : Str} {fns : List Str}
def tRse (W : WX) (A : Addr) (K : PySem.W.Frag) (fns : List Str) (ta : TA) : TS := fun _ σ H => tMkO A (spI K fns) [] ta σ H fun cls d H' => W cls d σ H'
theorem lk_raise {F : FF} {A fI : Addr} (T : OexC C.K A) (hob : oeB C.K A fI fns = true) (hcx : C.cv x = .ref A) (hF : F [] ≠ .stuck) (l : LkA C ta fa) : LkS C (tRse C.W A C.K fns ta) (sRaise F x fns fa) := fun ρ σ B H D S g => by
  obtain ⟨_, _, _, _, _, _, hno⟩ := oeB_ok hob
  unfold sRaise at g
  have g : GoodS C ρ σ B H D (match fa ρ with
    | .stuck => .stuck
    | .exc x ρ1 => .exc x ρ1
    | .ok hs ρ1 => match shs hs with
      | some ds => if ds.length = fns.length ∧ ds.length ≤ 1000 then .exc ⟨x, (fns.zip ds).reverse⟩ ρ1 else .stuck
      | none => .stuck) := by
    cases eF : F [] with
    | stuck => exact absurd eF hF
    | ok h r => rw [eF] at g; exact g
    | exc y r => rw [eF] at g; exact g
  refine l ρ σ B H _ S ?_
  cases ea : fa ρ with
  | stuck => rw [ea] at g; exact g
  | exc y ρ1 => rw [ea] at g; exact fun cls d B' H' s z => g cls d σ B' H' s z
  | ok hs ρ1 =>
    rw [ea] at g
    dsimp only at g
    intro vs B1 H1 S1 x1 y1
    split at g
    · rename_i ds eds
      split at g
      · rename_i hl
        have r := shs_ok y1 eds
        have hvl : vs.length = fns.length := by rw [r.length]; exact hl.1
        refine ⟨by rw [r.length]; exact hl.2, fun a na => ⟨a, A, vs, by rw [List.append_nil], hvl, upd_same, T, hno, fun dx H' ndx ne e1 e2 e3 => ⟨rfl, dx, _, e1, e2, ?_, ?_⟩⟩⟩
        · rw [upd_ne ne] at ndx; exact ndx
        · rw [upd_ne ne] at ndx
          have eH : upd (del H' a) dx (.xd (fns.zip vs).reverse) = upd H1 dx (.xd (fns.zip vs).reverse) := by
            funext b
            by_cases hb : b = dx
            · rw [hb, upd_same, upd_same]
            · rw [upd_ne hb, upd_ne hb]
              by_cases hb2 : b = a
              · rw [hb2, del_same, na]
              · rw [del_ne hb2, e3 b hb2 hb, upd_ne hb2]
          rw [eH]
          obtain ⟨S2, x2⟩ := S1.newB ndx (.xd (fns.zip vs).reverse)
          refine g (.ref A) (some dx) σ _ _ S2 (x1.trans x2) ⟨hcx.symm, .inr ⟨dx, _, rfl, upd_same, ?_, ?_⟩⟩
          · show ((fns.zip vs).reverse).map (·.1) = ((fns.zip ds).reverse).map (·.1)
            rw [List.map_reverse, List.map_reverse, zip_fst _ _ hvl.symm, zip_fst _ _ hl.1.symm]
          · show RpL C.K _ (((fns.zip vs).reverse).map (·.2)) (((fns.zip ds).reverse).map (·.2))
            rw [List.map_reverse, List.map_reverse, zip_snd _ _ hvl.symm, zip_snd _ _ hl.1.symm]
            exact (r.mono x2.bb).reverse
      · exact g.elim
    · exact g.elim
theorem ss_sem {st : Stmt} {f : SF} (h : ∃ t, SS X C st t f) : SS X C st (tTry C f) f := by
  obtain ⟨t, ht⟩ := h
  refine ⟨⟨fun pins s σ H D I q => ?_⟩, fun ρ σ B H D S g => ⟨ρ, B, S, g⟩⟩
  obtain ⟨ρ, B, S, g⟩ := q
  exact ht.ps.run pins s σ H D I (ht.lk ρ σ B H D S g)
theorem ss_raise0 {F : FF} {A fI : Addr} {fd : FuncData} {k : Nat} (hi : IniOk X.prog X.w X.K X.mg X.base k fI fd fns F) (T : OexC C.K A) (hob : oeB C.K A fI fns = true) (hcx : C.cv x = .ref A) (hm : X.mg x = some (.ref A)) (hb : Binds X.K fd ("self" :: fns) []) (hr : Room k X.A) (tk : Takes X C.W) (hc : X.calm = true) (l : SA X C (e :: es) ta fa)
    (hk : X.K = C.K := by rfl) (hg : Gl X x := by rfl) (hdb : (x == ("__debug__" : Str)) = false := by decide) (he : starEach (e :: es) X.env = (false, eval e X.env) :: starEach es X.env := by rfl) (hpl : (backTo pos (starEach es X.env)).any (·.1) = false := by rfl) :
    ∃ t, SS X C (.Raise (some (.Call (.Name x p) (e :: es) [] pos)) none pos') t (sRaise F x fns fa) := by
  rcases hi with hi | ⟨k', rfl, FO⟩
  · refine ⟨fun _ _ _ => False, ⟨fun pins s σ H D I h => h.elim⟩, fun ρ σ B H D S g => ?_⟩
    unfold sRaise at g
    rw [hi] at g
    exact g
  · by_cases hF : F [] = .stuck
    · refine ⟨fun _ _ _ => False, ⟨fun pins s σ H D I h => h.elim⟩, fun ρ σ B H D S g => ?_⟩
      unfold sRaise at g
      rw [hF] at g
      exact g
    · obtain ⟨h1, h2, h3, h4, h5, h6, h7⟩ := oeB_ok hob
      refine ⟨_, ps_raise hc tk (pmk_oex (sp := spI C.K fns) (dvs := []) (ds := []) (by rw [hk]; exact T) (by rw [hk]; exact h5) (by rw [hk]; exact h6) (by rw [← hk]; exact FO) hr hb .nil (passes_call tk fun _ _ _ _ z => z.elim) hg hm l.pa hdb he hpl), lk_raise T hob hcx hF l.lk⟩
theorem ss_raise {F : FF} {A fI : Addr} {fd : FuncData} {k : Nat} (hi : IniOk X.prog X.w X.K X.mg X.base k fI fd fns F) (T : OexC C.K A) (hob : oeB C.K A fI fns = true) (hcx : C.cv x = .ref A) (hm : X.mg x = some (.ref A)) (hb : Binds X.K fd ("self" :: fns) []) (hr : Room k X.A) (tk : Takes X C.W) (hc : X.calm = true) (l : SA X C (e :: es) ta fa)
    (hk : X.K = C.K := by rfl) (hg : Gl X x := by rfl) (hdb : (x == ("__debug__" : Str)) = false := by decide) (he : starEach (e :: es) X.env = (false, eval e X.env) :: starEach es X.env := by rfl) (hpl : (backTo pos (starEach es X.env)).any (·.1) = false := by rfl) :
    SS X C (.Raise (some (.Call (.Name x p) (e :: es) [] pos)) none pos') (tTry C (sRaise F x fns fa)) (sRaise F x fns fa) := ss_sem (ss_raise0 hi T hob hcx hm hb hr tk hc l hk hg hdb he hpl)
end
end GS
namespace GS
open PySem L2 PySem.Spec PyProof.Rows
end GS
namespace GS
open PySem L2
section
variable {ρ ρ1 : Rho} {c : Prop} [Decidable c]
@[simp] theorem bindBS_ok' (d : D) (b : Bool) (k : Bool → Rho → RS) (h : d = .bool b) : bindBS (.ok (.sh d) ρ) k = k b ρ := by subst h; rfl
@[simp] theorem bindI_ex (x : Xc) (k : List D → Rho → RS) : bindI (.exc x ρ) k = .exc x ρ := rfl
@[simp] theorem bindIE_ex (x : Xc) (k : List D → Rho → RE) : bindIE (.exc x ρ) k = .exc x ρ := rfl
@[simp] theorem consA_ex (h : Hd) (x : Xc) : consA h (.exc x ρ) = .exc x ρ := rfl
/-- a class of exceptions that is raised -/
def Raises (F : FF) : Prop := F [] ≠ .stuck
theorem raises_ini {k : Nat} (h : 2 ≤ k) : Raises (iniF k) := by
  unfold Raises iniF
  rw [if_neg (by omega)]
  exact RE.noConfusion
end
end GS
namespace GM
open PySem L2 GS
end GM
namespace GM
open PySem L2 GS
end GM
namespace GM
open PySem L2 GS
/-- kids_of(tree); slots 0:tree -/
def m_kids_of : SF := (sEnd (sRet (eIf (eB (eBin (eqB false) (eBin ixA (eVb 0) (eC (.int 0))) (eC (.str (Str.ofString "knot"))))) (eBin ixA (eVb 0) (eC (.int 3))) (eTup aNil))))
theorem m_kids_of_eq (ρ : Rho) : fnF 1 1 (m_kids_of) ρ = finR 1 (m_kids_of (ρ ++ [])) := fnF_eq 1 1 _
/-- places(tree); slots 0:tree 1:found 2:k 3:kid 4:place -/
def m_places_b1 (F_kids_of F_places : FF) : SF := (sKill [4] (sApp 1 (eBin addD (eTup (aCons (eMv 2) aNil)) (eVb 4))))
def m_places_b2 (F_kids_of F_places : FF) : SF := (sKill [2, 3, 4] (sFor (iSq (eCall 1 none F_places (aCons (eMv 3) aNil))) (gN 4) (m_places_b1 F_kids_of F_places)))
def m_places (F_kids_of F_places : FF) : SF := (sSeq (sSet 1 (eLst (aCons (eTup aNil) aNil))) (sSeq (sFor (iEn (eCall 1 none F_kids_of (aCons (eMv 0) aNil))) (gT 2 (gsC (gN 2) (gsC (gN 3) gsN))) (m_places_b2 F_kids_of F_places)) (sEnd (sRet (eRv 1)))))
theorem m_places_eq (F_kids_of F_places : FF) (ρ : Rho) : fnF 5 1 (m_places F_kids_of F_places) ρ = finR 1 (m_places F_kids_of F_places (ρ ++ [none, none, none, none])) := fnF_eq 5 1 _
/-- feet_of(tree); slots 0:tree 1:pieces 2:place 3:piece -/
def m_feet_of_ct1 (F_places F_piece_at : FF) : EF := (eB (eBin (eqB false) (eBin ixA (eVb 3) (eC (.int 0))) (eC (.str (Str.ofString "foot")))))
def m_feet_of_ce2 (F_places F_piece_at : FF) : EF := (eBin ixA (eVb 3) (eC (.int 1)))
def m_feet_of_ce3 (F_places F_piece_at : FF) : EF := (eCall 2 none F_piece_at (aCons (eMv 0) (aCons (eMv 2) aNil)))
def m_feet_of (F_places F_piece_at : FF) : SF := (sSeq (sSet 1 (eLc [2] (iSq (eCall 1 none F_places (aCons (eMv 0) aNil))) (gN 2) (eNox eYes) (eNox (m_feet_of_ce3 F_places F_piece_at)))) (sEnd (sRet (eLc [3] (iSq (eMv 1)) (gN 3) (eNox (m_feet_of_ct1 F_places F_piece_at)) (eNox (m_feet_of_ce2 F_places F_piece_at))))))
theorem m_feet_of_eq (F_places F_piece_at : FF) (ρ : Rho) : fnF 4 1 (m_feet_of F_places F_piece_at) ρ = finR 1 (m_feet_of F_places F_piece_at (ρ ++ [none, none, none])) := fnF_eq 4 1 _
/-- is_graft(tree); slots 0:tree -/
def m_is_graft (F_feet_of : FF) : SF := (sEnd (sRet (eBin (eqB false) (eCB (un1 lenD) (aCons (eCall 1 none F_feet_of (aCons (eMv 0) aNil)) aNil)) (eC (.int 1)))))
theorem m_is_graft_eq (F_feet_of : FF) (ρ : Rho) : fnF 1 1 (m_is_graft F_feet_of) ρ = finR 1 (m_is_graft F_feet_of (ρ ++ [])) := fnF_eq 1 1 _
end GM
namespace GM
open PySem L2 GS
def Tr.kids : Tr → List Tr
  | .knot _ _ ks => ks
  | _ => []
def Tr.isKnot : Tr → Bool
  | .knot _ _ _ => true
  | _ => false
mutual
def Tr.pieces : Tr → List Tr
  | .knot n tk ks => .knot n tk ks :: Tr.piecesL ks
  | t => [t]
def Tr.piecesL : List Tr → List Tr
  | [] => []
  | t :: ts => t.pieces ++ Tr.piecesL ts
end
mutual
def Tr.places : Tr → List (List Nat)
  | .knot _ _ ks => [] :: Tr.placesL 0 ks
  | _ => [[]]
def Tr.placesL : Nat → List Tr → List (List Nat)
  | _, [] => []
  | k, t :: ts => t.places.map (k :: ·) ++ Tr.placesL (k + 1) ts
end
def Tr.at : Tr → List Nat → Option Tr
  | t, [] => some t
  | t, k :: p => (t.kids[k]?).bind fun u => u.at p
def encP (p : List Nat) : D := .tuple (p.map fun n : Nat => PyData.int (n : Int))
theorem piecesL_flat (ts : List Tr) : Tr.piecesL ts = ts.flatMap Tr.pieces := by
  induction ts with
  | nil => rfl
  | cons t ts ih => rw [Tr.piecesL, ih, List.flatMap_cons]
theorem pieces_kids (t : Tr) : t.pieces = t :: t.kids.flatMap Tr.pieces := by
  cases t <;> simp [Tr.pieces, Tr.kids, piecesL_flat]
theorem places_kids (t : Tr) : t.places = [] :: Tr.placesL 0 t.kids := by
  cases t <;> simp [Tr.places, Tr.kids, Tr.placesL]
theorem ht_kids {t k : Tr} (h : k ∈ t.kids) : k.ht + 1 ≤ t.ht := by
  cases t with
  | knot n tk ks => have := ht_mem (show k ∈ ks from h); rw [Tr.ht]; omega
  | _ => cases h
theorem placesL_snoc (t : Tr) : ∀ (k : Nat) (ts : List Tr), Tr.placesL k (ts ++ [t]) = Tr.placesL k ts ++ t.places.map ((k + ts.length) :: ·)
  | k, [] => by simp [Tr.placesL]
  | k, u :: ts => by
    rw [List.cons_append, Tr.placesL, Tr.placesL, placesL_snoc t (k + 1) ts, List.append_assoc, List.length_cons]
    rw [show k + 1 + ts.length = k + (ts.length + 1) by omega]
mutual
theorem places_len : ∀ t : Tr, t.places.length = t.pieces.length
  | .sign _ => rfl
  | .void => rfl
  | .hole _ => rfl
  | .foot _ => rfl
  | .knot _ _ ks => by rw [Tr.places, Tr.pieces, List.length_cons, List.length_cons, placesL_len ks 0]
theorem placesL_len : ∀ (ts : List Tr) (k : Nat), (Tr.placesL k ts).length = (Tr.piecesL ts).length
  | [], _ => rfl
  | t :: ts, k => by rw [Tr.placesL, Tr.piecesL, List.length_append, List.length_append, List.length_map, places_len t, placesL_len ts (k + 1)]
end
theorem pieces_kid_le {t k : Tr} (h : k ∈ t.kids) : k.pieces.length ≤ t.pieces.length := by
  rw [pieces_kids t, List.length_cons]
  have : ∀ ts : List Tr, k ∈ ts → k.pieces.length ≤ (ts.flatMap Tr.pieces).length := by
    intro ts
    induction ts with
    | nil => intro m; cases m
    | cons u ts ih =>
      intro m
      rw [List.flatMap_cons, List.length_append]
      cases m with
      | head => omega
      | tail _ m => have := ih m; omega
  have := this _ h
  omega
mutual
theorem place_len : ∀ (t : Tr) (p : List Nat), p ∈ t.places → p.length ≤ t.ht
  | .sign _, p, m => by simp [Tr.places] at m; subst m; simp
  | .void, p, m => by simp [Tr.places] at m; subst m; simp
  | .hole _, p, m => by simp [Tr.places] at m; subst m; simp
  | .foot _, p, m => by simp [Tr.places] at m; subst m; simp
  | .knot n tk ks, p, m => by
    rw [Tr.places] at m
    rw [Tr.ht]
    rcases List.mem_cons.mp m with rfl | m
    · simp
    · exact placeL_len ks 0 p m
theorem placeL_len : ∀ (ts : List Tr) (k : Nat) (p : List Nat), p ∈ Tr.placesL k ts → p.length ≤ Tr.htL ts + 1
  | [], _, p, m => by cases m
  | t :: ts, k, p, m => by
    rw [Tr.placesL] at m
    rw [Tr.htL]
    rcases List.mem_append.mp m with m | m
    · obtain ⟨q, hq, rfl⟩ := List.mem_map.mp m
      have := place_len t q hq
      rw [List.length_cons]; omega
    · have := placeL_len ts (k + 1) p m
      omega
end
mutual
theorem at_places : ∀ t : Tr, t.places.map t.at = t.pieces.map some
  | .sign _ => rfl
  | .void => rfl
  | .hole _ => rfl
  | .foot _ => rfl
  | .knot n tk ks => by
    rw [Tr.places, Tr.pieces, List.map_cons, List.map_cons]
    congr 1
    exact at_placesL ks [] n tk ks rfl
theorem at_placesL : ∀ (ts pre : List Tr) (n : Str) (tk : Option (Str × Bool)) (ks : List Tr), pre ++ ts = ks → (Tr.placesL pre.length ts).map (Tr.knot n tk ks).at = (Tr.piecesL ts).map some
  | [], _, _, _, _, _ => rfl
  | t :: ts, pre, n, tk, ks, e => by
    rw [Tr.placesL, Tr.piecesL, List.map_append, List.map_append]
    have h1 := at_placesL ts (pre ++ [t]) n tk ks (by rw [List.append_assoc]; exact e)
    rw [List.length_append, List.length_singleton] at h1
    rw [h1, List.map_map]
    congr 1
    rw [← at_places t]
    apply List.map_congr_left
    intro p _
    show (Tr.at (.knot n tk ks) (pre.length :: p)) = t.at p
    rw [Tr.at, Tr.kids, ← e, List.getElem?_append_right (Nat.le_refl _), Nat.sub_self]
    rfl
end
theorem enc_word (t : Tr) : ∃ w r, t.enc = .tuple (.str w :: r) := by cases t <;> exact ⟨_, _, rfl⟩
def KidsSp (F : FF) : Prop := ∀ t : Tr, F [some ⟨t.enc, .sh⟩] = .ok (.sh (.tuple (t.kids.map Tr.enc))) [none]
theorem kids_of_ok : KidsSp (fnF 1 1 m_kids_of) := fun t => by
  rw [m_kids_of_eq]
  cases t <;> simp [m_kids_of, Tr.enc, Tr.kids, encL_map]
def PlacesSp (n : Nat) (F : FF) : Prop := ∀ t : Tr, t.ht ≤ n → t.pieces.length ≤ 100000 → F [some ⟨t.enc, .sh⟩] = .ok (.fr (.list (t.places.map encP))) [none]
theorem places_ok {n : Nat} {Fk Fp : FF} (hk : KidsSp Fk) (hn : n ≤ 1000) (hp : ∀ m, m + 1 = n → PlacesSp m Fp) : PlacesSp n (fnF 5 1 (m_places Fk Fp)) := fun t ht hz => by
  rw [m_places_eq]
  have ek := hk t
  have hpl := places_kids t
  have lpl := places_len t
  -- one kid's places
  have inner : ∀ (kid : Tr) (i : Nat) (acc : List D), kid.ht ≤ 1000 → acc.length + kid.places.length ≤ sizeLine → forL (gN 4) (m_places_b1 Fk Fp) (kid.places.map encP) [some ⟨t.enc, .sh⟩, some ⟨.list acc, .ow⟩, some ⟨.int i, .sh⟩, some ⟨kid.enc, .sh⟩, none] = .nx [some ⟨t.enc, .sh⟩, some ⟨.list (acc ++ kid.places.map fun p => encP (i :: p)), .ow⟩, some ⟨.int i, .sh⟩, some ⟨kid.enc, .sh⟩, none] := fun kid i acc hh ha => by
    refine forL_app (fun acc => [some ⟨t.enc, .sh⟩, some ⟨.list acc, .ow⟩, some ⟨.int i, .sh⟩, some ⟨kid.enc, .sh⟩, none]) encP (fun p => encP (i :: p)) kid.places acc ha fun p acc m hacc => ?_
    have hpz : 1 + p.length ≤ sizeLine := fits (by have := place_len kid p m; omega)
    simp [m_places_b1, encP, hacc, hpz]
  obtain ⟨ps, hf, hps⟩ := forL_by (S := List (List Nat)) (g := gT 2 (gsC (gN 2) (gsC (gN 3) gsN))) (b := m_places_b2 Fk Fp) (fun ps => [some ⟨t.enc, .sh⟩, some ⟨.list (ps.map encP), .ow⟩, none, none, none])
    (fun pre ps => ps = [] :: Tr.placesL 0 (t.kids.take pre.length)) (enD (t.kids.map Tr.enc)) [[]] (by simp [Tr.placesL]) (fun pre d post ps hd hps => by
      obtain ⟨x, hx, rfl⟩ := enD_mid hd
      rw [List.getElem?_map] at hx
      obtain ⟨kid, hkid, rfl⟩ := Option.map_eq_some_iff.mp hx
      have mk : kid ∈ t.kids := List.mem_of_getElem? hkid
      have h1 := ht_kids mk
      have h2 := hp (n - 1) (by omega) kid (by omega) (by have := pieces_kid_le mk; omega)
      have htk : t.kids.take (pre.length + 1) = t.kids.take pre.length ++ [kid] := by
        rw [List.take_succ, hkid]; rfl
      refine ⟨ps ++ kid.places.map (pre.length :: ·), ?_, ?_⟩
      · have hl : (ps.map encP).length + kid.places.length ≤ sizeLine := by
          rw [List.length_map, hps]
          have e := placesL_snoc kid 0 (t.kids.take pre.length)
          rw [← htk] at e
          have e2 := congrArg List.length e
          rw [List.length_append, List.length_map] at e2
          have e3 : (Tr.placesL 0 (t.kids.take (pre.length + 1))).length ≤ (Tr.placesL 0 t.kids).length := by
            rw [placesL_len, placesL_len, piecesL_flat, piecesL_flat]
            conv => rhs; rw [← List.take_append_drop (pre.length + 1) t.kids, List.flatMap_append, List.length_append]
            omega
          rw [hpl, List.length_cons] at lpl
          rw [List.length_cons]
          exact fits (by omega)
        have hi := inner kid pre.length (ps.map encP) (by omega) hl
        simp [m_places_b2, h2, hi]
      · rw [hps, List.length_append, List.length_singleton, htk, placesL_snoc, List.length_take]
        have : pre.length < t.kids.length := (List.getElem?_eq_some_iff.mp hkid).1
        simp
        intro p _
        omega)
  rw [enD_len, List.length_map, List.take_length] at hps
  rw [← hpl] at hps
  subst hps
  have hf' : forL (gT 2 (gsC (gN 2) (gsC (gN 3) gsN))) (m_places_b2 Fk Fp) (enD (t.kids.map Tr.enc)) [some ⟨t.enc, .sh⟩, some ⟨.list [.tuple []], .ow⟩, none, none, none] = _ := hf
  simp [m_places, ek, hf']
theorem at_snoc (t : Tr) : ∀ (p : List Nat) (k : Nat), t.at (p ++ [k]) = (t.at p).bind fun u => u.kids[k]?
  | [], k => by simp [Tr.at]
  | j :: p, k => by
    rw [List.cons_append, Tr.at, Tr.at]
    cases h : t.kids[j]? with
    | none => rfl
    | some u => simp [at_snoc u p k]
theorem at_pre {t : Tr} {p q : List Nat} {u : Tr} (h : t.at (p ++ q) = some u) : ∃ v, t.at p = some v := by
  induction p generalizing t with
  | nil => exact ⟨t, rfl⟩
  | cons j p ih =>
    rw [List.cons_append, Tr.at] at h
    rw [Tr.at]
    cases hk : t.kids[j]? with
    | none => rw [hk] at h; cases h
    | some v => rw [hk] at h; exact ih h
def PieceSp (F : FF) : Prop := ∀ (t : Tr) (p : List Nat) (u : Tr), t.at p = some u → F [some ⟨t.enc, .sh⟩, some ⟨encP p, .sh⟩] = .ok (.sh u.enc) [none, none]
def Tr.footN : Tr → Option Str
  | .foot n => some n
  | _ => none
def Tr.feet (t : Tr) : List Str := t.pieces.filterMap Tr.footN
def FeetSp (n : Nat) (F : FF) : Prop := ∀ t : Tr, t.ht ≤ n → t.pieces.length ≤ 100000 → F [some ⟨t.enc, .sh⟩] = .ok (.fr (.list (t.feet.map .str))) [none]
/-- the pieces by the places -/
theorem place_piece (t : Tr) : ∃ f : List Nat → Tr, (∀ p ∈ t.places, t.at p = some (f p)) ∧ t.places.map f = t.pieces := by
  have h := at_places t
  refine ⟨fun p => (t.at p).getD default, ?_, ?_⟩
  · intro p m
    have : t.at p ∈ t.pieces.map some := by rw [← h]; exact List.mem_map_of_mem m
    obtain ⟨u, _, e⟩ := List.mem_map.mp this
    show t.at p = some ((t.at p).getD default)
    rw [← e]; rfl
  · have h2 : (t.places.map t.at).map (fun o => o.getD default) = t.pieces := by
      rw [h, List.map_map]
      have : ((fun o : Option Tr => o.getD default) ∘ some) = id := rfl
      rw [this, List.map_id]
    rw [List.map_map] at h2
    exact h2
theorem feet_of_ok {n : Nat} {Fp Fa : FF} (hp : PlacesSp n Fp) (ha : PieceSp Fa) : FeetSp n (fnF 4 1 (m_feet_of Fp Fa)) := fun t ht hz => by
  rw [m_feet_of_eq]
  have ep := hp t ht hz
  obtain ⟨f, hf1, hf2⟩ := place_piece t
  have lp := places_len t
  have h1 := lcL_all (vs := [2]) (g := gN 2) (fe := eNox (m_feet_of_ce3 Fp Fa)) [some ⟨t.enc, .sh⟩, none, none, none] encP (fun p => [some ⟨t.enc, .sh⟩, none, some ⟨encP p, .sh⟩, none]) (fun p => (f p).enc) t.places [] (fits (by simp; omega)) (fun p m => by
    have e := ha t p (f p) (hf1 p m)
    simp [m_feet_of_ce3, e])
  rw [List.nil_append, show (t.places.map fun p => (f p).enc) = t.pieces.map Tr.enc by rw [← hf2, List.map_map]; rfl] at h1
  have h2 := lcL_up (vs := [3]) (g := gN 3) (ft := eNox (m_feet_of_ct1 Fp Fa)) (fe := eNox (m_feet_of_ce2 Fp Fa)) [some ⟨t.enc, .sh⟩, some ⟨.list (t.pieces.map Tr.enc), .sh⟩, none, none] Tr.enc (fun u => [some ⟨t.enc, .sh⟩, some ⟨.list (t.pieces.map Tr.enc), .sh⟩, none, some ⟨u.enc, .sh⟩]) (fun u => u.footN.isSome) (fun u => .str (u.footN.getD default)) t.pieces [] (fits (by simp; omega)) (fun u _ => by
    cases u <;> simp [m_feet_of_ct1, m_feet_of_ce2, Tr.enc, Tr.footN])
  have h3 : (t.pieces.filter fun u => u.footN.isSome).map (fun u => PyData.str (u.footN.getD default)) = t.feet.map .str := by
    unfold Tr.feet
    generalize t.pieces = us
    induction us with
    | nil => rfl
    | cons u us ih =>
      rw [List.filter_cons, List.filterMap_cons]
      cases hu : u.footN with
      | none => simpa using ih
      | some z => simp only [Option.isSome_some, if_true, List.map_cons, hu, Option.getD_some, ih]
  rw [List.nil_append, h3] at h2
  simp [m_feet_of, ep, h1, h2]
def GraftSp (n : Nat) (F : FF) : Prop := ∀ t : Tr, t.ht ≤ n → t.pieces.length ≤ 100000 → F [some ⟨t.enc, .sh⟩] = .ok (.sh (.bool (decide (t.feet.length = 1)))) [none]
theorem is_graft_ok {n : Nat} {Ff : FF} (hf : FeetSp n Ff) : GraftSp n (fnF 1 1 (m_is_graft Ff)) := fun t ht hz => by
  rw [m_is_graft_eq]
  have e := hf t ht hz
  simp [m_is_graft, e]
  omega
def Tr.word : Tr → Str
  | .knot n _ _ => n
  | .foot n => n
  | .hole n => n
  | .sign s => s
  | .void => default
/-- the name of a start or a graft -/
def Tr.name (t : Tr) : Str := match t.feet with
  | [n] => n
  | _ => t.word
def Tr.signN : Tr → Option Str
  | .sign n => some n
  | _ => none
def Tr.signs (t : Tr) : List Str := t.pieces.filterMap Tr.signN
theorem signs_knot (n : Str) (tk : Option (Str × Bool)) (ks : List Tr) : (Tr.knot n tk ks).signs = ks.flatMap Tr.signs := by
  unfold Tr.signs
  rw [Tr.pieces, piecesL_flat, List.filterMap_cons]
  show List.filterMap _ _ = _
  induction ks with
  | nil => rfl
  | cons k ks ih => rw [List.flatMap_cons, List.flatMap_cons, List.filterMap_append, ih]
theorem pieces_knot (n : Str) (tk : Option (Str × Bool)) (ks : List Tr) : (Tr.knot n tk ks).pieces.length = (ks.flatMap Tr.pieces).length + 1 := by
  rw [Tr.pieces, piecesL_flat, List.length_cons]
end GM
namespace GM
open PySem L2 GS
end GM
namespace GM
open PySem L2 GS
structure Bk where
  top : Str
  trees : List (Str × Tr)
def encKT (p : Str × Tr) : D := .tuple [.str p.1, p.2.enc]
def Bk.enc (b : Bk) : D := .tuple [.str b.top, .tuple (b.trees.map encKT)]
def Tr.isGraft (t : Tr) : Bool := decide (t.feet.length = 1)
structure BkOk (n : Nat) (b : Bk) : Prop where
  len : b.trees.length ≤ 1000
  ht : ∀ p ∈ b.trees, p.2.ht ≤ n
  sz : ∀ p ∈ b.trees, p.2.pieces.length ≤ 100000
  nv : ∀ p ∈ b.trees, p.2 ≠ .void
theorem strs_clean {ks : List Str} (h : ∀ k ∈ ks, PyData.strOk k = true) : cleanB (.list (ks.map .str)) = true ∧ (PyData.list (ks.map .str)).depth ≤ 190 := by
  refine ⟨?_, ?_⟩
  · rw [cleanB]
    refine cleanL_of fun d m => ?_
    obtain ⟨k, mk, rfl⟩ := List.mem_map.mp m
    exact h k mk
  · rw [PyData.depth]
    have := depthAll_of (ds := ks.map PyData.str) (n := 0) fun d m => by
      obtain ⟨k, mk, rfl⟩ := List.mem_map.mp m
      rw [PyData.depth]; omega
    omega
end GM
namespace GM
open PySem L2 GS
end GM
namespace GM
open PySem L2 GS
def tkW : Option (Str × Bool) → List Str
  | none => []
  | some (m, b) => [Str.ofString (if b then "!" else "?") ++ m]
mutual
def Tr.words : Tr → List Str
  | .sign s => [s]
  | .void => [Str.ofString "-"]
  | .hole n => [Str.ofString "+" ++ n]
  | .foot n => [Str.ofString "*" ++ n]
  | .knot n tk ks => Str.ofString "[" :: n :: (tkW tk ++ (Tr.wordsL ks ++ [Str.ofString "]"]))
def Tr.wordsL : List Tr → List Str
  | [] => []
  | t :: ts => t.words ++ Tr.wordsL ts
end
theorem l1 (w : String) (h : w.toList.length = 1) (n : Str) (hn : n.length ≤ 100000) : (Str.ofString w).length + n.length ≤ sizeLine := fits (by rw [ofS_len, h]; omega)
end GM
namespace GM
open PySem L2 GS
end GM
namespace GM
open PySem L2 GS
/-- leaves -/
def LeafSp (F : FF) : Prop := ∀ (t : Tr), t.ok = true → ∀ w : Str, t.words = [w] → F [some ⟨.str w, .sh⟩] = .ok (.sh t.enc) [none]
end GM
namespace GS
open PySem L2 GM
theorem forL_cons2 {ρ : Rho} (g : D → Rho → Option Rho) (b : SF) (d : D) (ds : List D) : forL g b (d :: ds) ρ = turnR (forL g b ds) (optR (g d ρ) b) := by
  rw [forL_cons]
  cases g d ρ <;> rfl
theorem seq_of {f g : SF} {ρ : Rho} {q : RS} (ρ' : Rho) (h : f ρ = .nx ρ') (h2 : g ρ' = q) : sSeq f g ρ = q := by rw [sSeq_eq, h]; exact h2
theorem kill_of {vs : List Nat} {f : SF} {ρ ρ' : Rho} (ρ1 : Rho) (hio : vs.all (fun i => !ioAt ρ i) = true) (h : f ρ = .nx ρ1) (hw : wipeR ρ1 vs = ρ') : sKill vs f ρ = .nx ρ' := by
  rw [sKill_eq, if_pos hio, h]
  show RS.nx (wipeR ρ1 vs) = _
  rw [hw]
theorem fin_seq {n : Nat} {f g : SF} {ρ : Rho} {q : RE} (ρ' : Rho) (h : f ρ = .nx ρ') (h2 : finR n (g ρ') = q) : finR n (sSeq f g ρ) = q := by rw [sSeq_eq, h]; exact h2
end GS
namespace GS
open PySem L2 PySem.Spec PyProof.Rows
section
variable {κ : Type} [DecidableEq κ]
end
local instance (priority := high) keyBEq : BEq Key := instBEqOfDecidableEq
local instance keyLaw : LawfulBEq Key := inferInstanceAs (@LawfulBEq Key instBEqOfDecidableEq)
section
variable {prog : Program} {w : World} {A : Around} {R : Result → Shared → Prop} {I : Addr} {fp wr : List Addr} {G : Array GenState → Array GenState → Prop} {n : Nat} {P : Nat → Value → Prop} {St : Nat → Shared → Prop}
end
section
variable {prog : Program} {w : World} {A : Around} {E : Value → Shared → Prop} {s : Shared}
end
end GS
namespace GS
open PySem L2 PySem.Spec PyProof.Rows
section
variable {X : Cx} {C : Ct} {a b : Expr} {ta tb : TE} {fa fb : EF} {p p2 q pos apos : Pos}
end
section
variable {X : Cx} {C : Ct} {x : Str} {c : Value} {body suite : List Stmt} {b₀ : Stmt} {np pos pos' : Pos} {ts : TS} {fb fh : SF} {ns cs : List Str}
end
end GS
namespace GS
open PySem L2
section
variable {X : Cx} {C : Ct} {o e f : Expr} {td tk tx : TE} {fd fk fx : EF} {apos pos : Pos}
end
end GS
namespace GS
open PySem L2
section
variable {ρ ρ1 : Rho} {c : Prop} [Decidable c]
def r2R (a b : Option D) (ρ : Rho) : RI := match a, b with
  | some (.int i), some (.int j) => if okR i && okR j then .ok (rgD i (j - i).toNat) ρ else .stuck
  | _, _ => .stuck
@[simp] theorem iR2_eq (fa fb : EF) : iR2 fa fb ρ = bindEI (eSet fa ρ) fun ha ρ1 => bindEI (eSet fb ρ1) fun hb ρ2 => r2R (getH ρ2 ha) (getH ρ2 hb) ρ2 := by unfold iR2 r2R; rfl
@[simp] theorem r2R_i (i j : Int) : r2R (some (.int i)) (some (.int j)) ρ = if okR i && okR j then .ok (rgD i (j - i).toNat) ρ else .stuck := rfl
end
end GS
namespace GS
open PySem L2 PySem.Spec PyProof.Rows
section
variable {X : Cx} {C : Ct} {e : Expr} {es : List Expr} {ta : TA} {fa : AF} {te : TE} {fe : EF} {p pos : Pos} {x : Str} {fns : List Str}
end
end GS
namespace GS
open PySem L2
section
variable {ρ : Rho}
end
end GS
namespace GS
open PySem L2
section
variable {ρ : Rho}
theorem slot_one (c : Option Cel) (x : Cel) (outs : Rho) : slot (c :: some x :: outs) 1 = some x := rfl
@[simp] theorem backR_io1 (i : Nat) (h0 : Hd) (hs : List Hd) (d : D) (d' : D) (fl : Fl) (c0 : Option Cel) (outs : Rho) : backR ρ (some 1) (h0 :: .bw i :: hs) (.ok (.sh d) (c0 :: some ⟨d', fl⟩ :: outs)) = match slot ρ i with
    | some c => .ok (.sh d) (ρ.set i (some ⟨d', c.fl⟩))
    | none => .stuck := by
  unfold backR
  dsimp only
  rw [putB_bw i 1 _ _ rfl, slot_one]
  cases slot ρ i <;> rfl
@[simp] theorem backR_io1x (i : Nat) (h0 : Hd) (hs : List Hd) (x : Xc) (d' : D) (fl : Fl) (c0 : Option Cel) (outs : Rho) : backR ρ (some 1) (h0 :: .bw i :: hs) (.exc x (c0 :: some ⟨d', fl⟩ :: outs)) = match slot ρ i with
    | some c => .exc x (ρ.set i (some ⟨d', c.fl⟩))
    | none => .stuck := by
  unfold backR
  dsimp only
  rw [putB_bw i 1 _ _ rfl, slot_one]
  cases slot ρ i <;> rfl
@[simp] theorem backR_io0x (i : Nat) (hs : List Hd) (x : Xc) (d' : D) (fl : Fl) (outs : Rho) : backR ρ (some 0) (.bw i :: hs) (.exc x (some ⟨d', fl⟩ :: outs)) = match slot ρ i with
    | some c => .exc x (ρ.set i (some ⟨d', c.fl⟩))
    | none => .stuck := by
  unfold backR
  dsimp only
  rw [putB_bw i 0 _ _ rfl, slot_zero]
  cases slot ρ i <;> rfl
end
end GS
namespace GS
open PySem L2 PySem.Spec PyProof.Rows
end GS
namespace GS
open PySem L2 PySem.Spec PyProof.Rows PySem.W PySem.Calls
/-- v is a tuple of these numbers -/
def IsTI (h : Heap) (v : Value) (ns : List Int) : Prop := ∃ (a : Addr) (its : List Value), v = .ref a ∧ h.IsTuple a its.toArray ∧ IntsAre its ns
theorem IsTI.keeps {h h' : Heap} {v : Value} {ns : List Int} (x : IsTI h v ns) (k : ∀ b o, v = .ref b → h.get? b = some o → h'.get? b = some o) : IsTI h' v ns := by
  obtain ⟨a, its, e, ⟨o, ho, hc, n, hd⟩, hi⟩ := x
  exact ⟨a, its, e, ⟨o, k a o e ho, hc, n, hd⟩, hi⟩
section
variable {M : Model} {A : Around} {E : Value → Shared → Prop} {s : Shared}
theorem IsTI.type {v : Value} {ns : List Int} (x : IsTI s.heap v ns) : Looks M s.heap (typeOf v) (.type "tuple") := by
  obtain ⟨a, its, rfl, ⟨o, ho, hc, n, hd⟩, hi⟩ := x
  rw [← hc]
  exact (Looks.ld ho).andThen .now
end
section
variable {prog : Program} {w : World} {A : Around} {E : Value → Shared → Prop} {s : Shared}
end
section
variable {prog : Program} {w : World} {A : Around} {E : Value → Shared → Prop} {s : Shared}
end
section
variable {X : Cx}
end
end GS
namespace GS
open PySem L2 PySem.Spec PyProof.Rows
def TI (K : PySem.W.Frag) (H : Hp) (x : V) (ns : List Int) : Prop := ∃ t, x = V.ref t ∧ SqT K H t (ns.map V.int)
section
variable {X : Cx}
end
def tupsI : List D → Option (List (List Int))
  | [] => some []
  | .tuple ds :: r => match intsL ds, tupsI r with
    | some ns, some nss => some (ns :: nss)
    | _, _ => none
  | _ :: _ => none
section
variable {K : KW} {B H : Hp}
end
end GS
namespace GS
open PySem L2
end GS
namespace L2
open PySem PySem.W PySem.Calls PySem.Spec PyProof.Rows
section
variable {X : Cx} {pins : List (Addr × Obj)} {σ : St} {H : Hp} {s : Shared}
end
end L2
namespace GS
open PySem L2
section
variable {K : KW} {ρ : Rho} {σ : St} {B H : Hp} {v x y : V} {Q : VK}
/-- a new dict that nobody holds -/
theorem newD (S : Sim K ρ σ B H) {ps : List (D × D)} {p : Addr} {ep : Nat} {b : Bool} {xs : List (NestedKey × Value × Value)} (hp : H p = none) (h : RpX K B b xs ps) (k : ∀ v B' H', Sim K ρ σ B' H' → Ext ρ σ B H ρ σ B' H' → HdOk K (New ρ σ H) ρ σ B' H' v (.fr (.dict ps)) → Q v H') :
    Q (.ref p) (upd H p (dX K.w p ep xs)) := by
  obtain ⟨S', x⟩ := S.newH hp (dX K.w p ep xs)
  obtain ⟨bb, n⟩ := S.free hp
  exact k _ _ _ S' x ⟨p, rfl, bb, ⟨ep, b, xs, upd_same, h⟩, n, .inl hp⟩
end
section
variable {X : Cx} {C : Ct} {pos : Pos}
end
end GS
namespace GS
open PySem L2 RT
section
variable {X : Cx} {C : Ct} {ρ ρ1 : Rho} {σ σ1 : St} {B H B1 H1 : Hp} {e tg : Expr} {te : TE} {fe : EF} {pos p : Pos} {K : KW}
end
end GS
namespace GS
open PySem L2 PySem.Spec PyProof.Rows PySem.W PySem.Calls
section
variable {prog : Program} {w : World} {A : Around} {E : Value → Shared → Prop} {s : Shared}
end
section
variable {X : Cx}
end
section
variable {K : KW} {B H : Hp}
end
end GS
namespace GS
open PySem L2 PySem.Spec PyProof.Rows
/-- a def's promise where no repr is under way -/
structure FnG (P : Program) (w : World) (K : PySem.W.Frag) (mg : Str → Option Value) (base : Heap) (k : Nat) (f : Addr) (fd : FuncData) (ps : List Str) (sp : Sp) : Prop where
  ln : ∀ vs H Q E, sp vs H Q E → vs.length = ps.length
  go : ∀ (A : Around) (out : List Env) (t : Shared) (H : Hp) (ar : Args) (zs : List Value) (vs : List V) (Q : VK) (E : XK),
    A.guards = some [] → Room k A → Env0 P w K mg base A out t H → BindsTo t fd ar (ps.zip zs) → Vals vs zs → sp vs H Q E →
    codeAny (model P w) A (.call (.ref f) ar) (CR (L2.CX P w) out P w H t Q E) t
theorem FnG.of {P : Program} {w : World} {K : PySem.W.Frag} {mg : Str → Option Value} {base : Heap} {k : Nat} {f : Addr} {fd : FuncData} {ps : List Str} {sp : Sp} (F : FnOk P w K mg base (L2.CX P w) k f fd ps sp) : FnG P w K mg base k f fd ps sp :=
  ⟨F.len, fun A o t H ar zs vs Q E _ => F.run A o t H ar zs vs Q E⟩
section
variable {P : Program} {w : World} {K : PySem.W.Frag} {mg : Str → Option Value} {base : Heap}
end
section
variable {P : Program} {w : World} {K : KW} {mg : Str → Option Value} {base : Heap} {cv : Str → Value}
end
section
variable {X : Cx} {C : Ct} {k n : Nat} {f : Addr} {fd : FuncData} {ps : List Str} {sp : Sp} {W : L2.St → XK} {x : Str} {p pos : Pos} {e e0 : Expr} {es : List Expr} {t : TA} {t0 : TE} {F : FF} {g : AF} {f0 : EF}
end
end GS
namespace GS
open PySem L2 PySem.Spec PyProof.Rows
end GS
namespace GS
open PySem L2
end GS
namespace L2
open PySem PySem.W PySem.Calls PySem.Spec PyProof.Rows
section
variable {X : Cx} {e1 e2 : Expr} {t : TA} {pz pd pos pos2 : Pos}
end
end L2
namespace GS
open PySem L2
section
variable {K : KW} {B H : Hp}
end
section
variable {X : Cx} {C : Ct} {e1 e2 : Expr} {t : TA} {f : AF} {pz pd pos pos2 : Pos}
end
end GS
namespace GS
open PySem L2
section
variable {K : KW} {C : Ct} {ρ ρ1 ρ2 : Rho} {σ σ1 σ2 : St} {B H B1 H1 B2 H2 : Hp} {a p : Addr} {o : HO} {Ed : Ends}
/-- what is done at last: an object that nobody held is changed, shared, and a new owned one put into a slot -/
theorem Ext.last (x : Ext ρ σ B H ρ1 σ1 B1 H1) {i : Nat} {d : D} (hi : i < ρ1.length) (hio : ioAt ρ1 i = false) (e : σ1[i]? = some (some (.ref p))) (hb : B1 a = none) (na : New ρ σ H a) (np : New ρ σ H p) (o : HO) (hm : ∀ x y, o ≠ .met x y := by intro _ _ h; cases h) :
    Ext ρ σ B H (ρ1.set i (some ⟨d, .ow⟩)) σ1 (upd B1 a o) (upd H1 a o) := by
  have at1 : ∀ {j : Nat} {c : Cel}, (ρ1.set i (some ⟨d, .ow⟩))[j]? = some (some c) → (i = j ∧ c = ⟨d, .ow⟩) ∨ (i ≠ j ∧ ρ1[j]? = some (some c)) := fun {j c} h => by
    by_cases q : i = j
    · subst q
      rw [List.getElem?_set, if_pos rfl, if_pos hi] at h
      cases h
      exact .inl ⟨rfl, rfl⟩
    · rw [List.getElem?_set, if_neg q] at h
      exact .inr ⟨q, h⟩
  refine ⟨fun b u q => ?_, fun b u q => ?_, fun b u q hn => ?_, fun b h => ?_, fun j c hj hf => ?_, fun j c hj hf => ?_, (x.tx.st fun j d h => (at1 h).elim (fun z => by cases z.2) (·.2)).upd hm⟩
  · have := x.bb b u q
    rw [upd_ne (ne_of_none this hb)]
    exact this
  · by_cases z : b = a
    · subst z; exact .inr na
    · rw [upd_ne z] at q; exact x.nw b u q
  · have : b ≠ a := fun z => by
      subst z
      rcases na with h | h
      · rw [q] at h; cases h
      · exact hn h
    rw [upd_ne this]
    exact x.kp b u q hn
  · obtain ⟨j, c, hj, nf, ej⟩ := h
    rcases at1 hj with ⟨rfl, rfl⟩ | ⟨n1, h1⟩
    · rw [e] at ej
      cases ej
      exact np
    · exact x.sub b ⟨j, c, h1, nf, ej⟩
  · obtain ⟨h1, c', h2, h3⟩ := x.io j c hj hf
    have ne : i ≠ j := fun q => by subst q; exact not_io hio h2 h3
    exact ⟨h1, c', by rw [List.getElem?_set, if_neg ne]; exact h2, h3⟩
  · rcases at1 hj with ⟨rfl, rfl⟩ | ⟨n1, h1⟩
    · cases hf
    · exact x.oi j c h1 hf
end
section
variable {X : Cx} {C : Ct} {e1 e2 c : Expr} {t1 t2 tc : TE} {f1 f2 fc : EF} {rest : List Stmt} {u : TS} {g : SF} {pos : Pos}
end
end GS
namespace GS
open PySem L2 PySem.Spec PyProof.Rows PySem.W PySem.Calls
section
variable {prog : Program} {w : World} {A : Around} {E : Value → Shared → Prop} {s : Shared} {Q : Bool → Shared → Prop}
end
end GS
namespace L2
open PySem PySem.Spec PyProof.Rows
section
variable {P : Program} {w : World} {A : Around} {E : Value → Shared → Prop} {s : Shared}
end
end L2
namespace GS
open PySem L2 PySem.Spec PyProof.Rows
def insU (x : List Int) : List (List Int) → List (List Int)
  | [] => [x]
  | y :: r => if x = y then y :: r else if HT.lexLt x y = true then x :: y :: r else y :: insU x r
def ssL : List (List Int) → List (List Int)
  | [] => []
  | x :: r => insU x (ssL r)
def encTI (ns : List Int) : D := .tuple (ns.map .int)
def ssD : D → Option Hd
  | .list ds => match tupsI ds with
    | some nss => if nss.length < 64 then some (.fr (.list ((ssL nss).map encTI))) else none
    | none => none
  | _ => none
section
variable {K : KW} {B H : Hp}
end
section
variable {X : Cx} {C : Ct} {e : Expr} {te : TE} {fe : EF} {p p2 pos pos2 : Pos}
end
end GS
namespace L2
open PySem PySem.Spec PyProof.Rows RT
section
variable {prog : Program} {w : World} {A : Around} {E : Value → Shared → Prop} {s : Shared}
end
end L2
namespace GS
open PySem L2
section
variable {X : Cx} {C : Ct} {e : Expr} {te : TE} {fe : EF} {p p2 pos pos2 : Pos}
end
end GS
namespace GS
open PySem L2
end GS
namespace GS
open PySem L2
def mGo0 (o : D → Option Hd) (d : Option D) (ρ : Rho) : RE := match d with
  | some (.str z) => (match o (.str z) with
    | some h => .ok h ρ
    | none => .stuck)
  | _ => .stuck
/-- x.m(), x a text -/
def eM0 (o : D → Option Hd) (fr : EF) : EF := fun ρ => bindE (eSet fr ρ) fun ha ρ1 => mGo0 o (getH ρ1 ha) ρ1
section
variable {K : KW} {X : Cx} {C : Ct} {a b : Expr} {ta tb : TE} {fa fb : EF} {apos pos : Pos}
def Op0 (K : KW) (r : V → Hp → VK → Prop) (o : D → Option Hd) : Prop := ∀ ρ σ B H x z h Q, Sim K ρ σ B H → x = .str z → o (.str z) = some h →
  (∀ v B' H', Sim K ρ σ B' H' → Ext ρ σ B H ρ σ B' H' → HdOk K (New ρ σ H) ρ σ B' H' v h → Q v H') → r x H Q
theorem lk_m0 {r : V → List V → Hp → VK → Prop} {o : D → Option Hd} (hr : Op0 C.K (fun x H Q => r x [] H Q) o) (la : LkE C ta fa) : LkE C (tM0 r ta) (eM0 o fa) := fun ρ σ B H Q S g => by
  refine la.setBind S g fun ha ρ1 x B1 H1 S1 e1 y1 g1 => ?_
  unfold mGo0 at g1
  split at g1
  · rename_i z ez
    have tz := S1.tp y1 ez
    refine ⟨⟨z, tz.str⟩, ?_⟩
    split at g1
    · rename_i h eh
      exact hr ρ1 σ B1 H1 x z h Q S1 tz.str eh g1
    · exact g1.elim
  · exact g1.elim
def lowerD : D → Option Hd
  | .str a => if Nat.ble a.length 5592405 then some (.sh (.str (Txt.lower a))) else none
  | _ => none
theorem o0_lower : Op0 K (fun x H Q => ∃ a, x = .str a ∧ ([] : List V) = [] ∧ a.length ≤ 5592405 ∧ Q (.str (Txt.lower a)) H) lowerD := fun ρ σ B H x z h Q S t e k => by
  obtain ⟨c, rfl⟩ := if_some (show (if Nat.ble z.length 5592405 then some (.sh (.str (Txt.lower z))) else none) = some h from e)
  exact ⟨z, t, rfl, Nat.le_of_ble_eq_true c, now S (.str _) k⟩
theorem se_lower (la : SE X C a ta fa) (hbase : attributeBase a "lower" X.env (eval a X.env) = eval a X.env := by rfl) (hline : (apos.endLine == pos.line) = true := by rfl) :
    SE X C (.Call (.Attribute a "lower" apos) [] [] pos) (tM0 (fun x xs H Q => ∃ a, x = .str a ∧ xs = [] ∧ a.length ≤ 5592405 ∧ Q (.str (Txt.lower a)) H) ta) (eM0 lowerD fa) :=
  ⟨pe_lower la.pe hbase hline, lk_m0 o0_lower la.lk⟩
end
section
variable {ρ : Rho}
@[simp] theorem eM0_eq (o : D → Option Hd) (fr : EF) : eM0 o fr ρ = bindE (eSet fr ρ) fun ha ρ1 => mGo0 o (getH ρ1 ha) ρ1 := rfl
end
end GS
namespace GS
open PySem L2
def argsN (ρ : Rho) (ios : List Nat) : Nat → List Hd → Option Rho
  | _, [] => some []
  | k, h :: hs => match argC ρ (decide (k ∈ ios)) h, argsN ρ ios (k + 1) hs with
    | some c, some r => some (some c :: r)
    | _, _ => none
def putN (ρ : Rho) (hs : List Hd) (outs : Rho) : List Nat → Option Rho
  | [] => some ρ
  | j :: js => (putB ρ (some j) hs outs).bind fun ρ1 => putN ρ1 hs outs js
/-- the slots that are lent -/
def lentX (ios : List Nat) : Nat → List Hd → List Nat
  | _, [] => []
  | k, .bw i :: hs => if k ∈ ios then i :: lentX ios (k + 1) hs else lentX ios (k + 1) hs
  | k, _ :: hs => lentX ios (k + 1) hs
def distB : List Nat → Bool
  | [] => true
  | x :: r => !r.contains x && distB r
def eCallN (n : Nat) (ios : List Nat) (F : FF) (fs : AF) : EF := fun ρ => bindA (fs ρ) fun hs ρ1 => if distB (lentX ios 0 hs) then (match argsN ρ1 ios 0 hs with
  | none => .stuck
  | some ρ0 => if ρ0.length ≠ n then .stuck else match F ρ0 with
    | .stuck => .stuck
    | .ok h outs => match h, putN ρ1 hs outs ios with
      | .bw _, _ => .stuck
      | .sp _ _, _ => .stuck
      | _, none => .stuck
      | _, some ρ2 => .ok h ρ2
    | .exc x outs => match putN ρ1 hs outs ios with
      | none => .stuck
      | some ρ2 => .exc x ρ2) else .stuck
theorem lentX_mem {ios : List Nat} : ∀ {hs : List Hd} {k j i : Nat}, hs[j]? = some (.bw i) → k + j ∈ ios → i ∈ lentX ios k hs
  | [], _, _, _, h, _ => by simp at h
  | h0 :: hs, k, 0, i, h, m => by
    simp at h
    subst h
    rw [lentX, if_pos (show k ∈ ios from m)]; simp
  | h0 :: hs, k, j + 1, i, h, m => by
    have := lentX_mem (k := k + 1) (j := j) (i := i) (hs := hs) (by simpa using h) (by rw [show k + 1 + j = k + (j + 1) by omega]; exact m)
    cases h0 with
    | bw i0 =>
      rw [lentX]
      split
      · exact List.mem_cons_of_mem _ this
      · exact this
    | _ => exact this
theorem lentX_inj {ios : List Nat} : ∀ {hs : List Hd} {k j j' i : Nat}, distB (lentX ios k hs) = true → hs[j]? = some (.bw i) → hs[j']? = some (.bw i) → k + j ∈ ios → k + j' ∈ ios → j = j'
  | [], _, _, _, _, _, h, _, _, _ => by simp at h
  | h0 :: hs, k, j, j', i, d, h, h', m, m' => by
    have dr : distB (lentX ios (k + 1) hs) = true := by
      cases h0 with
      | bw i0 =>
        rw [lentX] at d
        split at d
        · rw [distB, Bool.and_eq_true] at d; exact d.2
        · exact d
      | _ => exact d
    have no : ∀ l, h0 = .bw i → k ∈ ios → hs[l]? = some (.bw i) → k + 1 + l ∈ ios → False := fun l e mk hl ml => by
      subst e
      rw [lentX, if_pos mk, distB, Bool.and_eq_true] at d
      have := lentX_mem (k := k + 1) (j := l) hl ml
      simp [this] at d
    cases j with
    | zero =>
      cases j' with
      | zero => rfl
      | succ l => exact (no l (by simpa using h) m (by simpa using h') (by rw [show k + 1 + l = k + (l + 1) by omega]; exact m')).elim
    | succ l =>
      cases j' with
      | zero => exact (no l (by simpa using h') m' (by simpa using h) (by rw [show k + 1 + l = k + (l + 1) by omega]; exact m)).elim
      | succ l' =>
        have := lentX_inj (k := k + 1) (j := l) (j' := l') (i := i) dr (by simpa using h) (by simpa using h') (by rw [show k + 1 + l = k + (l + 1) by omega]; exact m) (by rw [show k + 1 + l' = k + (l' + 1) by omega]; exact m')
        omega
theorem argsN_at {ρ : Rho} {ios : List Nat} : ∀ {k : Nat} {hs : List Hd} {r : Rho}, argsN ρ ios k hs = some r → r.length = hs.length ∧ ∀ (j : Nat) (c : Cel), r[j]? = some (some c) → ∃ h, hs[j]? = some h ∧ argC ρ (decide (k + j ∈ ios)) h = some c
  | _, [], _, e => by cases e; exact ⟨rfl, fun j c h => by simp at h⟩
  | k, h :: hs, r, e => by
    unfold argsN at e
    split at e
    · rename_i c r' e1 e2
      cases e
      obtain ⟨l, q⟩ := argsN_at e2
      refine ⟨by rw [List.length_cons, List.length_cons, l], fun j c' hj => ?_⟩
      cases j with
      | zero => simp at hj; subst hj; exact ⟨h, rfl, e1⟩
      | succ j =>
        obtain ⟨h', q1, q2⟩ := q j c' (by simpa using hj)
        exact ⟨h', by simpa using q1, by rw [show k + (j + 1) = k + 1 + j by omega]; exact q2⟩
    · cases e
theorem argsN_has {ρ : Rho} {ios : List Nat} : ∀ {k : Nat} {hs : List Hd} {r : Rho} {j : Nat} {h : Hd}, argsN ρ ios k hs = some r → hs[j]? = some h → ∃ c, r[j]? = some (some c)
  | _, [], _, _, _, _, h => by simp at h
  | k, h :: hs, r, j, h', e, hj => by
    unfold argsN at e
    split at e
    · rename_i c r' e1 e2
      cases e
      cases j with
      | zero => exact ⟨c, rfl⟩
      | succ j =>
        obtain ⟨c', q⟩ := argsN_has (j := j) e2 (by simpa using hj)
        exact ⟨c', by simpa using q⟩
    · cases e
theorem putB_key {ρ ρ2 outs : Rho} {hs : List Hd} {j : Nat} (p : putB ρ (some j) hs outs = some ρ2) : (∀ (k : Nat) (c : Cel), ρ2[k]? = some (some c) → (ρ[k]? = some (some c) ∧ hs[j]? ≠ some (.bw k)) ∨ ∃ c0 c', hs[j]? = some (.bw k) ∧ ρ[k]? = some (some c0) ∧ outs[j]? = some (some c') ∧ c = ⟨c'.d, c0.fl⟩) ∧
      ρ2.length = ρ.length ∧ (∀ (k : Nat) (c : Cel), ρ[k]? = some (some c) → ∃ c2, ρ2[k]? = some (some c2) ∧ c2.fl = c.fl) := by
  unfold putB at p
  dsimp only at p
  split at p
  · rename_i i hi
    split at p
    · rename_i c0 c' e1 e2
      cases p
      have e1 := slot_some e1
      have e2 := slot_some e2
      refine ⟨fun k c h => ?_, by rw [List.length_set], fun k c h => ?_⟩
      · rcases set_get h with ⟨rfl, ec⟩ | ⟨ne, h⟩
        · cases ec
          exact .inr ⟨c0, c', hi, e1, e2, rfl⟩
        · refine .inl ⟨h, fun w => ?_⟩
          rw [hi] at w
          cases w
          exact ne rfl
      · by_cases hk : i = k
        · subst hk
          rw [e1] at h
          cases h
          exact ⟨_, set_at (lt_of e1), rfl⟩
        · exact ⟨c, by rw [set_other hk]; exact h, rfl⟩
    · cases p
  · cases p
theorem putN_key {outs : Rho} {hs : List Hd} {ios : List Nat} (ds : distB (lentX ios 0 hs) = true) : ∀ {js : List Nat} {ρ ρ2 : Rho}, putN ρ hs outs js = some ρ2 → (∀ j ∈ js, j ∈ ios) → (∀ (k : Nat) (c : Cel), ρ2[k]? = some (some c) → (ρ[k]? = some (some c) ∧ ∀ j, j ∈ js → hs[j]? ≠ some (.bw k)) ∨ ∃ j c0 c', j ∈ js ∧ hs[j]? = some (.bw k) ∧ ρ[k]? = some (some c0) ∧ outs[j]? = some (some c') ∧ c = ⟨c'.d, c0.fl⟩) ∧
      ρ2.length = ρ.length ∧ (∀ (k : Nat) (c : Cel), ρ[k]? = some (some c) → ∃ c2, ρ2[k]? = some (some c2) ∧ c2.fl = c.fl)
  | [], ρ, ρ2, p, _ => by
    cases p
    exact ⟨fun k c h => .inl ⟨h, fun j m => by cases m⟩, rfl, fun k c h => ⟨c, h, rfl⟩⟩
  | j :: js, ρ, ρ2, p, hj => by
    rw [putN] at p
    obtain ⟨ρ1, p1, p2⟩ := Option.bind_eq_some_iff.mp p
    obtain ⟨a1, a2, a3⟩ := putB_key p1
    obtain ⟨b1, b2, b3⟩ := putN_key ds p2 fun j m => hj j (by simp [m])
    refine ⟨fun k c h => ?_, b2.trans a2, fun k c h => ?_⟩
    · rcases b1 k c h with ⟨h1, n1⟩ | ⟨j', c0, c', m', q1, q2, q3, rfl⟩
      · rcases a1 k c h1 with ⟨h2, n2⟩ | ⟨c0, c', q1, q2, q3, rfl⟩
        · refine .inl ⟨h2, fun i mi => ?_⟩
          rcases List.mem_cons.mp mi with rfl | mi
          · exact n2
          · exact n1 i mi
        · exact .inr ⟨j, c0, c', by simp, q1, q2, q3, rfl⟩
      · rcases a1 k c0 q2 with ⟨h2, n2⟩ | ⟨d0, d', r1, r2, r3, e⟩
        · exact .inr ⟨j', c0, c', by simp [m'], q1, h2, q3, rfl⟩
        · have : j = j' := lentX_inj (k := 0) ds r1 q1 (by rw [Nat.zero_add]; exact hj j (by simp)) (by rw [Nat.zero_add]; exact hj j' (by simp [m']))
          subst this
          refine .inr ⟨j, d0, c', by simp, q1, r2, q3, ?_⟩
          rw [e]
    · obtain ⟨c2, h2, f2⟩ := a3 k c h
      obtain ⟨c3, h3, f3⟩ := b3 k c2 h2
      exact ⟨c3, h3, f3.trans f2⟩
section
variable {K : KW} {ρ ρ0 ρ0' ρ2 : Rho} {σ : St} {B H B' H' : Hp} {ios : List Nat} {hs : List Hd} {vs : List V}
/-- the callee's cell j that is lent is the caller's slot i -/
theorem argsN_own (e : argsN ρ ios 0 hs = some ρ0) {j : Nat} {c : Cel} (hc : ρ0[j]? = some (some c)) (nf : c.fl ≠ .sh) : j ∈ ios ∧ ∃ i d fl, hs[j]? = some (.bw i) ∧ ρ[i]? = some (some ⟨d, fl⟩) ∧ fl ≠ .sh ∧ fl ≠ .st ∧ c = ⟨d, .io⟩ := by
  obtain ⟨_, q⟩ := argsN_at e
  obtain ⟨h, h1, h2⟩ := q j c hc
  rw [Nat.zero_add] at h2
  cases h with
  | sh d =>
    obtain ⟨_, rfl⟩ := argC_sh h2
    exact absurd rfl nf
  | fr d => cases h2
  | sp _ _ => cases h2
  | bw i =>
    obtain ⟨b, d, fl, q1, q2, q3, q4⟩ := argC_bw h2
    exact ⟨of_decide_eq_true b, i, d, fl, h1, q1, q2, q3, q4⟩
theorem argsN_nst (e : argsN ρ ios 0 hs = some ρ0) (i : Nat) (d : D) : ρ0[i]? ≠ some (some (Cel.mk d .st)) := fun h => by
  obtain ⟨_, _, _, _, _, _, _, _, z⟩ := argsN_own e h (by simp)
  cases z
theorem argsN_sim (ds : distB (lentX ios 0 hs) = true) (S : Sim K ρ σ B H) (y : HdL K σ B vs hs) (e : argsN ρ ios 0 hs = some ρ0) : Sim K ρ0 (vs.map some) B H := by
  obtain ⟨l, q⟩ := argsN_at e
  have ll : ρ0.length = (vs.map some).length := by rw [l, List.length_map, y.length]
  refine ⟨S.bh, ⟨by omega, fun i h1 h2 => by omega⟩, fun j c hj _ => ?_, fun i j ci cj a hi hj ni nj ei ej => ?_, ⟨fun i d h => absurd h (argsN_nst e i d), S.st.id'⟩⟩
  · obtain ⟨h, h1, h2⟩ := q j c hj
    obtain ⟨v, hv, ok⟩ := y.get h1
    refine ⟨v, by rw [List.getElem?_map, hv]; rfl, ?_⟩
    by_cases nf : c.fl = .sh
    · refine .inl ⟨nf, ?_⟩
      cases h with
      | sh d =>
        obtain ⟨_, rfl⟩ := argC_sh h2
        exact ok
      | fr d => cases h2
      | sp _ _ => cases h2
      | bw i =>
        obtain ⟨_, d, fl, _, _, _, rfl⟩ := argC_bw h2
        cases nf
    · obtain ⟨_, i, d, fl, h3, h4, h5, hst, rfl⟩ := argsN_own e hj nf
      rw [h1] at h3
      cases h3
      obtain ⟨v', e1, cok⟩ := S.sl i _ h4 hst
      have ok' : σ[i]? = some (some v) := ok
      rw [ok'] at e1
      cases e1
      rcases cok with ⟨z, _⟩ | ⟨_, z⟩
      · exact absurd z h5
      · exact .inr ⟨by simp, z⟩
  · obtain ⟨e1, i1, d1, f1, a1, b1, c1, _⟩ := argsN_own e hi ni
    obtain ⟨e2, i2, d2, f2, a2, b2, c2, _⟩ := argsN_own e hj nj
    obtain ⟨v1, hv1, ok1⟩ := y.get a1
    obtain ⟨v2, hv2, ok2⟩ := y.get a2
    rw [List.getElem?_map, hv1] at ei
    rw [List.getElem?_map, hv2] at ej
    cases ei
    cases ej
    have := S.dj i1 i2 _ _ a b1 b2 c1 c2 ok1 ok2
    subst this
    exact lentX_inj (k := 0) ds a1 a2 (by rw [Nat.zero_add]; exact e1) (by rw [Nat.zero_add]; exact e2)
theorem argsN_ownA (y : HdL K σ B vs hs) (e : argsN ρ ios 0 hs = some ρ0) {a : Addr} (h : OwnA ρ0 (vs.map some) a) : OwnA ρ σ a := by
  obtain ⟨j, c, h1, h2, h3⟩ := h
  obtain ⟨_, i, d, fl, q1, q2, q3, _, _⟩ := argsN_own e h1 h2
  obtain ⟨v, hv, ok⟩ := y.get q1
  rw [List.getElem?_map, hv] at h3
  cases h3
  exact ⟨i, _, q2, q3, ok⟩
/-- behind the call -/
theorem backN_sim (ds : distB (lentX ios 0 hs) = true) (S : Sim K ρ σ B H) (y : HdL K σ B vs hs) (e : argsN ρ ios 0 hs = some ρ0) (S' : Sim K ρ0' (vs.map some) B' H') (x : Ext ρ0 (vs.map some) B H ρ0' (vs.map some) B' H') (p : putN ρ hs ρ0' ios = some ρ2) :
    Sim K ρ2 σ B' H' ∧ Ext ρ σ B H ρ2 σ B' H' ∧ (∀ a, New ρ0 (vs.map some) H a → New ρ σ H a) ∧ ∀ a, ¬ OwnA ρ0' (vs.map some) a → New ρ0 (vs.map some) H a → ¬ OwnA ρ2 σ a := by
  -- a slot of the caller that is not lent
  have sub0 : ∀ a, OwnA ρ0 (vs.map some) a → OwnA ρ σ a := fun a h => argsN_ownA y e h
  have newN : ∀ a, New ρ0 (vs.map some) H a → New ρ σ H a := fun a h => h.elim .inl fun h => .inr (sub0 a h)
  have key := putN_key ds p fun _ m => m
  obtain ⟨k1, k2, k3⟩ := key
  -- an owned slot that is not lent keeps its object
  have keep : ∀ (k : Nat) (c : Cel) (a : Addr), ρ[k]? = some (some c) → c.fl ≠ .sh → σ[k]? = some (some (.ref a)) → (∀ j, j ∈ ios → hs[j]? ≠ some (.bw k)) → ¬ OwnA ρ0 (vs.map some) a := fun k c a hk hf hs' hn ho => by
    obtain ⟨j, c0, h1, h2, h3⟩ := ho
    obtain ⟨q0, i, d, fl, q1, q2, q3, _, _⟩ := argsN_own e h1 h2
    obtain ⟨v, hv, ok⟩ := y.get q1
    rw [List.getElem?_map, hv] at h3
    cases h3
    have := S.dj i k _ c a q2 hk q3 hf ok hs'
    subst this
    exact hn j q0 q1
  have ownBack : ∀ a, OwnA ρ2 σ a → OwnA ρ σ a := fun a ⟨k, c, h1, h2, h3⟩ => by
    rcases k1 k c h1 with ⟨h, _⟩ | ⟨j, c0, c', _, _, h, _, rfl⟩
    · exact ⟨k, c, h, h2, h3⟩
    · exact ⟨k, c0, h, h2, h3⟩
  have S0 := argsN_sim ds S y e
  have no0 := argsN_nst e
  have stB : ∀ (k : Nat) (d : D), ρ2[k]? = some (some (Cel.mk d .st)) → ρ[k]? = some (some (Cel.mk d .st)) := fun k d q => by
    rcases k1 k _ q with ⟨h, _⟩ | ⟨j, c0, c', hj, q1, h, q2, z⟩
    · exact h
    · exfalso
      obtain ⟨d0, f0⟩ := c0
      cases z
      obtain ⟨cs, hcs⟩ := argsN_has e q1
      obtain ⟨_, qq⟩ := argsN_at e
      obtain ⟨h', w1, w2⟩ := qq j cs hcs
      rw [q1] at w1
      cases w1
      obtain ⟨_, d', fl, r1, _, r3, _⟩ := argC_bw w2
      rw [h] at r1
      cases r1
      exact r3 rfl
  refine ⟨⟨S'.bh, ⟨by rw [k2]; exact S.len.le, fun k h1 h2 => ?_⟩, fun k c hk hs => ?_, fun i j ci cj a hi hj ni nj ei ej => ?_, S.st.keep x.bb (x.tkB no0) (x.tkH S0 no0) stB rfl⟩, ⟨x.bb, fun a o h => (x.nw a o h).imp id (newN a), fun a o h n => .inl (x.keepT h (fun z => n (sub0 a z)) (Ext.noTokR no0 a)), fun a h => .inr (ownBack a h), fun k c hk hf => ?_, fun k c hk hf => ?_, .of stB (x.tkB no0)⟩, newN, fun a n1 n2 ho => ?_⟩
  · obtain ⟨d, q⟩ := S.len.ex k h1 (by rw [← k2]; exact h2)
    obtain ⟨c2, q2, q3⟩ := k3 k _ q
    obtain ⟨d2, f2⟩ := c2
    cases q3
    exact ⟨d2, q2⟩
  · rcases k1 k c hk with ⟨h, hn⟩ | ⟨j, c0, c', hj, q1, h, q2, rfl⟩
    · obtain ⟨v, ev, ok⟩ := S.sl k c h hs
      refine ⟨v, ev, ok.mono x.bb fun a hv hb ho hf => ?_⟩
      subst hv
      obtain ⟨o, eo⟩ := ho
      obtain ⟨r1, r2, _⟩ := x.keepN eo hb (keep k c a h hf ev hn)
      exact ⟨r2, by rw [r1, eo]⟩
    · obtain ⟨v, ev, ok⟩ := y.get q1
      have ok' : σ[k]? = some (some v) := ok
      refine ⟨v, ok', ?_⟩
      -- the lent cell is lent at the start, so it is behind
      obtain ⟨cs, hcs⟩ := argsN_has e q1
      by_cases hsh : cs.fl = .sh
      · exfalso
        obtain ⟨_, qq⟩ := argsN_at e
        obtain ⟨h', w1, w2⟩ := qq j cs hcs
        rw [q1] at w1
        cases w1
        obtain ⟨_, d, fl, _, _, _, rfl⟩ := argC_bw w2
        cases hsh
      · obtain ⟨_, i, d, fl, r1, r2, r3, r4, rfl⟩ := argsN_own e hcs hsh
        rw [q1] at r1
        cases r1
        rw [h] at r2
        cases r2
        obtain ⟨_, c2, w1, w2⟩ := x.io j _ hcs rfl
        rw [q2] at w1
        cases w1
        obtain ⟨v', e1, cok⟩ := S'.sl j c' q2 (by rw [w2]; simp)
        rw [List.getElem?_map, ev] at e1
        cases e1
        rcases cok with ⟨z, _⟩ | ⟨_, z⟩
        · rw [w2] at z; cases z
        · exact .inr ⟨r3, z⟩
  · have f1 : ∃ c1, ρ[i]? = some (some c1) ∧ c1.fl ≠ .sh := by
      rcases k1 i ci hi with ⟨h, _⟩ | ⟨_, c0, _, _, _, h, _, rfl⟩
      · exact ⟨ci, h, ni⟩
      · exact ⟨c0, h, ni⟩
    have f2 : ∃ c1, ρ[j]? = some (some c1) ∧ c1.fl ≠ .sh := by
      rcases k1 j cj hj with ⟨h, _⟩ | ⟨_, c0, _, _, _, h, _, rfl⟩
      · exact ⟨cj, h, nj⟩
      · exact ⟨c0, h, nj⟩
    obtain ⟨c1, a1, a2⟩ := f1
    obtain ⟨c2, b1, b2⟩ := f2
    exact S.dj i j c1 c2 a a1 b1 a2 b2 ei ej
  · obtain ⟨c2, h1, h2⟩ := k3 k c hk
    exact ⟨rfl, c2, h1, by rw [h2, hf]⟩
  · rcases k1 k c hk with ⟨h, _⟩ | ⟨_, c0, _, _, _, h, _, rfl⟩
    · exact ⟨c, h, hf⟩
    · exact ⟨c0, h, hf⟩
  · obtain ⟨k, c, h1, h2, h3⟩ := ho
    rcases k1 k c h1 with ⟨h, hn⟩ | ⟨j, c0, c', hj, q1, h, q2, rfl⟩
    · have n0 := keep k c a h h2 h3 hn
      have := S.ownH ⟨k, c, h, h2, h3⟩
      obtain ⟨_, o, eo⟩ := this
      rcases n2 with z | z
      · rw [eo] at z; cases z
      · exact n0 z
    · obtain ⟨v, ev, ok⟩ := y.get q1
      have ok' : σ[k]? = some (some v) := ok
      rw [h3] at ok'
      cases ok'
      obtain ⟨cs, hcs⟩ := argsN_has e q1
      by_cases hsh : cs.fl = .sh
      · obtain ⟨_, qq⟩ := argsN_at e
        obtain ⟨h', w1, w2⟩ := qq j cs hcs
        rw [q1] at w1
        cases w1
        obtain ⟨_, d, fl, _, _, _, rfl⟩ := argC_bw w2
        cases hsh
      · obtain ⟨_, i, d, fl, r1, r2, r3, r4, rfl⟩ := argsN_own e hcs hsh
        obtain ⟨_, c2, w1, w2⟩ := x.io j _ hcs rfl
        rw [q2] at w1
        cases w1
        exact n1 ⟨j, c', q2, by rw [w2]; simp, by rw [List.getElem?_map, ev]; rfl⟩
end
section
variable {X : Cx} {C : Ct} {e : Expr} {es : List Expr} {pos p : Pos} {x : Str} {k n : Nat} {f : Addr} {fd : FuncData} {ps : List Str} {ios : List Nat} {F : FF} {t : TA} {g : AF}
theorem lk_callN (l : LkA C t g) : LkE C (tCallS (spF C.K C.cv n F) (WE C.W) t) (eCallN n ios F g) := fun ρ σ B H Q S gd => by
  refine l.bind S gd fun hs ρ1 vs B1 H1 S1 x1 y1 g1 => ?_
  split at g1
  case isFalse => exact g1.elim
  rename_i ds
  split at g1
  · exact g1.elim
  · rename_i ρ0 ea
    split at g1
    · exact g1.elim
    · rename_i hl
      have hl : ρ0.length = n := Classical.not_not.mp hl
      refine ⟨ρ0, B1, ⟨by rw [y1.length, ← (argsN_at ea).1]; exact hl, hl⟩, argsN_sim ds S1 y1 ea, ?_⟩
      cases ef : F ρ0 with
      | stuck => rw [ef] at g1; exact g1
      | exc c outs =>
        rw [ef] at g1
        dsimp only at g1
        split at g1
        · exact g1.elim
        · rename_i ρ2 ep
          intro cls dct B2 H2 S2 x2 ok
          obtain ⟨S3, x3, _, _⟩ := backN_sim ds S1 y1 ea S2 x2 ep
          exact g1 cls dct B2 H2 S3 x3 ok
      | ok h outs =>
        rw [ef] at g1
        dsimp only at g1
        intro v B2 H2 S2 x2 y2
        cases ep : putN ρ1 hs outs ios with
        | none => rw [ep] at g1; cases h <;> exact g1.elim
        | some ρ2 =>
          rw [ep] at g1
          obtain ⟨S3, x3, n1, n2⟩ := backN_sim ds S1 y1 ea S2 x2 ep
          cases h with
          | sh d => exact g1 v B2 H2 S3 x3 y2
          | fr d =>
            obtain ⟨a, r1, r2, r3, r4, r5⟩ := y2
            exact g1 v B2 H2 S3 x3 ⟨a, r1, r2, r3, n2 a r4 r5, n1 a r5⟩
          | bw i => exact g1.elim
          | sp _ _ => exact g1.elim
theorem se_callN (FO : FnOk X.prog X.w X.K X.mg X.base (L2.CX X.prog X.w) k f fd ps (spF C.K C.cv n F)) (hr : Room k X.A) (hm : X.mg x = some (.ref f)) (hkp : PySem.W.keepIn X.K (.ref f) = true) (hb : Binds X.K fd ps []) (tk : Takes X C.W)
    (l : SA X C (e :: es) t g) (ios : List Nat) (hg : Gl X x := by rfl) (hdb : (x == ("__debug__" : Str)) = false := by decide) (he : starEach (e :: es) X.env = (false, eval e X.env) :: starEach es X.env := by rfl)
    (hpl : (backTo pos (starEach es X.env)).any (·.1) = false := by rfl) : SE X C (.Call (.Name x p) (e :: es) [] pos) (tCallS (spF C.K C.cv n F) (WE C.W) t) (eCallN n ios F g) :=
  ⟨pe_callS FO hr hg hm hkp hb (fun σ => passAt tk σ) l.pa hdb he hpl, lk_callN l.lk⟩
end
end GS
namespace GS
open PySem L2 PySem.Spec PyProof.Rows
end GS
namespace GS
open PySem L2
section
variable {ρ ρ1 : Rho} {c : Prop} [Decidable c]
def putX (ρ : Rho) (h : Option Hd) (c' : Option Cel) : Option Rho := match h with
  | some (.bw i) => putBC ρ i (slot ρ i) c'
  | _ => none
@[simp] theorem putX_bw (i : Nat) (c' : Option Cel) : putX ρ (some (.bw i)) c' = putBC ρ i (slot ρ i) c' := rfl
theorem putB_x (j : Nat) (hs : List Hd) (outs : Rho) : putB ρ (some j) hs outs = putX ρ (hs[j]?) (slot outs j) := by
  show (match hs[j]? with | some (.bw i) => (match slot ρ i, slot outs j with | some c, some c' => some (ρ.set i (some ⟨c'.d, c.fl⟩)) | _, _ => none) | _ => none) = _
  unfold putX putBC
  generalize hs[j]? = v
  cases v with
  | none => rfl
  | some v =>
    cases v with
    | bw i => rfl
    | _ => rfl
@[simp] theorem putN_nil (hs : List Hd) (outs : Rho) : putN ρ hs outs [] = some ρ := rfl
@[simp] theorem putN_cons (hs : List Hd) (outs : Rho) (j : Nat) (js : List Nat) : putN ρ hs outs (j :: js) = (putX ρ (hs[j]?) (slot outs j)).bind fun ρ1 => putN ρ1 hs outs js := by
  rw [putN, putB_x]
@[simp] theorem lentX_nil (ios : List Nat) (k : Nat) : lentX ios k [] = [] := rfl
@[simp] theorem lentX_bw (ios : List Nat) (k i : Nat) (hs : List Hd) : lentX ios k (.bw i :: hs) = if k ∈ ios then i :: lentX ios (k + 1) hs else lentX ios (k + 1) hs := rfl
@[simp] theorem lentX_sh (ios : List Nat) (k : Nat) (d : D) (hs : List Hd) : lentX ios k (.sh d :: hs) = lentX ios (k + 1) hs := rfl
@[simp] theorem lentX_fr (ios : List Nat) (k : Nat) (d : D) (hs : List Hd) : lentX ios k (.fr d :: hs) = lentX ios (k + 1) hs := rfl
@[simp] theorem distB_nil : distB [] = true := rfl
@[simp] theorem distB_cons (x : Nat) (r : List Nat) : distB (x :: r) = (!r.contains x && distB r) := rfl
@[simp] theorem argsN_nil (ios : List Nat) (k : Nat) : argsN ρ ios k [] = some [] := rfl
@[simp] theorem argsN_cons (ios : List Nat) (k : Nat) (h : Hd) (hs : List Hd) : argsN ρ ios k (h :: hs) = consC (argC ρ (decide (k ∈ ios)) h) (argsN ρ ios (k + 1) hs) := by
  unfold consC
  rw [argsN]
  try rfl
def backO (o : Option Rho) (h : Hd) : RE := match o with
  | some ρ2 => .ok h ρ2
  | none => .stuck
def backE (o : Option Rho) (x : Xc) : RE := match o with
  | some ρ2 => .exc x ρ2
  | none => .stuck
@[simp] theorem backO_s (h : Hd) : backO (some ρ) h = .ok h ρ := rfl
@[simp] theorem backE_s (x : Xc) : backE (some ρ) x = .exc x ρ := rfl
def backN (ρ1 : Rho) (ios : List Nat) (hs : List Hd) (r : RE) : RE := match r with
    | .stuck => .stuck
    | .ok h outs => match h, putN ρ1 hs outs ios with
      | .bw _, _ => .stuck
      | .sp _ _, _ => .stuck
      | _, none => .stuck
      | _, some ρ2 => .ok h ρ2
    | .exc x outs => match putN ρ1 hs outs ios with
      | none => .stuck
      | some ρ2 => .exc x ρ2
@[simp] theorem backN_sh (ios : List Nat) (d : D) (hs : List Hd) (outs : Rho) : backN ρ ios hs (.ok (.sh d) outs) = backO (putN ρ hs outs ios) (.sh d) := by
  unfold backN
  dsimp only
  cases putN ρ hs outs ios <;> rfl
@[simp] theorem backN_fr (ios : List Nat) (d : D) (hs : List Hd) (outs : Rho) : backN ρ ios hs (.ok (.fr d) outs) = backO (putN ρ hs outs ios) (.fr d) := by
  unfold backN
  dsimp only
  cases putN ρ hs outs ios <;> rfl
@[simp] theorem backN_ex (ios : List Nat) (x : Xc) (hs : List Hd) (outs : Rho) : backN ρ ios hs (.exc x outs) = backE (putN ρ hs outs ios) x := by
  have : ∀ o : Option Rho, (match o with | none => RE.stuck | some ρ2 => .exc x ρ2) = backE o x := fun o => by cases o <;> rfl
  exact this _
@[simp] theorem backN_if (ios : List Nat) (hs : List Hd) (a b : RE) : backN ρ ios hs (if c then a else b) = if c then backN ρ ios hs a else backN ρ ios hs b := by split <;> rfl
def callRN (n : Nat) (ios : List Nat) (F : FF) (hs : List Hd) (ρ1 : Rho) (a : Option Rho) : RE := match a with
  | none => .stuck
  | some ρ0 => if ρ0.length ≠ n then .stuck else backN ρ1 ios hs (F ρ0)
@[simp] theorem callRN_s (n : Nat) (ios : List Nat) (F : FF) (hs : List Hd) (ρ0 : Rho) : callRN n ios F hs ρ (some ρ0) = if ρ0.length ≠ n then .stuck else backN ρ ios hs (F ρ0) := rfl
@[simp] theorem eCallN_eq (n : Nat) (ios : List Nat) (F : FF) (fs : AF) : eCallN n ios F fs ρ = bindA (fs ρ) fun hs ρ1 => if distB (lentX ios 0 hs) then callRN n ios F hs ρ1 (argsN ρ1 ios 0 hs) else .stuck := rfl
end
end GS
namespace GX
open PySem L2 GS GM
def WordsSp3 (F : FF) : Prop := ∀ (b : D) (heads tail : Str) (n : Nat), Bx b → heads.length = 26 → tail.length = 1 → heads.cps.toList.Nodup → n ≤ 26 → ∃ (ws : List Str) (b' : D) (p : Nat), F [some ⟨b, .io⟩, some ⟨.str heads, .sh⟩, some ⟨.str tail, .sh⟩, some ⟨.int n, .sh⟩] = .ok (.fr (.list (ws.map .str))) [some ⟨b', .io⟩, none, none, none] ∧ Bx b' ∧ ws.length = n ∧ (∀ w ∈ ws, WordOk heads tail w) ∧ (ws.map fun w => w.cps.toList[p]?).Nodup ∧ ∀ w ∈ ws, p < w.length
theorem turn_nd : ∀ turn, turn < 26 → ((List.range 26).map fun k => (turn + k * 5) % 26).Nodup := by decide +kernel
theorem nd_turn (hs : List Nat) (hl : (26 : Int) = hs.length) (nd : hs.Nodup) (turn : Nat) (ht : turn < 26) (n : Nat) (hn : n ≤ 26) : ((List.range n).map fun k : Nat => some (pick hs (((turn : Int) + (k : Int) * 5) % 26))).Nodup := by
  have h1 : ((List.range n).map fun k : Nat => some (pick hs (((turn : Int) + (k : Int) * 5) % 26))) = ((List.range n).map fun k => (turn + k * 5) % 26).map fun j => some (hs.getD j default) := by
    rw [List.map_map]
    refine List.map_congr_left fun k _ => ?_
    have : ((turn : Int) + (k : Int) * 5) % 26 = (((turn + k * 5) % 26 : Nat) : Int) := by omega
    rw [this]
    show some (pick hs _) = some (hs.getD _ _)
    have lt : (turn + k * 5) % 26 < hs.length := by omega
    unfold pick
    rw [atI_nat (List.getElem?_eq_getElem lt)]
    simp [List.getD, List.getElem?_eq_getElem lt]
  rw [h1]
  have h2 : ((List.range n).map fun k => (turn + k * 5) % 26).Nodup := by
    have s : (List.range n).Sublist (List.range 26) := List.range_sublist.mpr hn
    exact (s.map _).nodup (turn_nd turn ht)
  have h3 : ∀ j ∈ (List.range n).map fun k => (turn + k * 5) % 26, j < 26 := fun j m => by
    obtain ⟨k, _, rfl⟩ := List.mem_map.mp m
    omega
  generalize ((List.range n).map fun k => (turn + k * 5) % 26) = js at h2 h3
  unfold List.Nodup at h2 ⊢
  rw [List.pairwise_map]
  refine h2.imp_of_mem fun {a b} ma mb hab e => hab ?_
  have la := h3 a ma
  have lb := h3 b mb
  have e := Option.some.inj e
  rw [List.getD, List.getD, List.getElem?_eq_getElem (by omega), List.getElem?_eq_getElem (by omega)] at e
  exact (List.getElem_inj nd).mp e
theorem law_words_ok3 {F : FF} (hp : PickSp F) : WordsSp3 (fnF 10 4 (m_law_words F)) := fun b heads tail n hb hh ht hnd hn => by
  obtain ⟨r, b1, e1, hb1, hr⟩ := hp b 4 hb (by decide) (by decide)
  have hh' : (26 : Int) = heads.cps.toList.length := by rw [← len_eq, hh]; rfl
  have wh : heads.length ≤ sizeLine := by rw [hh]; decide
  obtain ⟨⟨stem, b2⟩, f1, g1, g2, g3⟩ := forL_by (S := Str × D) (g := gN 5) (b := m_law_words_b2 F) (fun p => [some ⟨p.2, .io⟩, some ⟨.str heads, .sh⟩, some ⟨.str tail, .sh⟩, some ⟨.int n, .sh⟩, some ⟨.str p.1, .sh⟩, none, none, none, none, none])
    (fun pre p => Bx p.2 ∧ p.1.length = pre.length ∧ ∀ c ∈ p.1.cps.toList, c ∈ heads.cps.toList) (rgD 0 r) (Str.ofString "", b1) ⟨hb1, by rw [ofS_len]; rfl, by rw [ofS_cps]; simp⟩ (fun pre d post ⟨st, b'⟩ hd ⟨q1, q2, q3⟩ => by
      obtain ⟨hk, rfl⟩ := rgD_mid hd
      obtain ⟨i, b3, e3, hb3, hi⟩ := hp b' 26 q1 (by decide) (by decide)
      dsimp only at q1 q2 q3 ⊢
      obtain ⟨h5, h6⟩ := atI_pick (xs := heads.cps.toList) (i := (i : Int)) (by omega) (by rw [← hh']; omega)
      generalize pick heads.cps.toList (i : Int) = c at h5 h6
      have hz : st.length + 1 ≤ sizeLine := fits (by omega)
      refine ⟨(st ++ ⟨#[c]⟩, b3), ?_, hb3, by rw [app_len, q2, one_len]; simp, fun c' m => ?_⟩
      · have e3' : F [some ⟨b', .io⟩, some ⟨.int 26, .sh⟩] = .ok (.sh (.int i)) [some ⟨b3, .io⟩, none] := e3
        simp [m_law_words_b2, e3', wh, h5, one_len, hz]
      · rw [app_cps] at m
        rcases List.mem_append.mp m with m | m
        · exact q3 c' m
        · simp at m; subst m; exact h6)
  rw [rgD_len] at g2
  dsimp only at f1 g1 g2 g3
  obtain ⟨at', b3, e3, hb3, h3⟩ := hp b2 (stem.length + 1) g1 (by omega) (by omega)
  obtain ⟨turn, b4, e4, hb4, h4⟩ := hp b3 26 hb3 (by decide) (by decide)
  obtain ⟨⟨ws, b5⟩, f2, k1, k2, k3⟩ := forL_by (S := List Str × D) (g := gN 5) (b := m_law_words_b1 F) (fun p => [some ⟨p.2, .io⟩, some ⟨.str heads, .sh⟩, some ⟨.str tail, .sh⟩, some ⟨.int n, .sh⟩, some ⟨.str stem, .sh⟩, none, some ⟨.int at', .sh⟩, some ⟨.int turn, .sh⟩, some ⟨.list (p.1.map .str), .ow⟩, none])
    (fun pre p => Bx p.2 ∧ p.1.length = pre.length ∧ (∀ w ∈ p.1, WordOk heads tail w) ∧ p.1.map (fun w => w.cps.toList[at']?) = (List.range pre.length).map fun k : Nat => some (pick heads.cps.toList (((turn : Int) + (k : Int) * 5) % 26))) (rgD 0 n) ([], b4) ⟨hb4, rfl, by simp, rfl⟩ (fun pre d post ⟨ws, b'⟩ hd ⟨q1, q2, q3, q4⟩ => by
      obtain ⟨hk, rfl⟩ := rgD_mid hd
      generalize hkk : pre.length = k at hk q2
      rw [show (0 : Int) + (k : Int) = k by omega]
      obtain ⟨i, b6, e6, hb6, hi⟩ := hp b' 2 q1 (by decide) (by decide)
      obtain ⟨u, eu, u1, u2⟩ := mul01 tail i hi ht
      dsimp only at q1 q2 q3 q4 ⊢
      have m1 : cMul (k : Int) 5 = true := cMul_r (by decide)
      have h5 := atI_mod (xs := heads.cps.toList) (c := (turn : Int) + (k : Int) * 5) (by decide) hh'
      have h6 := pick_mem (xs := heads.cps.toList) (c := (turn : Int) + (k : Int) * 5) (by decide) hh'
      obtain ⟨c, hcc⟩ : ∃ c, pick heads.cps.toList (((turn : Int) + (k : Int) * 5) % 26) = c := ⟨_, rfl⟩
      rw [hcc] at h5 h6
      have ws1 : stem.length ≤ sizeLine := fits (by omega)
      have c1 := cutS_to stem at'
      have c2 := cutS_from stem at'
      have l1 : (cutS stem none (some (at' : Int))).length ≤ 3 := by have := cut_len stem none (some (at' : Int)); omega
      have l2 : (cutS stem none (some (at' : Int))).length + (cutS stem (some (at' : Int)) none).length = stem.length := by
        rw [len_eq, len_eq, c1, c2, List.length_take, List.length_drop, ← len_eq]; omega
      generalize hx : cutS stem none (some (at' : Int)) = x at c1 l1 l2
      generalize hy : cutS stem (some (at' : Int)) none = y at c2 l2
      have z1 : x.length + 1 ≤ sizeLine := fits (by omega)
      have z2 : (x ++ ⟨#[c]⟩).length + y.length ≤ sizeLine := fits (by rw [app_len, one_len]; omega)
      have z3 : (x ++ ⟨#[c]⟩ ++ y).length + u.length ≤ sizeLine := fits (by rw [app_len, app_len, one_len]; omega)
      have z4 : ws.length < sizeLine := fitsl (by omega)
      have lx : x.cps.toList.length = at' := by rw [c1, List.length_take, ← len_eq]; omega
      refine ⟨(ws ++ [x ++ ⟨#[c]⟩ ++ y ++ u], b6), ?_, hb6, by simp [q2, hkk], fun w m => ?_, ?_⟩
      · have e6' : F [some ⟨b', .io⟩, some ⟨.int 2, .sh⟩] = .ok (.sh (.int i)) [some ⟨b6, .io⟩, none] := e6
        simp [m_law_words_b1, wh, ws1, m1, h5, one_len, hx, hy, z1, z2, z3, z4, e6', eu]
      · rcases List.mem_append.mp m with m | m
        · exact q3 w m
        · simp at m
          subst m
          refine ⟨by rw [app_len, app_len, app_len, one_len]; omega, ?_, fun c' m => ?_⟩
          · rw [app_cps, app_cps, app_cps]
            cases hxx : x.cps.toList with
            | nil => exact ⟨c, _, rfl, h6⟩
            | cons a as =>
              refine ⟨a, _, rfl, g3 a ?_⟩
              rw [c1] at hxx
              exact List.mem_of_mem_take (by rw [hxx]; simp)
          · rw [app_cps, app_cps, app_cps, c1, c2] at m
            simp only [List.mem_append] at m
            rcases m with ((m | m) | m) | m
            · exact .inl (g3 c' (List.mem_of_mem_take m))
            · simp at m; subst m; exact .inl h6
            · exact .inl (g3 c' (List.mem_of_mem_drop m))
            · exact .inr (u2 c' m)
      · have eat : (x ++ ⟨#[c]⟩ ++ y ++ u).cps.toList[at']? = some c := by
          rw [app_cps, app_cps, app_cps, List.append_assoc, List.append_assoc, List.getElem?_append_right (by omega), lx, Nat.sub_self]
          rfl
        rw [List.map_append, q4, hkk, List.length_append, List.length_singleton, hkk, List.range_succ, List.map_append, List.map_singleton, List.map_singleton, hcc, eat])
  rw [rgD_len] at k2
  dsimp only at f2 k1 k2 k3
  obtain ⟨k3, k4⟩ := k3
  rw [rgD_len] at k4
  refine ⟨ws, b5, at', ?_, k1, k2, k3, by rw [k4]; exact nd_turn heads.cps.toList hh' hnd turn h4 n hn, fun w m => ?_⟩
  rotate_left
  · have : w.cps.toList[at']? ∈ ws.map (fun w => w.cps.toList[at']?) := List.mem_map_of_mem m
    rw [k4] at this
    obtain ⟨k, _, e⟩ := List.mem_map.mp this
    rw [len_eq]
    exact (List.getElem?_eq_some_iff.mp e.symm).1
  rw [m_law_words_eq]
  have o1 : okR (r : Int) = true := okR_nat (by omega)
  have o2 : okR (n : Int) = true := okR_nat (by omega)
  have e1' : F [some ⟨b, .io⟩, some ⟨.int 4, .sh⟩] = .ok (.sh (.int r)) [some ⟨b1, .io⟩, none] := e1
  have e3' : F [some ⟨b2, .io⟩, some ⟨.int ((stem.length : Int) + 1), .sh⟩] = .ok (.sh (.int at')) [some ⟨b3, .io⟩, none] := by rw [← e3]; simp
  have e4' : F [some ⟨b3, .io⟩, some ⟨.int 26, .sh⟩] = .ok (.sh (.int turn)) [some ⟨b4, .io⟩, none] := e4
  have ws1 : stem.length ≤ sizeLine := fits (by omega)
  rw [List.map_nil] at f2
  simp [m_law_words, e1', o1, o2, f1, ws1, e3', e4', f2]
end GX
namespace GM
open PySem L2 GS
end GM
namespace GM
open PySem L2 GS
def capN : Nat → Nat
  | 0 => 1
  | l + 1 => 1 + 3 * capN l
/-- no knot has more than three kids -/
def Nar (t : Tr) : Prop := ∀ u ∈ t.pieces, u.kids.length ≤ 3
theorem Nar.kid {t k : Tr} (h : Nar t) (m : k ∈ t.kids) : Nar k := fun u mu => h u (by
  rw [pieces_kids t]
  exact List.mem_cons_of_mem _ (List.mem_flatMap.mpr ⟨k, m, mu⟩))
theorem Nar.knot {n : Str} {tk : Option (Str × Bool)} {ks : List Tr} (hl : ks.length ≤ 3) (h : ∀ k ∈ ks, Nar k) : Nar (.knot n tk ks) := fun u mu => by
  rw [pieces_kids] at mu
  rcases List.mem_cons.mp mu with rfl | mu
  · exact hl
  · obtain ⟨k, mk, mu⟩ := List.mem_flatMap.mp mu
    exact h k mk u mu
/-- what must be put has one of three names -/
def nm3 : List Str := [Str.ofString "S", Str.ofString "S1", Str.ofString "S2"]
def wtk : Option (Str × Bool) → Bool
  | some (n, c) => decide (n ∈ nm3) || (!c && decide (n = Str.ofString "Z"))
  | none => true
def sg3 : List Str := [Str.ofString "a", Str.ofString "b", Str.ofString "ab"]
def WnB : Tr → Bool
  | .hole n => decide (n ∈ nm3)
  | .knot n tk _ => decide (n ∈ nm3) && wtk tk
  | .foot n => decide (n ∈ nm3)
  | .sign s => decide (s ∈ sg3)
  | .void => true
def Wn (t : Tr) : Prop := ∀ u ∈ t.pieces, WnB u = true
theorem Wn.knot {n : Str} {tk : Option (Str × Bool)} {ks : List Tr} (h : (decide (n ∈ nm3) && wtk tk) = true) (hk : ∀ k ∈ ks, Wn k) : Wn (.knot n tk ks) := fun u mu => by
  rw [pieces_kids] at mu
  rcases List.mem_cons.mp mu with rfl | mu
  · exact h
  · obtain ⟨k, mk, mu⟩ := List.mem_flatMap.mp mu
    exact hk k mk u mu
theorem Wn.kid {t k : Tr} (h : Wn t) (m : k ∈ t.kids) : Wn k := fun u mu => h u (by
  rw [pieces_kids]
  exact List.mem_cons_of_mem _ (List.mem_flatMap.mpr ⟨k, m, mu⟩))
theorem Wn.self {t : Tr} (h : Wn t) : WnB t = true := h t (by rw [pieces_kids]; simp)
theorem Wn.one {t : Tr} (h : t.kids = []) (hw : WnB t = true) : Wn t := fun u mu => by
  rw [pieces_kids, h] at mu
  simp at mu
  subst mu
  exact hw
structure KidOk (l : Nat) (t : Tr) : Prop where
  ok : t.ok = true
  ht : t.ht ≤ l
  feet : t.feet = []
  sz : t.pieces.length ≤ capN l
  nar : Nar t
  wn : Wn t
/-- a start or a graft that is drawn -/
structure TreeOk (h : Nat) (t : Tr) : Prop where
  ok : t.ok = true
  kn : t.isKnot = true
  feet : t.feet.length ≤ 1
  ht : t.ht ≤ h
  sz : t.pieces.length ≤ 50
  s4 : t.pieces.length ≤ 40 + 2 * h
  sg : 1 ≤ t.signs.length
  wn : Wn t
def baseK : List Str := [Str.ofString "s", Str.ofString "g", Str.ofString "x0", Str.ofString "h1", Str.ofString "keytree", Str.ofString "graftofaone"]
def moreK : List Str := [Str.ofString "p", Str.ofString "qq", Str.ofString "r2", Str.ofString "tall", Str.ofString "u"]
/-- the six trees that stand in each book -/
structure Base (ts : List (Str × Tr)) : Prop where
  st : ∀ n ∈ [Str.ofString "S", Str.ofString "S1", Str.ofString "S2"], ∃ p ∈ ts, p.1 ∈ baseK ∧ p.2.isGraft = false ∧ p.2.name = n
  gr : ∀ n ∈ [Str.ofString "S", Str.ofString "S1", Str.ofString "S2"], ∃ p ∈ ts, p.1 ∈ baseK ∧ p.2.isGraft = true ∧ p.2.name = n
/-- nothing can be put in -/
def noW : Tr → Bool
  | .hole _ => false
  | .knot _ (some _) _ => false
  | _ => true
def NoW (t : Tr) : Prop := ∀ u ∈ t.pieces, noW u = true
/-- .. and the tree is low -/
structure NoWh (m : Nat) (t : Tr) : Prop where
  w : NoW t
  h : t.ht ≤ 3
  h1 : t.ht ≤ max 1 (m - 2)
structure BookOk (h : Nat) (b : Bk) : Prop where
  top : nameB b.top = true
  len : b.trees.length ≤ 11
  pos : 6 ≤ b.trees.length
  nd : (b.trees.map (·.1)).Nodup
  keys : ∀ p ∈ b.trees, p.1 ∈ baseK ++ moreK
  trees : ∀ p ∈ b.trees, TreeOk h p.2
  base : Base b.trees
  bs : ∀ p ∈ b.trees, p.1 ∈ baseK → NoWh h p.2
end GM
namespace GM
open PySem L2 GS
end GM
namespace GS
open PySem L2
@[simp] theorem atI_last {α : Type} (xs : List α) (x : α) : atI (xs ++ [x]) (-1) = some x := by
  unfold L2.atI ixN
  have h1 : ¬ (0 : Int) ≤ -1 := by omega
  have h2 : -((xs ++ [x]).length : Int) ≤ -1 := by rw [List.length_append, List.length_singleton]; omega
  rw [if_neg h1, if_pos h2]
  have h3 : ((-1 : Int) + ((xs ++ [x]).length : Int)).toNat = xs.length := by rw [List.length_append, List.length_singleton]; omega
  rw [h3]
  simp
end GS
namespace GM
open PySem L2 GS
/-- all trees that can be asked -/
theorem BookOk.bk {h : Nat} {b : Bk} (B : BookOk h b) : BkOk h b :=
  ⟨by have := B.len; omega, fun p m => (B.trees p m).ht, fun p m => by have := (B.trees p m).sz; omega, fun p m e => by have := (B.trees p m).kn; rw [e] at this; cases this⟩
theorem TreeOk.graft {h : Nat} {t : Tr} (o : TreeOk h t) : t.isGraft = decide (0 < t.feet.length) ∧ L2.atI (t.feet.map PyData.str ++ [.str t.word]) 0 = some (.str t.name) := by
  have := o.feet
  unfold Tr.isGraft Tr.name
  cases hq : t.feet with
  | nil => simp
  | cons a r =>
    rw [hq] at this
    cases r with
    | nil => simp
    | cons b r => simp at this
end GM
namespace GM
open PySem L2 GS
end GM
namespace GM
open PySem L2 GS
theorem okEq_str {s : Str} (h : PyData.strOk s = true) : okEq (.str s) = true := okEq_of (by rw [cleanB]; exact h) (by rw [PyData.depth]; omega)
def noT (i : Nat) : Xc := ⟨"NoText", [("at", .int i)]⟩
end GM
namespace GM
open PySem L2 GS
end GM
namespace GM
open PySem L2 GS
def hd1 (w : Str) : Str := cutS w none (some 1)
end GM
namespace GM
open PySem L2 GS
@[simp] theorem isD_enc (neg : Bool) (t : Tr) : isD neg t.enc .none = some (.sh (.bool neg)) := by
  obtain ⟨w, r, h⟩ := enc_word t
  rw [h]; rfl
section
variable {n : Nat} {Fw Ft Fx Fk Fn : FF}
end
end GM
namespace GM
open PySem L2 GS
section
variable {n : Nat} {Fd Fn Fl : FF}
end
end GM
namespace GM
open PySem L2 GS
/-- piece_at(tree, place); slots 0:tree 1:place 2:found 3:number 4:kids -/
def m_piece_at_2_b1 (F_NoPlace F_kids_of : FF) : SF := (sKill [3, 4] (sSeq (sSet 4 (eCall 1 none F_kids_of (aCons (eMv 2) aNil))) (sSeq (sIf (eNot (eB (eChain (ltI fun i j => decide (i ≤ j)) (ltI fun i j => decide (i < j)) (eC (.int 0)) (eVb 3) (eCB (un1 lenD) (aCons (eVb 4) aNil))))) (sRaise F_NoPlace "NoPlace" ["place"] (aCons (eMv 1) aNil)) sNil) (sSet 2 (eBin ixA (eVb 4) (eVb 3))))))
def m_piece_at_2 (F_NoPlace F_kids_of : FF) : SF := (sSeq (sSet 2 (eMv 0)) (sSeq (sFor (iSq (eMv 1)) (gN 3) (m_piece_at_2_b1 F_NoPlace F_kids_of)) (sEnd (sRet (eRv 2)))))
theorem m_piece_at_2_eq (F_NoPlace F_kids_of : FF) (ρ : Rho) : fnF 5 2 (m_piece_at_2 F_NoPlace F_kids_of) ρ = finR 2 (m_piece_at_2 F_NoPlace F_kids_of (ρ ++ [none, none, none])) := fnF_eq 5 2 _
end GM
namespace GM
open PySem L2 GS
theorem map_int_mid {p : List Nat} {pre post : List D} {d : D} (hd : (p.map fun n : Nat => PyData.int (n : Int)) = pre ++ d :: post) : ∃ k, p[pre.length]? = some k ∧ d = .int (k : Int) := by
  have h2 : (p.map fun n : Nat => PyData.int (n : Int))[pre.length]? = some d := by rw [hd, List.getElem?_append_right (Nat.le_refl _), Nat.sub_self]; rfl
  rw [List.getElem?_map] at h2
  obtain ⟨k, h3, h4⟩ := Option.map_eq_some_iff.mp h2
  exact ⟨k, h3, h4.symm⟩
theorem piece_at_2_ok {Fx Fk : FF} (hk : KidsSp Fk) : PieceSp (fnF 5 2 (m_piece_at_2 Fx Fk)) := fun t p u hu => by
  rw [m_piece_at_2_eq]
  obtain ⟨v, hf, hv⟩ := forL_by (S := Tr) (g := gN 3) (b := m_piece_at_2_b1 Fx Fk) (fun v => [some ⟨t.enc, .sh⟩, some ⟨encP p, .sh⟩, some ⟨v.enc, .sh⟩, none, none])
    (fun pre v => t.at (p.take pre.length) = some v) (p.map fun n : Nat => PyData.int (n : Int)) t (by simp [Tr.at]) (fun pre d post v hd hv => by
      obtain ⟨k, hk1, rfl⟩ := map_int_mid hd
      have htk : p.take (pre.length + 1) = p.take pre.length ++ [k] := by rw [List.take_succ, hk1]; rfl
      obtain ⟨w, hw⟩ := at_pre (t := t) (p := p.take (pre.length + 1)) (q := p.drop (pre.length + 1)) (u := u) (by rw [List.take_append_drop]; exact hu)
      have hw2 := hw
      rw [htk, at_snoc, hv] at hw2
      simp only [Option.bind_some] at hw2
      have hlt : k < v.kids.length := (List.getElem?_eq_some_iff.mp hw2).1
      have ea : L2.atI (v.kids.map Tr.enc) (k : Int) = some w.enc := by
        rw [atI_nat (xs := v.kids.map Tr.enc) (j := k) (v := w.enc) (by rw [List.getElem?_map, hw2]; rfl)]
      refine ⟨w, ?_, by rw [List.length_append, List.length_singleton]; exact hw⟩
      simp [m_piece_at_2_b1, hk v, hlt, ea])
  rw [List.length_map, List.take_length, hu] at hv
  cases hv
  have hf' : forL (gN 3) (m_piece_at_2_b1 Fx Fk) (p.map fun n : Nat => PyData.int (n : Int)) [some ⟨t.enc, .sh⟩, some ⟨encP p, .sh⟩, some ⟨t.enc, .sh⟩, none, none] = .nx [some ⟨t.enc, .sh⟩, some ⟨encP p, .sh⟩, some ⟨u.enc, .sh⟩, none, none] := hf
  simp only [encP] at hf' ⊢
  simp [m_piece_at_2, hf']
theorem signs_le (t : Tr) : t.signs.length ≤ t.pieces.length := by unfold Tr.signs; exact List.length_filterMap_le _ _
def Tr.deep (t : Tr) : Bool := t.places.any fun p => decide (12 ≤ p.length)
theorem in_strs (neg : Bool) (k : Str) (ks : List Str) (h1 : PyData.strOk k = true) (h2 : ∀ k ∈ ks, PyData.strOk k = true) : inB neg (.str k) (.list (ks.map .str)) = some (.sh (.bool (neg ^^ decide (k ∈ ks)))) := by
  have o2 : okEq (.list (ks.map .str)) = true := okEq_of (strs_clean h2).1 (by
    rw [PyData.depth]
    have := depthAll_of (ds := ks.map PyData.str) (n := 0) fun d m => by obtain ⟨f, _, rfl⟩ := List.mem_map.mp m; exact Nat.le_refl _
    omega)
  rw [inB_l, okEq_str h1, o2]
  have e : (ks.map PyData.str).any (fun z => PyData.eqv z (.str k)) = decide (k ∈ ks) := by
    rw [List.any_map, Bool.eq_iff_iff, List.any_eq_true, decide_eq_true_eq]
    simp [PyData.eqv]
  rw [e]; rfl
end GM
namespace ZM
open PySem
open PySem.Sem (wp)
/-- an iterator over a tuple (t) or a list, and what it goes over -/
def ItAt : Bool → Heap → Addr → Addr → Nat → Prop
  | true, h, a, l, i => h.IsTupleIter a l i
  | false, h, a, l, i => h.IsListIter a l i
def SqAt : Bool → Heap → Addr → Array Value → Prop
  | true, h, l, xs => h.IsTuple l xs
  | false, h, l, xs => h.IsList l xs
theorem ItAt.but {t : Bool} {h h' : Heap} {a b l : Addr} {i : Nat} (x : ItAt t h a l i) (hs : Heap.ExtBut b h h') (ne : a ≠ b) : ItAt t h' a l i := by
  cases t
  · exact Heap.IsListIter.extBut x hs ne
  · exact Heap.IsTupleIter.extBut x hs ne
theorem ItAt.at {t : Bool} {h h' : Heap} {a l : Addr} {i : Nat} (x : ItAt t h a l i) (e : ∀ o, h.get? a = some o → h'.get? a = some o) : ItAt t h' a l i := by
  cases t
  · exact Heap.IsListIter.at x e
  · exact Heap.IsTupleIter.at x e
theorem SqAt.but {t : Bool} {h h' : Heap} {b l : Addr} {xs : Array Value} (x : SqAt t h l xs) (hs : Heap.ExtBut b h h') (ne : l ≠ b) : SqAt t h' l xs := by
  cases t
  · exact Heap.IsList.extBut x hs ne
  · exact Heap.IsTuple.extBut x hs ne
theorem SqAt.lt {t : Bool} {h : Heap} {l : Addr} {xs : Array Value} (x : SqAt t h l xs) : l < h.objs.size := by
  cases t
  · obtain ⟨_, e, _⟩ := (show h.IsList l xs from x); exact Heap.lt_size e
  · obtain ⟨_, e, _⟩ := (show h.IsTuple l xs from x); exact Heap.lt_size e
theorem ItAt.obj {t : Bool} {h : Heap} {a l : Addr} {i : Nat} (x : ItAt t h a l i) : ∃ o, h.get? a = some o ∧ ∀ v, o.data ≠ .seq v := by
  cases t
  · obtain ⟨o, e, _, d⟩ := (show h.IsListIter a l i from x); exact ⟨o, e, fun v q => by rw [d] at q; cases q⟩
  · obtain ⟨o, e, _, d⟩ := (show h.IsTupleIter a l i from x); exact ⟨o, e, fun v q => by rw [d] at q; cases q⟩
section
variable {prog : Program} {w : World} {A : Around} {E : Value → Shared → Prop} {s : Shared}
theorem nx_item {t : Bool} {it l : Addr} {i : Nat} {items : Array Value} {x : Value} {Q : Value → Shared → Prop} (hit : ItAt t s.heap it l i) (hl : SqAt t s.heap l items) (hx : items[i]? = some x)
    (hQ : ∀ h', ItAt t h' it l (i + 1) → Heap.SameBut it s.heap h' → Q x { s with heap := h' }) : wpAny (model prog w) A (Builtin.SmallTypes.nextOf (.ref it)) Q E s := by
  cases t
  · exact wpAny_nextOf_list_item hit hl hx hQ
  · exact RZ.nextOf_tuple_item hit hl hx hQ
theorem nx_end {t : Bool} {it l : Addr} {i : Nat} {items : Array Value} {Q : Value → Shared → Prop} (hh : A.handled = none) (hit : ItAt t s.heap it l i) (hl : SqAt t s.heap l items) (hx : items[i]? = none)
    (hE : ∀ h' e, Heap.ExtBut it s.heap h' → (∃ o, h'.get? e = some o ∧ o.cls = .type "StopIteration") → E (.ref e) { s with heap := h' }) : wpAny (model prog w) A (Builtin.SmallTypes.nextOf (.ref it)) Q E s := by
  cases t
  · exact wpAny_nextOf_list_end hh hit hl hx hE
  · exact RZ.nextOf_tuple_end hh hit hl hx hE
theorem zm_item {t1 t2 : Bool} {z TI TO i1 i2 l1 l2 : Addr} {k1 k2 : Nat} {xs ys : Array Value} {x y a b : Value} {Q : Value → Shared → Prop} (D : ZipApart z TI TO i1 i2 l1 l2)
    (hz : IsZip s.heap z TI TO .none) (hTI : IsPair s.heap TI (.ref i1) (.ref i2)) (hTO : IsPair s.heap TO a b)
    (h1 : ItAt t1 s.heap i1 l1 k1) (h2 : ItAt t2 s.heap i2 l2 k2) (hl1 : SqAt t1 s.heap l1 xs) (hl2 : SqAt t2 s.heap l2 ys) (hx : xs[k1]? = some x) (hy : ys[k2]? = some y)
    (hQ : ∀ h', IsZip h' z TI TO (rawInt s.heap.objs.size) → IsPair h' TO x y → ItAt t1 h' i1 l1 (k1 + 1) → ItAt t2 h' i2 l2 (k2 + 1) → IsPair h' s.heap.objs.size x y → h'.objs.size = s.heap.objs.size + 1 →
      (∀ c o, c ≠ z → c ≠ TO → c ≠ i1 → c ≠ i2 → s.heap.get? c = some o → h'.get? c = some o) → Q (.ref s.heap.objs.size) { s with heap := h' }) :
    wpAny (model prog w) A (Builtin.«zip.__next__» ⟨[.ref z], []⟩) (fun fin s' => ∃ v, fin = .done (.ret v) ∧ Q v s') E s := by
  show wpAny _ _ (field (.ref z) 2 >>= _) _ _ _
  refine wpAny_bind (wpAny_field hz rfl (x := .bool false) rfl ?_)
  show wpAny _ _ (field (.ref z) 3 >>= _) _ _ _
  refine wpAny_bind (wpAny_field hz rfl (x := .ref TI) rfl ?_)
  refine wpAny_bind (wpAny_seqItems hTI rfl ?_)
  show wpAny _ _ (Builtin.SmallTypes.ownedTupleIsFree (.ref z) >>= _) _ _ _
  refine wpAny_bind ?_
  unfold Builtin.SmallTypes.ownedTupleIsFree
  refine wpAny_bind (wpAny_field hz rfl (x := .none) rfl (wpAny_pure ?_))
  simp only [if_true]
  refine wpAny_bind (wpAny_rule ?_)
  refine wpAny_bind (wpAny_field hz rfl (x := .ref TO) rfl ?_)
  refine wpAny_bind (wpAny_setField_rec hz (by simp) fun h₁ hz₁ hs₁ => ?_)
  replace hz₁ : IsZip h₁ z TI TO .ellipsis := hz₁
  refine wpAny_bind ?_
  simp only [List.zipIdx_cons, List.zipIdx_nil, List.forIn_cons, List.forIn_nil]
  refine wpAny_bind (wpAny_bind (wpAny_onRaise ?_))
  show wpAny _ _ (Builtin.SmallTypes.nextOf (.ref i1) >>= _) _ _ _
  refine wpAny_bind (nx_item (h1.but hs₁.extBut D.i1z) (hl1.but hs₁.extBut D.l1z) hx fun h₂ h1₂ hs₂ => wpAny_pure ?_)
  have hTO₂ : IsPair h₂ TO a b := hs₂.extBut _ _ D.TOi1 (hs₁.extBut _ _ D.TOz hTO)
  refine wpAny_bind (wpAny_seqItems hTO₂ rfl ?_)
  refine wpAny_bind (wpAny_updateSeq_pair hTO₂ fun h₃ hTO₃ hs₃ => ?_)
  replace hTO₃ : IsPair h₃ TO x b := hTO₃
  refine wpAny_bind (wpAny_letGo (wpAny_pure ?_))
  refine wpAny_bind (wpAny_bind (wpAny_onRaise ?_))
  show wpAny _ _ (Builtin.SmallTypes.nextOf (.ref i2) >>= _) _ _ _
  refine wpAny_bind (nx_item (((h2.but hs₁.extBut D.i2z).but hs₂.extBut D.i12.symm).but hs₃.extBut D.TOi2.symm)
    (((hl2.but hs₁.extBut D.l2z).but hs₂.extBut D.l2i1).but hs₃.extBut D.l2TO) hy fun h₄ h2₄ hs₄ => wpAny_pure ?_)
  have hTO₄ : IsPair h₄ TO x b := hs₄.extBut _ _ D.TOi2 hTO₃
  refine wpAny_bind (wpAny_seqItems hTO₄ rfl ?_)
  refine wpAny_bind (wpAny_updateSeq_pair hTO₄ fun h₅ hTO₅ hs₅ => ?_)
  replace hTO₅ : IsPair h₅ TO x y := hTO₅
  refine wpAny_bind (wpAny_letGo (wpAny_pure (wpAny_pure ?_)))
  refine wpAny_bind (wpAny_seqItems hTO₅ rfl ?_)
  refine wpAny_bind (wpAny_newTuple ?_)
  have hsz : h₅.objs.size = s.heap.objs.size := by rw [hs₅.1, hs₄.1, hs₃.1, hs₂.1, hs₁.1]
  have hz₅ : IsZip h₅ z TI TO .ellipsis := hs₅.extBut _ _ D.TOz.symm (hs₄.extBut _ _ D.i2z.symm (hs₃.extBut _ _ D.TOz.symm (hs₂.extBut _ _ D.i1z.symm hz₁)))
  have hk₅ : ∀ c o, c ≠ z → c ≠ TO → c ≠ i1 → c ≠ i2 → s.heap.get? c = some o → h₅.get? c = some o := fun c o c1 c2 c3 c4 e =>
    hs₅.extBut _ _ c2 (hs₄.extBut _ _ c4 (hs₃.extBut _ _ c2 (hs₂.extBut _ _ c3 (hs₁.extBut _ _ c1 e))))
  have h1₅ : ItAt t1 h₅ i1 l1 (k1 + 1) := ((h1₂.but hs₃.extBut D.TOi1.symm).but hs₄.extBut D.i12).but hs₅.extBut D.TOi1.symm
  have h2₅ : ItAt t2 h₅ i2 l2 (k2 + 1) := h2₄.but hs₅.extBut D.TOi2.symm
  have hzlt : z < h₅.objs.size := Heap.lt_size hz₅
  show wpAny _ _ (Builtin.SmallTypes.ownedTupleHandOut (.ref z) (.ref h₅.objs.size) >>= _) _ _ _
  refine wpAny_bind ?_
  unfold Builtin.SmallTypes.ownedTupleHandOut
  have hz₆ : IsZip (h₅.push { cls := .type "tuple", data := .seq #[x, y] }) z TI TO .ellipsis := Heap.get?_push_of_some _ hz₅
  refine wpAny_bind (wpAny_setField_rec hz₆ (by simp) fun h₇ hz₇ hs₇ => ?_)
  replace hz₇ : IsZip h₇ z TI TO (rawInt h₅.objs.size) := hz₇
  refine wpAny_setField_rec hz₇ (by simp) fun h₈ hz₈ hs₈ => ?_
  replace hz₈ : IsZip h₈ z TI TO (rawInt h₅.objs.size) := hz₈
  have up : ∀ c o, c ≠ z → h₅.get? c = some o → h₈.get? c = some o := fun c o c1 e => hs₈.extBut _ _ c1 (hs₇.extBut _ _ c1 (Heap.get?_push_of_some _ e))
  have hT₈ : IsPair h₈ h₅.objs.size x y := hs₈.extBut _ _ (Nat.ne_of_gt hzlt) (hs₇.extBut _ _ (Nat.ne_of_gt hzlt) (Heap.get?_push_size _ rfl))
  have hz8 : h₈.objs.size = h₅.objs.size + 1 := by rw [hs₈.1, hs₇.1, Heap.size_push]
  rw [hsz] at hz₈ hT₈ hz8
  refine wpAny_pure ⟨_, rfl, ?_⟩
  show Q (.ref h₅.objs.size) _
  rw [hsz]
  exact hQ h₈ hz₈ (up _ _ D.TOz hTO₅) (h1₅.at fun o e => up _ o D.i1z e) (h2₅.at fun o e => up _ o D.i2z e) hT₈ hz8 fun c o c1 c2 c3 c4 e => up c o c1 (hk₅ c o c1 c2 c3 c4 e)
theorem zm_end {t1 t2 : Bool} {z TI TO i1 i2 l1 l2 : Addr} {k1 k2 : Nat} {xs ys : Array Value} {a b : Value} {Q : Fin → Shared → Prop} (hh : A.handled = none) (D : ZipApart z TI TO i1 i2 l1 l2)
    (hz : IsZip s.heap z TI TO .none) (hTI : IsPair s.heap TI (.ref i1) (.ref i2)) (hTO : IsPair s.heap TO a b)
    (h1 : ItAt t1 s.heap i1 l1 k1) (h2 : ItAt t2 s.heap i2 l2 k2) (hl1 : SqAt t1 s.heap l1 xs) (hl2 : SqAt t2 s.heap l2 ys) (hend : xs[k1]? = none ∨ ys[k2]? = none)
    (hE : ∀ h' e, (∀ c o, c ≠ z → c ≠ TO → c ≠ i1 → c ≠ i2 → s.heap.get? c = some o → h'.get? c = some o) → (∃ o, h'.get? e = some o ∧ o.cls = .type "StopIteration") → E (.ref e) { s with heap := h' }) :
    wpAny (model prog w) A (Builtin.«zip.__next__» ⟨[.ref z], []⟩) Q E s := by
  show wpAny _ _ (field (.ref z) 2 >>= _) _ _ _
  refine wpAny_bind (wpAny_field hz rfl (x := .bool false) rfl ?_)
  show wpAny _ _ (field (.ref z) 3 >>= _) _ _ _
  refine wpAny_bind (wpAny_field hz rfl (x := .ref TI) rfl ?_)
  refine wpAny_bind (wpAny_seqItems hTI rfl ?_)
  show wpAny _ _ (Builtin.SmallTypes.ownedTupleIsFree (.ref z) >>= _) _ _ _
  refine wpAny_bind ?_
  unfold Builtin.SmallTypes.ownedTupleIsFree
  refine wpAny_bind (wpAny_field hz rfl (x := .none) rfl (wpAny_pure ?_))
  simp only [if_true]
  refine wpAny_bind (wpAny_rule ?_)
  refine wpAny_bind (wpAny_field hz rfl (x := .ref TO) rfl ?_)
  refine wpAny_bind (wpAny_setField_rec hz (by simp) fun h₁ hz₁ hs₁ => ?_)
  replace hz₁ : IsZip h₁ z TI TO .ellipsis := hz₁
  refine wpAny_bind ?_
  simp only [List.zipIdx_cons, List.zipIdx_nil, List.forIn_cons, List.forIn_nil]
  refine wpAny_bind (wpAny_bind (wpAny_onRaise ?_))
  show wpAny _ _ (Builtin.SmallTypes.nextOf (.ref i1) >>= _) _ _ _
  cases hx : xs[k1]? with
  | none =>
    refine wpAny_bind (nx_end hh (h1.but hs₁.extBut D.i1z) (hl1.but hs₁.extBut D.l1z) hx fun h₂ e hs₂ he => ?_)
    obtain ⟨oe, hoe, hce⟩ := he
    have hz₂ : IsZip h₂ z TI TO .ellipsis := hs₂ _ _ D.i1z.symm hz₁
    have hez : e ≠ z := fun x => by subst x; rw [hz₂] at hoe; cases hoe; simp at hce
    refine wpAny_setField_rec hz₂ (by simp) fun h₃ _ hs₃ => hE h₃ e (fun c o c1 _ c3 _ x => hs₃.extBut _ _ c1 (hs₂ _ _ c3 (hs₁.extBut _ _ c1 x))) ⟨oe, hs₃.extBut _ _ hez hoe, hce⟩
  | some x =>
    have hy : ys[k2]? = none := by rcases hend with h | h; rw [hx] at h; cases h; exact h
    refine wpAny_bind (nx_item (h1.but hs₁.extBut D.i1z) (hl1.but hs₁.extBut D.l1z) hx fun h₂ h1₂ hs₂ => wpAny_pure ?_)
    have hTO₂ : IsPair h₂ TO a b := hs₂.extBut _ _ D.TOi1 (hs₁.extBut _ _ D.TOz hTO)
    refine wpAny_bind (wpAny_seqItems hTO₂ rfl ?_)
    refine wpAny_bind (wpAny_updateSeq_pair hTO₂ fun h₃ hTO₃ hs₃ => ?_)
    refine wpAny_bind (wpAny_letGo (wpAny_pure ?_))
    refine wpAny_bind (wpAny_bind (wpAny_onRaise ?_))
    show wpAny _ _ (Builtin.SmallTypes.nextOf (.ref i2) >>= _) _ _ _
    refine wpAny_bind (nx_end hh (((h2.but hs₁.extBut D.i2z).but hs₂.extBut D.i12.symm).but hs₃.extBut D.TOi2.symm)
      (((hl2.but hs₁.extBut D.l2z).but hs₂.extBut D.l2i1).but hs₃.extBut D.l2TO) hy fun h₄ e hs₄ he => ?_)
    obtain ⟨oe, hoe, hce⟩ := he
    have hz₄ : IsZip h₄ z TI TO .ellipsis := hs₄ _ _ D.i2z.symm (hs₃.extBut _ _ D.TOz.symm (hs₂.extBut _ _ D.i1z.symm hz₁))
    have hez : e ≠ z := fun x => by subst x; rw [hz₄] at hoe; cases hoe; simp at hce
    refine wpAny_setField_rec hz₄ (by simp) fun h₅ _ hs₅ => hE h₅ e (fun c o c1 c2 c3 c4 x => hs₅.extBut _ _ c1 (hs₄ _ _ c4 (hs₃.extBut _ _ c2 (hs₂.extBut _ _ c3 (hs₁.extBut _ _ c1 x))))) ⟨oe, hs₅.extBut _ _ hez hoe, hce⟩
theorem nextM_item {t1 t2 : Bool} {z TI TO i1 i2 l1 l2 : Addr} {k1 k2 : Nat} {xs ys : Array Value} {x y a b : Value} {Q : Option Value → Shared → Prop} (D : ZipApart z TI TO i1 i2 l1 l2)
    (hz : IsZip s.heap z TI TO .none) (hTI : IsPair s.heap TI (.ref i1) (.ref i2)) (hTO : IsPair s.heap TO a b)
    (h1 : ItAt t1 s.heap i1 l1 k1) (h2 : ItAt t2 s.heap i2 l2 k2) (hl1 : SqAt t1 s.heap l1 xs) (hl2 : SqAt t2 s.heap l2 ys) (hx : xs[k1]? = some x) (hy : ys[k2]? = some y)
    (hQ : ∀ h', IsZip h' z TI TO (rawInt s.heap.objs.size) → IsPair h' TO x y → ItAt t1 h' i1 l1 (k1 + 1) → ItAt t2 h' i2 l2 (k2 + 1) → IsPair h' s.heap.objs.size x y → h'.objs.size = s.heap.objs.size + 1 →
      (∀ c o, c ≠ z → c ≠ TO → c ≠ i1 → c ≠ i2 → s.heap.get? c = some o → h'.get? c = some o) → Q (some (.ref s.heap.objs.size)) { s with heap := h' }) :
    wpAny (model prog w) A (pyNext (.ref z)) Q E s := by
  have hT : s.TypeIs (.ref z) "zip" := ⟨_, hz, rfl⟩
  unfold pyNext
  exact wpAny_bind (wpAny_attempt (wpAny_callSpecial?_slot (name := Str.ofString "__next__") hT F.slot_zip_next
    (wpAny_call_entry F.slot_zip_next hT F.entry_zip_next
      (zm_item D hz hTI hTO h1 h2 hl1 hl2 hx hy fun h' a1 a2 a3 a4 a5 a6 a7 => wpAny_pure (hQ h' a1 a2 a3 a4 a5 a6 a7)) (F.args_zip_next_1 _))))
theorem nextM_end {t1 t2 : Bool} {z TI TO i1 i2 l1 l2 : Addr} {k1 k2 : Nat} {xs ys : Array Value} {a b : Value} {Q : Option Value → Shared → Prop} (hh : A.handled = none) (D : ZipApart z TI TO i1 i2 l1 l2)
    (hz : IsZip s.heap z TI TO .none) (hTI : IsPair s.heap TI (.ref i1) (.ref i2)) (hTO : IsPair s.heap TO a b)
    (h1 : ItAt t1 s.heap i1 l1 k1) (h2 : ItAt t2 s.heap i2 l2 k2) (hl1 : SqAt t1 s.heap l1 xs) (hl2 : SqAt t2 s.heap l2 ys) (hend : xs[k1]? = none ∨ ys[k2]? = none)
    (hQ : ∀ h', (∀ c o, c ≠ z → c ≠ TO → c ≠ i1 → c ≠ i2 → s.heap.get? c = some o → h'.get? c = some o) → Q none { s with heap := h' }) : wpAny (model prog w) A (pyNext (.ref z)) Q E s := by
  have hT : s.TypeIs (.ref z) "zip" := ⟨_, hz, rfl⟩
  unfold pyNext
  refine wpAny_bind (wpAny_attempt (wpAny_callSpecial?_slot (name := Str.ofString "__next__") hT F.slot_zip_next
    (wpAny_call_entry F.slot_zip_next hT F.entry_zip_next (zm_end hh D hz hTI hTO h1 h2 hl1 hl2 hend fun h' e hk he => ?_) (F.args_zip_next_1 _))))
  obtain ⟨o, ho, hc⟩ := he
  refine wpAny_bind (wpAny_isInstance (T := "StopIteration") (b := true) ⟨o, ho, hc⟩ isSubtype_stop ?_)
  exact wpAny_pure (hQ _ hk)
end
def itN : Bool → String
  | true => "tuple_iterator"
  | false => "list_iterator"
abbrev mH1 (t1 : Bool) (h : Heap) (l1 : Addr) : Heap := h.push { cls := .type (itN t1), data := .fields #[.ref l1, .int 0 0] }
abbrev mH2 (t1 t2 : Bool) (h : Heap) (l1 l2 : Addr) : Heap := (mH1 t1 h l1).push { cls := .type (itN t2), data := .fields #[.ref l2, .int 0 0] }
abbrev mH3 (t1 t2 : Bool) (h : Heap) (l1 l2 : Addr) : Heap := (mH2 t1 t2 h l1 l2).push { cls := .type "tuple", data := .seq #[.ref h.objs.size, .ref (mH1 t1 h l1).objs.size] }
abbrev mH4 (t1 t2 : Bool) (h : Heap) (l1 l2 : Addr) : Heap := (mH3 t1 t2 h l1 l2).push { cls := .type "tuple", data := .seq #[.none, .none] }
abbrev mH5 (t1 t2 : Bool) (h : Heap) (l1 l2 : Addr) : Heap := (mH4 t1 t2 h l1 l2).push { cls := .type "zip", data := .fields #[.none, .bool false, .bool false, .ref (mH2 t1 t2 h l1 l2).objs.size, .ref (mH3 t1 t2 h l1 l2).objs.size] }
theorem meets_M (t1 t2 : Bool) (l1 l2 : Addr) (xs ys : Array Value) :
    Meets (Builtin.«zip.__new__» ⟨[.type "zip", .ref l1, .ref l2], []⟩) (fun _ R s => SqAt t1 s.heap l1 xs ∧ SqAt t2 s.heap l2 ys ∧
      R (.ok (.ret (.ref (mH4 t1 t2 s.heap l1 l2).objs.size))) { s with heap := mH5 t1 t2 s.heap l1 l2 }) :=
  .of_wp fun prog w A R s h => by
    obtain ⟨hp, g, d, tk, os⟩ := s; obtain ⟨hl1, hl2, h⟩ := h
    have hsub := sub_zip
    cases t1 <;> cases t2
    · have hL1 : Heap.IsList (Shared.heap ⟨hp, g, d, tk, os⟩) l1 xs := hl1
      have hL2 : Heap.IsList (Shared.heap ⟨hp.push { cls := .type "list_iterator", data := .fields #[.ref l1, .int 0 0] }, g, d, tk, os⟩) l2 ys := Heap.IsList.push hl2 _
      wp_walk using wpAny_pyIter_list hL1, wpAny_pyIter_list hL2
      exact ⟨_, rfl, h⟩
    · have hL1 : Heap.IsList (Shared.heap ⟨hp, g, d, tk, os⟩) l1 xs := hl1
      have hL2 : Heap.IsTuple (Shared.heap ⟨hp.push { cls := .type "list_iterator", data := .fields #[.ref l1, .int 0 0] }, g, d, tk, os⟩) l2 ys := Heap.IsTuple.push hl2 _
      wp_walk using wpAny_pyIter_list hL1, wpAny_pyIter_tuple hL2
      exact ⟨_, rfl, h⟩
    · have hL1 : Heap.IsTuple (Shared.heap ⟨hp, g, d, tk, os⟩) l1 xs := hl1
      have hL2 : Heap.IsList (Shared.heap ⟨hp.push { cls := .type "tuple_iterator", data := .fields #[.ref l1, .int 0 0] }, g, d, tk, os⟩) l2 ys := Heap.IsList.push hl2 _
      wp_walk using wpAny_pyIter_tuple hL1, wpAny_pyIter_list hL2
      exact ⟨_, rfl, h⟩
    · have hL1 : Heap.IsTuple (Shared.heap ⟨hp, g, d, tk, os⟩) l1 xs := hl1
      have hL2 : Heap.IsTuple (Shared.heap ⟨hp.push { cls := .type "tuple_iterator", data := .fields #[.ref l1, .int 0 0] }, g, d, tk, os⟩) l2 ys := Heap.IsTuple.push hl2 _
      wp_walk using wpAny_pyIter_tuple hL1, wpAny_pyIter_tuple hL2
      exact ⟨_, rfl, h⟩
theorem it_new {t : Bool} {h : Heap} {a l : Addr} (e : h.get? a = some { cls := .type (itN t), data := .fields #[.ref l, .int 0 0] }) : ItAt t h a l 0 := by
  cases t
  · exact ⟨_, e, rfl, rfl⟩
  · exact ⟨_, e, rfl, rfl⟩
section
variable {prog : Program} {w : World} {A : Around} {E : Value → Shared → Prop} {s : Shared}
theorem call_M {t1 t2 : Bool} {l1 l2 : Addr} {xs ys : Array Value} {Q : Value → Shared → Prop} (hl1 : SqAt t1 s.heap l1 xs) (hl2 : SqAt t2 s.heap l2 ys)
    (h : ∀ h', IsZip h' (s.heap.objs.size + 4) (s.heap.objs.size + 2) (s.heap.objs.size + 3) .none → IsPair h' (s.heap.objs.size + 2) (.ref s.heap.objs.size) (.ref (s.heap.objs.size + 1)) →
      IsPair h' (s.heap.objs.size + 3) .none .none → ItAt t1 h' s.heap.objs.size l1 0 → ItAt t2 h' (s.heap.objs.size + 1) l2 0 → h'.objs.size = s.heap.objs.size + 5 →
      (∀ c o, s.heap.get? c = some o → h'.get? c = some o) → Q (.ref (s.heap.objs.size + 4)) { s with heap := h' }) :
    wpAny (model prog w) A (call (.type "zip") [.ref l1, .ref l2]) Q E s := by
  refine callType_new F.called_zip (by decide) (F.typeCall_zip_2 _ _) (F.newCall_zip_2 _ _) (fun obj => F.args_object_init_3 obj _ _) F.entry_zip_new
    (meets_M t1 t2 l1 l2 xs ys) ⟨hl1, hl2, ?_⟩
  have z1 : (mH1 t1 s.heap l1).objs.size = s.heap.objs.size + 1 := Heap.size_push ..
  have z2 : (mH2 t1 t2 s.heap l1 l2).objs.size = s.heap.objs.size + 2 := by rw [Heap.size_push, z1]
  have z3 : (mH3 t1 t2 s.heap l1 l2).objs.size = s.heap.objs.size + 3 := by rw [Heap.size_push, z2]
  have z4 : (mH4 t1 t2 s.heap l1 l2).objs.size = s.heap.objs.size + 4 := by rw [Heap.size_push, z3]
  have z5 : (mH5 t1 t2 s.heap l1 l2).objs.size = s.heap.objs.size + 5 := by rw [Heap.size_push, z4]
  have g5 : (mH5 t1 t2 s.heap l1 l2).get? (mH4 t1 t2 s.heap l1 l2).objs.size = some _ := Heap.get?_push_size _ rfl
  have g4 : (mH5 t1 t2 s.heap l1 l2).get? (mH3 t1 t2 s.heap l1 l2).objs.size = some _ := Heap.get?_push_of_some _ (Heap.get?_push_size _ rfl)
  have g3 : (mH5 t1 t2 s.heap l1 l2).get? (mH2 t1 t2 s.heap l1 l2).objs.size = some _ := Heap.get?_push_of_some _ (Heap.get?_push_of_some _ (Heap.get?_push_size _ rfl))
  have g2 : (mH5 t1 t2 s.heap l1 l2).get? (mH1 t1 s.heap l1).objs.size = some _ := Heap.get?_push_of_some _ (Heap.get?_push_of_some _ (Heap.get?_push_of_some _ (Heap.get?_push_size _ rfl)))
  have g1 : (mH5 t1 t2 s.heap l1 l2).get? s.heap.objs.size = some _ := Heap.get?_push_of_some _ (Heap.get?_push_of_some _ (Heap.get?_push_of_some _ (Heap.get?_push_of_some _ (Heap.get?_push_size _ rfl))))
  show _ ∧ _
  rw [z2, z3, z4] at g5
  rw [z1, z2] at g3
  rw [z3] at g4
  rw [z1] at g2
  rw [z4]
  exact ⟨⟨_, g5, rfl⟩, h _ g5 g3 g4 (it_new g1) (it_new g2) z5 fun c o x =>
    Heap.get?_push_of_some _ (Heap.get?_push_of_some _ (Heap.get?_push_of_some _ (Heap.get?_push_of_some _ (Heap.get?_push_of_some _ x))))⟩
end
end ZM
namespace L2
open PySem PySem.Spec PyProof.Rows ZM
def SqV (t : Bool) (K : PySem.W.Frag) (H : Hp) (a : Addr) (xs : List V) : Prop := match t with
  | true => SqT K H a xs
  | false => SqL K H a xs
theorem SqV.here {X : Cx} {pins : List (Addr × Obj)} {σ : St} {H : Hp} {s : Shared} {t : Bool} {a : Addr} {xs : List V} (I : Inv X pins σ H s) (h : SqV t X.K H a xs) : ∃ us, Vals xs us ∧ SqAt t s.heap a us.toArray := by
  cases t
  · obtain ⟨us, rv, p, _⟩ := I.list h; exact ⟨us, rv, p.isList⟩
  · obtain ⟨us, rv, p, _⟩ := I.tuple h; exact ⟨us, rv, p⟩
theorem SqV.inj {X : Cx} {pins : List (Addr × Obj)} {σ : St} {H : Hp} {s : Shared} {t : Bool} {a : Addr} {xs ys : List V} (I : Inv X pins σ H s) (h : SqV t X.K H a xs) (h' : SqV t X.K H a ys) : xs = ys := by
  cases t
  · exact I.list_inj h h'
  · exact I.tuple_inj h h'
/-- both as they stand at each turn, the items in new pairs -/
def ItzM (t1 t2 : Bool) (K : PySem.W.Frag) (a b : Addr) : It :=
  ⟨fun i H => ∃ (xs ys : List V) (x y : V), SqV t1 K H a xs ∧ SqV t2 K H b ys ∧ xs[i]? = some x ∧ ys[i]? = some y,
    fun i H v H' => ∃ T o x y, v = .ref T ∧ H T = none ∧ o.dict = none ∧ H' = upd H T (.frz o (.tup [x, y])) ∧ (∀ xs, SqV t1 K H a xs → xs[i]? = some x) ∧ ∀ ys, SqV t2 K H b ys → ys[i]? = some y,
    fun i H => ∃ xs ys : List V, SqV t1 K H a xs ∧ SqV t2 K H b ys ∧ (xs.length ≤ i ∨ ys.length ≤ i)⟩
theorem turn_zipM {P : Program} {w : World} {K : PySem.W.Frag} {elts : List Expr} {kk : Nat} {tpos : Pos} {t1 t2 : Bool} {a b z TI TO i1 i2 : Addr} (D : ZipApart z TI TO i1 i2 a b) :
    Turn P w K (.Tuple elts kk tpos) (ItzM t1 t2 K a b) [z, TI, TO, i1, i2] z (fun i h => IsZip h z TI TO .none ∧ IsPair h TI (.ref i1) (.ref i2) ∧ (∃ x y, IsPair h TO x y) ∧ ItAt t1 h i1 a i ∧ ItAt t2 h i2 b i) where
  mem := by simp
  obj := fun i h st c hc => by
    obtain ⟨hz, hTI, ⟨x, y, hTO⟩, h1, h2⟩ := st
    have e' : c = z ∨ c = TI ∨ c = TO ∨ c = i1 ∨ c = i2 := by simpa using hc
    rcases e' with q | q | q | q | q
    · rw [q]; exact ⟨_, hz, fun v q => nomatch q⟩
    · rw [q]; exact ⟨_, hTI, fun v q => nomatch q⟩
    · rw [q]; exact ⟨_, hTO, fun v q => nomatch q⟩
    · rw [q]
      cases t1
      · obtain ⟨o, e, _, d⟩ := (show h.IsListIter i1 a i from h1); exact ⟨o, e, fun v q => by rw [d] at q; cases q⟩
      · obtain ⟨o, e, _, d⟩ := (show h.IsTupleIter i1 a i from h1); exact ⟨o, e, fun v q => by rw [d] at q; cases q⟩
    · rw [q]
      cases t2
      · obtain ⟨o, e, _, d⟩ := (show h.IsListIter i2 b i from h2); exact ⟨o, e, fun v q => by rw [d] at q; cases q⟩
      · obtain ⟨o, e, _, d⟩ := (show h.IsTupleIter i2 b i from h2); exact ⟨o, e, fun v q => by rw [d] at q; cases q⟩
  keep := fun i h h' st k => by
    obtain ⟨hz, hTI, ⟨x, y, hTO⟩, h1, h2⟩ := st
    exact ⟨k z (by simp) _ hz, k TI (by simp) _ hTI, ⟨x, y, k TO (by simp) _ hTO⟩, h1.at fun o q => k i1 (by simp) o q, h2.at fun o q => k i2 (by simp) o q⟩
  item := by
    intro X hP hw hK hc i pins s σ H E I hf st hg
    subst hP hw hK
    obtain ⟨hz, hTI, ⟨x0, y0, hTO⟩, h1, h2⟩ := st
    obtain ⟨xs, ys, x, y, hqx, hqy, hx, hy⟩ := hg
    obtain ⟨its, rv, p⟩ := hqx.here I
    obtain ⟨its2, rv2, p2⟩ := hqy.here I
    obtain ⟨u, hu, ru⟩ := rv.get hx
    obtain ⟨u2, hu2, ru2⟩ := rv2.get hy
    have hzl : z < s.heap.objs.size := Heap.lt_size hz
    have l1 : i1 < s.heap.objs.size := by
      cases t1
      · obtain ⟨_, e, _⟩ := (show s.heap.IsListIter i1 a i from h1); exact Heap.lt_size e
      · obtain ⟨_, e, _⟩ := (show s.heap.IsTupleIter i1 a i from h1); exact Heap.lt_size e
    have l2 : i2 < s.heap.objs.size := by
      cases t2
      · obtain ⟨_, e, _⟩ := (show s.heap.IsListIter i2 b i from h2); exact Heap.lt_size e
      · obtain ⟨_, e, _⟩ := (show s.heap.IsTupleIter i2 b i from h2); exact Heap.lt_size e
    refine nextM_item D hz hTI hTO h1 h2 p p2 (x := u) (y := u2) (by simpa using hu) (by simpa using hu2) fun h' z' TO' h1' h2' hT hsz hk => ?_
    refine ⟨_, rfl, wpAny_letOwnedTupleGo_zip (s := { s with heap := h' }) z' fun h'' z'' sb => ?_⟩
    have hT2 : h''.get? s.heap.objs.size = some { cls := .type "tuple", data := .seq #[u, u2] } := (sb.2 _ (Nat.ne_of_gt hzl)).trans hT
    have new : ObjOk X.prog X.w (upd H s.heap.objs.size (.frz { cls := .type "tuple", data := .seq #[u, u2] } (.tup [x, y]))) h'' s.heap.objs.size (.frz { cls := .type "tuple", data := .seq #[u, u2] } (.tup [x, y])) :=
      ⟨hT2, by show 2 ≤ sizeLine; decide, [u, u2], .cons ru (.cons ru2 .nil), ⟨_, hT2, rfl, _, rfl⟩⟩
    have I1 : Inv X pins σ (upd H s.heap.objs.size (.frz { cls := .type "tuple", data := .seq #[u, u2] } (.tup [x, y]))) { s with heap := h'' } :=
      I.turnedNew (t' := s.toks) (ch := [z, TI, TO, i1, i2]) (fun c o hb q => (sb.2 c (fun q' => hb (by simp [q']))).trans (hk c o (fun q' => hb (by simp [q'])) (fun q' => hb (by simp [q'])) (fun q' => hb (by simp [q'])) (fun q' => hb (by simp [q'])) q)) hf (Nat.le_refl _) new
    refine ⟨.ref s.heap.objs.size, _, I1, rfl, ⟨_, _, x, y, rfl, I.hok.fresh (Nat.le_refl _), rfl, rfl, fun l hl => by rw [hl.inj I hqx]; exact hx, fun l hl => by rw [hl.inj I hqy]; exact hy⟩, ⟨z'', ?_, ⟨u, u2, ?_⟩, ?_, ?_⟩, fun c hcm => ?_⟩
    · exact (sb.2 _ D.TIz).trans (hk _ _ D.TIz D.TITO D.TIi1 D.TIi2 hTI)
    · exact (sb.2 _ D.TOz).trans TO'
    · exact h1'.at fun o q => (sb.2 _ D.i1z).trans q
    · exact h2'.at fun o q => (sb.2 _ D.i2z).trans q
    · have hlt : c < s.heap.objs.size := by
        have e' : c = z ∨ c = TI ∨ c = TO ∨ c = i1 ∨ c = i2 := by simpa using hcm
        rcases e' with q | q | q | q | q
        · rw [q]; exact hzl
        · rw [q]; exact Heap.lt_size hTI
        · rw [q]; exact Heap.lt_size hTO
        · rw [q]; exact l1
        · rw [q]; exact l2
      rw [upd_ne (Nat.ne_of_lt hlt)]
      exact (hf c hcm).1
  done := by
    intro X hP hw hK hc i pins s σ H E I hf st hg
    subst hP hw hK
    obtain ⟨hz, hTI, ⟨x0, y0, hTO⟩, h1, h2⟩ := st
    obtain ⟨xs, ys, hqx, hqy, hend⟩ := hg
    obtain ⟨its, rv, p⟩ := hqx.here I
    obtain ⟨its2, rv2, p2⟩ := hqy.here I
    have l1 := rv.length
    have l2 := rv2.length
    have he : its.toArray[i]? = none ∨ its2.toArray[i]? = none := by
      rcases hend with q | q
      · exact .inl (by simp; omega)
      · exact .inr (by simp; omega)
    exact nextM_end (I.ok.hd hc) D hz hTI hTO h1 h2 p p2 he fun h' hk => ⟨rfl, I.turnedL (t' := s.toks) (ch := [z, TI, TO, i1, i2]) (fun c o hb q =>
      hk c o (fun q' => hb (by simp [q'])) (fun q' => hb (by simp [q'])) (fun q' => hb (by simp [q'])) (fun q' => hb (by simp [q'])) q) hf⟩
  self := fun A i s Q E st h => wpAny_pyIter_zip st.1 h
def iZipM (K : PySem.W.Frag) (ta : TA) : TI := fun σ H R => ta σ H fun vs H1 => ∃ t1 t2 a b xs ys, vs = [.ref a, .ref b] ∧ SqV t1 K H1 a xs ∧ SqV t2 K H1 b ys ∧ R (ItzM t1 t2 K a b) H1
theorem pi_zipM {X : Cx} {e e2 : Expr} {ta : TA} {p pos tpos : Pos} {elts : List Expr} {kk : Nat} (hg : Gl X "zip") (hm : X.mg "zip" = none) (ha : PA X [e, e2] ta)
    (hs : starEach [e, e2] X.env = (false, eval e X.env) :: starEach [e2] X.env := by rfl) (hpl : (backTo pos (starEach [e2] X.env)).any (·.1) = false := by rfl) :
    PI X (.Tuple elts kk tpos) (.Call (.Name "zip" p) [e, e2] [] pos) (iZipM X.K ta) := by
  refine ⟨fun pins s σ H R I h => ?_⟩
  refine Call_ (ld_blt I hg hm PyProof.Rows.boot_zip (PyProof.Rows.callWith_type1 (thn (ha.run pos pins s σ H _ I h) fun us s1 ⟨vs, H1, I1, r1, q1⟩ => ?_) hs hpl))
  obtain ⟨t1, t2, a, b, xs, ys, ex, hqx, hqy, q⟩ := q1
  subst ex
  cases r1 with
  | cons r rr =>
    cases rr with
    | cons r' rr =>
      cases rr
      cases r
      cases r'
      obtain ⟨its, rv, p1⟩ := hqx.here I1
      obtain ⟨its2, rv2, p2⟩ := hqy.here I1
      refine call_M p1 p2 fun h' hz hTI hTO h1 h2 hsz hk => wpAny_pyIter_zip hz ?_
      have I2 : Inv X pins σ H1 { s1 with heap := h' } := I1.kept (t' := s1.toks) hk
      refine ⟨s1.heap.objs.size + 4, [s1.heap.objs.size + 4, s1.heap.objs.size + 2, s1.heap.objs.size + 3, s1.heap.objs.size, s1.heap.objs.size + 1], _, _, H1, rfl, I2, turn_zipM (PySem.W.ktu_apart s1.heap.objs.size a b p1.lt p2.lt), ⟨hz, hTI, ⟨_, _, hTO⟩, h1, h2⟩, fun c hcm => ?_, q⟩
      have e' : c = s1.heap.objs.size + 4 ∨ c = s1.heap.objs.size + 2 ∨ c = s1.heap.objs.size + 3 ∨ c = s1.heap.objs.size ∨ c = s1.heap.objs.size + 1 := by simpa using hcm
      have hle : s1.heap.objs.size ≤ c := by
        rcases e' with z | z | z | z | z
        · rw [z]; exact Nat.le_add_right _ _
        · rw [z]; exact Nat.le_add_right _ _
        · rw [z]; exact Nat.le_add_right _ _
        · rw [z]; exact Nat.le_refl _
        · rw [z]; exact Nat.le_add_right _ _
      exact I1.fpOk hle (I1.hok.fresh hle)
theorem walk_zipM {K : PySem.W.Frag} {t1 t2 : Bool} {a b : Addr} {xs ys : List V} {n : Nat} (hn : n = min xs.length ys.length) : Walk (ItzM t1 t2 K a b) n (fun H => SqV t1 K H a xs ∧ SqV t2 K H b ys) (YPairX (fun i => xs[i]?) (fun i => ys[i]?)) := by
  subst hn
  refine ⟨fun i _ hi q => ?_, fun _ q => ⟨xs, ys, q.1, q.2, by omega⟩, fun i H v H' _ q y => ?_⟩
  · have h1 : i < xs.length := by omega
    have h2 : i < ys.length := by omega
    exact ⟨xs, ys, xs[i], ys[i], q.1, q.2, by simp [h1], by simp [h2]⟩
  · obtain ⟨T, o, x, z, h1, h2, h0, h3, h4, h5⟩ := y
    exact ⟨T, o, x, z, h1, h2, h0, h3, h4 xs q.1, h5 ys q.2⟩
end L2
namespace GS
open PySem L2
def zipD (ds es : List D) : List D := (ds.zip es).map fun p => .tuple [p.1, p.2]
def iZp (fa fb : EF) : IF := fun ρ => bindEI (eCap fa ρ) fun h ρ1 => match h with
  | .sh x => bindEI (eCap fb ρ1) fun h' ρ2 => match h' with
    | .sh y => match seqs x, seqs y with
      | some ds, some es => .ok (zipD ds es) ρ2
      | _, _ => .stuck
    | _ => .stuck
  | _ => .stuck
section
variable {X : Cx} {C : Ct} {ρ ρ1 : Rho} {σ σ1 : St} {B H B1 H1 : Hp} {a b tg : Expr} {ta tb : TE} {fa fb : EF} {pos p tpos : Pos} {K : KW}
theorem sqv_of {v : V} {d : D} {ds : List D} (r : Rp K B v d) (e : seqs d = some ds) : ∃ t a vs, v = .ref a ∧ SqV t K B a vs ∧ RpL K B vs ds := by
  cases d with
  | list es =>
    cases e
    obtain ⟨a, vs, rfl, ha, ra⟩ := Rp.lstE r
    exact ⟨false, a, vs, rfl, ha, ra⟩
  | tuple es =>
    cases e
    obtain ⟨a, vs, rfl, ha, ra⟩ := Rp.tupE r
    exact ⟨true, a, vs, rfl, ha, ra⟩
  | _ => cases e
theorem sqv_up {t : Bool} {a : Addr} {vs : List V} (s : SameT B H) (h : SqV t K B a vs) : SqV t K H a vs := by
  cases t
  · exact same_lT s h
  · exact same_tT s h
theorem it_zip {t1 t2 : Bool} {a b : Addr} {vs ws : List V} {ds es : List D} (h1 : SqV t1 K B a vs) (h2 : SqV t2 K B b ws) (r1 : RpL K B vs ds) (r2 : RpL K B ws es) : ItOk K B (zipD ds es) (ItzM t1 t2 K a b) := by
  unfold ItOk
  have hl : (zipD ds es).length = min vs.length ws.length := by unfold zipD; rw [List.length_map, List.length_zip, r1.length, r2.length]
  rw [hl]
  refine (walk_zipM (xs := vs) (ys := ws) rfl).mono (fun H s => ⟨sqv_up s h1, sqv_up s h2⟩) fun i H x H' hi s y => ?_
  obtain ⟨T, o, u, w, q1, q2, q0, q3, q4, q5⟩ := y
  obtain ⟨d, e1, e2⟩ := r1.getV q4
  obtain ⟨d', e3, e4⟩ := r2.getV q5
  refine ⟨.tuple [d, d'], ?_, .inr ⟨T, o, _, _, q1, q2, q0, q3, rfl, .cons e2 (.cons e4 .nil)⟩⟩
  unfold zipD
  rw [List.getElem?_map, (List.getElem?_zip_eq_some (z := (d, d'))).mpr ⟨e1, e3⟩]
  rfl
theorem lk_zip (l : LkE C ta fa) (l' : LkE C tb fb) : LkI C (iZipM C.K (tCons ta (tCons tb tNil))) (iZp fa fb) := fun ρ σ B H R S g => by
  refine l.cap.bindI S g fun hd ρ1 v B1 H1 S1 x1 y1 g1 => ?_
  cases hd with
  | sh x =>
    dsimp only at g1
    refine l'.cap.bindI S1 (GoodI.ext x1 g1) fun hd' ρ2 u B2 H2 S2 x2 y2 g2 => ?_
    cases hd' with
    | sh y =>
      dsimp only at g2
      split at g2
      · rename_i ds es e1 e2
        obtain ⟨t1, a, vs, rfl, h1, r1⟩ := sqv_of (Rp.mono x2.bb y1) e1
        obtain ⟨t2, b, ws, rfl, h2, r2⟩ := sqv_of y2 e2
        exact ⟨t1, t2, a, b, vs, ws, rfl, sqv_up S2.bh h1, sqv_up S2.bh h2, g2 _ B2 H2 S2 x2 (it_zip h1 h2 r1 r2)⟩
      · exact g2.elim
    | _ => exact g2.elim
  | _ => exact g1.elim
theorem si_zip {elts : List Expr} {kk : Nat} (l : SE X C a ta fa) (l' : SE X C b tb fb) (hm : X.mg "zip" = none) (hg : Gl X "zip" := by rfl) (hk : X.K = C.K := by rfl) (hs : starEach [a, b] X.env = (false, eval a X.env) :: starEach [b] X.env := by rfl)
    (hs2 : starEach [b] X.env = (false, eval b X.env) :: starEach [] X.env := by rfl) (hpl : (backTo pos (starEach [b] X.env)).any (·.1) = false := by rfl) :
    SI X C (.Tuple elts kk tpos) (.Call (.Name "zip" p) [a, b] [] pos) (iZipM C.K (tCons ta (tCons tb tNil))) (iZp fa fb) := ⟨by rw [← hk]; exact pi_zipM hg hm (pa_cons l.pe (pa_cons l'.pe pa_nil hs2) hs) hs hpl, lk_zip l.lk l'.lk⟩
end
end GS
namespace HT
open PySem PySem.Spec PyProof.Rows L2
section
variable {prog : Program} {w : World} {A : Around} {E : Value → Shared → Prop} {s : Shared}
theorem rev_places (n : Nat) : Builtin.Slice.sliceAdjust none none (-1) (n : Int) = ((n : Int) - 1, -1) ∧ Builtin.Slice.slicePlaces ((n : Int) - 1) (-1) (-1) = n := by
  refine ⟨?_, ?_⟩
  · unfold Builtin.Slice.sliceAdjust
    simp
  · unfold Builtin.Slice.slicePlaces
    have h1 : ¬ (-1 : Int) > 0 := by omega
    simp only [h1, if_false]
    split <;> simp <;> omega
theorem rev_pick (xs : Array Value) : ((List.range xs.size).filterMap fun (k : Nat) => xs[((xs.size : Int) - 1 + (k : Int) * (-1)).toNat]?) = xs.toList.reverse := by
  have h : (List.range xs.size).map (fun (k : Nat) => xs[((xs.size : Int) - 1 + (k : Int) * (-1)).toNat]?) = xs.toList.reverse.map some := by
    apply List.ext_getElem?
    intro i
    rw [List.getElem?_map, List.getElem?_map]
    by_cases hi : i < xs.size
    · rw [List.getElem?_range hi, List.getElem?_reverse (by simpa using hi)]
      have e : ((xs.size : Int) - 1 + (i : Int) * (-1)).toNat = xs.size - 1 - i := by omega
      simp only [Option.map_some]
      rw [e]
      have hl : xs.toList.length - 1 - i < xs.toList.length := by simp; omega
      rw [List.getElem?_eq_getElem hl]
      simp
    · rw [List.getElem?_eq_none (by simp; omega), List.getElem?_eq_none (by simp; omega)]; rfl
  rw [show ((List.range xs.size).filterMap fun (k : Nat) => xs[((xs.size : Int) - 1 + (k : Int) * (-1)).toNat]?) = ((List.range xs.size).map fun (k : Nat) => xs[((xs.size : Int) - 1 + (k : Int) * (-1)).toNat]?).filterMap id by rw [List.filterMap_map]; rfl, h]
  rw [List.filterMap_map]
  simp
theorem sliceApplied_rev {sl : Addr} {vl vu vs : Value} {n : Nat} {Q : Int × Int × Nat → Shared → Prop} (hs : s.heap.IsSliceOf sl vl vu vs) (pl : IsPart vl none) (pu : IsPart vu none) (ps : IsPart vs (some (-1)))
    (h : Q ((n : Int) - 1, -1, n) s) : wpAny (model prog w) A (Builtin.Slice.sliceApplied (.ref sl) (pure (n : Int))) Q E s := by
  obtain ⟨os, hos, hcs, hds⟩ := id hs
  unfold Builtin.Slice.sliceApplied Builtin.Slice.sliceFields
  refine wpAny_bind (wpAny_bind (wpAny_field hos hds (x := vl) rfl (wpAny_bind (wpAny_field hos hds (x := vu) rfl (wpAny_bind (wpAny_field hos hds (x := vs) rfl (wpAny_pure ?_)))))))
  refine wpAny_bind (slicePart_ ps ?_)
  show wpAny _ _ (if ((-1 : Int) == 0) = true then _ else _) _ _ s
  rw [if_neg (by decide)]
  refine wpAny_bind (slicePart_ pl (wpAny_bind (slicePart_ pu (wpAny_bind (wpAny_pure ?_)))))
  show wpAny _ _ (match Builtin.Slice.sliceAdjust none none (-1) (n : Int) with | (lo, hi) => pure (lo, (-1 : Int), Builtin.Slice.slicePlaces lo hi (-1))) _ _ s
  rw [(rev_places n).1]
  show wpAny _ _ (pure ((n : Int) - 1, (-1 : Int), Builtin.Slice.slicePlaces ((n : Int) - 1) (-1) (-1))) _ _ s
  rw [(rev_places n).2]
  exact wpAny_pure h
theorem getItem_tuple_rev {t sl : Addr} {items : Array Value} {vl vu vs : Value} {Q : Value → Shared → Prop} (ht : IsTup s.heap t items) (hs : s.heap.IsSliceOf sl vl vu vs) (pl : IsPart vl none) (pu : IsPart vu none) (ps : IsPart vs (some (-1)))
    (h : Q (.ref s.heap.objs.size) { s with heap := s.heap.push { cls := .type "tuple", data := .seq items.toList.reverse.toArray } })
    (hsz : items.size ≤ sizeLine) : wpAny (model prog w) A (getItem (.ref t) (.ref sl)) Q E s := by
  have htake : sizeOk (.seq items.toList.reverse.toArray) := by
    show items.toList.reverse.toArray.size ≤ sizeLine
    simpa using hsz
  obtain ⟨os, hos, hcs, hds⟩ := id hs
  have hTs : s.TypeIs (.ref sl) "slice" := ⟨os, hos, hcs⟩
  unfold getItem
  try with_reducible refine wpAny_holding ?_
  first | refine wpAny_bind (wpAny_pure ?_) | skip
  refine wpAny_bind (wpAny_sequenceKey ht.typeIs (by decide) ?_)
  refine wpAny_bind (wpAny_callSpecial?_slot (name := Str.ofString "__getitem__") ht.typeIs PyProof.Rows.slot_tuple_getitem
    (wpAny_call_entry PyProof.Rows.slot_tuple_getitem ht.typeIs PyProof.Rows.entry_tuple_getitem ?_ (PyProof.Rows.args_tuple_getitem _ _)))
  show wpAny _ _ (Builtin.Tuple.tupleItemsOf (.ref t) >>= _) _ _ s
  refine wpAny_bind (tupleItemsOf_ ht ?_)
  refine wpAny_bind (wpAny_typeOf hTs ?_)
  rw [if_pos (by decide)]
  refine wpAny_bind (sliceApplied_rev hs pl pu ps ?_)
  have hno : ¬ ((((items.size : Int) - 1) == 0 && (-1 : Int) == 1 && items.size == items.size) = true) := by
    intro q
    rw [Bool.and_eq_true, Bool.and_eq_true] at q
    exact absurd q.1.2 (by decide)
  show wpAny _ _ (if (((items.size : Int) - 1) == 0 && (-1 : Int) == 1 && items.size == items.size) = true then _ else _) _ _ s
  rw [if_neg hno, rev_pick]
  first
    | exact wpAny_bind (m := Builtin.Tuple.tupleExact _) (wpAny_newObj_type (wpAny_pure ⟨_, rfl, wpAny_pure h⟩) htake)
    | exact wpAny_bind (m := Builtin.Tuple.tupleExact _) (wpAny_newObj_type (wpAny_bind (wpAny_pure (wpAny_pure ⟨_, rfl, wpAny_pure h⟩))) htake)
    | exact wpAny_bind (wpAny_bind (m := Builtin.Tuple.tupleExact _) (wpAny_newObj_type (wpAny_pure (wpAny_pure ⟨_, rfl, wpAny_pure h⟩)) htake))
    | exact wpAny_bind (wpAny_bind (m := Builtin.Tuple.tupleExact _) (wpAny_newObj_type (wpAny_pure ⟨_, rfl, wpAny_pure h⟩) htake))
end
end HT
namespace L2
open PySem PySem.Spec PyProof.Rows HT
def tRevA (K : PySem.W.Frag) (te : TE) : TE := fun σ H Q => te σ H fun x H1 => ∃ a xs, x = .ref a ∧ ((SqL K H1 a xs ∧ ∀ p, H1 p = none → Q (.ref p) (upd H1 p (.lst xs.reverse))) ∨ (SqT K H1 a xs ∧ ∀ p o, H1 p = none → o.dict = none → Q (.ref p) (upd H1 p (.frz o (.tup xs.reverse)))))
section
variable {X : Cx}
theorem pe_revA {e : Expr} {te : TE} {k : Nat} {p1 p2 p3 pos : Pos} (he : PE X e te) : PE X (.Subscript e (.Slice none none (some (.UnaryOp .USub (.Constant (.int 1) k p1) p2)) p3) pos) (tRevA X.K te) := by
  refine ⟨fun pins s σ H Q I h => ?_⟩
  refine Subscript_ (thn (he.run pins s σ H _ I h) fun v s1 ⟨x, H1, I1, r1, q1⟩ => ?_)
  obtain ⟨a, xs, ex, q1⟩ := q1
  subst ex
  cases r1
  have hst : PO X (some (.UnaryOp .USub (.Constant (.int 1) k p1) p2)) (tPart (tUn (rU fun i => .int (-i)) (tC (.int 1)))) := po_some (pe_un un_neg pe_int)
  refine wpAny_Slice (thn (po_none.run pins s1 σ H1 (fun o H2 => o = none ∧ H2 = H1) I1 ⟨rfl, rfl⟩) fun vl s2 ⟨l, H2, I2, pl, el, e2⟩ => ?_)
  subst el e2
  refine thn (po_none.run pins s2 σ H2 (fun o H3 => o = none ∧ H3 = H2) I2 ⟨rfl, rfl⟩) fun vu s3 ⟨u, H3, I3, pu, eu, e3⟩ => ?_
  subst eu e3
  refine thn (hst.run pins s3 σ H3 (fun o H4 => o = some (-1) ∧ H4 = H3) I3 ⟨1, rfl, -1, rfl, rfl, rfl⟩) fun vs s4 ⟨o, H4, I4, ps, eo, e4⟩ => ?_
  subst eo e4
  have I5 : Inv X pins σ H4 { s4 with heap := s4.heap.push { cls := .type "slice", data := .fields #[vl, vu, vs] } } := I4.kept (t' := s4.toks) fun b ob q => Heap.get?_push_of_some _ q
  show wpAny (model X.prog X.w) X.A (subscriptTail e (.Slice none none (some (.UnaryOp .USub (.Constant (.int 1) k p1) p2)) p3) (.ref a) (.ref s4.heap.objs.size)) (EP X pins σ Q) X.xe { s4 with heap := s4.heap.push { cls := .type "slice", data := .fields #[vl, vu, vs] } }
  rcases q1 with ⟨hx, q⟩ | ⟨hx, q⟩
  · obtain ⟨its, r, ht, hz⟩ := I5.list hx
    have hlen := r.length
    refine tail_any (ops := [.ref a, .ref s4.heap.objs.size]) ht.isList.typeIs (PySem.slot_list_getitem.lookup) ?_ (by with_unfolding_all rfl)
    refine wpAny_getItem_list_slice ht.isList (Heap.IsSliceOf.new _ vl vu vs) pl pu ps (by decide) ?_ (by rw [List.size_toArray]; omega)
    rw [PySem.W.krv_pick]
    refine ⟨.ref _, _, I5.laid (t' := s4.toks) (o := .lst xs.reverse) (fun b ob q => Heap.get?_push_of_some _ q) (Nat.le_refl _) ?_, rfl, q _ (I5.hok.fresh (Nat.le_refl _))⟩
    exact ⟨by rw [List.length_reverse]; exact hz, _, 0, r.reverse, Heap.get?_push_size _ rfl⟩
  · obtain ⟨its, r, ht, hz⟩ := I5.tuple hx
    have hlen := r.length
    refine tail_any (ops := [.ref a, .ref s4.heap.objs.size]) ht.typeIs (PyProof.Rows.slot_tuple_getitem.lookup) ?_ (by with_unfolding_all rfl)
    refine getItem_tuple_rev ht (Heap.IsSliceOf.new _ vl vu vs) pl pu ps ?_ (by rw [List.size_toArray]; omega)
    exact ⟨.ref _, _, laidX (ys := xs.reverse) (tk := s4.toks) I5 r.reverse (by rw [List.length_reverse]; exact hz), rfl, q _ _ (I5.hok.fresh (Nat.le_refl _)) rfl⟩
end
end L2
namespace GS
open PySem L2
def eRevA (fe : EF) : EF := fun ρ => bindE (eSet fe ρ) fun h ρ1 => match getH ρ1 h with
  | some (.list ds) => .ok (.fr (.list ds.reverse)) ρ1
  | some (.tuple ds) => .ok (.sh (.tuple ds.reverse)) ρ1
  | _ => .stuck
section
variable {X : Cx} {C : Ct} {e : Expr} {te : TE} {fe : EF} {pos p1 p2 p3 : Pos}
theorem se_revA {k : Nat} (l : SE X C e te fe) (hk : X.K = C.K := by rfl) : SE X C (.Subscript e (.Slice none none (some (.UnaryOp .USub (.Constant (.int 1) k p1) p2)) p3) pos) (tRevA C.K te) (eRevA fe) := ⟨by rw [← hk]; exact pe_revA l.pe, fun ρ σ B H Q S g => by
  refine l.lk.setBind S g fun hd ρ1 x B1 H1 S1 e1 y1 g1 => ?_
  split at g1
  · rename_i ds ed
    obtain ⟨a, vs, rfl, ha, ra⟩ := S1.tp y1 ed
    exact ⟨a, vs, rfl, .inl ⟨ha, newL S1 ra.reverse g1⟩⟩
  · rename_i ds ed
    obtain ⟨a, vs, rfl, ha, ra⟩ := Tp.tup (S1.tp y1 ed)
    exact ⟨a, vs, rfl, .inr ⟨same_tT S1.bh ha, newT S1 ra.reverse g1⟩⟩
  · exact g1.elim⟩
end
end GS
namespace GM
open PySem L2 GS
/-- leaves_of(tree); slots 0:tree 1:pieces 2:place 3:piece -/
def m_leaves_of_ct1 (F_places F_piece_at : FF) : EF := (eB (eBin (eqB true) (eBin ixA (eVb 3) (eC (.int 0))) (eC (.str (Str.ofString "knot")))))
def m_leaves_of_ce2 (F_places F_piece_at : FF) : EF := (eMv 3)
def m_leaves_of_ce3 (F_places F_piece_at : FF) : EF := (eCall 2 none F_piece_at (aCons (eMv 0) (aCons (eMv 2) aNil)))
def m_leaves_of (F_places F_piece_at : FF) : SF := (sSeq (sSet 1 (eLc [2] (iSq (eCall 1 none F_places (aCons (eMv 0) aNil))) (gN 2) (eNox eYes) (eNox (m_leaves_of_ce3 F_places F_piece_at)))) (sEnd (sRet (eLc [3] (iSq (eMv 1)) (gN 3) (eNox (m_leaves_of_ct1 F_places F_piece_at)) (eNox (m_leaves_of_ce2 F_places F_piece_at))))))
theorem m_leaves_of_eq (F_places F_piece_at : FF) (ρ : Rho) : fnF 4 1 (m_leaves_of F_places F_piece_at) ρ = finR 1 (m_leaves_of F_places F_piece_at (ρ ++ [none, none, none])) := fnF_eq 4 1 _
/-- first_amid(book); slots 0:book 1:key 2:tree -/
def m_first_amid_b1 (F_leaves_of F_is_graft : FF) : SF := (sKill [1, 2] (sIf (eAnd (eB (eCall 1 none F_is_graft (aCons (eMv 2) aNil))) (eB (eBin (eqB true) (eBin ixA (eBin ixA (eCall 1 none F_leaves_of (aCons (eMv 2) aNil)) (eNeg (eC (.int 1)))) (eC (.int 0))) (eC (.str (Str.ofString "foot")))))) (sEnd (sRet (eRv 1))) sNil))
def m_first_amid (F_leaves_of F_is_graft : FF) : SF := (sSeq (sFor (iSq (eBin ixA (eVb 0) (eC (.int 1)))) (gT 2 (gsC (gN 1) (gsC (gN 2) gsN))) (m_first_amid_b1 F_leaves_of F_is_graft)) (sEnd (sRet (eC .none))))
theorem m_first_amid_eq (F_leaves_of F_is_graft : FF) (ρ : Rho) : fnF 3 1 (m_first_amid F_leaves_of F_is_graft) ρ = finR 1 (m_first_amid F_leaves_of F_is_graft (ρ ++ [none, none])) := fnF_eq 3 1 _
/-- one_sided(book); slots 0:book -/
def m_one_sided (F_first_amid : FF) : SF := (sEnd (sRet (eBin (isD false) (eCall 1 none F_first_amid (aCons (eMv 0) aNil)) (eC .none))))
theorem m_one_sided_eq (F_first_amid : FF) (ρ : Rho) : fnF 1 1 (m_one_sided F_first_amid) ρ = finR 1 (m_one_sided F_first_amid (ρ ++ [])) := fnF_eq 1 1 _
end GM
namespace GX
open PySem L2 GS GM
def Tr.isK : Tr → Bool
  | .knot _ _ _ => true
  | _ => false
def Tr.leaves (t : Tr) : List Tr := t.pieces.filter fun u => !Tr.isK u
def Tr.head : Tr → Str
  | .sign _ => Str.ofString "sign"
  | .void => Str.ofString "void"
  | .hole _ => Str.ofString "hole"
  | .foot _ => Str.ofString "foot"
  | .knot _ _ _ => Str.ofString "knot"
theorem ix_head (u : Tr) : ixA u.enc (.int 0) = some (.sh (.str (Tr.head u))) := by cases u <;> simp [Tr.enc, Tr.head]
theorem head_knot (u : Tr) : decide (Tr.head u = Str.ofString "knot") = Tr.isK u := by cases u <;> simp [Tr.head, Tr.isK] <;> decide +kernel
theorem head_foot (u : Tr) : decide (Tr.head u = Str.ofString "foot") = u.footN.isSome := by cases u <;> simp [Tr.head, Tr.footN] <;> decide +kernel
def LeavesSp (n : Nat) (F : FF) : Prop := ∀ t : Tr, t.ht ≤ n → t.pieces.length ≤ 100000 → F [some ⟨t.enc, .sh⟩] = .ok (.fr (.list ((Tr.leaves t).map Tr.enc))) [none]
theorem leaves_of_ok {n : Nat} {Fp Fa : FF} (hp : PlacesSp n Fp) (ha : PieceSp Fa) : LeavesSp n (fnF 4 1 (m_leaves_of Fp Fa)) := fun t ht hz => by
  rw [m_leaves_of_eq]
  have ep := hp t ht hz
  obtain ⟨f, hf1, hf2⟩ := place_piece t
  have lp := places_len t
  have h1 := lcL_all (vs := [2]) (g := gN 2) (fe := eNox (m_leaves_of_ce3 Fp Fa)) [some ⟨t.enc, .sh⟩, none, none, none] encP (fun p => [some ⟨t.enc, .sh⟩, none, some ⟨encP p, .sh⟩, none]) (fun p => (f p).enc) t.places [] (fits (by simp; omega)) (fun p m => by
    refine ⟨by simp, by simp, ?_⟩
    have e := ha t p (f p) (hf1 p m)
    simp [m_leaves_of_ce3, e])
  rw [List.nil_append, show (t.places.map fun p => (f p).enc) = t.pieces.map Tr.enc by rw [← hf2, List.map_map]; rfl] at h1
  have h2 := lcL_up (vs := [3]) (g := gN 3) (ft := eNox (m_leaves_of_ct1 Fp Fa)) (fe := eNox (m_leaves_of_ce2 Fp Fa)) [some ⟨t.enc, .sh⟩, some ⟨.list (t.pieces.map Tr.enc), .sh⟩, none, none] Tr.enc (fun u => [some ⟨t.enc, .sh⟩, some ⟨.list (t.pieces.map Tr.enc), .sh⟩, none, some ⟨u.enc, .sh⟩]) (fun u => !Tr.isK u) Tr.enc t.pieces [] (fits (by simp; omega)) (fun u m => by
    refine ⟨by simp, ?_, by simp, fun _ => by simp [m_leaves_of_ce2]⟩
    have := head_knot u
    simp [m_leaves_of_ct1, ix_head, this])
  rw [List.nil_append] at h2
  simp [m_leaves_of, ep, h1, h2, Tr.leaves]
/-- the last leaf is the foot -/
def Tr.lastF (t : Tr) : Bool := match (Tr.leaves t).getLast? with
  | some u => u.footN.isSome
  | none => false
def Tr.amid (t : Tr) : Bool := decide (t.feet.length = 1) && !Tr.lastF t
theorem foot_leaf {t : Tr} (h : 0 < t.feet.length) : Tr.leaves t ≠ [] := by
  obtain ⟨x, hx⟩ := List.exists_mem_of_length_pos h
  obtain ⟨u, m, e⟩ := List.mem_filterMap.mp hx
  refine List.ne_nil_of_mem (a := u) (List.mem_filter.mpr ⟨m, ?_⟩)
  cases u <;> first | rfl | cases e
theorem ix_last {ds : List D} {d : D} (h : ds.getLast? = some d) : ixA (.list ds) (.int (-1)) = some (.sh d) := by
  obtain ⟨l, rfl⟩ := List.getLast?_eq_some_iff.mp h
  show ixD (.list (l ++ [d])) (.int (-1)) = _
  simp [ixD]
theorem first_amid_ok {n : Nat} {Fl Fg : FF} (hl : LeavesSp n Fl) (hg : GraftSp n Fg) (top : D) (ps : List (Str × Tr)) (h1 : ∀ p ∈ ps, p.2.ht ≤ n) (h2 : ∀ p ∈ ps, p.2.pieces.length ≤ 100000) :
    fnF 3 1 (m_first_amid Fl Fg) [some ⟨.tuple [top, .tuple (ps.map encKT)], .sh⟩] = .ok (.sh (match ps.find? (fun p => Tr.amid p.2) with | some p => .str p.1 | none => .none)) [none] := by
  rw [m_first_amid_eq]
  have L := forL_find (g := gT 2 (gsC (gN 1) (gsC (gN 2) gsN))) (b := m_first_amid_b1 Fl Fg) [some ⟨.tuple [top, .tuple (ps.map encKT)], .sh⟩, none, none] [none, none, none] encKT (fun p => if Tr.amid p.2 then some (.sh (.str p.1)) else none) ps (fun p m => by
    have eg := hg p.2 (h1 p m) (h2 p m)
    have el := hl p.2 (h1 p m) (h2 p m)
    by_cases q : p.2.feet.length = 1
    · obtain ⟨u, hu⟩ : ∃ u, (Tr.leaves p.2).getLast? = some u := by
        rw [List.getLast?_eq_getLast (foot_leaf (by omega))]; exact ⟨_, rfl⟩
      have e1 := ix_last (ds := (Tr.leaves p.2).map Tr.enc) (d := u.enc) (by rw [List.getLast?_map, hu]; rfl)
      have e2 := ix_head u
      have e3 := head_foot u
      cases hb : u.footN.isSome with
      | true => 
        rw [hb] at e3
        have e3 := of_decide_eq_true e3
        simp [m_first_amid_b1, encKT, eg, el, q, e1, e2, e3, Tr.amid, Tr.lastF, hu, hb]
      | false =>
        rw [hb] at e3
        have e3 := of_decide_eq_false e3
        simp [m_first_amid_b1, encKT, eg, el, q, e1, e2, e3, Tr.amid, Tr.lastF, hu, hb]
    · simp [m_first_amid_b1, encKT, eg, el, q, Tr.amid])
  have e : (ps.findSome? fun p => if Tr.amid p.2 then some (Hd.sh (.str p.1)) else none) = (ps.find? (fun p => Tr.amid p.2)).map fun p => Hd.sh (.str p.1) := by
    clear L h1 h2
    induction ps with
    | nil => rfl
    | cons p ps ih =>
      rw [List.findSome?_cons, List.find?_cons]
      cases Tr.amid p.2 <;> simp [ih]
  rw [e] at L
  cases hf : ps.find? (fun p => Tr.amid p.2) with
  | none =>
    rw [hf] at L
    simp only [Option.map_none] at L
    simp [m_first_amid, L]
  | some p =>
    rw [hf] at L
    simp only [Option.map_some] at L
    simp [m_first_amid, L]
def OneSp (n : Nat) (F : FF) : Prop := ∀ (top : D) (ps : List (Str × Tr)), (∀ p ∈ ps, p.2.ht ≤ n) → (∀ p ∈ ps, p.2.pieces.length ≤ 100000) → F [some ⟨.tuple [top, .tuple (ps.map encKT)], .sh⟩] = .ok (.sh (.bool (ps.all fun p => !Tr.amid p.2))) [none]
theorem one_sided_ok {n : Nat} {Fl Fg : FF} (hl : LeavesSp n Fl) (hg : GraftSp n Fg) : OneSp n (fnF 1 1 (m_one_sided (fnF 3 1 (m_first_amid Fl Fg)))) := fun top ps h1 h2 => by
  rw [m_one_sided_eq]
  have e := first_amid_ok hl hg top ps h1 h2
  cases hf : ps.find? (fun p => Tr.amid p.2) with
  | none =>
    rw [hf] at e
    have : (ps.all fun p => !Tr.amid p.2) = true := List.all_eq_true.mpr fun p m => by have := List.find?_eq_none.mp hf p m; simpa using this
    simp [m_one_sided, e, this]
  | some p =>
    rw [hf] at e
    have : (ps.all fun p => !Tr.amid p.2) = false := by
      have q1 := List.find?_some hf
      have q2 := List.mem_of_find?_eq_some hf
      cases h : (ps.all fun p => !Tr.amid p.2) with
      | false => rfl
      | true => have := List.all_eq_true.mp h p q2; simp [q1] at this
    simp [m_one_sided, e, this]
end GX
namespace GM
open PySem L2 GS
/-- _law_leaves(piece); slots 0:piece 1:leaves 2:kid -/
def m_law_leaves_b1 (F__law_leaves : FF) : SF := (sKill [2] (sSet 1 (eBin addD (eVb 1) (eCall 1 none F__law_leaves (aCons (eMv 2) aNil)))))
def m_law_leaves (F__law_leaves : FF) : SF := (sSeq (sIf (eB (eBin (eqB true) (eBin ixA (eVb 0) (eC (.int 0))) (eC (.str (Str.ofString "knot"))))) (sEnd (sRet (eLst (aCons (eBin ixA (eVb 0) (eC (.int 0))) aNil)))) sNil) (sSeq (sSet 1 (eLst aNil)) (sSeq (sFor (iSq (eBin ixA (eVb 0) (eC (.int 3)))) (gN 2) (m_law_leaves_b1 F__law_leaves)) (sEnd (sRet (eRv 1))))))
theorem m_law_leaves_eq (F__law_leaves : FF) (ρ : Rho) : fnF 3 1 (m_law_leaves F__law_leaves) ρ = finR 1 (m_law_leaves F__law_leaves (ρ ++ [none, none])) := fnF_eq 3 1 _
/-- _law_signs(piece); slots 0:piece 1:signs 2:kid -/
def m_law_signs_b1 (F__law_signs : FF) : SF := (sKill [2] (sSet 1 (eBin addD (eVb 1) (eCall 1 none F__law_signs (aCons (eMv 2) aNil)))))
def m_law_signs (F__law_signs : FF) : SF := (sSeq (sIf (eB (eBin (eqB false) (eBin ixA (eVb 0) (eC (.int 0))) (eC (.str (Str.ofString "sign"))))) (sEnd (sRet (eLst (aCons (eBin ixA (eVb 0) (eC (.int 1))) aNil)))) sNil) (sSeq (sSet 1 (eLst aNil)) (sSeq (sKill [2] (sIf (eB (eBin (eqB false) (eBin ixA (eVb 0) (eC (.int 0))) (eC (.str (Str.ofString "knot"))))) (sFor (iSq (eBin ixA (eVb 0) (eC (.int 3)))) (gN 2) (m_law_signs_b1 F__law_signs)) sNil)) (sEnd (sRet (eRv 1))))))
theorem m_law_signs_eq (F__law_signs : FF) (ρ : Rho) : fnF 3 1 (m_law_signs F__law_signs) ρ = finR 1 (m_law_signs F__law_signs (ρ ++ [none, none])) := fnF_eq 3 1 _
/-- _law_socket(some); slots 0:some -/
def m_law_socket : SF := (sSeq (sIf (eB (eBin (eqB false) (eBin ixA (eVb 0) (eC (.str (Str.ofString "left")))) (eC (.int 0)))) (sRet (eC (.bool false))) sNil) (sSeq (sPut 0 (eC (.str (Str.ofString "left"))) (eBin subD (eBin ixA (eVb 0) (eC (.str (Str.ofString "left")))) (eC (.int 1)))) (sRet (eC (.bool true)))))
theorem m_law_socket_eq (ρ : Rho) : fnF 1 1 (m_law_socket) ρ = finR 1 (m_law_socket (ρ ++ [])) := fnF_eq 1 1 _
/-- _law_leaf(box, some); slots 0:box 1:some 2:way -/
def m_law_leaf_2 (F__law_pick F__law_socket : FF) : SF := (sSeq (sSet 2 (eCall 2 (some 0) F__law_pick (aCons (eVb 0) (aCons (eC (.int 9)) aNil)))) (sSeq (sIf (eB (eBin (eqB false) (eVb 2) (eC (.int 0)))) (sEnd (sRet (eTup (aCons (eC (.str (Str.ofString "void"))) aNil)))) sNil) (sSeq (sIf (eAnd (eB (eBin (ltI fun i j => decide (i < j)) (eVb 2) (eC (.int 4)))) (eB (eCall 1 (some 0) F__law_socket (aCons (eVb 1) aNil)))) (sEnd (sRet (eTup (aCons (eC (.str (Str.ofString "hole"))) (aCons (eBin ixA (eBin ixA (eVb 1) (eC (.str (Str.ofString "starts")))) (eBin divD (eCall 2 (some 0) F__law_pick (aCons (eVb 0) (aCons (eC (.int 3)) aNil))) (eC (.int 2)))) aNil))))) sNil) (sEnd (sRet (eTup (aCons (eC (.str (Str.ofString "sign"))) (aCons (eBin ixA (eBin ixA (eVb 1) (eC (.str (Str.ofString "signs")))) (eCall 2 (some 0) F__law_pick (aCons (eVb 0) (aCons (eCB (un1 lenD) (aCons (eBin ixA (eVb 1) (eC (.str (Str.ofString "signs")))) aNil)) aNil)))) aNil))))))))
theorem m_law_leaf_2_eq (F__law_pick F__law_socket : FF) (ρ : Rho) : fnF 3 2 (m_law_leaf_2 F__law_pick F__law_socket) ρ = finR 2 (m_law_leaf_2 F__law_pick F__law_socket (ρ ++ [none])) := fnF_eq 3 2 _
/-- _law_worn(box, some); slots 0:box 1:some 2:way -/
def m_law_worn (F__law_pick F__law_socket : FF) : SF := (sSeq (sSet 2 (eCall 2 (some 0) F__law_pick (aCons (eVb 0) (aCons (eC (.int 5)) aNil)))) (sSeq (sIf (eOr (eB (eBin (ltI fun i j => decide (i < j)) (eVb 2) (eC (.int 2)))) (eOr (eNot (eB (eBin ixA (eVb 1) (eC (.str (Str.ofString "knots")))))) (eNot (eB (eCall 1 (some 0) F__law_socket (aCons (eVb 1) aNil)))))) (sEnd (sRet (eC .none))) sNil) (sEnd (sRet (eTup (aCons (eBin ixA (eBin ixA (eVb 1) (eC (.str (Str.ofString "grafts")))) (eBin divD (eCall 2 (some 0) F__law_pick (aCons (eVb 0) (aCons (eC (.int 4)) aNil))) (eC (.int 3)))) (aCons (eBin (eqB false) (eVb 2) (eC (.int 4))) aNil)))))))
theorem m_law_worn_eq (F__law_pick F__law_socket : FF) (ρ : Rho) : fnF 3 2 (m_law_worn F__law_pick F__law_socket) ρ = finR 2 (m_law_worn F__law_pick F__law_socket (ρ ++ [none])) := fnF_eq 3 2 _
/-- _law_knot(box, some, name, deep, foot); slots 0:box 1:some 2:name 3:deep 4:foot 5:worn 6:kids 7:size 8:spot 9:k 10:here -/
def m_law_knot_b1 (F__law_pick F__law_knot F__law_leaf F__law_worn : FF) : SF := (sKill [9, 10] (sSeq (sSet 10 (eC (.str (Str.ofString "")))) (sSeq (sIf (eB (eBin (eqB false) (eVb 9) (eVb 8))) (sSet 10 (eMv 4)) sNil) (sIf (eAnd (eB (eBin (ltI fun i j => decide (j < i)) (eVb 3) (eC (.int 0)))) (eB (eBin (eqB false) (eCall 2 (some 0) F__law_pick (aCons (eVb 0) (aCons (eC (.int 3)) aNil))) (eC (.int 0))))) (sApp 6 (eCallN 5 [0, 1] F__law_knot (aCons (eVb 0) (aCons (eVb 1) (aCons (eBin ixA (eBin ixA (eVb 1) (eC (.str (Str.ofString "starts")))) (eCall 2 (some 0) F__law_pick (aCons (eVb 0) (aCons (eC (.int 2)) aNil)))) (aCons (eBin subD (eVb 3) (eC (.int 1))) (aCons (eMv 10) aNil))))))) (sIf (eB (eBin (eqB true) (eVb 10) (eC (.str (Str.ofString ""))))) (sApp 6 (eTup (aCons (eC (.str (Str.ofString "foot"))) (aCons (eMv 10) aNil)))) (sApp 6 (eCallN 2 [0, 1] F__law_leaf (aCons (eVb 0) (aCons (eVb 1) aNil)))))))))
def m_law_knot (F__law_pick F__law_knot F__law_leaf F__law_worn : FF) : SF := (sSeq (sSet 5 (eCallN 2 [0, 1] F__law_worn (aCons (eVb 0) (aCons (eVb 1) aNil)))) (sSeq (sSet 6 (eLst aNil)) (sSeq (sSet 7 (eBin addD (eC (.int 1)) (eCall 2 (some 0) F__law_pick (aCons (eVb 0) (aCons (eC (.int 3)) aNil))))) (sSeq (sSet 8 (eBin subD (eVb 7) (eC (.int 1)))) (sSeq (sIf (eB (eBin (ltI fun i j => decide (i < j)) (eCall 2 (some 0) F__law_pick (aCons (eVb 0) (aCons (eC (.int 4)) aNil))) (eBin ixA (eVb 1) (eC (.str (Str.ofString "free")))))) (sSet 8 (eCall 2 (some 0) F__law_pick (aCons (eVb 0) (aCons (eMv 7) aNil)))) sNil) (sSeq (sFor (iR1 (eVb 7)) (gN 9) (m_law_knot_b1 F__law_pick F__law_knot F__law_leaf F__law_worn)) (sEnd (sRet (eTup (aCons (eC (.str (Str.ofString "knot"))) (aCons (eMv 2) (aCons (eMv 5) (aCons (eCB (un1 tupleD) (aCons (eVb 6) aNil)) aNil)))))))))))))
theorem m_law_knot_eq (F__law_pick F__law_knot F__law_leaf F__law_worn : FF) (ρ : Rho) : fnF 11 5 (m_law_knot F__law_pick F__law_knot F__law_leaf F__law_worn) ρ = finR 5 (m_law_knot F__law_pick F__law_knot F__law_leaf F__law_worn (ρ ++ [none, none, none, none, none, none])) := fnF_eq 11 5 _
end GM
namespace GX
open PySem L2 GS GM
theorem leaves_knot (n : Str) (tk : Option (Str × Bool)) (ks : List Tr) : Tr.leaves (.knot n tk ks) = ks.flatMap Tr.leaves := by
  have : Tr.leaves = fun t : Tr => t.pieces.filter fun u => !Tr.isK u := rfl
  rw [this]
  dsimp only
  rw [Tr.pieces, List.filter_cons, piecesL_flat]
  simp only [Tr.isK, Bool.not_true, Bool.false_eq_true, if_false]
  induction ks with
  | nil => rfl
  | cons k ks ih => rw [List.flatMap_cons, List.flatMap_cons, List.filter_append, ih]
theorem leaves_le (t : Tr) : (Tr.leaves t).length ≤ t.pieces.length := List.length_filter_le _ _
def headS (u : Tr) : D := .str (Tr.head u)
theorem flat_loop {F : FF} {c0 : Cel} {G : Tr → List D} : ∀ (ks : List Tr) (acc : List D), (∀ k ∈ ks, F [some ⟨k.enc, .sh⟩] = .ok (.fr (.list (G k))) [none]) → acc.length + (ks.flatMap G).length ≤ 100000 →
    forL (gN 2) (m_law_leaves_b1 F) (ks.map Tr.enc) [some c0, some ⟨.list acc, .ow⟩, none] = .nx [some c0, some ⟨.list (acc ++ ks.flatMap G), .ow⟩, none]
  | [], acc, _, _ => by simp
  | k :: ks, acc, he, hl => by
    rw [List.flatMap_cons, List.length_append] at hl
    have e := he k (by simp)
    have z : acc.length + (G k).length ≤ sizeLine := fits (by omega)
    have q := flat_loop (c0 := c0) (G := G) ks (acc ++ G k) (fun k m => he k (by simp [m])) (by rw [List.length_append]; omega)
    rw [List.map_cons, forL_cons, List.flatMap_cons, ← List.append_assoc, ← q]
    simp [m_law_leaves_b1, e, z]
def LLeavesSp (n : Nat) (F : FF) : Prop := ∀ t : Tr, t.ht ≤ n → t.pieces.length ≤ 1000 → F [some ⟨t.enc, .sh⟩] = .ok (.fr (.list ((Tr.leaves t).map headS))) [none]
theorem map_flat {f : Tr → List Tr} {h : Tr → D} (ks : List Tr) : ks.flatMap (fun k => (f k).map h) = (ks.flatMap f).map h := by
  induction ks with
  | nil => rfl
  | cons k ks ih => simp [List.flatMap_cons, ih]
theorem law_leaves_ok {n : Nat} {F : FF} (hf : ∀ k, k + 1 = n → LLeavesSp k F) : LLeavesSp n (fnF 3 1 (m_law_leaves F)) := fun t ht hz => by
  rw [m_law_leaves_eq]
  cases t with
  | knot nm tk ks =>
    have hks : ∀ k ∈ ks, F [some ⟨k.enc, .sh⟩] = .ok (.fr (.list ((Tr.leaves k).map headS))) [none] := fun k m => by
      have h1 := ht_mem m
      rw [Tr.ht] at ht
      obtain ⟨n', rfl⟩ : ∃ n', n = n' + 1 := ⟨n - 1, by omega⟩
      exact hf n' rfl k (by omega) (Nat.le_trans (pieces_kid_le (t := .knot nm tk ks) m) hz)
    have hl := leaves_le (.knot nm tk ks)
    have L := flat_loop (c0 := ⟨(Tr.knot nm tk ks).enc, .sh⟩) (G := fun k => (Tr.leaves k).map headS) ks [] hks (by rw [map_flat, List.length_map, ← leaves_knot nm tk ks]; simp; omega)
    rw [map_flat, ← leaves_knot nm tk ks, List.nil_append] at L
    have k1 : ¬ Str.ofString "knot" ≠ Str.ofString "knot" := by simp
    simp only [Tr.enc, encL_map] at L ⊢
    simp [m_law_leaves, L]
  | sign s =>
    have k1 : ¬ Str.ofString "sign" = Str.ofString "knot" := by decide +kernel
    simp [m_law_leaves, Tr.enc, k1]; rfl
  | void =>
    have k1 : ¬ Str.ofString "void" = Str.ofString "knot" := by decide +kernel
    simp [m_law_leaves, Tr.enc, k1]; rfl
  | hole s =>
    have k1 : ¬ Str.ofString "hole" = Str.ofString "knot" := by decide +kernel
    simp [m_law_leaves, Tr.enc, k1]; rfl
  | foot s =>
    have k1 : ¬ Str.ofString "foot" = Str.ofString "knot" := by decide +kernel
    simp [m_law_leaves, Tr.enc, k1]; rfl
def LSignsSp (n : Nat) (F : FF) : Prop := ∀ t : Tr, t.ht ≤ n → t.pieces.length ≤ 1000 → F [some ⟨t.enc, .sh⟩] = .ok (.fr (.list (t.signs.map .str))) [none]
theorem law_signs_ok {n : Nat} {F : FF} (hf : ∀ k, k + 1 = n → LSignsSp k F) : LSignsSp n (fnF 3 1 (m_law_signs F)) := fun t ht hz => by
  rw [m_law_signs_eq]
  cases t with
  | knot nm tk ks =>
    have hks : ∀ k ∈ ks, F [some ⟨k.enc, .sh⟩] = .ok (.fr (.list (k.signs.map .str))) [none] := fun k m => by
      have h1 := ht_mem m
      rw [Tr.ht] at ht
      obtain ⟨n', rfl⟩ : ∃ n', n = n' + 1 := ⟨n - 1, by omega⟩
      exact hf n' rfl k (by omega) (Nat.le_trans (pieces_kid_le (t := .knot nm tk ks) m) hz)
    have hl := signs_le (.knot nm tk ks)
    have ef : ks.flatMap (fun k => k.signs.map PyData.str) = (Tr.signs (.knot nm tk ks)).map .str := by
      rw [signs_knot]
      clear hl hks hz ht
      induction ks with
      | nil => rfl
      | cons k ks ih => simp [List.flatMap_cons, ih]
    have L := flat_loop (c0 := ⟨(Tr.knot nm tk ks).enc, .sh⟩) (G := fun k => k.signs.map PyData.str) ks [] hks (by rw [ef, List.length_map]; simp; omega)
    rw [ef, List.nil_append] at L
    have L : forL (gN 2) (m_law_signs_b1 F) (ks.map Tr.enc) [some ⟨(Tr.knot nm tk ks).enc, .sh⟩, some ⟨.list [], .ow⟩, none] = _ := L
    generalize hsg : (Tr.signs (.knot nm tk ks)).map PyData.str = sg at L ⊢
    have k1 : ¬ Str.ofString "knot" = Str.ofString "sign" := by decide +kernel
    simp only [Tr.enc, encL_map] at L ⊢
    simp [m_law_signs, L, k1]
  | sign s => simp [m_law_signs, Tr.enc, Tr.signs, Tr.pieces, Tr.signN]
  | void =>
    have k1 : ¬ Str.ofString "void" = Str.ofString "sign" := by decide +kernel
    have k2 : ¬ Str.ofString "void" = Str.ofString "knot" := by decide +kernel
    simp [m_law_signs, Tr.enc, Tr.signs, Tr.pieces, Tr.signN, k1, k2]
  | hole s =>
    have k1 : ¬ Str.ofString "hole" = Str.ofString "sign" := by decide +kernel
    have k2 : ¬ Str.ofString "hole" = Str.ofString "knot" := by decide +kernel
    simp [m_law_signs, Tr.enc, Tr.signs, Tr.pieces, Tr.signN, k1, k2]
  | foot s =>
    have k1 : ¬ Str.ofString "foot" = Str.ofString "sign" := by decide +kernel
    have k2 : ¬ Str.ofString "foot" = Str.ofString "knot" := by decide +kernel
    simp [m_law_signs, Tr.enc, Tr.signs, Tr.pieces, Tr.signN, k1, k2]
structure Sm where
  sg : List Str
  free : Int
  st : List Str
  gr : List Str
  s2 : sg.length = 2
  t2 : st.length = 2
  g2 : gr.length = 2
def ssD (l : List Str) : D := .list (l.map .str)
def Sm.enc (S : Sm) (left : Int) : D := .dict [(.str (Str.ofString "signs"), ssD S.sg), (.str (Str.ofString "free"), .int S.free), (.str (Str.ofString "knots"), .bool true), (.str (Str.ofString "left"), .int left), (.str (Str.ofString "starts"), ssD S.st), (.str (Str.ofString "grafts"), ssD S.gr)]
theorem two_get {l : List Str} (h : l.length = 2) {i : Nat} (hi : i < 2) : ∃ s ∈ l, atI (l.map PyData.str) (i : Int) = some (.str s) := by
  match l, h with
  | [a, b], _ =>
    rcases (show i = 0 ∨ i = 1 by omega) with rfl | rfl
    · exact ⟨a, by simp, rfl⟩
    · exact ⟨b, by simp, rfl⟩
theorem kn1 : ¬ Str.ofString "signs" = Str.ofString "left" := by decide +kernel
theorem kn2 : ¬ Str.ofString "free" = Str.ofString "left" := by decide +kernel
theorem kn3 : ¬ Str.ofString "knots" = Str.ofString "left" := by decide +kernel
theorem kn4 : ¬ Str.ofString "starts" = Str.ofString "left" := by decide +kernel
theorem kn5 : ¬ Str.ofString "grafts" = Str.ofString "left" := by decide +kernel
theorem put_left (S : Sm) (l v : Int) : dPut [(.str (Str.ofString "signs"), ssD S.sg), (.str (Str.ofString "free"), .int S.free), (.str (Str.ofString "knots"), .bool true), (.str (Str.ofString "left"), .int l), (.str (Str.ofString "starts"), ssD S.st), (.str (Str.ofString "grafts"), ssD S.gr)] (.str (Str.ofString "left")) (.int v) =
    [(.str (Str.ofString "signs"), ssD S.sg), (.str (Str.ofString "free"), .int S.free), (.str (Str.ofString "knots"), .bool true), (.str (Str.ofString "left"), .int v), (.str (Str.ofString "starts"), ssD S.st), (.str (Str.ofString "grafts"), ssD S.gr)] := by
  simp [dPut, kEq, kn1, kn2, kn3, kn4, kn5]
theorem setD_left (S : Sm) (l v : Int) : setD (.str (Str.ofString "left")) (.int v) (S.enc l) = some (S.enc v) := by
  have h : (6 : Nat) < sizeLine := by decide
  unfold Sm.enc
  rw [setD_d, put_left]
  simp [h]
  try decide +kernel
theorem ixS_left (S : Sm) (l : Int) : ixA (S.enc l) (.str (Str.ofString "left")) = some (.sh (.int l)) := by simp [Sm.enc, kn1, kn2, kn3]
theorem ixS_signs (S : Sm) (l : Int) : ixA (S.enc l) (.str (Str.ofString "signs")) = some (.sh (ssD S.sg)) := by simp [Sm.enc]
theorem ixS_free (S : Sm) (l : Int) : ixA (S.enc l) (.str (Str.ofString "free")) = some (.sh (.int S.free)) := by
  have h : ¬ Str.ofString "signs" = Str.ofString "free" := by decide +kernel
  simp [Sm.enc, h]
theorem ixS_knots (S : Sm) (l : Int) : ixA (S.enc l) (.str (Str.ofString "knots")) = some (.sh (.bool true)) := by
  have h : ¬ Str.ofString "signs" = Str.ofString "knots" := by decide +kernel
  have h2 : ¬ Str.ofString "free" = Str.ofString "knots" := by decide +kernel
  simp [Sm.enc, h, h2]
theorem ixS_starts (S : Sm) (l : Int) : ixA (S.enc l) (.str (Str.ofString "starts")) = some (.sh (ssD S.st)) := by
  have h : ¬ Str.ofString "signs" = Str.ofString "starts" := by decide +kernel
  have h2 : ¬ Str.ofString "free" = Str.ofString "starts" := by decide +kernel
  have h3 : ¬ Str.ofString "knots" = Str.ofString "starts" := by decide +kernel
  have h4 : ¬ Str.ofString "left" = Str.ofString "starts" := by decide +kernel
  simp [Sm.enc, h, h2, h3, h4]
theorem ixS_grafts (S : Sm) (l : Int) : ixA (S.enc l) (.str (Str.ofString "grafts")) = some (.sh (ssD S.gr)) := by
  have h : ¬ Str.ofString "signs" = Str.ofString "grafts" := by decide +kernel
  have h2 : ¬ Str.ofString "free" = Str.ofString "grafts" := by decide +kernel
  have h3 : ¬ Str.ofString "knots" = Str.ofString "grafts" := by decide +kernel
  have h4 : ¬ Str.ofString "left" = Str.ofString "grafts" := by decide +kernel
  have h5 : ¬ Str.ofString "starts" = Str.ofString "grafts" := by decide +kernel
  simp [Sm.enc, h, h2, h3, h4, h5]
def SockSp (F : FF) : Prop := ∀ (S : Sm) (left : Nat), left ≤ 1000 → ∃ (b : Bool) (left' : Nat), left' ≤ 1000 ∧ F [some ⟨S.enc left, .io⟩] = .ok (.sh (.bool b)) [some ⟨S.enc left', .io⟩]
theorem law_socket_ok : SockSp (fnF 1 1 m_law_socket) := fun S left hl => by
  rw [m_law_socket_eq]
  by_cases h : left = 0
  · refine ⟨false, left, hl, ?_⟩
    simp [m_law_socket, ixS_left, h]
  · refine ⟨true, left - 1, by omega, ?_⟩
    have e : ((left - 1 : Nat) : Int) = (left : Int) - 1 := by omega
    have q := setD_left S left (left - 1)
    simp [m_law_socket, ixS_left, h, e, q]
def LeafSp (F : FF) : Prop := ∀ (b : D) (S : Sm) (left : Nat), Bx b → left ≤ 1000 → ∃ (t : Tr) (b' : D) (left' : Nat), Bx b' ∧ left' ≤ 1000 ∧ t.kids = [] ∧ Tr.isK t = false ∧ t.footN = none ∧ F [some ⟨b, .io⟩, some ⟨S.enc left, .io⟩] = .ok (.sh t.enc) [some ⟨b', .io⟩, some ⟨S.enc left', .io⟩]
theorem law_leaf_ok {Fp Fs : FF} (hp : PickSp Fp) (hs : SockSp Fs) : LeafSp (fnF 3 2 (m_law_leaf_2 Fp Fs)) := fun b S left hb hl => by
  rw [m_law_leaf_2_eq]
  obtain ⟨w, b1, e1, hb1, hw⟩ := hp b 9 hb (by decide) (by decide)
  have e1 : Fp [some ⟨b, .io⟩, some ⟨.int 9, .sh⟩] = .ok (.sh (.int w)) [some ⟨b1, .io⟩, none] := e1
  have sign : ∀ (l : Nat), l ≤ 1000 → ∃ (t : Tr) (b' : D), Bx b' ∧ t.kids = [] ∧ Tr.isK t = false ∧ t.footN = none ∧
      bindES (eTup (aCons (eC (.str (Str.ofString "sign"))) (aCons (eBin ixA (eBin ixA (eVb 1) (eC (.str (Str.ofString "signs")))) (eCall 2 (some 0) Fp (aCons (eVb 0) (aCons (eCB (un1 lenD) (aCons (eBin ixA (eVb 1) (eC (.str (Str.ofString "signs")))) aNil)) aNil)))) aNil)) [some ⟨b1, .io⟩, some ⟨S.enc l, .io⟩, some ⟨.int w, .sh⟩]) retR = .rt (.sh t.enc) [some ⟨b', .io⟩, some ⟨S.enc l, .io⟩, some ⟨.int w, .sh⟩] := fun l hl' => by
    obtain ⟨i, b2, e2, hb2, hi⟩ := hp b1 2 hb1 (by decide) (by decide)
    have e2 : Fp [some ⟨b1, .io⟩, some ⟨.int 2, .sh⟩] = .ok (.sh (.int i)) [some ⟨b2, .io⟩, none] := e2
    obtain ⟨s, _, hs'⟩ := two_get S.s2 hi
    refine ⟨.sign s, b2, hb2, rfl, rfl, rfl, ?_⟩
    have l2 : lenD (ssD S.sg) = some (.sh (.int 2)) := by simp [ssD, S.s2]
    have g : ixA (ssD S.sg) (.int i) = some (.sh (.str s)) := by simp [ssD, hs']
    simp [ixS_signs, l2, e2, g, Tr.enc]
  by_cases q0 : w = 0
  · refine ⟨.void, b1, left, hb1, hl, rfl, rfl, rfl, ?_⟩
    simp [m_law_leaf_2, e1, q0, Tr.enc]
  by_cases q4 : (w : Int) < 4
  · obtain ⟨c, l', hl', es⟩ := hs S left hl
    cases c with
    | true =>
      obtain ⟨i, b2, e2, hb2, hi⟩ := hp b1 3 hb1 (by decide) (by decide)
      have e2 : Fp [some ⟨b1, .io⟩, some ⟨.int 3, .sh⟩] = .ok (.sh (.int i)) [some ⟨b2, .io⟩, none] := e2
      obtain ⟨s, _, hs'⟩ := two_get S.t2 (i := i / 2) (by omega)
      refine ⟨.hole s, b2, l', hb2, hl', rfl, rfl, rfl, ?_⟩
      have g : ixA (ssD S.st) (.int ((i : Int) / 2)) = some (.sh (.str s)) := by
        have h2 : ((i : Int) / 2) = ((i / 2 : Nat) : Int) := by omega
        have h3 : atI (S.st.map PyData.str) ((i : Int) / 2) = some (.str s) := by rw [h2]; exact hs'
        simp [ssD, h3]
      simp [m_law_leaf_2, e1, q0, q4, es, ixS_starts, e2, g, Tr.enc]
    | false =>
      obtain ⟨t, b2, hb2, t1, t2, t3, e⟩ := sign l' hl'
      refine ⟨t, b2, l', hb2, hl', t1, t2, t3, ?_⟩
      simp [m_law_leaf_2, e1, q0, q4, es]
      simp at e
      rw [e]
      simp
  · obtain ⟨t, b2, hb2, t1, t2, t3, e⟩ := sign left hl
    refine ⟨t, b2, left, hb2, hl, t1, t2, t3, ?_⟩
    have q5 : (4 : Int) ≤ w := by omega
    simp [m_law_leaf_2, e1, q0, q4, q5]
    simp at e
    rw [e]
    simp
end GX
namespace GX
open PySem L2 GS GM
def WornSp (F : FF) : Prop := ∀ (b : D) (S : Sm) (left : Nat), Bx b → left ≤ 1000 → ∃ (tk : Option (Str × Bool)) (b' : D) (left' : Nat), Bx b' ∧ left' ≤ 1000 ∧ F [some ⟨b, .io⟩, some ⟨S.enc left, .io⟩] = .ok (.sh (encTk tk)) [some ⟨b', .io⟩, some ⟨S.enc left', .io⟩]
theorem law_worn_ok {Fp Fs : FF} (hp : PickSp Fp) (hs : SockSp Fs) : WornSp (fnF 3 2 (m_law_worn Fp Fs)) := fun b S left hb hl => by
  rw [m_law_worn_eq]
  obtain ⟨w, b1, e1, hb1, hw⟩ := hp b 5 hb (by decide) (by decide)
  have e1 : Fp [some ⟨b, .io⟩, some ⟨.int 5, .sh⟩] = .ok (.sh (.int w)) [some ⟨b1, .io⟩, none] := e1
  by_cases q : (w : Int) < 2
  · refine ⟨none, b1, left, hb1, hl, ?_⟩
    simp [m_law_worn, e1, q, encTk]
  · have q2 : (2 : Int) ≤ w := by omega
    obtain ⟨c, l', hl', es⟩ := hs S left hl
    cases c with
    | false =>
      refine ⟨none, b1, l', hb1, hl', ?_⟩
      simp [m_law_worn, e1, q, q2, ixS_knots, es, encTk]
    | true =>
      obtain ⟨i, b2, e2, hb2, hi⟩ := hp b1 4 hb1 (by decide) (by decide)
      have e2 : Fp [some ⟨b1, .io⟩, some ⟨.int 4, .sh⟩] = .ok (.sh (.int i)) [some ⟨b2, .io⟩, none] := e2
      obtain ⟨s, _, hs'⟩ := two_get S.g2 (i := i / 3) (by omega)
      have g : ixA (ssD S.gr) (.int ((i : Int) / 3)) = some (.sh (.str s)) := by
        have h2 : ((i : Int) / 3) = ((i / 3 : Nat) : Int) := by omega
        have h3 : atI (S.gr.map PyData.str) ((i : Int) / 3) = some (.str s) := by rw [h2]; exact hs'
        simp [ssD, h3]
      refine ⟨some (s, decide ((w : Int) = 4)), b2, l', hb2, hl', ?_⟩
      simp [m_law_worn, e1, q, q2, ixS_knots, es, encTk, ixS_grafts, e2, g]
def ftL (s : Str) : List Str := if s = Str.ofString "" then [] else [s]
def pb : Nat → Nat
  | 0 => 1
  | d + 1 => 1 + 3 * pb d
theorem pb_pos (d : Nat) : 1 ≤ pb d := by cases d <;> simp [pb] <;> omega
structure KidOk (d : Nat) (here : Str) (t : Tr) : Prop where
  ht : t.ht ≤ d
  sz : t.pieces.length ≤ pb d
  ft : t.feet = ftL here
/-- what a drawn knot is -/
structure KnOk (d : Nat) (foot : Str) (t : Tr) : Prop where
  kn : ∃ n tk ks, t = .knot n tk ks
  ht : t.ht ≤ d + 1
  sz : t.pieces.length ≤ pb (d + 1)
  ft : t.feet = ftL foot
def KnotSp (d : Nat) (F : FF) : Prop := ∀ (b : D) (S : Sm) (left : Nat) (name foot : Str), Bx b → left ≤ 1000 → ∃ (t : Tr) (b' : D) (left' : Nat), Bx b' ∧ left' ≤ 1000 ∧ KnOk d foot t ∧
  F [some ⟨b, .io⟩, some ⟨S.enc left, .io⟩, some ⟨.str name, .sh⟩, some ⟨.int d, .sh⟩, some ⟨.str foot, .sh⟩] = .ok (.sh t.enc) [some ⟨b', .io⟩, some ⟨S.enc left', .io⟩, none, none, none]
theorem feet_leaf {t : Tr} (h1 : t.kids = []) (h2 : t.footN = none) : t.feet = [] := by
  unfold Tr.feet
  rw [pieces_kids, h1]
  simp [h2]
theorem feet_kids (n : Str) (tk : Option (Str × Bool)) (ks : List Tr) : (Tr.knot n tk ks).feet = ks.flatMap Tr.feet := by
  unfold Tr.feet
  rw [Tr.pieces, piecesL_flat, List.filterMap_cons]
  simp only [Tr.footN]
  rw [List.filterMap_flatMap]
section
variable {Fp Fk Fl Fw : FF} {d : Nat}
abbrev kst (b : D) (S : Sm) (left : Nat) (name foot : Str) (d : Nat) (tk : Option (Str × Bool)) (ks : List Tr) (size spot : Nat) (x9 x10 : Option Cel) : Rho :=
  [some ⟨b, .io⟩, some ⟨S.enc left, .io⟩, some ⟨.str name, .sh⟩, some ⟨.int d, .sh⟩, some ⟨.str foot, .sh⟩, some ⟨encTk tk, .sh⟩, some ⟨.list (ks.map Tr.enc), .ow⟩, some ⟨.int size, .sh⟩, some ⟨.int spot, .sh⟩, x9, x10]
theorem knot_in (hp : PickSp Fp) (hl : LeafSp Fl) (hk : ∀ k, k + 1 = d → KnotSp k Fk) (b : D) (S : Sm) (left : Nat) (name foot here : Str) (tk : Option (Str × Bool)) (ks : List Tr) (size spot k : Nat) (hb : Bx b) (hle : left ≤ 1000) (hks : ks.length ≤ 10) :
    ∃ (t : Tr) (b' : D) (left' : Nat), Bx b' ∧ left' ≤ 1000 ∧ KidOk d here t ∧
      (sIf (eAnd (eB (eBin (ltI fun i j => decide (j < i)) (eVb 3) (eC (.int 0)))) (eB (eBin (eqB false) (eCall 2 (some 0) Fp (aCons (eVb 0) (aCons (eC (.int 3)) aNil))) (eC (.int 0))))) (sApp 6 (eCallN 5 [0, 1] Fk (aCons (eVb 0) (aCons (eVb 1) (aCons (eBin ixA (eBin ixA (eVb 1) (eC (.str (Str.ofString "starts")))) (eCall 2 (some 0) Fp (aCons (eVb 0) (aCons (eC (.int 2)) aNil)))) (aCons (eBin subD (eVb 3) (eC (.int 1))) (aCons (eMv 10) aNil))))))) (sIf (eB (eBin (eqB true) (eVb 10) (eC (.str (Str.ofString ""))))) (sApp 6 (eTup (aCons (eC (.str (Str.ofString "foot"))) (aCons (eMv 10) aNil)))) (sApp 6 (eCallN 2 [0, 1] Fl (aCons (eVb 0) (aCons (eVb 1) aNil))))))
        (kst b S left name foot d tk ks size spot (some ⟨.int k, .sh⟩) (some ⟨.str here, .sh⟩)) = .nx (kst b' S left' name foot d tk (ks ++ [t]) size spot (some ⟨.int k, .sh⟩) (some ⟨.str here, .sh⟩)) := by
  have z : ks.length < sizeLine := fitsl (by omega)
  -- what is no knot
  have rest : ∀ b1, Bx b1 → ∃ (t : Tr) (b' : D) (left' : Nat), Bx b' ∧ left' ≤ 1000 ∧ KidOk d here t ∧ (sIf (eB (eBin (eqB true) (eVb 10) (eC (.str (Str.ofString ""))))) (sApp 6 (eTup (aCons (eC (.str (Str.ofString "foot"))) (aCons (eMv 10) aNil)))) (sApp 6 (eCallN 2 [0, 1] Fl (aCons (eVb 0) (aCons (eVb 1) aNil)))))
        (kst b1 S left name foot d tk ks size spot (some ⟨.int k, .sh⟩) (some ⟨.str here, .sh⟩)) = .nx (kst b' S left' name foot d tk (ks ++ [t]) size spot (some ⟨.int k, .sh⟩) (some ⟨.str here, .sh⟩)) := fun b1 hb1 => by
    by_cases q : here = Str.ofString ""
    · obtain ⟨t, b2, l2, hb2, hl2, t1, t2, t3, e⟩ := hl b1 S left hb1 hle
      refine ⟨t, b2, l2, hb2, hl2, ⟨by cases t <;> first | (cases t2; done) | (simp [Tr.ht]; done), by rw [pieces_kids, t1]; simpa using pb_pos d, by rw [feet_leaf t1 t3, ftL, if_pos q]⟩, ?_⟩
      simp [kst, q, e, z]
    · refine ⟨.foot here, b1, left, hb1, hle, ⟨by simp [Tr.ht], by simpa [Tr.pieces] using pb_pos d, by rw [ftL, if_neg q]; rfl⟩, ?_⟩
      simp [kst, q, z, Tr.enc]
  by_cases hd : d = 0
  · obtain ⟨t, b2, l2, hb2, hl2, ok, e⟩ := rest b hb
    refine ⟨t, b2, l2, hb2, hl2, ok, ?_⟩
    rw [sIf_eq]
    rw [sIf_eq] at e
    simp only [hd] at e ⊢
    rw [← e]
    simp [kst]
  · obtain ⟨w, b1, e1, hb1, hw⟩ := hp b 3 hb (by decide) (by decide)
    have e1 : Fp [some ⟨b, .io⟩, some ⟨.int 3, .sh⟩] = .ok (.sh (.int w)) [some ⟨b1, .io⟩, none] := e1
    have hd' : (0 : Int) < d := by omega
    by_cases hw0 : w = 0
    · obtain ⟨i, b2, e2, hb2, hi⟩ := hp b1 2 hb1 (by decide) (by decide)
      have e2 : Fp [some ⟨b1, .io⟩, some ⟨.int 2, .sh⟩] = .ok (.sh (.int i)) [some ⟨b2, .io⟩, none] := e2
      obtain ⟨s, _, hs'⟩ := two_get S.t2 hi
      have g : ixA (ssD S.st) (.int i) = some (.sh (.str s)) := by simp [ssD, hs']
      obtain ⟨d', rfl⟩ : ∃ d', d = d' + 1 := ⟨d - 1, by omega⟩
      obtain ⟨t, b3, l3, hb3, hl3, ok, e3⟩ := hk d' rfl b2 S left s here hb2 hle
      refine ⟨t, b3, l3, hb3, hl3, ⟨ok.ht, ok.sz, ok.ft⟩, ?_⟩
      have hdd : ((d' + 1 : Nat) : Int) - 1 = d' := by omega
      have hdd2 : ((d' : Int) + 1) - 1 = d' := by omega
      simp [kst, hd', e1, hw0, ixS_starts, e2, g, e3, z, hdd, hdd2]
    · obtain ⟨t, b2, l2, hb2, hl2, ok, e⟩ := rest b1 hb1
      refine ⟨t, b2, l2, hb2, hl2, ok, ?_⟩
      rw [sIf_eq]
      rw [sIf_eq] at e
      rw [← e]
      simp [kst, hd, hd', Nat.pos_of_ne_zero hd, e1, hw0]
theorem knot_turn (hp : PickSp Fp) (hl : LeafSp Fl) (hk : ∀ k, k + 1 = d → KnotSp k Fk) (b : D) (S : Sm) (left : Nat) (name foot : Str) (tk : Option (Str × Bool)) (ks : List Tr) (size spot k : Nat) (hb : Bx b) (hle : left ≤ 1000) (hks : ks.length ≤ 10) :
    ∃ (t : Tr) (b' : D) (left' : Nat), Bx b' ∧ left' ≤ 1000 ∧ KidOk d (if k = spot then foot else Str.ofString "") t ∧
      optR (gN 9 (.int k) (kst b S left name foot d tk ks size spot none none)) (m_law_knot_b1 Fp Fk Fl Fw) = .nx (kst b' S left' name foot d tk (ks ++ [t]) size spot none none) := by
  obtain ⟨t, b', l', hb', hl', ok, e⟩ := knot_in hp hl hk b S left name foot (if k = spot then foot else Str.ofString "") tk ks size spot k hb hle hks
  refine ⟨t, b', l', hb', hl', ok, ?_⟩
  have g : gN 9 (.int k) (kst b S left name foot d tk ks size spot none none) = some (kst b S left name foot d tk ks size spot (some ⟨.int k, .sh⟩) none) := by simp [kst]
  rw [g, optR_s]
  refine kill_of (kst b' S l' name foot d tk (ks ++ [t]) size spot (some ⟨.int k, .sh⟩) (some ⟨.str (if k = spot then foot else Str.ofString ""), .sh⟩)) (by simp [kst]) ?_ (by simp [kst])
  refine seq_of (kst b S left name foot d tk ks size spot (some ⟨.int k, .sh⟩) (some ⟨.str (Str.ofString ""), .sh⟩)) (by simp [kst]) ?_
  refine seq_of (kst b S left name foot d tk ks size spot (some ⟨.int k, .sh⟩) (some ⟨.str (if k = spot then foot else Str.ofString ""), .sh⟩)) ?_ e
  by_cases q : k = spot
  · have q' : (k : Int) = spot := by omega
    simp [kst, q]
  · have q' : ¬ (k : Int) = spot := by omega
    simp [kst, q, q']
theorem spot_ft (ks : List Tr) (foot : Str) (spot : Nat) (h : ∀ (i : Nat) (t : Tr), ks[i]? = some t → t.feet = ftL (if i = spot then foot else Str.ofString "")) (hs : spot < ks.length) : ks.flatMap Tr.feet = ftL foot := by
  have e0 : ftL (Str.ofString "") = [] := if_pos rfl
  obtain ⟨l, t, r, rfl, hl⟩ : ∃ l t r, ks = l ++ t :: r ∧ l.length = spot := ⟨ks.take spot, ks[spot], ks.drop (spot + 1), by rw [List.getElem_cons_drop, List.take_append_drop], by rw [List.length_take]; omega⟩
  have ht := h spot t (by rw [List.getElem?_append_right (by omega), hl, Nat.sub_self]; rfl)
  rw [if_pos rfl] at ht
  have hl0 : ∀ u ∈ l, u.feet = [] := fun u m => by
    obtain ⟨i, hi⟩ := List.mem_iff_getElem?.mp m
    have hlt := (List.getElem?_eq_some_iff.mp hi).1
    have := h i u (by rw [List.getElem?_append_left hlt]; exact hi)
    rw [if_neg (by omega), e0] at this
    exact this
  have hr0 : ∀ u ∈ r, u.feet = [] := fun u m => by
    obtain ⟨i, hi⟩ := List.mem_iff_getElem?.mp m
    have := h (spot + 1 + i) u (by rw [List.getElem?_append_right (by omega), hl, show spot + 1 + i - spot = i + 1 by omega, List.getElem?_cons_succ]; exact hi)
    rw [if_neg (by omega), e0] at this
    exact this
  rw [List.flatMap_append, List.flatMap_cons, ht, List.flatMap_eq_nil_iff.mpr hl0, List.flatMap_eq_nil_iff.mpr hr0]
  simp
theorem law_knot_ok (hp : PickSp Fp) (hl : LeafSp Fl) (hw : WornSp Fw) (hk : ∀ k, k + 1 = d → KnotSp k Fk) : KnotSp d (fnF 11 5 (m_law_knot Fp Fk Fl Fw)) := fun b S left name foot hb hle => by
  rw [m_law_knot_eq]
  obtain ⟨tk, b1, l1, hb1, hl1, e1⟩ := hw b S left hb hle
  obtain ⟨i, b2, e2, hb2, hi⟩ := hp b1 3 hb1 (by decide) (by decide)
  have e2 : Fp [some ⟨b1, .io⟩, some ⟨.int 3, .sh⟩] = .ok (.sh (.int i)) [some ⟨b2, .io⟩, none] := e2
  obtain ⟨j, b3, e3, hb3, hj⟩ := hp b2 4 hb2 (by decide) (by decide)
  have e3 : Fp [some ⟨b2, .io⟩, some ⟨.int 4, .sh⟩] = .ok (.sh (.int j)) [some ⟨b3, .io⟩, none] := e3
  obtain ⟨i2, b4, e4, hb4, hi2⟩ := hp b3 (1 + i) hb3 (by omega) (by omega)
  have e4 : Fp [some ⟨b3, .io⟩, some ⟨.int ((1 + i : Nat) : Int), .sh⟩] = .ok (.sh (.int i2)) [some ⟨b4, .io⟩, none] := e4
  obtain ⟨spot, b5, hb5, hsp, e5⟩ : ∃ (spot : Nat) (b5 : D), Bx b5 ∧ spot < 1 + i ∧ sIf (eB (eBin (ltI fun i j => decide (i < j)) (eCall 2 (some 0) Fp (aCons (eVb 0) (aCons (eC (.int 4)) aNil))) (eBin ixA (eVb 1) (eC (.str (Str.ofString "free")))))) (sSet 8 (eCall 2 (some 0) Fp (aCons (eVb 0) (aCons (eMv 7) aNil)))) sNil
      (kst b2 S l1 name foot d tk [] (1 + i) i none none) = .nx (kst b5 S l1 name foot d tk [] (1 + i) spot none none) := by
    by_cases q : (j : Int) < S.free
    · refine ⟨i2, b4, hb4, hi2, ?_⟩
      have e4' : Fp [some ⟨b3, .io⟩, some ⟨.int (1 + (i : Int)), .sh⟩] = .ok (.sh (.int i2)) [some ⟨b4, .io⟩, none] := by rw [← e4]; simp
      simp [kst, e3, ixS_free, q, e4']
    · refine ⟨i, b3, hb3, by omega, ?_⟩
      simp [kst, e3, ixS_free, q]
  obtain ⟨⟨ks, b6, l6⟩, f1, f2, f3, f4, f5⟩ := forL_by (S := List Tr × D × Nat) (g := gN 9) (b := m_law_knot_b1 Fp Fk Fl Fw) (fun p => kst p.2.1 S p.2.2 name foot d tk p.1 (1 + i) spot none none)
    (fun pre p => Bx p.2.1 ∧ p.2.2 ≤ 1000 ∧ p.1.length = pre.length ∧ ∀ (n : Nat) (t : Tr), p.1[n]? = some t → KidOk d (if n = spot then foot else Str.ofString "") t) (rgD 0 (1 + i)) ([], b5, l1) ⟨hb5, hl1, rfl, by simp⟩ (fun pre x post ⟨ks, b', l'⟩ hx ⟨q1, q2, q3, q4⟩ => by
      obtain ⟨hn, rfl⟩ := rgD_mid hx
      dsimp only at q1 q2 q3 q4 ⊢
      rw [show (0 : Int) + (pre.length : Int) = (pre.length : Nat) by omega]
      obtain ⟨t, b'', l'', r1, r2, r3, r4⟩ := knot_turn (Fw := Fw) hp hl hk b' S l' name foot tk ks (1 + i) spot pre.length q1 q2 (by omega)
      refine ⟨(ks ++ [t], b'', l''), r4, r1, r2, by simp [q3], fun n u hu => ?_⟩
      by_cases hlt : n < ks.length
      · rw [List.getElem?_append_left hlt] at hu
        exact q4 n u hu
      · rw [List.getElem?_append_right (by omega)] at hu
        have : n - ks.length = 0 := by
          cases hnn : n - ks.length with
          | zero => rfl
          | succ m => rw [hnn] at hu; simp at hu
        rw [this] at hu
        simp at hu
        subst hu
        have : n = pre.length := by omega
        rw [this]
        exact r3)
  rw [rgD_len] at f4
  dsimp only at f1 f2 f3 f4 f5
  have hkid : ∀ t ∈ ks, t.ht ≤ d ∧ t.pieces.length ≤ pb d := fun t m => by
    obtain ⟨n, hn⟩ := List.mem_iff_getElem?.mp m
    exact ⟨(f5 n t hn).ht, (f5 n t hn).sz⟩
  refine ⟨.knot name tk ks, b6, l6, f2, f3, ⟨⟨_, _, _, rfl⟩, ?_, ?_, ?_⟩, ?_⟩
  · rw [Tr.ht]
    have := htL_of fun t m => (hkid t m).1
    omega
  · rw [pieces_knot, pb]
    have : ∀ l : List Tr, (∀ t ∈ l, t.pieces.length ≤ pb d) → (l.flatMap Tr.pieces).length ≤ l.length * pb d := fun l => by
      induction l with
      | nil => intro _; simp
      | cons t l ih =>
        intro h
        have h1 := h t (by simp)
        have h2 := ih fun t m => h t (by simp [m])
        rw [List.flatMap_cons, List.length_append, List.length_cons, Nat.add_mul]
        omega
    have q := this ks fun t m => (hkid t m).2
    have : ks.length * pb d ≤ 3 * pb d := Nat.mul_le_mul_right _ (by omega)
    omega
  · rw [feet_kids]
    exact spot_ft ks foot spot (fun n t h => (f5 n t h).ft) (by omega)
  · have o : okR ((1 + i : Nat) : Int) = true := okR_nat (by omega)
    have o' : okR (1 + (i : Int)) = true := by rw [← o]; congr 1
    unfold m_law_knot
    refine fin_seq [some ⟨b1, .io⟩, some ⟨S.enc l1, .io⟩, some ⟨.str name, .sh⟩, some ⟨.int d, .sh⟩, some ⟨.str foot, .sh⟩, some ⟨encTk tk, .sh⟩, none, none, none, none, none] (by simp [e1]) ?_
    refine fin_seq [some ⟨b1, .io⟩, some ⟨S.enc l1, .io⟩, some ⟨.str name, .sh⟩, some ⟨.int d, .sh⟩, some ⟨.str foot, .sh⟩, some ⟨encTk tk, .sh⟩, some ⟨.list [], .ow⟩, none, none, none, none] (by simp) ?_
    refine fin_seq [some ⟨b2, .io⟩, some ⟨S.enc l1, .io⟩, some ⟨.str name, .sh⟩, some ⟨.int d, .sh⟩, some ⟨.str foot, .sh⟩, some ⟨encTk tk, .sh⟩, some ⟨.list [], .ow⟩, some ⟨.int ((1 + i : Nat) : Int), .sh⟩, none, none, none] (by simp [e2]) ?_
    refine fin_seq (kst b2 S l1 name foot d tk [] (1 + i) i none none) (by simp [kst]; omega) ?_
    refine fin_seq (kst b5 S l1 name foot d tk [] (1 + i) spot none none) e5 ?_
    refine fin_seq (kst b6 S l6 name foot d tk ks (1 + i) spot none none) ?_ ?_
    · have f1' := f1
      simp only [kst] at f1' ⊢
      have ti : (1 + (i : Int)).toNat = 1 + i := by omega
      have ci : ((1 + i : Nat) : Int) = 1 + (i : Int) := by omega
      rw [ci, List.map_nil] at f1'
      simp [o', ti, f1']
    · have z : ks.length ≤ sizeLine := fits (by omega)
      simp [kst, Tr.enc, encL_map, z]
end
end GX
namespace GM
open PySem L2 GS
/-- _law_tree(box, some, name, foot, room); slots 0:box 1:some 2:name 3:foot 4:room 5:tree 6:sign -/
def m_law_tree_2 (F__law_pick F__law_signs F__law_knot : FF) : SF := (sSeq (sPut 1 (eC (.str (Str.ofString "left"))) (eMv 4)) (sSeq (sSet 5 (eCallN 5 [0, 1] F__law_knot (aCons (eVb 0) (aCons (eVb 1) (aCons (eMv 2) (aCons (eC (.int 1)) (aCons (eMv 3) aNil))))))) (sSeq (sIf (eB (eBin (ltI fun i j => decide (j < i)) (eCB (un1 lenD) (aCons (eCall 1 none F__law_signs (aCons (eMv 5) aNil)) aNil)) (eC (.int 0)))) (sEnd (sRet (eRv 5))) sNil) (sSeq (sSet 6 (eTup (aCons (eC (.str (Str.ofString "sign"))) (aCons (eBin ixA (eBin ixA (eVb 1) (eC (.str (Str.ofString "signs")))) (eCall 2 (some 0) F__law_pick (aCons (eVb 0) (aCons (eCB (un1 lenD) (aCons (eBin ixA (eVb 1) (eC (.str (Str.ofString "signs")))) aNil)) aNil)))) aNil)))) (sSeq (sIf (eOr (eB (eBin (ltI fun i j => decide (i < j)) (eBin ixA (eVb 1) (eC (.str (Str.ofString "free")))) (eC (.int 4)))) (eB (eBin (eqB false) (eCall 2 (some 0) F__law_pick (aCons (eVb 0) (aCons (eC (.int 2)) aNil))) (eC (.int 0))))) (sEnd (sRet (eBin addD (eSl (eVb 5) none (some (eC (.int 3)))) (eTup (aCons (eBin addD (eTup (aCons (eMv 6) aNil)) (eBin ixA (eVb 5) (eC (.int 3)))) aNil))))) sNil) (sEnd (sRet (eBin addD (eSl (eVb 5) none (some (eC (.int 3)))) (eTup (aCons (eBin addD (eBin ixA (eVb 5) (eC (.int 3))) (eTup (aCons (eMv 6) aNil))) aNil))))))))))
theorem m_law_tree_2_eq (F__law_pick F__law_signs F__law_knot : FF) (ρ : Rho) : fnF 7 5 (m_law_tree_2 F__law_pick F__law_signs F__law_knot) ρ = finR 5 (m_law_tree_2 F__law_pick F__law_signs F__law_knot (ρ ++ [none, none])) := fnF_eq 7 5 _
end GM
namespace GX
open PySem L2 GS GM
structure TrOk (foot : Str) (t : Tr) : Prop where
  ht : t.ht ≤ 2
  sz : t.pieces.length ≤ 14
  ft : t.feet = ftL foot
def TreeSp7 (F : FF) : Prop := ∀ (b : D) (S : Sm) (left : Nat) (name foot : Str) (room : Nat), Bx b → left ≤ 1000 → room ≤ 1000 → ∃ (t : Tr) (b' : D) (left' : Nat), Bx b' ∧ left' ≤ 1000 ∧ TrOk foot t ∧
  F [some ⟨b, .io⟩, some ⟨S.enc left, .io⟩, some ⟨.str name, .sh⟩, some ⟨.str foot, .sh⟩, some ⟨.int room, .sh⟩] = .ok (.sh t.enc) [some ⟨b', .io⟩, some ⟨S.enc left', .io⟩, none, none, none]
theorem add_sign {nm : Str} {tk : Option (Str × Bool)} {ks ks' : List Tr} {s : Str} {foot : Str} (h : KnOk 1 foot (.knot nm tk ks)) (e : ks' = .sign s :: ks ∨ ks' = ks ++ [.sign s]) : TrOk foot (.knot nm tk ks') := by
  have h1 := h.ht
  have h2 := h.sz
  have h3 := h.ft
  rw [Tr.ht] at h1
  rw [pieces_knot] at h2
  rw [feet_kids] at h3
  have p : pb 2 = 13 := rfl
  rw [p] at h2
  refine ⟨?_, ?_, ?_⟩
  · rw [Tr.ht]
    have : Tr.htL ks' ≤ 1 := htL_of fun t m => by
      have : t = .sign s ∨ t ∈ ks := by
        rcases e with rfl | rfl
        · exact List.mem_cons.mp m
        · rcases List.mem_append.mp m with m | m
          · exact .inr m
          · exact .inl (by simpa using m)
      rcases this with rfl | m
      · simp [Tr.ht]
      · have := ht_mem m; omega
    omega
  · rw [pieces_knot]
    have one : (Tr.sign s).pieces.length = 1 := rfl
    rcases e with rfl | rfl
    · rw [List.flatMap_cons, List.length_append, one]; omega
    · rw [List.flatMap_append, List.length_append, List.flatMap_cons, List.flatMap_nil, List.append_nil, one]; omega
  · rw [feet_kids, ← h3]
    have fs : (Tr.sign s).feet = [] := rfl
    rcases e with rfl | rfl
    · rw [List.flatMap_cons, fs]; rfl
    · rw [List.flatMap_append]; simp [fs]
theorem kids_few7 : ∀ ks : List Tr, ks.length ≤ (ks.flatMap Tr.pieces).length
  | [] => Nat.le_refl _
  | k :: ks => by
    have := kids_few7 ks
    rw [List.flatMap_cons, List.length_append, List.length_cons, pieces_kids k, List.length_cons]
    omega
theorem law_tree_ok7 {Fp Fs Fk : FF} (hp : PickSp Fp) (hs : LSignsSp 2 Fs) (hk : KnotSp 1 Fk) : TreeSp7 (fnF 7 5 (m_law_tree_2 Fp Fs Fk)) := fun b S left name foot room hb hl hr => by
  rw [m_law_tree_2_eq]
  obtain ⟨t, b1, l1, hb1, hl1, ok, e1⟩ := hk b S room name foot hb hr
  have e1 : Fk [some ⟨b, .io⟩, some ⟨S.enc room, .io⟩, some ⟨.str name, .sh⟩, some ⟨.int 1, .sh⟩, some ⟨.str foot, .sh⟩] = .ok (.sh t.enc) [some ⟨b1, .io⟩, some ⟨S.enc l1, .io⟩, none, none, none] := e1
  have p : pb 2 = 13 := rfl
  have hsz := ok.sz
  rw [p] at hsz
  have hh := ok.ht
  have es := hs t (by omega) (by omega)
  have sl := setD_left S left room
  have ss := signs_le t
  have zs : t.signs.length ≤ sizeLine := fits (by omega)
  by_cases q : t.signs = []
  · obtain ⟨i, b2, e2, hb2, hi⟩ := hp b1 2 hb1 (by decide) (by decide)
    have e2 : Fp [some ⟨b1, .io⟩, some ⟨.int 2, .sh⟩] = .ok (.sh (.int i)) [some ⟨b2, .io⟩, none] := e2
    obtain ⟨s, _, hs'⟩ := two_get S.s2 hi
    have g : ixA (ssD S.sg) (.int i) = some (.sh (.str s)) := by simp [ssD, hs']
    have l2 : lenD (ssD S.sg) = some (.sh (.int 2)) := by simp [ssD, S.s2]
    obtain ⟨nm, tk, ks, rfl⟩ := ok.kn
    have kl : ks.length ≤ 20 := by
      rw [pieces_knot] at hsz
      have := kids_few7 ks
      omega
    have z1 : 1 + ks.length ≤ sizeLine := fits (by omega)
    have z2 : ks.length + 1 ≤ sizeLine := fits (by omega)
    have z3 : 3 + 1 ≤ sizeLine := by decide
    have c3 : ∀ a b c d : D, cutD [a, b, c, d] none (some 3) = [a, b, c] := fun a b c d => cutD_to _ 3
    have ek : ∀ ks' : List Tr, (Tr.knot nm tk ks').enc = .tuple [.str (Str.ofString "knot"), .str nm, encTk tk, .tuple (ks'.map Tr.enc)] := fun ks' => by rw [Tr.enc, encL_map]
    rw [q] at es
    have mid : ∃ (b3 : D) (c : Bool), Bx b3 ∧ (eOr (eB (eBin (ltI fun i j => decide (i < j)) (eBin ixA (eVb 1) (eC (.str (Str.ofString "free")))) (eC (.int 4)))) (eB (eBin (eqB false) (eCall 2 (some 0) Fp (aCons (eVb 0) (aCons (eC (.int 2)) aNil))) (eC (.int 0)))))
        [some ⟨b2, .io⟩, some ⟨S.enc l1, .io⟩, some ⟨.str name, .sh⟩, some ⟨.str foot, .sh⟩, some ⟨.int room, .sh⟩, some ⟨(Tr.knot nm tk ks).enc, .sh⟩, some ⟨(Tr.sign s).enc, .sh⟩] = .ok (.sh (.bool c)) [some ⟨b3, .io⟩, some ⟨S.enc l1, .io⟩, some ⟨.str name, .sh⟩, some ⟨.str foot, .sh⟩, some ⟨.int room, .sh⟩, some ⟨(Tr.knot nm tk ks).enc, .sh⟩, some ⟨(Tr.sign s).enc, .sh⟩] := by
      by_cases f : S.free < 4
      · exact ⟨b2, true, hb2, by simp [ixS_free, f]⟩
      · obtain ⟨j, b3, e3, hb3, hj⟩ := hp b2 2 hb2 (by decide) (by decide)
        have e3 : Fp [some ⟨b2, .io⟩, some ⟨.int 2, .sh⟩] = .ok (.sh (.int j)) [some ⟨b3, .io⟩, none] := e3
        exact ⟨b3, decide ((j : Int) = 0), hb3, by simp [ixS_free, f, e3]⟩
    obtain ⟨b3, c, hb3, em⟩ := mid
    cases c with
    | true =>
      refine ⟨.knot nm tk (.sign s :: ks), b3, l1, hb3, hl1, add_sign ok (.inl rfl), ?_⟩
      unfold m_law_tree_2
      refine fin_seq [some ⟨b, .io⟩, some ⟨S.enc room, .io⟩, some ⟨.str name, .sh⟩, some ⟨.str foot, .sh⟩, some ⟨.int room, .sh⟩, none, none] (by simp [sl]) ?_
      refine fin_seq [some ⟨b1, .io⟩, some ⟨S.enc l1, .io⟩, some ⟨.str name, .sh⟩, some ⟨.str foot, .sh⟩, some ⟨.int room, .sh⟩, some ⟨(Tr.knot nm tk ks).enc, .sh⟩, none] (by simp [e1]) ?_
      refine fin_seq [some ⟨b1, .io⟩, some ⟨S.enc l1, .io⟩, some ⟨.str name, .sh⟩, some ⟨.str foot, .sh⟩, some ⟨.int room, .sh⟩, some ⟨(Tr.knot nm tk ks).enc, .sh⟩, none] (by simp [es]) ?_
      refine fin_seq [some ⟨b2, .io⟩, some ⟨S.enc l1, .io⟩, some ⟨.str name, .sh⟩, some ⟨.str foot, .sh⟩, some ⟨.int room, .sh⟩, some ⟨(Tr.knot nm tk ks).enc, .sh⟩, some ⟨(Tr.sign s).enc, .sh⟩] (by simp [ixS_signs, l2, e2, g, Tr.enc]) ?_
      rw [sSeq_eq, sIf_eq, em, ek, ek]
      simp [c3, z1, z3, Tr.enc]
    | false =>
      refine ⟨.knot nm tk (ks ++ [.sign s]), b3, l1, hb3, hl1, add_sign ok (.inr rfl), ?_⟩
      unfold m_law_tree_2
      refine fin_seq [some ⟨b, .io⟩, some ⟨S.enc room, .io⟩, some ⟨.str name, .sh⟩, some ⟨.str foot, .sh⟩, some ⟨.int room, .sh⟩, none, none] (by simp [sl]) ?_
      refine fin_seq [some ⟨b1, .io⟩, some ⟨S.enc l1, .io⟩, some ⟨.str name, .sh⟩, some ⟨.str foot, .sh⟩, some ⟨.int room, .sh⟩, some ⟨(Tr.knot nm tk ks).enc, .sh⟩, none] (by simp [e1]) ?_
      refine fin_seq [some ⟨b1, .io⟩, some ⟨S.enc l1, .io⟩, some ⟨.str name, .sh⟩, some ⟨.str foot, .sh⟩, some ⟨.int room, .sh⟩, some ⟨(Tr.knot nm tk ks).enc, .sh⟩, none] (by simp [es]) ?_
      refine fin_seq [some ⟨b2, .io⟩, some ⟨S.enc l1, .io⟩, some ⟨.str name, .sh⟩, some ⟨.str foot, .sh⟩, some ⟨.int room, .sh⟩, some ⟨(Tr.knot nm tk ks).enc, .sh⟩, some ⟨(Tr.sign s).enc, .sh⟩] (by simp [ixS_signs, l2, e2, g, Tr.enc]) ?_
      rw [sSeq_eq, sIf_eq, em, ek, ek]
      simp [c3, z2, z3, Tr.enc]
  · have q' : 0 < t.signs.length := List.length_pos_iff.mpr q
    refine ⟨t, b1, l1, hb1, hl1, ⟨by omega, by omega, ok.ft⟩, ?_⟩
    unfold m_law_tree_2
    refine fin_seq [some ⟨b, .io⟩, some ⟨S.enc room, .io⟩, some ⟨.str name, .sh⟩, some ⟨.str foot, .sh⟩, some ⟨.int room, .sh⟩, none, none] (by simp [sl]) ?_
    refine fin_seq [some ⟨b1, .io⟩, some ⟨S.enc l1, .io⟩, some ⟨.str name, .sh⟩, some ⟨.str foot, .sh⟩, some ⟨.int room, .sh⟩, some ⟨t.enc, .sh⟩, none] (by simp [e1]) ?_
    simp [es, q, q', zs]
end GX
namespace GM
open PySem L2 GS
/-- _law_book(box, some, count, room); slots 0:box 1:some 2:count 3:room 4:great 5:keys 6:trees 7:k 8:turn 9:name 10:foot -/
def m_law_book_2_b1 (F__law_pick F__law_tree F__law_words : FF) : SF := (sKill [7, 9, 10] (sSeq (sSet 9 (eBin ixA (eBin ixA (eVb 1) (eC (.str (Str.ofString "starts")))) (eCall 2 (some 0) F__law_pick (aCons (eVb 0) (aCons (eC (.int 2)) aNil))))) (sSeq (sSet 10 (eC (.str (Str.ofString "")))) (sSeq (sIf (eOr (eB (eBin (eqB false) (eVb 7) (eC (.int 1)))) (eB (eBin (eqB false) (eCall 2 (some 0) F__law_pick (aCons (eVb 0) (aCons (eC (.int 2)) aNil))) (eC (.int 0))))) (sSet 10 (eBin ixA (eBin ixA (eVb 1) (eC (.str (Str.ofString "grafts")))) (eBin divD (eCall 2 (some 0) F__law_pick (aCons (eVb 0) (aCons (eC (.int 4)) aNil))) (eC (.int 3))))) sNil) (sApp 6 (eTup (aCons (eBin ixA (eVb 5) (eVb 7)) (aCons (eCallN 5 [0, 1] F__law_tree (aCons (eVb 0) (aCons (eVb 1) (aCons (eMv 9) (aCons (eMv 10) (aCons (eMv 3) aNil)))))) aNil))))))))
def m_law_book_2 (F__law_pick F__law_tree F__law_words : FF) : SF := (sSeq (sSet 4 (eC (.str (Str.ofString "ABCDEFGHIJKLMNOPQRSTUVWXYZ")))) (sSeq (sPut 1 (eC (.str (Str.ofString "starts"))) (eCall 4 (some 0) F__law_words (aCons (eVb 0) (aCons (eMv 4) (aCons (eC (.str (Str.ofString "7"))) (aCons (eC (.int 2)) aNil)))))) (sSeq (sPut 1 (eC (.str (Str.ofString "grafts"))) (eCall 4 (some 0) F__law_words (aCons (eVb 0) (aCons (eMv 4) (aCons (eC (.str (Str.ofString "0"))) (aCons (eC (.int 2)) aNil)))))) (sSeq (sIf (eB (eBin (eqB false) (eCall 2 (some 0) F__law_pick (aCons (eVb 0) (aCons (eC (.int 3)) aNil))) (eC (.int 0)))) (sPut 1 (eC (.str (Str.ofString "grafts"))) (eCB (un1 listD) (aCons (eBin ixA (eVb 1) (eC (.str (Str.ofString "starts")))) aNil))) sNil) (sSeq (sSet 5 (eCall 4 (some 0) F__law_words (aCons (eVb 0) (aCons (eM0 lowerD (eVb 4)) (aCons (eC (.str (Str.ofString "3"))) (aCons (eMv 2) aNil)))))) (sSeq (sSet 6 (eLst (aCons (eTup (aCons (eBin ixA (eVb 5) (eC (.int 0))) (aCons (eCallN 5 [0, 1] F__law_tree (aCons (eVb 0) (aCons (eVb 1) (aCons (eBin ixA (eBin ixA (eVb 1) (eC (.str (Str.ofString "starts")))) (eC (.int 0))) (aCons (eC (.str (Str.ofString ""))) (aCons (eBin mulA (eVb 3) (eBin divD (eBin addD (eC (.int 1)) (eCall 2 (some 0) F__law_pick (aCons (eVb 0) (aCons (eC (.int 3)) aNil)))) (eC (.int 2)))) aNil)))))) aNil))) aNil))) (sSeq (sFor (iR2 (eC (.int 1)) (eVb 2)) (gN 7) (m_law_book_2_b1 F__law_pick F__law_tree F__law_words)) (sSeq (sSet 8 (eCall 2 (some 0) F__law_pick (aCons (eVb 0) (aCons (eMv 2) aNil)))) (sSeq (sSet 6 (eBin addD (eSl (eVb 6) (some (eVb 8)) none) (eSl (eVb 6) none (some (eVb 8))))) (sSeq (sIf (eB (eBin (eqB false) (eCall 2 (some 0) F__law_pick (aCons (eVb 0) (aCons (eC (.int 2)) aNil))) (eC (.int 1)))) (sSet 6 (eRevA (eVb 6))) sNil) (sEnd (sRet (eTup (aCons (eBin ixA (eBin ixA (eVb 1) (eC (.str (Str.ofString "starts")))) (eC (.int 0))) (aCons (eCB (un1 tupleD) (aCons (eVb 6) aNil)) aNil)))))))))))))))
theorem m_law_book_2_eq (F__law_pick F__law_tree F__law_words : FF) (ρ : Rho) : fnF 11 4 (m_law_book_2 F__law_pick F__law_tree F__law_words) ρ = finR 4 (m_law_book_2 F__law_pick F__law_tree F__law_words (ρ ++ [none, none, none, none, none, none, none])) := fnF_eq 11 4 _
end GM
namespace GX
open PySem L2 GS GM
def revAR (d : Option D) (ρ : Rho) : RE := match d with
  | some (.list ds) => .ok (.fr (.list ds.reverse)) ρ
  | some (.tuple ds) => .ok (.sh (.tuple ds.reverse)) ρ
  | _ => .stuck
@[simp] theorem revAR_l (ds : List D) (ρ : Rho) : revAR (some (.list ds)) ρ = .ok (.fr (.list ds.reverse)) ρ := rfl
@[simp] theorem revAR_t (ds : List D) (ρ : Rho) : revAR (some (.tuple ds)) ρ = .ok (.sh (.tuple ds.reverse)) ρ := rfl
@[simp] theorem eRevA_eq (f : EF) (ρ : Rho) : eRevA f ρ = bindE (eSet f ρ) fun h ρ1 => revAR (getH ρ1 h) ρ1 := by unfold eRevA revAR; rfl
structure Tr7 (t : Tr) : Prop where
  ht : t.ht ≤ 2
  sz : t.pieces.length ≤ 14
  ft : t.feet.length ≤ 1
theorem ftL_le (s : Str) : (ftL s).length ≤ 1 := by unfold ftL; split <;> simp
theorem TrOk.t7 {f : Str} {t : Tr} (h : TrOk f t) : Tr7 t := ⟨h.ht, h.sz, by rw [h.ft]; exact ftL_le f⟩
def great7 : Str := Str.ofString "ABCDEFGHIJKLMNOPQRSTUVWXYZ"
def small7 : Str := Str.ofString "abcdefghijklmnopqrstuvwxyz"
theorem great_len : great7.length = 26 := by decide +kernel
theorem small_len : small7.length = 26 := by decide +kernel
theorem great_nd : great7.cps.toList.Nodup := by decide +kernel
theorem small_nd : small7.cps.toList.Nodup := by decide +kernel
theorem great_low : lowerD (.str great7) = some (.sh (.str small7)) := by
  show (if Nat.ble great7.length 5592405 then some (Hd.sh (.str (Txt.lower great7))) else none) = _
  rw [show Txt.lower great7 = small7 by decide +kernel, great_len]
  rfl
def s0D (sg : List Str) (free : Int) (l : Int) : D := .dict [(.str (Str.ofString "signs"), ssD sg), (.str (Str.ofString "free"), .int free), (.str (Str.ofString "knots"), .bool true), (.str (Str.ofString "left"), .int l)]
def s1D (sg : List Str) (free : Int) (l : Int) (st : List Str) : D := .dict [(.str (Str.ofString "signs"), ssD sg), (.str (Str.ofString "free"), .int free), (.str (Str.ofString "knots"), .bool true), (.str (Str.ofString "left"), .int l), (.str (Str.ofString "starts"), ssD st)]
theorem set_starts (sg : List Str) (free l : Int) (st : List Str) : setD (.str (Str.ofString "starts")) (ssD st) (s0D sg free l) = some (s1D sg free l st) := by
  have h : (4 : Nat) < sizeLine := by decide
  have h1 : ¬ Str.ofString "signs" = Str.ofString "starts" := by decide +kernel
  have h2 : ¬ Str.ofString "free" = Str.ofString "starts" := by decide +kernel
  have h3 : ¬ Str.ofString "knots" = Str.ofString "starts" := by decide +kernel
  have h4 : ¬ Str.ofString "left" = Str.ofString "starts" := by decide +kernel
  unfold s0D s1D
  rw [setD_d]
  simp [h, dPut, kEq, h1, h2, h3, h4]
  try decide +kernel
theorem set_grafts (S : Sm) (l : Int) : setD (.str (Str.ofString "grafts")) (ssD S.gr) (s1D S.sg S.free l S.st) = some (S.enc l) := by
  have h : (5 : Nat) < sizeLine := by decide
  have h1 : ¬ Str.ofString "signs" = Str.ofString "grafts" := by decide +kernel
  have h2 : ¬ Str.ofString "free" = Str.ofString "grafts" := by decide +kernel
  have h3 : ¬ Str.ofString "knots" = Str.ofString "grafts" := by decide +kernel
  have h4 : ¬ Str.ofString "left" = Str.ofString "grafts" := by decide +kernel
  have h5 : ¬ Str.ofString "starts" = Str.ofString "grafts" := by decide +kernel
  unfold s1D Sm.enc
  rw [setD_d]
  simp [h, dPut, kEq, h1, h2, h3, h4, h5]
  try decide +kernel
theorem set_grafts2 (S : Sm) (l : Int) (gr : List Str) (hg : gr.length = 2) : setD (.str (Str.ofString "grafts")) (ssD gr) (S.enc l) = some (({ S with gr := gr, g2 := hg } : Sm).enc l) := by
  have h : (6 : Nat) < sizeLine := by decide
  have h1 : ¬ Str.ofString "signs" = Str.ofString "grafts" := by decide +kernel
  have h2 : ¬ Str.ofString "free" = Str.ofString "grafts" := by decide +kernel
  have h3 : ¬ Str.ofString "knots" = Str.ofString "grafts" := by decide +kernel
  have h4 : ¬ Str.ofString "left" = Str.ofString "grafts" := by decide +kernel
  have h5 : ¬ Str.ofString "starts" = Str.ofString "grafts" := by decide +kernel
  unfold Sm.enc
  rw [setD_d]
  simp [h, dPut, kEq, h1, h2, h3, h4, h5]
  try decide +kernel
abbrev bst (b : D) (S : Sm) (left count : Nat) (ws : List Str) (ps : List (Str × Tr)) (x7 x8 x9 x10 : Option Cel) : Rho :=
  [some ⟨b, .io⟩, some ⟨S.enc left, .io⟩, some ⟨.int count, .sh⟩, some ⟨.int 4, .sh⟩, some ⟨.str great7, .sh⟩, some ⟨.list (ws.map .str), .ow⟩, some ⟨.list (ps.map encKT), .ow⟩, x7, x8, x9, x10]
section
variable {Fp Ft Fw : FF}
theorem book_turn (hp : PickSp Fp) (ht : TreeSp7 Ft) (b : D) (S : Sm) (left count k : Nat) (ws : List Str) (ps : List (Str × Tr)) (hb : Bx b) (hl : left ≤ 1000) (hk : k < ws.length) (hps : ps.length ≤ 100) :
    ∃ (p : Str × Tr) (b' : D) (left' : Nat), Bx b' ∧ left' ≤ 1000 ∧ Tr7 p.2 ∧ optR (gN 7 (.int k) (bst b S left count ws ps none none none none)) (m_law_book_2_b1 Fp Ft Fw) = .nx (bst b' S left' count ws (ps ++ [p]) none none none none) := by
  obtain ⟨i, b1, e1, hb1, hi⟩ := hp b 2 hb (by decide) (by decide)
  have e1 : Fp [some ⟨b, .io⟩, some ⟨.int 2, .sh⟩] = .ok (.sh (.int i)) [some ⟨b1, .io⟩, none] := e1
  obtain ⟨nm, _, hn⟩ := two_get S.t2 hi
  have gn : ixA (ssD S.st) (.int i) = some (.sh (.str nm)) := by simp [ssD, hn]
  have z : ps.length < sizeLine := fitsl (by omega)
  obtain ⟨key, hkey⟩ : ∃ key, atI (ws.map PyData.str) (k : Int) = some (.str key) := ⟨ws[k], atI_nat (by rw [List.getElem?_map, List.getElem?_eq_getElem hk]; rfl)⟩
  -- the foot
  obtain ⟨foot, b2, hb2, e2⟩ : ∃ (foot : Str) (b2 : D), Bx b2 ∧ sIf (eOr (eB (eBin (eqB false) (eVb 7) (eC (.int 1)))) (eB (eBin (eqB false) (eCall 2 (some 0) Fp (aCons (eVb 0) (aCons (eC (.int 2)) aNil))) (eC (.int 0))))) (sSet 10 (eBin ixA (eBin ixA (eVb 1) (eC (.str (Str.ofString "grafts")))) (eBin divD (eCall 2 (some 0) Fp (aCons (eVb 0) (aCons (eC (.int 4)) aNil))) (eC (.int 3))))) sNil
      (bst b1 S left count ws ps (some ⟨.int k, .sh⟩) none (some ⟨.str nm, .sh⟩) (some ⟨.str (Str.ofString ""), .sh⟩)) = .nx (bst b2 S left count ws ps (some ⟨.int k, .sh⟩) none (some ⟨.str nm, .sh⟩) (some ⟨.str foot, .sh⟩)) := by
    have setf : ∀ b0, Bx b0 → ∃ (foot : Str) (b2 : D), Bx b2 ∧ sSet 10 (eBin ixA (eBin ixA (eVb 1) (eC (.str (Str.ofString "grafts")))) (eBin divD (eCall 2 (some 0) Fp (aCons (eVb 0) (aCons (eC (.int 4)) aNil))) (eC (.int 3))))
        (bst b0 S left count ws ps (some ⟨.int k, .sh⟩) none (some ⟨.str nm, .sh⟩) (some ⟨.str (Str.ofString ""), .sh⟩)) = .nx (bst b2 S left count ws ps (some ⟨.int k, .sh⟩) none (some ⟨.str nm, .sh⟩) (some ⟨.str foot, .sh⟩)) := fun b0 hb0 => by
      obtain ⟨j, b3, e3, hb3, hj⟩ := hp b0 4 hb0 (by decide) (by decide)
      have e3 : Fp [some ⟨b0, .io⟩, some ⟨.int 4, .sh⟩] = .ok (.sh (.int j)) [some ⟨b3, .io⟩, none] := e3
      obtain ⟨s, _, hs'⟩ := two_get S.g2 (i := j / 3) (by omega)
      have g : ixA (ssD S.gr) (.int ((j : Int) / 3)) = some (.sh (.str s)) := by
        have h2 : ((j : Int) / 3) = ((j / 3 : Nat) : Int) := by omega
        have h3 : atI (S.gr.map PyData.str) ((j : Int) / 3) = some (.str s) := by rw [h2]; exact hs'
        simp [ssD, h3]
      exact ⟨s, b3, hb3, by simp [bst, ixS_grafts, e3, g]⟩
    by_cases q : (k : Int) = 1
    · obtain ⟨foot, b2, hb2, e⟩ := setf b1 hb1
      refine ⟨foot, b2, hb2, ?_⟩
      rw [sIf_eq, ← e]
      simp [bst, q]
    · obtain ⟨j, b3, e3, hb3, hj⟩ := hp b1 2 hb1 (by decide) (by decide)
      have e3 : Fp [some ⟨b1, .io⟩, some ⟨.int 2, .sh⟩] = .ok (.sh (.int j)) [some ⟨b3, .io⟩, none] := e3
      by_cases q2 : j = 0
      · obtain ⟨foot, b2, hb2, e⟩ := setf b3 hb3
        refine ⟨foot, b2, hb2, ?_⟩
        rw [sIf_eq, ← e]
        have q' : ¬ k = 1 := by omega
        simp [bst, q, q', e3, q2]
      · have q' : ¬ k = 1 := by omega
        exact ⟨Str.ofString "", b3, hb3, by simp [bst, q, q', e3, q2]⟩
  obtain ⟨t, b3, l3, hb3, hl3, ok, e3⟩ := ht b2 S left nm foot 4 hb2 hl (by decide)
  have e3 : Ft [some ⟨b2, .io⟩, some ⟨S.enc left, .io⟩, some ⟨.str nm, .sh⟩, some ⟨.str foot, .sh⟩, some ⟨.int 4, .sh⟩] = .ok (.sh t.enc) [some ⟨b3, .io⟩, some ⟨S.enc l3, .io⟩, none, none, none] := e3
  refine ⟨(key, t), b3, l3, hb3, hl3, ok.t7, ?_⟩
  have g : gN 7 (.int k) (bst b S left count ws ps none none none none) = some (bst b S left count ws ps (some ⟨.int k, .sh⟩) none none none) := by simp [bst]
  rw [g, optR_s]
  refine kill_of (bst b3 S l3 count ws (ps ++ [(key, t)]) (some ⟨.int k, .sh⟩) none (some ⟨.str nm, .sh⟩) (some ⟨.str foot, .sh⟩)) (by simp [bst]) ?_ (by simp [bst])
  refine seq_of (bst b1 S left count ws ps (some ⟨.int k, .sh⟩) none (some ⟨.str nm, .sh⟩) none) (by simp [bst, ixS_starts, e1, gn]) ?_
  refine seq_of (bst b1 S left count ws ps (some ⟨.int k, .sh⟩) none (some ⟨.str nm, .sh⟩) (some ⟨.str (Str.ofString ""), .sh⟩)) (by simp [bst]) ?_
  refine seq_of _ e2 ?_
  simp [bst, hkey, e3, z, encKT]
end
end GX
namespace GX
open PySem L2 GS GM
def BookSp7 (F : FF) : Prop := ∀ (b : D) (sg : List Str) (free : Int) (count : Nat), Bx b → sg.length = 2 → 3 ≤ count → count ≤ 5 → ∃ (top : Str) (ps : List (Str × Tr)) (S : Sm) (left : Nat) (b' : D), Bx b' ∧ left ≤ 1000 ∧ (∀ p ∈ ps, Tr7 p.2) ∧ ps.length ≤ 5 ∧
  F [some ⟨b, .io⟩, some ⟨s0D sg free 0, .io⟩, some ⟨.int count, .sh⟩, some ⟨.int 4, .sh⟩] = .ok (.sh (.tuple [.str top, .tuple (ps.map encKT)])) [some ⟨b', .io⟩, some ⟨S.enc left, .io⟩, none, none]
section
variable {Fp Ft Fw : FF}
theorem law_book_ok7 (hp : PickSp Fp) (ht : TreeSp7 Ft) (hw : WordsSp3 Fw) : BookSp7 (fnF 11 4 (m_law_book_2 Fp Ft Fw)) := fun b sg free count hb hsg hc3 hc5 => by
  rw [m_law_book_2_eq]
  obtain ⟨st, b1, _, e1, hb1, hst, _⟩ := hw b great7 (Str.ofString "7") 2 hb great_len (by decide +kernel) great_nd (by decide)
  obtain ⟨gr, b2, _, e2, hb2, hgr, _⟩ := hw b1 great7 (Str.ofString "0") 2 hb1 great_len (by decide +kernel) great_nd (by decide)
  have e1 : Fw [some ⟨b, .io⟩, some ⟨.str great7, .sh⟩, some ⟨.str (Str.ofString "7"), .sh⟩, some ⟨.int 2, .sh⟩] = .ok (.fr (.list (st.map .str))) [some ⟨b1, .io⟩, none, none, none] := e1
  have e2 : Fw [some ⟨b1, .io⟩, some ⟨.str great7, .sh⟩, some ⟨.str (Str.ofString "0"), .sh⟩, some ⟨.int 2, .sh⟩] = .ok (.fr (.list (gr.map .str))) [some ⟨b2, .io⟩, none, none, none] := e2
  let S0 : Sm := ⟨sg, free, st, gr, hsg, hst, hgr⟩
  have q1 := set_starts sg free 0 st
  have q2 : setD (.str (Str.ofString "grafts")) (ssD gr) (s1D sg free 0 st) = some (S0.enc 0) := set_grafts S0 0
  obtain ⟨i3, b3, e3, hb3, hi3⟩ := hp b2 3 hb2 (by decide) (by decide)
  have e3 : Fp [some ⟨b2, .io⟩, some ⟨.int 3, .sh⟩] = .ok (.sh (.int i3)) [some ⟨b3, .io⟩, none] := e3
  obtain ⟨S, e4⟩ : ∃ S : Sm, sIf (eB (eBin (eqB false) (eCall 2 (some 0) Fp (aCons (eVb 0) (aCons (eC (.int 3)) aNil))) (eC (.int 0)))) (sPut 1 (eC (.str (Str.ofString "grafts"))) (eCB (un1 listD) (aCons (eBin ixA (eVb 1) (eC (.str (Str.ofString "starts")))) aNil))) sNil
      [some ⟨b2, .io⟩, some ⟨S0.enc 0, .io⟩, some ⟨.int count, .sh⟩, some ⟨.int 4, .sh⟩, some ⟨.str great7, .sh⟩, none, none, none, none, none, none] = .nx [some ⟨b3, .io⟩, some ⟨S.enc 0, .io⟩, some ⟨.int count, .sh⟩, some ⟨.int 4, .sh⟩, some ⟨.str great7, .sh⟩, none, none, none, none, none, none] := by
    by_cases q : i3 = 0
    · refine ⟨{ S0 with gr := S0.st, g2 := S0.t2 }, ?_⟩
      have q3 := set_grafts2 S0 0 S0.st S0.t2
      have l1 : listD (ssD S0.st) = some (.fr (ssD S0.st)) := by
        have z : S0.st.length ≤ sizeLine := fits (by have := S0.t2; omega)
        simp [ssD, z]
      have ix := ixS_starts S0 0
      generalize S0.enc 0 = d0 at ix q3 ⊢
      simp [e3, q, ix, l1, q3]
    · exact ⟨S0, by simp [e3, q]⟩
  obtain ⟨ws, b4, _, e5, hb4, hws, _⟩ := hw b3 small7 (Str.ofString "3") count hb3 small_len (by decide +kernel) small_nd (by omega)
  have e5 : Fw [some ⟨b3, .io⟩, some ⟨.str small7, .sh⟩, some ⟨.str (Str.ofString "3"), .sh⟩, some ⟨.int count, .sh⟩] = .ok (.fr (.list (ws.map .str))) [some ⟨b4, .io⟩, none, none, none] := e5
  obtain ⟨top, tops, gtop⟩ : ∃ top, top ∈ S.st ∧ atI (S.st.map PyData.str) (0 : Int) = some (.str top) := two_get S.t2 (i := 0) (by decide)
  have gtop' : ixA (ssD S.st) (.int 0) = some (.sh (.str top)) := by simp [ssD, gtop]
  obtain ⟨key, hkey⟩ : ∃ key, atI (ws.map PyData.str) (0 : Int) = some (.str key) := by
    cases hw0 : ws with
    | nil => rw [hw0] at hws; simp at hws; omega
    | cons a r => exact ⟨a, atI_nat (xs := (a :: r).map PyData.str) (by rfl)⟩
  obtain ⟨i6, b6, e6, hb6, hi6⟩ := hp b4 3 hb4 (by decide) (by decide)
  have e6 : Fp [some ⟨b4, .io⟩, some ⟨.int 3, .sh⟩] = .ok (.sh (.int i6)) [some ⟨b6, .io⟩, none] := e6
  obtain ⟨t, b7, l7, hb7, hl7, ok7, e7⟩ := ht b6 S 0 top (Str.ofString "") (4 * ((1 + i6) / 2)) hb6 (by decide) (by omega)
  have r7 : ((4 * ((1 + i6) / 2) : Nat) : Int) = 4 * ((1 + (i6 : Int)) / 2) := by omega
  rw [r7] at e7
  have e7 : Ft [some ⟨b6, .io⟩, some ⟨S.enc 0, .io⟩, some ⟨.str top, .sh⟩, some ⟨.str (Str.ofString ""), .sh⟩, some ⟨.int (4 * ((1 + (i6 : Int)) / 2)), .sh⟩] = .ok (.sh t.enc) [some ⟨b7, .io⟩, some ⟨S.enc l7, .io⟩, none, none, none] := e7
  have m4 : cMul 4 ((1 + (i6 : Int)) / 2) = true := cMul_l (by decide)
  obtain ⟨⟨ps, b8, l8⟩, f1, hb8, hl8, hps, hok⟩ := forL_by (S := List (Str × Tr) × D × Nat) (g := gN 7) (b := m_law_book_2_b1 Fp Ft Fw) (fun p => bst p.2.1 S p.2.2 count ws p.1 none none none none)
    (fun pre p => Bx p.2.1 ∧ p.2.2 ≤ 1000 ∧ p.1.length = pre.length + 1 ∧ ∀ x ∈ p.1, Tr7 x.2) (rgD 1 (count - 1)) ([(key, t)], b7, l7) ⟨hb7, hl7, rfl, fun x m => by simp at m; subst m; exact ok7.t7⟩ (fun pre x post ⟨ps, b', l'⟩ hx ⟨q1, q2, q3, q4⟩ => by
      obtain ⟨hn, rfl⟩ := rgD_mid hx
      dsimp only at q1 q2 q3 q4 ⊢
      rw [show (1 : Int) + (pre.length : Int) = ((1 + pre.length : Nat) : Int) by omega]
      obtain ⟨p, b'', l'', r1, r2, r3, r4⟩ := book_turn (Fw := Fw) hp ht b' S l' count (1 + pre.length) ws ps q1 q2 (by omega) (by omega)
      exact ⟨(ps ++ [p], b'', l''), r4, r1, r2, by simp [q3], fun x m => (List.mem_append.mp m).elim (q4 x) fun m => by simp at m; subst m; exact r3⟩)
  rw [rgD_len] at hps
  dsimp only at f1 hb8 hl8 hps hok
  obtain ⟨tn, b9, e9, hb9, htn⟩ := hp b8 count hb8 (by omega) (by omega)
  obtain ⟨rv, b10, e10, hb10, hrv⟩ := hp b9 2 hb9 (by decide) (by decide)
  have e10 : Fp [some ⟨b9, .io⟩, some ⟨.int 2, .sh⟩] = .ok (.sh (.int rv)) [some ⟨b10, .io⟩, none] := e10
  let ps2 := ps.drop tn ++ ps.take tn
  have hps2 : ps2.length = ps.length := by simp [ps2]; omega
  have m2 : ∀ p ∈ ps2, p ∈ ps := fun p m => (List.mem_append.mp m).elim List.mem_of_mem_drop List.mem_of_mem_take
  have oR : okR (count : Int) = true := okR_nat (by omega)
  have o1 : okR (1 : Int) = true := by decide
  have cnt : ((count : Int) - 1).toNat = count - 1 := by omega
  have cf : cutD (ps.map encKT) (some (tn : Int)) none = (ps.drop tn).map encKT := by rw [cutD_from, List.map_drop]
  have ct : cutD (ps.map encKT) none (some (tn : Int)) = (ps.take tn).map encKT := by rw [cutD_to, List.map_take]
  have zz : (ps.drop tn).length + (ps.take tn).length ≤ sizeLine := fits (by simp; omega)
  have zz2 : ps.length - tn + min tn ps.length ≤ sizeLine := fits (by omega)
  have go : ∀ q, finR 4 ((sSeq (sIf (eB (eBin (eqB false) (eCall 2 (some 0) Fp (aCons (eVb 0) (aCons (eC (.int 2)) aNil))) (eC (.int 1)))) (sSet 6 (eRevA (eVb 6))) sNil) (sEnd (sRet (eTup (aCons (eBin ixA (eBin ixA (eVb 1) (eC (.str (Str.ofString "starts")))) (eC (.int 0))) (aCons (eCB (un1 tupleD) (aCons (eVb 6) aNil)) aNil)))))) (bst b9 S l8 count ws ps2 none (some ⟨.int tn, .sh⟩) none none)) = q →
      finR 4 (m_law_book_2 Fp Ft Fw [some ⟨b, .io⟩, some ⟨s0D sg free 0, .io⟩, some ⟨.int count, .sh⟩, some ⟨.int 4, .sh⟩, none, none, none, none, none, none, none]) = q := fun q hq => by
    unfold m_law_book_2
    refine fin_seq [some ⟨b, .io⟩, some ⟨s0D sg free 0, .io⟩, some ⟨.int count, .sh⟩, some ⟨.int 4, .sh⟩, some ⟨.str great7, .sh⟩, none, none, none, none, none, none] (by simp [great7]) ?_
    refine fin_seq [some ⟨b1, .io⟩, some ⟨s1D sg free 0 st, .io⟩, some ⟨.int count, .sh⟩, some ⟨.int 4, .sh⟩, some ⟨.str great7, .sh⟩, none, none, none, none, none, none] (by unfold ssD at q1; simp [e1, q1]) ?_
    refine fin_seq [some ⟨b2, .io⟩, some ⟨S0.enc 0, .io⟩, some ⟨.int count, .sh⟩, some ⟨.int 4, .sh⟩, some ⟨.str great7, .sh⟩, none, none, none, none, none, none] (by unfold ssD at q2; simp [e2, q2]) ?_
    refine fin_seq _ e4 ?_
    refine fin_seq [some ⟨b4, .io⟩, some ⟨S.enc 0, .io⟩, some ⟨.int count, .sh⟩, some ⟨.int 4, .sh⟩, some ⟨.str great7, .sh⟩, some ⟨.list (ws.map .str), .ow⟩, none, none, none, none, none] (by simp [mGo0, great_low, e5]) ?_
    refine fin_seq (bst b7 S l7 count ws [(key, t)] none none none none) (by simp [hkey, ixS_starts, gtop', e6, m4, e7, encKT]) ?_
    refine fin_seq (bst b8 S l8 count ws ps none none none none) (by simp [o1, oR, cnt]; exact f1) ?_
    refine fin_seq (bst b9 S l8 count ws ps none (some ⟨.int tn, .sh⟩) none none) (by simp [bst, e9]) ?_
    exact fin_seq _ (by simp [bst, cf, ct, zz, zz2, ps2]) hq
  have zp : ps2.length ≤ sizeLine := fits (by omega)
  by_cases q : rv = 1
  · refine ⟨top, ps2.reverse, S, l8, b10, hb10, hl8, fun p m => hok p (m2 p (List.mem_reverse.mp m)), by rw [List.length_reverse]; omega, ?_⟩
    refine go _ ?_
    simp [bst, e10, q, ixS_starts, gtop', zp]
  · refine ⟨top, ps2, S, l8, b10, hb10, hl8, fun p m => hok p (m2 p m), by omega, ?_⟩
    refine go _ ?_
    have q' : ¬ (rv : Int) = 1 := by omega
    simp [bst, e10, q, q', ixS_starts, gtop', zp]
end
end GX
namespace GM
open PySem L2 GS
/-- _law_deep(box, some); slots 0:box 1:some 2:tree 3:k 4:kids 5:behind -/
def m_law_deep_2_b1 (F__law_pick : FF) : SF := (sKill [3, 4, 5] (sSeq (sSet 4 (eTup (aCons (eMv 2) aNil))) (sSeq (sIf (eOr (eB (eBin (eqB false) (eVb 3) (eC (.int 0)))) (eB (eBin (eqB false) (eCall 2 (some 0) F__law_pick (aCons (eVb 0) (aCons (eC (.int 2)) aNil))) (eC (.int 0))))) (sSet 4 (eTup (aCons (eTup (aCons (eC (.str (Str.ofString "sign"))) (aCons (eBin ixA (eBin ixA (eVb 1) (eC (.str (Str.ofString "signs")))) (eCall 2 (some 0) F__law_pick (aCons (eVb 0) (aCons (eC (.int 2)) aNil)))) aNil))) (aCons (eMv 2) aNil)))) sNil) (sSeq (sKill [5] (sIf (eB (eBin (eqB false) (eCall 2 (some 0) F__law_pick (aCons (eVb 0) (aCons (eC (.int 8)) aNil))) (eC (.int 0)))) (sSeq (sSet 5 (eLst (aCons (eTup (aCons (eC (.str (Str.ofString "void"))) aNil)) (aCons (eTup (aCons (eC (.str (Str.ofString "sign"))) (aCons (eBin ixA (eBin ixA (eVb 1) (eC (.str (Str.ofString "signs")))) (eC (.int 0))) aNil))) (aCons (eTup (aCons (eC (.str (Str.ofString "hole"))) (aCons (eBin ixA (eBin ixA (eVb 1) (eC (.str (Str.ofString "starts")))) (eC (.int 0))) aNil))) aNil))))) (sSet 4 (eBin addD (eVb 4) (eTup (aCons (eBin ixA (eVb 5) (eCall 2 (some 0) F__law_pick (aCons (eVb 0) (aCons (eC (.int 3)) aNil)))) aNil))))) sNil)) (sSet 2 (eTup (aCons (eC (.str (Str.ofString "knot"))) (aCons (eBin ixA (eBin ixA (eVb 1) (eC (.str (Str.ofString "starts")))) (eC (.int 1))) (aCons (eC .none) (aCons (eMv 4) aNil))))))))))
def m_law_deep_2 (F__law_pick : FF) : SF := (sSeq (sSet 2 (eTup (aCons (eC (.str (Str.ofString "foot"))) (aCons (eBin ixA (eBin ixA (eVb 1) (eC (.str (Str.ofString "grafts")))) (eC (.int 0))) aNil)))) (sSeq (sFor (iR1 (eBin addD (eC (.int 1)) (eCall 2 (some 0) F__law_pick (aCons (eVb 0) (aCons (eC (.int 5)) aNil))))) (gN 3) (m_law_deep_2_b1 F__law_pick)) (sEnd (sRet (eRv 2)))))
theorem m_law_deep_2_eq (F__law_pick : FF) (ρ : Rho) : fnF 6 2 (m_law_deep_2 F__law_pick) ρ = finR 2 (m_law_deep_2 F__law_pick (ρ ++ [none, none, none, none])) := fnF_eq 6 2 _
end GM
namespace GX
open PySem L2 GS GM
def DeepSp (F : FF) : Prop := ∀ (b : D) (S : Sm) (left : Nat), Bx b → ∃ (t : Tr) (b' : D), Bx b' ∧ t.ht ≤ 6 ∧ t.pieces.length ≤ 30 ∧ t.feet.length = 1 ∧ F [some ⟨b, .io⟩, some ⟨S.enc left, .sh⟩] = .ok (.sh t.enc) [some ⟨b', .io⟩, none]
structure KP (h n : Nat) (ks : List Tr) : Prop where
  ht : ∀ k ∈ ks, k.ht ≤ h
  sz : (ks.flatMap Tr.pieces).length ≤ n
  ft : (ks.flatMap Tr.feet).length = 1
  ln : ks.length ≤ 3
abbrev dst (b : D) (S : Sm) (left : Nat) (t : Tr) (x3 x4 x5 : Option Cel) : Rho := [some ⟨b, .io⟩, some ⟨S.enc left, .sh⟩, some ⟨t.enc, .sh⟩, x3, x4, x5]
def kidsC (ks : List Tr) : Option Cel := some ⟨.tuple (ks.map Tr.enc), .sh⟩
section
variable {Fp : FF}
theorem deep_turn (hp : PickSp Fp) (b : D) (S : Sm) (left : Nat) (t : Tr) (h n k : Nat) (hb : Bx b) (hh : t.ht ≤ h) (hn : t.pieces.length ≤ n) (hf : t.feet.length = 1) :
    ∃ (t' : Tr) (b' : D), Bx b' ∧ t'.ht ≤ h + 1 ∧ t'.pieces.length ≤ n + 3 ∧ t'.feet.length = 1 ∧ optR (gN 3 (.int k) (dst b S left t none none none)) (m_law_deep_2_b1 Fp) = .nx (dst b' S left t' none none none) := by
  -- ahead
  obtain ⟨ks1, b1, hb1, K1, hl1, e1⟩ : ∃ (ks1 : List Tr) (b1 : D), Bx b1 ∧ KP h (n + 1) ks1 ∧ ks1.length ≤ 2 ∧ sIf (eOr (eB (eBin (eqB false) (eVb 3) (eC (.int 0)))) (eB (eBin (eqB false) (eCall 2 (some 0) Fp (aCons (eVb 0) (aCons (eC (.int 2)) aNil))) (eC (.int 0))))) (sSet 4 (eTup (aCons (eTup (aCons (eC (.str (Str.ofString "sign"))) (aCons (eBin ixA (eBin ixA (eVb 1) (eC (.str (Str.ofString "signs")))) (eCall 2 (some 0) Fp (aCons (eVb 0) (aCons (eC (.int 2)) aNil)))) aNil))) (aCons (eMv 2) aNil)))) sNil
      (dst b S left t (some ⟨.int k, .sh⟩) (kidsC [t]) none) = .nx (dst b1 S left t (some ⟨.int k, .sh⟩) (kidsC ks1) none) := by
    have setk : ∀ b0, Bx b0 → ∃ (ks1 : List Tr) (b1 : D), Bx b1 ∧ KP h (n + 1) ks1 ∧ ks1.length ≤ 2 ∧ sSet 4 (eTup (aCons (eTup (aCons (eC (.str (Str.ofString "sign"))) (aCons (eBin ixA (eBin ixA (eVb 1) (eC (.str (Str.ofString "signs")))) (eCall 2 (some 0) Fp (aCons (eVb 0) (aCons (eC (.int 2)) aNil)))) aNil))) (aCons (eMv 2) aNil)))
        (dst b0 S left t (some ⟨.int k, .sh⟩) (kidsC [t]) none) = .nx (dst b1 S left t (some ⟨.int k, .sh⟩) (kidsC ks1) none) := fun b0 hb0 => by
      obtain ⟨i, b2, e2, hb2, hi⟩ := hp b0 2 hb0 (by decide) (by decide)
      have e2 : Fp [some ⟨b0, .io⟩, some ⟨.int 2, .sh⟩] = .ok (.sh (.int i)) [some ⟨b2, .io⟩, none] := e2
      obtain ⟨s, _, hs⟩ := two_get S.s2 hi
      have g : ixA (ssD S.sg) (.int i) = some (.sh (.str s)) := by simp [ssD, hs]
      refine ⟨[.sign s, t], b2, hb2, ⟨fun k m => ?_, ?_, ?_, by simp⟩, by simp, by simp [dst, kidsC, ixS_signs, e2, g, Tr.enc]⟩
      · simp at m
        rcases m with rfl | rfl
        · simp [Tr.ht]
        · exact hh
      · rw [List.flatMap_cons, List.flatMap_cons, List.flatMap_nil, List.append_nil, List.length_append]
        have : (Tr.sign s).pieces.length = 1 := rfl
        omega
      · rw [List.flatMap_cons, List.flatMap_cons, List.flatMap_nil, List.append_nil]
        exact hf
    have K0 : KP h (n + 1) [t] := ⟨fun k m => by simp at m; subst m; exact hh, by simp; omega, by simp [hf], by simp⟩
    by_cases q : (k : Int) = 0
    · obtain ⟨ks1, b1, r1, r2, r3, e⟩ := setk b hb
      refine ⟨ks1, b1, r1, r2, r3, ?_⟩
      rw [sIf_eq, ← e]
      simp [dst, q]
    · have q' : ¬ k = 0 := by omega
      obtain ⟨j, b3, e3, hb3, hj⟩ := hp b 2 hb (by decide) (by decide)
      have e3 : Fp [some ⟨b, .io⟩, some ⟨.int 2, .sh⟩] = .ok (.sh (.int j)) [some ⟨b3, .io⟩, none] := e3
      by_cases q2 : j = 0
      · obtain ⟨ks1, b1, r1, r2, r3, e⟩ := setk b3 hb3
        refine ⟨ks1, b1, r1, r2, r3, ?_⟩
        rw [sIf_eq, ← e]
        simp [dst, q, q', e3, q2]
      · exact ⟨[t], b3, hb3, K0, by simp, by simp [dst, q, q', e3, q2]⟩
  -- behind
  obtain ⟨ks2, b2, hb2, K2, e2⟩ : ∃ (ks2 : List Tr) (b2 : D), Bx b2 ∧ KP h (n + 2) ks2 ∧ (sKill [5] (sIf (eB (eBin (eqB false) (eCall 2 (some 0) Fp (aCons (eVb 0) (aCons (eC (.int 8)) aNil))) (eC (.int 0)))) (sSeq (sSet 5 (eLst (aCons (eTup (aCons (eC (.str (Str.ofString "void"))) aNil)) (aCons (eTup (aCons (eC (.str (Str.ofString "sign"))) (aCons (eBin ixA (eBin ixA (eVb 1) (eC (.str (Str.ofString "signs")))) (eC (.int 0))) aNil))) (aCons (eTup (aCons (eC (.str (Str.ofString "hole"))) (aCons (eBin ixA (eBin ixA (eVb 1) (eC (.str (Str.ofString "starts")))) (eC (.int 0))) aNil))) aNil))))) (sSet 4 (eBin addD (eVb 4) (eTup (aCons (eBin ixA (eVb 5) (eCall 2 (some 0) Fp (aCons (eVb 0) (aCons (eC (.int 3)) aNil)))) aNil))))) sNil))
      (dst b1 S left t (some ⟨.int k, .sh⟩) (kidsC ks1) none) = .nx (dst b2 S left t (some ⟨.int k, .sh⟩) (kidsC ks2) none) := by
    obtain ⟨j, b3, e3, hb3, hj⟩ := hp b1 8 hb1 (by decide) (by decide)
    have e3 : Fp [some ⟨b1, .io⟩, some ⟨.int 8, .sh⟩] = .ok (.sh (.int j)) [some ⟨b3, .io⟩, none] := e3
    by_cases q : j = 0
    · obtain ⟨i, b4, e4, hb4, hi⟩ := hp b3 3 hb3 (by decide) (by decide)
      have e4 : Fp [some ⟨b3, .io⟩, some ⟨.int 3, .sh⟩] = .ok (.sh (.int i)) [some ⟨b4, .io⟩, none] := e4
      obtain ⟨s, _, hs⟩ := two_get S.s2 (i := 0) (by decide)
      obtain ⟨s', _, hs'⟩ := two_get S.t2 (i := 0) (by decide)
      have g : ixA (ssD S.sg) (.int 0) = some (.sh (.str s)) := by
        have hs : atI (S.sg.map PyData.str) (0 : Int) = some (.str s) := hs
        simp [ssD, hs]
      have g' : ixA (ssD S.st) (.int 0) = some (.sh (.str s')) := by
        have hs' : atI (S.st.map PyData.str) (0 : Int) = some (.str s') := hs'
        simp [ssD, hs']
      have z : ks1.length + 1 ≤ sizeLine := fits (by omega)
      obtain ⟨u, hu, u1, u2, u3⟩ : ∃ u : Tr, atI [Tr.void.enc, (Tr.sign s).enc, (Tr.hole s').enc] (i : Int) = some u.enc ∧ u.ht = 0 ∧ u.pieces.length = 1 ∧ u.feet = [] := by
        rcases (show i = 0 ∨ i = 1 ∨ i = 2 by omega) with rfl | rfl | rfl
        · exact ⟨.void, rfl, by simp [Tr.ht], rfl, rfl⟩
        · exact ⟨.sign s, rfl, by simp [Tr.ht], rfl, rfl⟩
        · exact ⟨.hole s', rfl, by simp [Tr.ht], rfl, rfl⟩
      simp only [Tr.enc] at hu
      refine ⟨ks1 ++ [u], b4, hb4, ⟨fun k m => ?_, ?_, ?_, by simp; omega⟩, ?_⟩
      · rcases List.mem_append.mp m with m | m
        · exact K1.ht k m
        · simp at m; subst m; omega
      · rw [List.flatMap_append, List.length_append, List.flatMap_cons, List.flatMap_nil, List.append_nil]
        have := K1.sz
        omega
      · rw [List.flatMap_append, List.flatMap_cons, List.flatMap_nil, List.append_nil, u3, List.append_nil]
        exact K1.ft
      · simp [dst, kidsC, e3, q, ixS_signs, ixS_starts, g, g', e4, hu, z]
    · refine ⟨ks1, b3, hb3, ⟨K1.ht, by have := K1.sz; omega, K1.ft, K1.ln⟩, ?_⟩
      simp [dst, kidsC, e3, q]
  obtain ⟨nm, _, hnm⟩ := two_get S.t2 (i := 1) (by decide)
  have gn : ixA (ssD S.st) (.int 1) = some (.sh (.str nm)) := by
    have hnm : atI (S.st.map PyData.str) (1 : Int) = some (.str nm) := hnm
    simp [ssD, hnm]
  refine ⟨.knot nm none ks2, b2, hb2, ?_, ?_, ?_, ?_⟩
  · rw [Tr.ht]; have := htL_of K2.ht; omega
  · rw [pieces_knot]; have := K2.sz; omega
  · rw [feet_kids]; exact K2.ft
  · have g : gN 3 (.int k) (dst b S left t none none none) = some (dst b S left t (some ⟨.int k, .sh⟩) none none) := by simp [dst]
    rw [g, optR_s]
    refine kill_of (dst b2 S left (.knot nm none ks2) (some ⟨.int k, .sh⟩) (kidsC ks2) none) (by simp [dst]) ?_ (by simp [dst, kidsC])
    refine seq_of (dst b S left t (some ⟨.int k, .sh⟩) (kidsC [t]) none) (by simp [dst, kidsC]) ?_
    refine seq_of _ e1 ?_
    refine seq_of _ e2 ?_
    simp [dst, kidsC, ixS_starts, gn, Tr.enc, encL_map, encTk]
theorem law_deep_ok (hp : PickSp Fp) : DeepSp (fnF 6 2 (m_law_deep_2 Fp)) := fun b S left hb => by
  rw [m_law_deep_2_eq]
  obtain ⟨f, _, hf⟩ := two_get S.g2 (i := 0) (by decide)
  have gf : ixA (ssD S.gr) (.int 0) = some (.sh (.str f)) := by
    have hf : atI (S.gr.map PyData.str) (0 : Int) = some (.str f) := hf
    simp [ssD, hf]
  obtain ⟨i, b1, e1, hb1, hi⟩ := hp b 5 hb (by decide) (by decide)
  have e1 : Fp [some ⟨b, .io⟩, some ⟨.int 5, .sh⟩] = .ok (.sh (.int i)) [some ⟨b1, .io⟩, none] := e1
  obtain ⟨⟨t, b2⟩, f1, hb2, h1, h2, h3⟩ := forL_by (S := Tr × D) (g := gN 3) (b := m_law_deep_2_b1 Fp) (fun p => dst p.2 S left p.1 none none none)
    (fun pre p => Bx p.2 ∧ p.1.ht ≤ pre.length ∧ p.1.pieces.length ≤ 1 + 3 * pre.length ∧ p.1.feet.length = 1) (rgD 0 (1 + i)) (.foot f, b1) ⟨hb1, by simp [Tr.ht], by simp [Tr.pieces], rfl⟩ (fun pre x post ⟨t, b'⟩ hx ⟨q1, q2, q3, q4⟩ => by
      obtain ⟨hn, rfl⟩ := rgD_mid hx
      dsimp only at q1 q2 q3 q4 ⊢
      rw [show (0 : Int) + (pre.length : Int) = (pre.length : Nat) by omega]
      obtain ⟨t', b'', r1, r2, r3, r4, r5⟩ := deep_turn hp b' S left t pre.length (1 + 3 * pre.length) pre.length q1 q2 q3 q4
      exact ⟨(t', b''), r5, r1, by simpa using r2, by simp; omega, r4⟩)
  rw [rgD_len] at h1 h2
  dsimp only at f1 hb2 h1 h2 h3
  have o : okR (1 + (i : Int)) = true := by
    have o' : okR ((1 + i : Nat) : Int) = true := okR_nat (by omega)
    rw [← o']; congr 1
  have ti : (1 + (i : Int)).toNat = 1 + i := by omega
  refine ⟨t, b2, hb2, by omega, by omega, h3, ?_⟩
  unfold m_law_deep_2
  refine fin_seq (dst b S left (.foot f) none none none) (by simp [dst, ixS_grafts, gf, Tr.enc]) ?_
  refine fin_seq (dst b2 S left t none none none) ?_ ?_
  · have f1' := f1
    simp only [dst] at f1' ⊢
    simp [e1, o, ti, f1']
  · simp [dst]
end
end GX
namespace GM
open PySem L2 GS
/-- law(script); slots 0:script 1:box 2:signs 3:free 4:some 5:book 6:rows 7:due 8:deep 9:starts 10:things 11:thing 12:told 13:key 14:tree 15:row 16:pair -/
def m_law_k87_b1 (F_one_sided F__law_leaves F__law_deep F__law_pick F__law_book F__law_words F__law_box : FF) : SF := (sKill [7, 11, 12] (sSeq (sSet 12 (eCall 1 none F_one_sided (aCons (eMv 11) aNil))) (sIf (eOr (eNot (eB (eIsi isBool (eVb 12)))) (eB (eBin (eqB true) (eVb 12) (eVb 7)))) (sEnd (sRet (eC (.bool false)))) sNil)))
def m_law_k87_ct2 (F_one_sided F__law_leaves F__law_deep F__law_pick F__law_book F__law_words F__law_box : FF) : EF := (eB (eBin (inB true) (eC (.str (Str.ofString "foot"))) (eVb 15)))
def m_law_k87_ce3 (F_one_sided F__law_leaves F__law_deep F__law_pick F__law_book F__law_words F__law_box : FF) : EF := (eMv 16)
def m_law_k87_ct4 (F_one_sided F__law_leaves F__law_deep F__law_pick F__law_book F__law_words F__law_box : FF) : EF := (eAnd (eB (eBin (inB false) (eC (.str (Str.ofString "foot"))) (eVb 15))) (eB (eBin (eqB true) (eBin ixA (eVb 15) (eNeg (eC (.int 1)))) (eC (.str (Str.ofString "foot"))))))
def m_law_k87_ce5 (F_one_sided F__law_leaves F__law_deep F__law_pick F__law_book F__law_words F__law_box : FF) : EF := (eMv 15)
def m_law_k87_ce6 (F_one_sided F__law_leaves F__law_deep F__law_pick F__law_book F__law_words F__law_box : FF) : EF := (eCall 1 none F__law_leaves (aCons (eMv 14) aNil))
def m_law_k87 (F_one_sided F__law_leaves F__law_deep F__law_pick F__law_book F__law_words F__law_box : FF) : SF := (sSeq (sSet 1 (eCall 1 none F__law_box (aCons (eMv 0) aNil))) (sSeq (sSet 2 (eCall 4 (some 0) F__law_words (aCons (eVb 1) (aCons (eC (.str (Str.ofString "abcdefghijklmnopqrstuvwxyz"))) (aCons (eC (.str (Str.ofString "q"))) (aCons (eC (.int 2)) aNil)))))) (sSeq (sSet 3 (eBin ixA (eLst (aCons (eC (.int 0)) (aCons (eC (.int 1)) (aCons (eC (.int 1)) (aCons (eC (.int 4)) aNil))))) (eCall 2 (some 0) F__law_pick (aCons (eVb 1) (aCons (eC (.int 4)) aNil))))) (sSeq (sSet 4 (eDct (dCons (eC (.str (Str.ofString "signs"))) (eMv 2) (dCons (eC (.str (Str.ofString "free"))) (eMv 3) (dCons (eC (.str (Str.ofString "knots"))) (eC (.bool true)) (dCons (eC (.str (Str.ofString "left"))) (eC (.int 0)) dNil)))))) (sSeq (sSet 5 (eCallN 4 [0, 1] F__law_book (aCons (eVb 1) (aCons (eVb 4) (aCons (eBin addD (eC (.int 3)) (eCall 2 (some 0) F__law_pick (aCons (eVb 1) (aCons (eC (.int 3)) aNil)))) (aCons (eC (.int 4)) aNil)))))) (sSeq (sSet 6 (eLc [13, 14] (iSq (eBin ixA (eVb 5) (eC (.int 1)))) (gT 2 (gsC (gN 13) (gsC (gN 14) gsN))) (eNox eYes) (eNox (m_law_k87_ce6 F_one_sided F__law_leaves F__law_deep F__law_pick F__law_book F__law_words F__law_box)))) (sSeq (sSet 7 (eBin (eqB false) (eCB (un1 lenD) (aCons (eLc [15] (iSq (eMv 6)) (gN 15) (eNox (m_law_k87_ct4 F_one_sided F__law_leaves F__law_deep F__law_pick F__law_book F__law_words F__law_box)) (eNox (m_law_k87_ce5 F_one_sided F__law_leaves F__law_deep F__law_pick F__law_book F__law_words F__law_box))) aNil)) (eC (.int 0)))) (sSeq (sSet 8 (eCall 2 (some 0) F__law_deep (aCons (eVb 1) (aCons (eMv 4) aNil)))) (sSeq (sSet 9 (eCB (un1 tupleD) (aCons (eLc [16, 15] (iZp (eBin ixA (eVb 5) (eC (.int 1))) (eMv 6)) (gT 2 (gsC (gN 16) (gsC (gN 15) gsN))) (eNox (m_law_k87_ct2 F_one_sided F__law_leaves F__law_deep F__law_pick F__law_book F__law_words F__law_box)) (eNox (m_law_k87_ce3 F_one_sided F__law_leaves F__law_deep F__law_pick F__law_book F__law_words F__law_box))) aNil))) (sSeq (sSet 10 (eLst (aCons (eTup (aCons (eMv 5) (aCons (eMv 7) aNil))) (aCons (eTup (aCons (eTup (aCons (eBin ixA (eVb 5) (eC (.int 0))) (aCons (eRevA (eBin ixA (eVb 5) (eC (.int 1)))) aNil))) (aCons (eMv 7) aNil))) (aCons (eTup (aCons (eMv 5) (aCons (eMv 7) aNil))) (aCons (eTup (aCons (eTup (aCons (eBin ixA (eVb 5) (eC (.int 0))) (aCons (eMv 9) aNil))) (aCons (eC (.bool true)) aNil))) aNil)))))) (sSeq (sApp 10 (eTup (aCons (eTup (aCons (eBin ixA (eVb 5) (eC (.int 0))) (aCons (eBin addD (eVb 9) (eTup (aCons (eTup (aCons (eC (.str (Str.ofString "zdeep"))) (aCons (eMv 8) aNil))) aNil))) aNil))) (aCons (eBin (eqB false) (eBin ixA (eCall 1 none F__law_leaves (aCons (eMv 8) aNil)) (eNeg (eC (.int 1)))) (eC (.str (Str.ofString "foot")))) aNil)))) (sSeq (sFor (iSq (eMv 10)) (gT 2 (gsC (gN 11) (gsC (gN 7) gsN))) (m_law_k87_b1 F_one_sided F__law_leaves F__law_deep F__law_pick F__law_book F__law_words F__law_box)) (sEnd (sRet (eC (.bool true))))))))))))))))
theorem m_law_k87_eq (F_one_sided F__law_leaves F__law_deep F__law_pick F__law_book F__law_words F__law_box : FF) (ρ : Rho) : fnF 17 1 (m_law_k87 F_one_sided F__law_leaves F__law_deep F__law_pick F__law_book F__law_words F__law_box) ρ = finR 1 (m_law_k87 F_one_sided F__law_leaves F__law_deep F__law_pick F__law_book F__law_words F__law_box (ρ ++ [none, none, none, none, none, none, none, none, none, none, none, none, none, none, none, none])) := fnF_eq 17 1 _
end GM
namespace GX
open PySem L2 GS GM
theorem foot_in (t : Tr) : (∃ u ∈ Tr.leaves t, u.footN.isSome = true) ↔ 0 < t.feet.length := by
  constructor
  · rintro ⟨u, m, e⟩
    obtain ⟨x, hx⟩ := Option.isSome_iff_exists.mp e
    exact List.length_pos_of_mem (List.mem_filterMap.mpr ⟨u, (List.mem_filter.mp m).1, hx⟩)
  · intro h
    obtain ⟨x, hx⟩ := List.exists_mem_of_length_pos h
    obtain ⟨u, m, e⟩ := List.mem_filterMap.mp hx
    refine ⟨u, List.mem_filter.mpr ⟨m, ?_⟩, by rw [e]; rfl⟩
    cases u <;> first | rfl | cases e
def rowD (t : Tr) : D := .list ((Tr.leaves t).map headS)
def hasF (t : Tr) : Bool := decide (0 < t.feet.length)
theorem head_ok (u : Tr) : PyData.strOk (Tr.head u) = true := by cases u <;> (simp only [Tr.head]; decide +kernel)
theorem in_foot (t : Tr) (neg : Bool) : inB neg (.str (Str.ofString "foot")) (rowD t) = some (.sh (.bool (neg ^^ hasF t))) := by
  have e : rowD t = .list (((Tr.leaves t).map Tr.head).map .str) := by unfold rowD headS; rw [List.map_map]; rfl
  rw [e, in_strs neg _ _ (by decide +kernel) (fun k m => by obtain ⟨u, _, rfl⟩ := List.mem_map.mp m; exact head_ok u)]
  have : decide (Str.ofString "foot" ∈ (Tr.leaves t).map Tr.head) = hasF t := by
    unfold hasF
    refine decide_eq_decide.mpr ?_
    rw [← foot_in]
    constructor
    · intro m
      obtain ⟨u, mu, e⟩ := List.mem_map.mp m
      exact ⟨u, mu, by rw [← head_foot]; exact decide_eq_true e⟩
    · rintro ⟨u, mu, e⟩
      rw [← head_foot] at e
      exact List.mem_map.mpr ⟨u, mu, of_decide_eq_true e⟩
  rw [this]
theorem last_row {t : Tr} (h : 0 < t.feet.length) : ∃ w, ixA (rowD t) (.int (-1)) = some (.sh (.str w)) ∧ decide (w = Str.ofString "foot") = Tr.lastF t := by
  obtain ⟨u, hu⟩ : ∃ u, (Tr.leaves t).getLast? = some u := by
    rw [List.getLast?_eq_getLast (foot_leaf h)]; exact ⟨_, rfl⟩
  refine ⟨Tr.head u, ix_last (by rw [List.getLast?_map, hu]; rfl), ?_⟩
  unfold Tr.lastF
  rw [hu, head_foot]
/-- amid, by the row -/
theorem amid_row {t : Tr} (h : t.feet.length ≤ 1) : Tr.amid t = (hasF t && !Tr.lastF t) := by
  unfold Tr.amid hasF
  have : decide (t.feet.length = 1) = decide (0 < t.feet.length) := decide_eq_decide.mpr (by omega)
  rw [this]
theorem iZp_of {fa fb : EF} {ρ : Rho} {x y : D} {ds es : List D} (h1 : eCap fa ρ = .ok (.sh x) ρ) (h2 : eCap fb ρ = .ok (.sh y) ρ) (e1 : seqs x = some ds) (e2 : seqs y = some es) : iZp fa fb ρ = .ok (zipD ds es) ρ := by
  unfold iZp
  rw [h1]
  simp only [bindEI_ok]
  rw [h2]
  simp only [bindEI_ok, e1, e2]
abbrev ns7 (ns : List Int) : Option Cel := some ⟨.list (ns.map .int), .sh⟩
def bkD (top : Str) (ps : List (Str × Tr)) : D := .tuple [.str top, .tuple (ps.map encKT)]
def thD (x : (Str × List (Str × Tr)) × Bool) : D := .tuple [bkD x.1.1 x.1.2, .bool x.2]
theorem law_k87_ok {Fo Fl Fd Fp Fb Fw Fx : FF} (ho : OneSp 6 Fo) (hl : LLeavesSp 6 Fl) (hd : DeepSp Fd) (hp : PickSp Fp) (hb : BookSp7 Fb) (hw : WordsSp3 Fw) (hx : BoxSp Fx) (ns : List Int) (h63 : ns.length ≤ 63) :
    fnF 17 1 (m_law_k87 Fo Fl Fd Fp Fb Fw Fx) [some ⟨.list (ns.map .int), .sh⟩] = .ok (.sh (.bool true)) [none] := by
  rw [m_law_k87_eq]
  obtain ⟨b0, e0, hb0⟩ := hx ns (by omega)
  obtain ⟨sg, b1, _, e1, hb1, hsg, _⟩ := hw b0 small7 (Str.ofString "q") 2 hb0 small_len (by decide +kernel) small_nd (by decide)
  have e1 : Fw [some ⟨b0, .io⟩, some ⟨.str small7, .sh⟩, some ⟨.str (Str.ofString "q"), .sh⟩, some ⟨.int 2, .sh⟩] = .ok (.fr (.list (sg.map .str))) [some ⟨b1, .io⟩, none, none, none] := e1
  obtain ⟨i, b2, e2, hb2, hi⟩ := hp b1 4 hb1 (by decide) (by decide)
  have e2 : Fp [some ⟨b1, .io⟩, some ⟨.int 4, .sh⟩] = .ok (.sh (.int i)) [some ⟨b2, .io⟩, none] := e2
  obtain ⟨free, hfree⟩ : ∃ free : Int, atI [PyData.int 0, .int 1, .int 1, .int 4] (i : Int) = some (.int free) := by
    rcases (show i = 0 ∨ i = 1 ∨ i = 2 ∨ i = 3 by omega) with rfl | rfl | rfl | rfl
    · exact ⟨0, rfl⟩
    · exact ⟨1, rfl⟩
    · exact ⟨1, rfl⟩
    · exact ⟨4, rfl⟩
  obtain ⟨j, b3, e3, hb3, hj⟩ := hp b2 3 hb2 (by decide) (by decide)
  have e3 : Fp [some ⟨b2, .io⟩, some ⟨.int 3, .sh⟩] = .ok (.sh (.int j)) [some ⟨b3, .io⟩, none] := e3
  obtain ⟨top, ps, S, left, b4, hb4, hl4, hok, hlen, e4⟩ := hb b3 sg free (3 + j) hb3 hsg (by omega) (by omega)
  have cj : ((3 + j : Nat) : Int) = 3 + (j : Int) := by omega
  rw [cj] at e4
  have z : ∀ n, n ≤ 100 → n ≤ sizeLine := fun n h => fits (by omega)
  let st : (x6 x7 x8 x9 x10 x11 x12 x13 x14 x15 x16 : Option Cel) → D → Rho := fun x6 x7 x8 x9 x10 x11 x12 x13 x14 x15 x16 b => [ns7 ns, some ⟨b, .ow⟩, some ⟨.list (sg.map .str), .sh⟩, some ⟨.int free, .sh⟩, some ⟨S.enc left, .ow⟩, some ⟨bkD top ps, .sh⟩, x6, x7, x8, x9, x10, x11, x12, x13, x14, x15, x16]
  let stS : (x6 x7 x8 x9 x10 x11 x12 x13 x14 x15 x16 : Option Cel) → D → Rho := fun x6 x7 x8 x9 x10 x11 x12 x13 x14 x15 x16 b => [ns7 ns, some ⟨b, .ow⟩, some ⟨.list (sg.map .str), .sh⟩, some ⟨.int free, .sh⟩, some ⟨S.enc left, .sh⟩, some ⟨bkD top ps, .sh⟩, x6, x7, x8, x9, x10, x11, x12, x13, x14, x15, x16]
  let rw6 : D := .list (ps.map fun p => rowD p.2)
  -- the rows
  have L6 := lcL_all (vs := [13, 14]) (g := gT 2 (gsC (gN 13) (gsC (gN 14) gsN))) (fe := eNox (m_law_k87_ce6 Fo Fl Fd Fp Fb Fw Fx))
    (st none none none none none none none none none none none b4) encKT (fun p => st none none none none none none none (some ⟨.str p.1, .sh⟩) (some ⟨p.2.enc, .sh⟩) none none b4) (fun p => rowD p.2) ps [] (z _ (by simp; omega)) (fun p m => by
      have e := hl p.2 (by have := (hok p m).ht; omega) (by have := (hok p m).sz; omega)
      exact ⟨by simp [encKT, st], by simp [st], by simp [m_law_k87_ce6, e, rowD, st]⟩)
  rw [List.nil_append] at L6
  have L7 := lcL_up (vs := [15]) (g := gN 15) (ft := eNox (m_law_k87_ct4 Fo Fl Fd Fp Fb Fw Fx)) (fe := eNox (m_law_k87_ce5 Fo Fl Fd Fp Fb Fw Fx))
    (st (some ⟨rw6, .sh⟩) none none none none none none none none none none b4) (fun p : Str × Tr => rowD p.2) (fun p => st (some ⟨rw6, .sh⟩) none none none none none none none none (some ⟨rowD p.2, .sh⟩) none b4) (fun p => Tr.amid p.2) (fun p => rowD p.2) ps [] (z _ (by simp; omega)) (fun p m => by
      have h1 := in_foot p.2 false
      rw [Bool.false_xor] at h1
      have ha := amid_row (hok p m).ft
      refine ⟨by simp [st], ?_, by simp [st], fun _ => by simp [m_law_k87_ce5, st]⟩
      cases hf : hasF p.2 with
      | false => rw [hf] at h1 ha; simp [m_law_k87_ct4, h1, ha, st]
      | true =>
        rw [hf] at h1 ha
        obtain ⟨w, l1, l2⟩ := last_row (of_decide_eq_true hf)
        rw [← l2] at ha
        simp [m_law_k87_ct4, h1, ha, l1, st])
  rw [List.nil_append] at L7
  obtain ⟨due, hdue⟩ : ∃ due, (ps.all fun p => !Tr.amid p.2) = due := ⟨_, rfl⟩
  have dlen : decide (((((ps.filter fun p => Tr.amid p.2).map fun p => rowD p.2).length : Nat) : Int) = 0) = due := by
    rw [← hdue, List.length_map]
    by_cases q : (ps.filter fun p => Tr.amid p.2) = []
    · rw [q, List.all_eq_true.mpr fun p m => by have := List.filter_eq_nil_iff.mp q p m; simpa using this]; rfl
    · obtain ⟨p, mp⟩ := List.exists_mem_of_ne_nil _ q
      obtain ⟨m1, m2⟩ := List.mem_filter.mp mp
      have : (ps.all fun p => !Tr.amid p.2) = false := by
        cases h : (ps.all fun p => !Tr.amid p.2) with
        | false => rfl
        | true => have := List.all_eq_true.mp h p m1; simp [m2] at this
      rw [this]
      simp
      exact ⟨p.1, p.2, m1, m2⟩
  obtain ⟨dp, b5, hb5, hd1, hd2, hd3, e5⟩ := hd b4 S left hb4
  have hz : zipD (ps.map encKT) (ps.map fun p => rowD p.2) = ps.map fun p => .tuple [encKT p, rowD p.2] := by
    unfold zipD
    rw [List.zip_map', List.map_map]
    rfl
  have L9 := lcL_up (vs := [16, 15]) (g := gT 2 (gsC (gN 16) (gsC (gN 15) gsN))) (ft := eNox (m_law_k87_ct2 Fo Fl Fd Fp Fb Fw Fx)) (fe := eNox (m_law_k87_ce3 Fo Fl Fd Fp Fb Fw Fx))
    (stS (some ⟨rw6, .sh⟩) (some ⟨.bool due, .sh⟩) (some ⟨dp.enc, .sh⟩) none none none none none none none none b5) (fun p : Str × Tr => .tuple [encKT p, rowD p.2]) (fun p => stS (some ⟨rw6, .sh⟩) (some ⟨.bool due, .sh⟩) (some ⟨dp.enc, .sh⟩) none none none none none none (some ⟨rowD p.2, .sh⟩) (some ⟨encKT p, .sh⟩) b5) (fun p => !hasF p.2) encKT ps [] (z _ (by simp; omega)) (fun p m => by
      have h1 := in_foot p.2 true
      rw [Bool.true_xor] at h1
      exact ⟨by simp [stS], by simp [m_law_k87_ct2, h1, stS], by simp [stS], fun _ => by simp [m_law_k87_ce3, stS]⟩)
  rw [List.nil_append] at L9
  let sts := ps.filter fun p => !hasF p.2
  have hsts : ∀ p ∈ sts, p ∈ ps ∧ Tr.amid p.2 = false := fun p m => by
    obtain ⟨m1, m2⟩ := List.mem_filter.mp m
    refine ⟨m1, ?_⟩
    rw [amid_row (hok p m1).ft]
    simp at m2
    simp [m2]
  obtain ⟨w, l1, l2⟩ := last_row (t := dp) (by omega)
  have el := hl dp hd1 (by omega)
  have amd : (!Tr.amid dp) = Tr.lastF dp := by
    unfold Tr.amid
    simp [hd3]
  have zs : sts.length + 1 ≤ sizeLine := z _ (by have : sts.length ≤ ps.length := List.length_filter_le _ _; omega)
  let things : List ((Str × List (Str × Tr)) × Bool) := [((top, ps), due), ((top, ps.reverse), due), ((top, ps), due), ((top, sts), true), ((top, sts ++ [(Str.ofString "zdeep", dp)]), Tr.lastF dp)]
  have good : ∀ x ∈ things, Fo [some ⟨bkD x.1.1 x.1.2, .sh⟩] = .ok (.sh (.bool x.2)) [none] := fun x m => by
    have one : ∀ qs : List (Str × Tr), (∀ p ∈ qs, p.2.ht ≤ 6) → (∀ p ∈ qs, p.2.pieces.length ≤ 100000) → Fo [some ⟨bkD top qs, .sh⟩] = .ok (.sh (.bool (qs.all fun p => !Tr.amid p.2))) [none] := fun qs h1 h2 => ho (.str top) qs h1 h2
    have pk : ∀ p ∈ ps, p.2.ht ≤ 6 ∧ p.2.pieces.length ≤ 100000 := fun p m => ⟨by have := (hok p m).ht; omega, by have := (hok p m).sz; omega⟩
    simp only [things, List.mem_cons, List.not_mem_nil, or_false] at m
    rcases m with rfl | rfl | rfl | rfl | rfl
    · rw [← hdue]; exact one ps (fun p m => (pk p m).1) (fun p m => (pk p m).2)
    · have := one ps.reverse (fun p m => (pk p (List.mem_reverse.mp m)).1) (fun p m => (pk p (List.mem_reverse.mp m)).2)
      rw [List.all_reverse, hdue] at this
      exact this
    · rw [← hdue]; exact one ps (fun p m => (pk p m).1) (fun p m => (pk p m).2)
    · have := one sts (fun p m => (pk p (hsts p m).1).1) (fun p m => (pk p (hsts p m).1).2)
      rw [List.all_eq_true.mpr fun p m => by rw [(hsts p m).2]; rfl] at this
      exact this
    · have := one (sts ++ [(Str.ofString "zdeep", dp)]) (fun p m => (List.mem_append.mp m).elim (fun m => (pk p (hsts p m).1).1) fun m => by simp at m; subst m; exact hd1) (fun p m => (List.mem_append.mp m).elim (fun m => (pk p (hsts p m).1).2) fun m => by simp at m; subst m; show dp.pieces.length ≤ _; omega)
      rw [List.all_append, List.all_eq_true.mpr fun p m => by rw [(hsts p m).2]; rfl] at this
      simp only [List.all_cons, List.all_nil, Bool.and_true, Bool.true_and] at this
      rw [amd] at this
      exact this
  let sx : Option Cel → D → Rho := fun x7 x => stS (some ⟨rw6, .sh⟩) x7 (some ⟨dp.enc, .sh⟩) (some ⟨.tuple (sts.map encKT), .sh⟩) (some ⟨x, .sh⟩) none none none none none none b5
  have turn : ∀ (x7 : Option Cel) (x : D), (x7 = none ∨ x7 = some ⟨.bool due, .sh⟩) → ∀ y ∈ things, optR (gT 2 (gsC (gN 11) (gsC (gN 7) gsN)) (thD y) (sx x7 x)) (m_law_k87_b1 Fo Fl Fd Fp Fb Fw Fx) = .nx (sx none x) := fun x7 x h7 y m => by
    have e := good y m
    generalize hB : bkD y.1.1 y.1.2 = B at e
    have ey : thD y = .tuple [B, .bool y.2] := by rw [← hB]; rfl
    rw [ey]
    generalize y.2 = yd at e
    simp only [sx, stS]
    generalize bkD top ps = D5
    generalize rw6 = D6
    rcases h7 with rfl | rfl
    · simp [m_law_k87_b1, e]
    · simp [m_law_k87_b1, e]
  have X : ∀ x : D, forL (gT 2 (gsC (gN 11) (gsC (gN 7) gsN))) (m_law_k87_b1 Fo Fl Fd Fp Fb Fw Fx) (things.map thD) (sx (some ⟨.bool due, .sh⟩) x) = .nx (sx none x) := fun x => by
    have rest : ∀ ys : List ((Str × List (Str × Tr)) × Bool), (∀ y ∈ ys, y ∈ things) → forL (gT 2 (gsC (gN 11) (gsC (gN 7) gsN))) (m_law_k87_b1 Fo Fl Fd Fp Fb Fw Fx) (ys.map thD) (sx none x) = .nx (sx none x) := fun ys h => by
      have := forL_look (g := gT 2 (gsC (gN 11) (gsC (gN 7) gsN))) (b := m_law_k87_b1 Fo Fl Fd Fp Fb Fw Fx) (sx none x) (sx none x) thD (fun _ => true) (.sh .none) ys (fun y m => by rw [turn none x (.inl rfl) y (h y m)]; simp)
      rw [this]; simp
    have e := turn _ x (.inr rfl) ((top, ps), due) (by simp [things])
    show forL _ _ (thD ((top, ps), due) :: ([((top, ps.reverse), due), ((top, ps), due), ((top, sts), true), ((top, sts ++ [(Str.ofString "zdeep", dp)]), Tr.lastF dp)] : List ((Str × List (Str × Tr)) × Bool)).map thD) _ = _
    rw [forL_cons2, e, turnR_nx]
    exact rest _ fun y m => List.mem_cons_of_mem _ m
  have r5 : ∀ x, ixA (bkD top ps) (.int 1) = some x → x = .sh (.tuple (ps.map encKT)) := fun x h => by simp [bkD] at h; exact h.symm
  have i0 : ixA (bkD top ps) (.int 0) = some (.sh (.str top)) := by simp [bkD]
  have i1 : ixA (bkD top ps) (.int 1) = some (.sh (.tuple (ps.map encKT))) := by simp [bkD]
  have e0' : Fx [ns7 ns] = .ok (.fr b0) [none] := e0
  have e4' : Fb [some ⟨b3, .io⟩, some ⟨s0D sg free 0, .io⟩, some ⟨.int (3 + (j : Int)), .sh⟩, some ⟨.int 4, .sh⟩] = .ok (.sh (bkD top ps)) [some ⟨b4, .io⟩, some ⟨S.enc left, .io⟩, none, none] := e4
  have dm : dMerge [(.str (Str.ofString "signs"), ssD sg), (.str (Str.ofString "free"), .int free), (.str (Str.ofString "knots"), .bool true), (.str (Str.ofString "left"), .int 0)] = [(.str (Str.ofString "signs"), ssD sg), (.str (Str.ofString "free"), .int free), (.str (Str.ofString "knots"), .bool true), (.str (Str.ofString "left"), .int 0)] := by
    have h1 : ¬ Str.ofString "signs" = Str.ofString "free" := by decide +kernel
    have h2 : ¬ Str.ofString "signs" = Str.ofString "knots" := by decide +kernel
    have h3 : ¬ Str.ofString "free" = Str.ofString "knots" := by decide +kernel
    simp [dMerge, dPut, kEq, h1, h2, h3, kn1, kn2, kn3]
  unfold m_law_k87
  refine fin_seq [ns7 ns, some ⟨b0, .ow⟩, none, none, none, none, none, none, none, none, none, none, none, none, none, none, none] (by simp [e0]) ?_
  refine fin_seq [ns7 ns, some ⟨b1, .ow⟩, some ⟨.list (sg.map .str), .ow⟩, none, none, none, none, none, none, none, none, none, none, none, none, none, none] (by unfold small7 at e1; simp [e1]) ?_
  refine fin_seq [ns7 ns, some ⟨b2, .ow⟩, some ⟨.list (sg.map .str), .ow⟩, some ⟨.int free, .sh⟩, none, none, none, none, none, none, none, none, none, none, none, none, none] (by simp [e2, hfree]) ?_
  refine fin_seq [ns7 ns, some ⟨b2, .ow⟩, some ⟨.list (sg.map .str), .sh⟩, some ⟨.int free, .sh⟩, some ⟨s0D sg free 0, .ow⟩, none, none, none, none, none, none, none, none, none, none, none, none] (by unfold ssD at dm; simp [s0D, ssD, dm]) ?_
  refine fin_seq (st none none none none none none none none none none none b4) (by simp [e3, e4', st]) ?_
  refine fin_seq (st (some ⟨rw6, .ow⟩) none none none none none none none none none none b4) (by simp only [st] at L6 ⊢; simp [i1, L6, rw6]) ?_
  refine fin_seq (st (some ⟨rw6, .sh⟩) (some ⟨.bool due, .sh⟩) none none none none none none none none none b4) (by simp only [st, rw6] at L7 ⊢; rw [List.length_map] at dlen; simp [L7, dlen]) ?_
  refine fin_seq (stS (some ⟨rw6, .sh⟩) (some ⟨.bool due, .sh⟩) (some ⟨dp.enc, .sh⟩) none none none none none none none none b5) (by simp [st, stS, e5]) ?_
  refine fin_seq (stS (some ⟨rw6, .sh⟩) (some ⟨.bool due, .sh⟩) (some ⟨dp.enc, .sh⟩) (some ⟨.tuple (sts.map encKT), .sh⟩) none none none none none none none b5) ?_ ?_
  · have zz : (ps.filter fun p => !hasF p.2).length ≤ sizeLine := by have : sts.length ≤ sizeLine := by omega
                                                                     exact this
    have iz : iZp (eBin ixA (eVb 5) (eC (.int 1))) (eMv 6) (stS (some ⟨rw6, .sh⟩) (some ⟨.bool due, .sh⟩) (some ⟨dp.enc, .sh⟩) none none none none none none none none b5) = .ok (zipD (ps.map encKT) (ps.map fun p => rowD p.2)) (stS (some ⟨rw6, .sh⟩) (some ⟨.bool due, .sh⟩) (some ⟨dp.enc, .sh⟩) none none none none none none none none b5) :=
      iZp_of (x := .tuple (ps.map encKT)) (y := rw6) (by simp [stS, i1]) (by simp [stS]) rfl rfl
    rw [hz] at iz
    simp only [stS, rw6] at L9 iz ⊢
    simp [iz, L9, zz, sts]
  refine fin_seq (sx (some ⟨.bool due, .sh⟩) (.list ([((top, ps), due), ((top, ps.reverse), due), ((top, ps), due), ((top, sts), true)].map thD)) |>.set 10 (some ⟨.list ([((top, ps), due), ((top, ps.reverse), due), ((top, ps), due), ((top, sts), true)].map thD), .ow⟩)) ?_ ?_
  · simp only [sx, stS]
    simp [i0, i1, thD]
    try simp [bkD, List.map_reverse]
  refine fin_seq (sx (some ⟨.bool due, .sh⟩) (.list (things.map thD)) |>.set 10 (some ⟨.list (things.map thD), .ow⟩)) ?_ ?_
  · simp only [sx, stS]
    have el' : Fl [some ⟨dp.enc, .sh⟩] = .ok (.fr (rowD dp)) [none] := el
    have q4 : (4 : Nat) < sizeLine := by decide
    have zs' : (List.filter (fun p => !hasF p.2) ps).length + 1 ≤ sizeLine := zs
    simp [i0, el', l1, l2, zs', q4, things, sts, thD, encKT]
    try simp [bkD, encKT]
  refine fin_seq (sx none (.list (things.map thD))) ?_ ?_
  · have := X (.list (things.map thD))
    simp only [sx, stS] at this ⊢
    simp [this]
  · simp [sx, stS]
end GX
namespace GM
open PySem L2 GS
end GM
namespace Wk87
open PySem L2 GS GM
def fs : Nat → Nat → FF
  | 0, _ => stuckF
  | k + 1, 0 => fnF 1 1 (m_kids_of)
  | k + 1, 1 => fnF 5 1 (m_places (fs k 0) (fs k 1))
  | k + 1, 2 => fnF 5 2 (m_piece_at_2 (fs k 21) (fs k 0))
  | k + 1, 3 => fnF 4 1 (m_feet_of (fs k 1) (fs k 2))
  | k + 1, 4 => fnF 1 1 (m_is_graft (fs k 3))
  | k + 1, 5 => fnF 4 1 (m_leaves_of (fs k 1) (fs k 2))
  | k + 1, 6 => fnF 3 1 (m_first_amid (fs k 5) (fs k 4))
  | k + 1, 7 => fnF 1 1 (m_one_sided (fs k 6))
  | k + 1, 8 => fnF 4 1 (m_law_box)
  | k + 1, 9 => fnF 4 2 (m_law_pick)
  | k + 1, 10 => fnF 10 4 (m_law_words (fs k 9))
  | k + 1, 11 => fnF 1 1 (m_law_socket)
  | k + 1, 12 => fnF 3 2 (m_law_leaf_2 (fs k 9) (fs k 11))
  | k + 1, 13 => fnF 3 2 (m_law_worn (fs k 9) (fs k 11))
  | k + 1, 14 => fnF 11 5 (m_law_knot (fs k 9) (fs k 14) (fs k 12) (fs k 13))
  | k + 1, 15 => fnF 3 1 (m_law_signs (fs k 15))
  | k + 1, 16 => fnF 7 5 (m_law_tree_2 (fs k 9) (fs k 15) (fs k 14))
  | k + 1, 17 => fnF 11 4 (m_law_book_2 (fs k 9) (fs k 16) (fs k 10))
  | k + 1, 18 => fnF 3 1 (m_law_leaves (fs k 18))
  | k + 1, 19 => fnF 6 2 (m_law_deep_2 (fs k 9))
  | k + 1, 20 => fnF 17 1 (m_law_k87 (fs k 7) (fs k 18) (fs k 19) (fs k 9) (fs k 17) (fs k 10) (fs k 8))
  | k + 1, 21 => iniF (k + 1)
  | _ + 1, _ => stuckF
end Wk87
namespace Wk87
open PySem L2 GS GM
theorem hx_NoPlace : ∀ m, 2 ≤ m → Raises (fs m 21)
  | m + 1, h => raises_ini h
theorem h_m_kids_of : ∀ m, 1 ≤ m → KidsSp (fs m 0)
  | _ + 1, _ => kids_of_ok
theorem h_m_places : ∀ n m, n ≤ 1000 → n + 2 ≤ m → PlacesSp n (fs m 1)
  | _, m + 1, hn, h => places_ok (h_m_kids_of m (by omega)) hn fun k e => h_m_places k m (by omega) (by omega)
theorem h_m_piece_at_2 : ∀ m, 2 ≤ m → PieceSp (fs m 2)
  | m + 1, h => piece_at_2_ok (h_m_kids_of m (by omega))
theorem h_m_feet_of : ∀ n m, n ≤ 1000 → n + 3 ≤ m → FeetSp n (fs m 3)
  | n, m + 1, hn, h => feet_of_ok (h_m_places n m hn (by omega)) (h_m_piece_at_2 m (by omega))
theorem h_m_is_graft : ∀ n m, n ≤ 1000 → n + 4 ≤ m → GraftSp n (fs m 4)
  | n, m + 1, hn, h => is_graft_ok (h_m_feet_of n m hn (by omega))
theorem h_m_leaves_of : ∀ n m, n ≤ 1000 → n + 4 ≤ m → GX.LeavesSp n (fs m 5)
  | n, m + 1, hn, h => GX.leaves_of_ok (h_m_places n m hn (by omega)) (h_m_piece_at_2 m (by omega))
theorem h_m_one_sided : ∀ n m, n ≤ 1000 → n + 7 ≤ m → GX.OneSp n (fs m 7)
  | n, m + 2, hn, h => GX.one_sided_ok (h_m_leaves_of n m hn (by omega)) (h_m_is_graft n m hn (by omega))
theorem h_m_law_box : ∀ m, 1 ≤ m → BoxSp (fs m 8)
  | _ + 1, _ => law_box_ok
theorem h_m_law_pick : ∀ m, 1 ≤ m → PickSp (fs m 9)
  | _ + 1, _ => law_pick_ok
theorem h_m_law_words : ∀ m, 2 ≤ m → GX.WordsSp3 (fs m 10)
  | m + 1, h => GX.law_words_ok3 (h_m_law_pick m (by omega))
theorem h_m_law_socket : ∀ m, 1 ≤ m → GX.SockSp (fs m 11)
  | _ + 1, _ => GX.law_socket_ok
theorem h_m_law_leaf_2 : ∀ m, 2 ≤ m → GX.LeafSp (fs m 12)
  | m + 1, h => GX.law_leaf_ok (h_m_law_pick m (by omega)) (h_m_law_socket m (by omega))
theorem h_m_law_worn : ∀ m, 2 ≤ m → GX.WornSp (fs m 13)
  | m + 1, h => GX.law_worn_ok (h_m_law_pick m (by omega)) (h_m_law_socket m (by omega))
theorem h_m_law_knot : ∀ d m, d + 3 ≤ m → GX.KnotSp d (fs m 14)
  | d, m + 1, h => GX.law_knot_ok (h_m_law_pick m (by omega)) (h_m_law_leaf_2 m (by omega)) (h_m_law_worn m (by omega)) fun k e => h_m_law_knot k m (by omega)
theorem h_m_law_signs : ∀ n m, n + 1 ≤ m → GX.LSignsSp n (fs m 15)
  | n, m + 1, h => GX.law_signs_ok fun k e => h_m_law_signs k m (by omega)
theorem h_m_law_tree_2 : ∀ m, 6 ≤ m → GX.TreeSp7 (fs m 16)
  | m + 1, h => GX.law_tree_ok7 (h_m_law_pick m (by omega)) (h_m_law_signs 2 m (by omega)) (h_m_law_knot 1 m (by omega))
theorem h_m_law_book_2 : ∀ m, 7 ≤ m → GX.BookSp7 (fs m 17)
  | m + 1, h => GX.law_book_ok7 (h_m_law_pick m (by omega)) (h_m_law_tree_2 m (by omega)) (h_m_law_words m (by omega))
theorem h_m_law_leaves : ∀ n m, n + 1 ≤ m → GX.LLeavesSp n (fs m 18)
  | n, m + 1, h => GX.law_leaves_ok fun k e => h_m_law_leaves k m (by omega)
theorem h_m_law_deep_2 : ∀ m, 2 ≤ m → GX.DeepSp (fs m 19)
  | m + 1, h => GX.law_deep_ok (h_m_law_pick m (by omega))
theorem law_true (ns : List Int) (hl : ns.length ≤ 63) : ∃ outs, fs 200 20 [some ⟨.list (ns.map .int), .sh⟩] = .ok (.sh (.bool true)) outs :=
  ⟨_, (GX.law_k87_ok (h_m_one_sided 6 199 (by omega) (by omega)) (h_m_law_leaves 6 199 (by omega)) (h_m_law_deep_2 199 (by omega)) (h_m_law_pick 199 (by omega)) (h_m_law_book_2 199 (by omega)) (h_m_law_words 199 (by omega)) (h_m_law_box 199 (by omega)) ns hl)⟩
end Wk87
namespace Wk87
open PySem L2 GS GM
def topS (i : Nat) : Stmt := PySem.Challenge.pw_graftsay_k87_one_side.main.body.getD i (.Pass ⟨0, 0, 0, 0⟩)
def clsS (s : Stmt) (j : Nat) : Stmt := match s with | .ClassDef (body := body) .. => body.getD j (.Pass ⟨0, 0, 0, 0⟩) | _ => s
/-- kids_of -/
abbrev s0 : Stmt := topS 4
theorem sc0 : FnScope ["tree"] ["tree"] (defScope s0) := ⟨rfl, rfl, rfl, by decide +kernel, rfl, by decide +kernel, by decide +kernel⟩
/-- places -/
abbrev s1 : Stmt := topS 5
theorem sc1 : FnScope ["tree", "found", "k", "kid", "place"] ["tree"] (defScope s1) := ⟨rfl, rfl, rfl, by decide +kernel, rfl, by decide +kernel, by decide +kernel⟩
/-- piece_at -/
abbrev s2 : Stmt := topS 6
theorem sc2 : FnScope ["tree", "place", "found", "number", "kids"] ["tree", "place"] (defScope s2) := ⟨rfl, rfl, rfl, by decide +kernel, rfl, by decide +kernel, by decide +kernel⟩
/-- feet_of -/
abbrev s3 : Stmt := topS 8
theorem sc3 : FnScope ["tree", "pieces", "place", "piece"] ["tree"] (defScope s3) := ⟨rfl, rfl, rfl, by decide +kernel, rfl, by decide +kernel, by decide +kernel⟩
/-- is_graft -/
abbrev s4 : Stmt := topS 9
theorem sc4 : FnScope ["tree"] ["tree"] (defScope s4) := ⟨rfl, rfl, rfl, by decide +kernel, rfl, by decide +kernel, by decide +kernel⟩
/-- leaves_of -/
abbrev s5 : Stmt := topS 11
theorem sc5 : FnScope ["tree", "pieces", "place", "piece"] ["tree"] (defScope s5) := ⟨rfl, rfl, rfl, by decide +kernel, rfl, by decide +kernel, by decide +kernel⟩
/-- first_amid -/
abbrev s6 : Stmt := topS 12
theorem sc6 : FnScope ["book", "key", "tree"] ["book"] (defScope s6) := ⟨rfl, rfl, rfl, by decide +kernel, rfl, by decide +kernel, by decide +kernel⟩
/-- one_sided -/
abbrev s7 : Stmt := topS 13
theorem sc7 : FnScope ["book"] ["book"] (defScope s7) := ⟨rfl, rfl, rfl, by decide +kernel, rfl, by decide +kernel, by decide +kernel⟩
/-- _law_box -/
abbrev s8 : Stmt := topS 15
theorem sc8 : FnScope ["script", "seed", "great", "cell"] ["script"] (defScope s8) := ⟨rfl, rfl, rfl, by decide +kernel, rfl, by decide +kernel, by decide +kernel⟩
/-- _law_pick -/
abbrev s9 : Stmt := topS 16
theorem sc9 : FnScope ["box", "count", "stir", "digit"] ["box", "count"] (defScope s9) := ⟨rfl, rfl, rfl, by decide +kernel, rfl, by decide +kernel, by decide +kernel⟩
/-- _law_words -/
abbrev s10 : Stmt := topS 17
theorem sc10 : FnScope ["box", "heads", "tail", "count", "stem", "k", "at", "turn", "some", "word"] ["box", "heads", "tail", "count"] (defScope s10) := ⟨rfl, rfl, rfl, by decide +kernel, rfl, by decide +kernel, by decide +kernel⟩
/-- _law_socket -/
abbrev s11 : Stmt := topS 18
theorem sc11 : FnScope ["some"] ["some"] (defScope s11) := ⟨rfl, rfl, rfl, by decide +kernel, rfl, by decide +kernel, by decide +kernel⟩
/-- _law_leaf -/
abbrev s12 : Stmt := topS 19
theorem sc12 : FnScope ["box", "some", "way"] ["box", "some"] (defScope s12) := ⟨rfl, rfl, rfl, by decide +kernel, rfl, by decide +kernel, by decide +kernel⟩
/-- _law_worn -/
abbrev s13 : Stmt := topS 20
theorem sc13 : FnScope ["box", "some", "way"] ["box", "some"] (defScope s13) := ⟨rfl, rfl, rfl, by decide +kernel, rfl, by decide +kernel, by decide +kernel⟩
/-- _law_knot -/
abbrev s14 : Stmt := topS 21
theorem sc14 : FnScope ["box", "some", "name", "deep", "foot", "worn", "kids", "size", "spot", "k", "here"] ["box", "some", "name", "deep", "foot"] (defScope s14) := ⟨rfl, rfl, rfl, by decide +kernel, rfl, by decide +kernel, by decide +kernel⟩
/-- _law_signs -/
abbrev s15 : Stmt := topS 22
theorem sc15 : FnScope ["piece", "signs", "kid"] ["piece"] (defScope s15) := ⟨rfl, rfl, rfl, by decide +kernel, rfl, by decide +kernel, by decide +kernel⟩
/-- _law_tree -/
abbrev s16 : Stmt := topS 23
theorem sc16 : FnScope ["box", "some", "name", "foot", "room", "tree", "sign"] ["box", "some", "name", "foot", "room"] (defScope s16) := ⟨rfl, rfl, rfl, by decide +kernel, rfl, by decide +kernel, by decide +kernel⟩
/-- _law_book -/
abbrev s17 : Stmt := topS 24
theorem sc17 : FnScope ["box", "some", "count", "room", "great", "keys", "trees", "k", "turn", "name", "foot"] ["box", "some", "count", "room"] (defScope s17) := ⟨rfl, rfl, rfl, by decide +kernel, rfl, by decide +kernel, by decide +kernel⟩
/-- _law_leaves -/
abbrev s18 : Stmt := topS 25
theorem sc18 : FnScope ["piece", "leaves", "kid"] ["piece"] (defScope s18) := ⟨rfl, rfl, rfl, by decide +kernel, rfl, by decide +kernel, by decide +kernel⟩
/-- _law_deep -/
abbrev s19 : Stmt := topS 26
theorem sc19 : FnScope ["box", "some", "tree", "k", "kids", "behind"] ["box", "some"] (defScope s19) := ⟨rfl, rfl, rfl, by decide +kernel, rfl, by decide +kernel, by decide +kernel⟩
/-- law -/
abbrev s20 : Stmt := topS 27
theorem sc20 : FnScope ["script", "box", "signs", "free", "some", "book", "rows", "due", "deep", "starts", "things", "thing", "told", "key", "tree", "row", "pair"] ["script"] (defScope s20) := ⟨rfl, rfl, rfl, by decide +kernel, rfl, by decide +kernel, by decide +kernel⟩
abbrev si_NoPlace : Stmt := clsS (topS 2) 0
theorem sci_NoPlace : FnScope ["self", "place"] ["self", "place"] (defScope si_NoPlace) := ⟨rfl, rfl, rfl, by decide +kernel, rfl, by decide +kernel, by decide +kernel⟩
structure Top (K : PySem.W.Frag) (mg : Str → Option Value) where
  a0 : Addr
  d0 : FuncData
  F0 : Fun K "kids_of" "kids_of" s0 a0 d0
  b0 : Binds K d0 ["tree"] []
  g0 : mg "kids_of" = some (.ref a0)
  a1 : Addr
  d1 : FuncData
  F1 : Fun K "places" "places" s1 a1 d1
  b1 : Binds K d1 ["tree"] []
  g1 : mg "places" = some (.ref a1)
  a2 : Addr
  d2 : FuncData
  F2 : Fun K "piece_at" "piece_at" s2 a2 d2
  b2 : Binds K d2 ["tree", "place"] []
  g2 : mg "piece_at" = some (.ref a2)
  a3 : Addr
  d3 : FuncData
  F3 : Fun K "feet_of" "feet_of" s3 a3 d3
  b3 : Binds K d3 ["tree"] []
  g3 : mg "feet_of" = some (.ref a3)
  a4 : Addr
  d4 : FuncData
  F4 : Fun K "is_graft" "is_graft" s4 a4 d4
  b4 : Binds K d4 ["tree"] []
  g4 : mg "is_graft" = some (.ref a4)
  a5 : Addr
  d5 : FuncData
  F5 : Fun K "leaves_of" "leaves_of" s5 a5 d5
  b5 : Binds K d5 ["tree"] []
  g5 : mg "leaves_of" = some (.ref a5)
  a6 : Addr
  d6 : FuncData
  F6 : Fun K "first_amid" "first_amid" s6 a6 d6
  b6 : Binds K d6 ["book"] []
  g6 : mg "first_amid" = some (.ref a6)
  a7 : Addr
  d7 : FuncData
  F7 : Fun K "one_sided" "one_sided" s7 a7 d7
  b7 : Binds K d7 ["book"] []
  g7 : mg "one_sided" = some (.ref a7)
  a8 : Addr
  d8 : FuncData
  F8 : Fun K "_law_box" "_law_box" s8 a8 d8
  b8 : Binds K d8 ["script"] []
  g8 : mg "_law_box" = some (.ref a8)
  a9 : Addr
  d9 : FuncData
  F9 : Fun K "_law_pick" "_law_pick" s9 a9 d9
  b9 : Binds K d9 ["box", "count"] []
  g9 : mg "_law_pick" = some (.ref a9)
  a10 : Addr
  d10 : FuncData
  F10 : Fun K "_law_words" "_law_words" s10 a10 d10
  b10 : Binds K d10 ["box", "heads", "tail", "count"] []
  g10 : mg "_law_words" = some (.ref a10)
  a11 : Addr
  d11 : FuncData
  F11 : Fun K "_law_socket" "_law_socket" s11 a11 d11
  b11 : Binds K d11 ["some"] []
  g11 : mg "_law_socket" = some (.ref a11)
  a12 : Addr
  d12 : FuncData
  F12 : Fun K "_law_leaf" "_law_leaf" s12 a12 d12
  b12 : Binds K d12 ["box", "some"] []
  g12 : mg "_law_leaf" = some (.ref a12)
  a13 : Addr
  d13 : FuncData
  F13 : Fun K "_law_worn" "_law_worn" s13 a13 d13
  b13 : Binds K d13 ["box", "some"] []
  g13 : mg "_law_worn" = some (.ref a13)
  a14 : Addr
  d14 : FuncData
  F14 : Fun K "_law_knot" "_law_knot" s14 a14 d14
  b14 : Binds K d14 ["box", "some", "name", "deep", "foot"] []
  g14 : mg "_law_knot" = some (.ref a14)
  a15 : Addr
  d15 : FuncData
  F15 : Fun K "_law_signs" "_law_signs" s15 a15 d15
  b15 : Binds K d15 ["piece"] []
  g15 : mg "_law_signs" = some (.ref a15)
  a16 : Addr
  d16 : FuncData
  F16 : Fun K "_law_tree" "_law_tree" s16 a16 d16
  b16 : Binds K d16 ["box", "some", "name", "foot", "room"] []
  g16 : mg "_law_tree" = some (.ref a16)
  a17 : Addr
  d17 : FuncData
  F17 : Fun K "_law_book" "_law_book" s17 a17 d17
  b17 : Binds K d17 ["box", "some", "count", "room"] []
  g17 : mg "_law_book" = some (.ref a17)
  a18 : Addr
  d18 : FuncData
  F18 : Fun K "_law_leaves" "_law_leaves" s18 a18 d18
  b18 : Binds K d18 ["piece"] []
  g18 : mg "_law_leaves" = some (.ref a18)
  a19 : Addr
  d19 : FuncData
  F19 : Fun K "_law_deep" "_law_deep" s19 a19 d19
  b19 : Binds K d19 ["box", "some"] []
  g19 : mg "_law_deep" = some (.ref a19)
  a20 : Addr
  d20 : FuncData
  F20 : Fun K "law" "law" s20 a20 d20
  b20 : Binds K d20 ["script"] []
  g20 : mg "law" = some (.ref a20)
  m_enumerate : mg "enumerate" = none
  m_len : mg "len" = none
  m_range : mg "range" = none
  m_tuple : mg "tuple" = none
  m_list : mg "list" = none
  m_isinstance : mg "isinstance" = none
  m_bool : mg "bool" = none
  m_zip : mg "zip" = none
  xA_GraftError : Addr
  xg_GraftError : mg "GraftError" = some (.ref xA_GraftError)
  xA_NoPlace : Addr
  xg_NoPlace : mg "NoPlace" = some (.ref xA_NoPlace)
  gi : giB K xA_GraftError = true
  xI_NoPlace : Addr
  xd_NoPlace : FuncData
  xF_NoPlace : Fun K "__init__" "NoPlace.__init__" si_NoPlace xI_NoPlace xd_NoPlace
  xb_NoPlace : Binds K xd_NoPlace ("self" :: ["place"]) []
  xT_NoPlace : OexC K xA_NoPlace
  xo_NoPlace : oeB K xA_NoPlace xI_NoPlace ["place"] = true
  xv_NoPlace : cvK K "NoPlace" = .ref xA_NoPlace
structure Lv (P : Program) (K : KW) (mg : Str → Option Value) (base : Heap) (T : Top K.fr mg) (k : Nat) : Prop where
  h0 : FnOk P K.w K.fr mg base (L2.CX P K.w) k T.a0 T.d0 ["tree"] (spF K (cvK K.fr) 1 (fs k 0))
  h1 : FnOk P K.w K.fr mg base (L2.CX P K.w) k T.a1 T.d1 ["tree"] (spF K (cvK K.fr) 1 (fs k 1))
  h2 : FnOk P K.w K.fr mg base (L2.CX P K.w) k T.a2 T.d2 ["tree", "place"] (spF K (cvK K.fr) 2 (fs k 2))
  h3 : FnOk P K.w K.fr mg base (L2.CX P K.w) k T.a3 T.d3 ["tree"] (spF K (cvK K.fr) 1 (fs k 3))
  h4 : FnOk P K.w K.fr mg base (L2.CX P K.w) k T.a4 T.d4 ["tree"] (spF K (cvK K.fr) 1 (fs k 4))
  h5 : FnOk P K.w K.fr mg base (L2.CX P K.w) k T.a5 T.d5 ["tree"] (spF K (cvK K.fr) 1 (fs k 5))
  h6 : FnOk P K.w K.fr mg base (L2.CX P K.w) k T.a6 T.d6 ["book"] (spF K (cvK K.fr) 1 (fs k 6))
  h7 : FnOk P K.w K.fr mg base (L2.CX P K.w) k T.a7 T.d7 ["book"] (spF K (cvK K.fr) 1 (fs k 7))
  h8 : FnOk P K.w K.fr mg base (L2.CX P K.w) k T.a8 T.d8 ["script"] (spF K (cvK K.fr) 1 (fs k 8))
  h9 : FnOk P K.w K.fr mg base (L2.CX P K.w) k T.a9 T.d9 ["box", "count"] (spF K (cvK K.fr) 2 (fs k 9))
  h10 : FnOk P K.w K.fr mg base (L2.CX P K.w) k T.a10 T.d10 ["box", "heads", "tail", "count"] (spF K (cvK K.fr) 4 (fs k 10))
  h11 : FnOk P K.w K.fr mg base (L2.CX P K.w) k T.a11 T.d11 ["some"] (spF K (cvK K.fr) 1 (fs k 11))
  h12 : FnOk P K.w K.fr mg base (L2.CX P K.w) k T.a12 T.d12 ["box", "some"] (spF K (cvK K.fr) 2 (fs k 12))
  h13 : FnOk P K.w K.fr mg base (L2.CX P K.w) k T.a13 T.d13 ["box", "some"] (spF K (cvK K.fr) 2 (fs k 13))
  h14 : FnOk P K.w K.fr mg base (L2.CX P K.w) k T.a14 T.d14 ["box", "some", "name", "deep", "foot"] (spF K (cvK K.fr) 5 (fs k 14))
  h15 : FnOk P K.w K.fr mg base (L2.CX P K.w) k T.a15 T.d15 ["piece"] (spF K (cvK K.fr) 1 (fs k 15))
  h16 : FnOk P K.w K.fr mg base (L2.CX P K.w) k T.a16 T.d16 ["box", "some", "name", "foot", "room"] (spF K (cvK K.fr) 5 (fs k 16))
  h17 : FnOk P K.w K.fr mg base (L2.CX P K.w) k T.a17 T.d17 ["box", "some", "count", "room"] (spF K (cvK K.fr) 4 (fs k 17))
  h18 : FnOk P K.w K.fr mg base (L2.CX P K.w) k T.a18 T.d18 ["piece"] (spF K (cvK K.fr) 1 (fs k 18))
  h19 : FnOk P K.w K.fr mg base (L2.CX P K.w) k T.a19 T.d19 ["box", "some"] (spF K (cvK K.fr) 2 (fs k 19))
  h20 : FnOk P K.w K.fr mg base (L2.CX P K.w) k T.a20 T.d20 ["script"] (spF K (cvK K.fr) 1 (fs k 20))
  x_NoPlace : IniOk P K.w K.fr mg base k T.xI_NoPlace T.xd_NoPlace ["place"] (fs k 21)
section
variable {P : Program} {K : KW} {mg : Str → Option Value} {base : Heap}
/-- kids_of -/
theorem e0 (k : Nat) : fs (k + 1) 0 = fnF 1 1 (m_kids_of) := rfl
theorem w0 {T : Top K.fr mg} {k : Nat} (hp : K.pt = false) (L : Lv P K mg base T k) : FnOk P K.w K.fr mg base (L2.CX P K.w) (k + 1) T.a0 T.d0 ["tree"] (spF K (cvK K.fr) 1 (fs (k + 1) 0)) := by
  rw [e0]
  refine fn_of' ["tree"] rfl rfl T.F0 sc0 fun cdv A outer s H E hr tk po => ?_
  have nd := sc0.nd
  have hu := hr.units
  have hu2 : _ + 199 < cLine := Nat.lt_of_le_of_lt (Nat.add_le_add_left (by decide : 199 ≤ 200) _) (Nat.lt_of_le_of_lt (Nat.add_le_add_right (Nat.le_add_right _ _) _) hr.un)
  have hu5 : _ + 65 < cLine := Nat.lt_of_le_of_lt (Nat.add_le_add_left (by decide : 65 ≤ 200) _) (Nat.lt_of_le_of_lt (Nat.add_le_add_right (Nat.le_add_right _ _) _) hr.un)
  unfold m_kids_of
  exact ⟨_, (sss_one (ss_end (ss_ret (se_if (st_cmp ol_eqB (op_eqB (by exact hu2)) (se_ixA (by exact hu5) (se_vb 0) se_int) se_str) (se_ixA (by exact hu5) (se_vb 0) se_int) (se_tup sa_nil)))))⟩
/-- places -/
theorem e1 (k : Nat) : fs (k + 1) 1 = fnF 5 1 (m_places (fs k 0) (fs k 1)) := rfl
theorem w1 {T : Top K.fr mg} {k : Nat} (hp : K.pt = false) (L : Lv P K mg base T k) : FnOk P K.w K.fr mg base (L2.CX P K.w) (k + 1) T.a1 T.d1 ["tree"] (spF K (cvK K.fr) 1 (fs (k + 1) 1)) := by
  rw [e1]
  refine fn_of' ["tree", "found", "k", "kid", "place"] rfl rfl T.F1 sc1 fun cdv A outer s H E hr tk po => ?_
  have nd := sc1.nd
  have hu := hr.units
  have hu2 : _ + 199 < cLine := Nat.lt_of_le_of_lt (Nat.add_le_add_left (by decide : 199 ≤ 200) _) (Nat.lt_of_le_of_lt (Nat.add_le_add_right (Nat.le_add_right _ _) _) hr.un)
  have hu5 : _ + 65 < cLine := Nat.lt_of_le_of_lt (Nat.add_le_add_left (by decide : 65 ≤ 200) _) (Nat.lt_of_le_of_lt (Nat.add_le_add_right (Nat.le_add_right _ _) _) hr.un)
  unfold m_places m_places_b2 m_places_b1
  exact ⟨_, (sss_cons (ss_set (i := 1) nd (se_lst (sa_cons (se_tup sa_nil) sa_nil))) (sss_cons (ss_for po rfl (si_en (se_call L.h0 hr T.g0 T.F0.kp T.b0 tk (sa_cons (se_mv 0) sa_nil) none) T.m_enumerate) (sg_tup rfl (sgs_cons (sg_name nd) (sgs_cons (sg_name nd) sgs_nil))) (sss_kill (vs := [2, 3, 4]) (sss_one (ss_for po rfl (si_sq (se_call L.h1 hr T.g1 T.F1.kp T.b1 tk (sa_cons (se_mv 3) sa_nil) none)) (sg_name nd) (sss_kill (vs := [4]) (sss_one (ss_app (i := 1) (se_bin ol_add op_addA (se_tup (sa_cons (se_mv 2) sa_nil)) (se_vb 4))))))))) (sss_one (ss_end (ss_ret (se_rv 1))))))⟩
/-- piece_at -/
theorem e2 (k : Nat) : fs (k + 1) 2 = fnF 5 2 (m_piece_at_2 (fs k 21) (fs k 0)) := rfl
theorem w2 {T : Top K.fr mg} {k : Nat} (hp : K.pt = false) (L : Lv P K mg base T k) : FnOk P K.w K.fr mg base (L2.CX P K.w) (k + 1) T.a2 T.d2 ["tree", "place"] (spF K (cvK K.fr) 2 (fs (k + 1) 2)) := by
  rw [e2]
  refine fn_of' ["tree", "place", "found", "number", "kids"] rfl rfl T.F2 sc2 fun cdv A outer s H E hr tk po => ?_
  have nd := sc2.nd
  have hu := hr.units
  have hu2 : _ + 199 < cLine := Nat.lt_of_le_of_lt (Nat.add_le_add_left (by decide : 199 ≤ 200) _) (Nat.lt_of_le_of_lt (Nat.add_le_add_right (Nat.le_add_right _ _) _) hr.un)
  have hu5 : _ + 65 < cLine := Nat.lt_of_le_of_lt (Nat.add_le_add_left (by decide : 65 ≤ 200) _) (Nat.lt_of_le_of_lt (Nat.add_le_add_right (Nat.le_add_right _ _) _) hr.un)
  unfold m_piece_at_2 m_piece_at_2_b1
  exact ⟨_, (sss_cons (ss_set (i := 2) nd (se_mv 0)) (sss_cons (ss_for po rfl (si_sq (se_mv 1)) (sg_name nd) (sss_kill (vs := [3, 4]) (sss_cons (ss_set (i := 4) nd (se_call L.h0 hr T.g0 T.F0.kp T.b0 tk (sa_cons (se_mv 2) sa_nil) none)) (sss_cons (ss_if (st_not (st_chain ol_cmp op_le ol_ltA (op_ltA (by exact hu5)) se_int (se_vb 3) (se_cb cl_len call_len T.m_len (sa_cons (se_vb 4) sa_nil)))) (sss_one (ss_raise L.x_NoPlace T.xT_NoPlace T.xo_NoPlace T.xv_NoPlace T.xg_NoPlace T.xb_NoPlace hr tk rfl (sa_cons (se_mv 1) sa_nil))) sss_nil) (sss_one (ss_set (i := 2) nd (se_ixA (by exact hu5) (se_vb 4) (se_vb 3)))))))) (sss_one (ss_end (ss_ret (se_rv 2))))))⟩
/-- feet_of -/
theorem e3 (k : Nat) : fs (k + 1) 3 = fnF 4 1 (m_feet_of (fs k 1) (fs k 2)) := rfl
theorem w3 {T : Top K.fr mg} {k : Nat} (hp : K.pt = false) (L : Lv P K mg base T k) : FnOk P K.w K.fr mg base (L2.CX P K.w) (k + 1) T.a3 T.d3 ["tree"] (spF K (cvK K.fr) 1 (fs (k + 1) 3)) := by
  rw [e3]
  refine fn_of' ["tree", "pieces", "place", "piece"] rfl rfl T.F3 sc3 fun cdv A outer s H E hr tk po => ?_
  have nd := sc3.nd
  have hu := hr.units
  have hu2 : _ + 199 < cLine := Nat.lt_of_le_of_lt (Nat.add_le_add_left (by decide : 199 ≤ 200) _) (Nat.lt_of_le_of_lt (Nat.add_le_add_right (Nat.le_add_right _ _) _) hr.un)
  have hu5 : _ + 65 < cLine := Nat.lt_of_le_of_lt (Nat.add_le_add_left (by decide : 65 ≤ 200) _) (Nat.lt_of_le_of_lt (Nat.add_le_add_right (Nat.le_add_right _ _) _) hr.un)
  unfold m_feet_of m_feet_of_ce3 m_feet_of_ce2 m_feet_of_ct1
  exact ⟨_, (sss_cons (ss_setLc (i := 1) (own := [(("place" : Str), 2)]) rfl nd (blkOk_by (N := ["tree", "pieces", "place", "piece"]) (sc := defScope s3) (by decide +kernel)) (si_sq (se_call L.h1 hr T.g1 T.F1.kp T.b1 tk (sa_cons (se_mv 0) sa_nil) none)) (fun _ _ _ _ _ => (sgw_name nd)) (fun _ _ _ _ _ => sp_nil) (fun _ _ _ _ _ => (se_call L.h2 (by exact hr) T.g2 T.F2.kp T.b2 takes0 (sa_cons (se_mv 0) (sa_cons (se_mv 2) sa_nil)) none)) (sw_true rfl rfl rfl (by decide +kernel))) (sss_one (ss_end (ss_ret (se_comp (own := [(("piece" : Str), 3)]) rfl nd (blkOk_by (N := ["tree", "pieces", "place", "piece"]) (sc := defScope s3) (by decide +kernel)) (si_sq (se_mv 1)) (fun _ _ _ _ _ => (sgw_name nd)) (fun _ _ _ _ _ => (sp_one (st_cmp ol_eqB (op_eqB (by exact hu2)) (se_ixA (by exact hu5) (se_vb 3) se_int) se_str))) (fun _ _ _ _ _ => (se_ixA (by exact hu5) (se_vb 3) se_int)))))))⟩
/-- is_graft -/
theorem e4 (k : Nat) : fs (k + 1) 4 = fnF 1 1 (m_is_graft (fs k 3)) := rfl
theorem w4 {T : Top K.fr mg} {k : Nat} (hp : K.pt = false) (L : Lv P K mg base T k) : FnOk P K.w K.fr mg base (L2.CX P K.w) (k + 1) T.a4 T.d4 ["tree"] (spF K (cvK K.fr) 1 (fs (k + 1) 4)) := by
  rw [e4]
  refine fn_of' ["tree"] rfl rfl T.F4 sc4 fun cdv A outer s H E hr tk po => ?_
  have nd := sc4.nd
  have hu := hr.units
  have hu2 : _ + 199 < cLine := Nat.lt_of_le_of_lt (Nat.add_le_add_left (by decide : 199 ≤ 200) _) (Nat.lt_of_le_of_lt (Nat.add_le_add_right (Nat.le_add_right _ _) _) hr.un)
  have hu5 : _ + 65 < cLine := Nat.lt_of_le_of_lt (Nat.add_le_add_left (by decide : 65 ≤ 200) _) (Nat.lt_of_le_of_lt (Nat.add_le_add_right (Nat.le_add_right _ _) _) hr.un)
  unfold m_is_graft
  exact ⟨_, (sss_one (ss_end (ss_ret (se_cmp ol_eqB (op_eqB (by exact hu2)) (se_cb cl_len call_len T.m_len (sa_cons (se_call L.h3 hr T.g3 T.F3.kp T.b3 tk (sa_cons (se_mv 0) sa_nil) none) sa_nil)) se_int))))⟩
/-- leaves_of -/
theorem e5 (k : Nat) : fs (k + 1) 5 = fnF 4 1 (m_leaves_of (fs k 1) (fs k 2)) := rfl
theorem w5 {T : Top K.fr mg} {k : Nat} (hp : K.pt = false) (L : Lv P K mg base T k) : FnOk P K.w K.fr mg base (L2.CX P K.w) (k + 1) T.a5 T.d5 ["tree"] (spF K (cvK K.fr) 1 (fs (k + 1) 5)) := by
  rw [e5]
  refine fn_of' ["tree", "pieces", "place", "piece"] rfl rfl T.F5 sc5 fun cdv A outer s H E hr tk po => ?_
  have nd := sc5.nd
  have hu := hr.units
  have hu2 : _ + 199 < cLine := Nat.lt_of_le_of_lt (Nat.add_le_add_left (by decide : 199 ≤ 200) _) (Nat.lt_of_le_of_lt (Nat.add_le_add_right (Nat.le_add_right _ _) _) hr.un)
  have hu5 : _ + 65 < cLine := Nat.lt_of_le_of_lt (Nat.add_le_add_left (by decide : 65 ≤ 200) _) (Nat.lt_of_le_of_lt (Nat.add_le_add_right (Nat.le_add_right _ _) _) hr.un)
  unfold m_leaves_of m_leaves_of_ce3 m_leaves_of_ce2 m_leaves_of_ct1
  exact ⟨_, (sss_cons (ss_setLc (i := 1) (own := [(("place" : Str), 2)]) rfl nd (blkOk_by (N := ["tree", "pieces", "place", "piece"]) (sc := defScope s5) (by decide +kernel)) (si_sq (se_call L.h1 hr T.g1 T.F1.kp T.b1 tk (sa_cons (se_mv 0) sa_nil) none)) (fun _ _ _ _ _ => (sgw_name nd)) (fun _ _ _ _ _ => sp_nil) (fun _ _ _ _ _ => (se_call L.h2 (by exact hr) T.g2 T.F2.kp T.b2 takes0 (sa_cons (se_mv 0) (sa_cons (se_mv 2) sa_nil)) none)) (sw_true rfl rfl rfl (by decide +kernel))) (sss_one (ss_end (ss_ret (se_comp (own := [(("piece" : Str), 3)]) rfl nd (blkOk_by (N := ["tree", "pieces", "place", "piece"]) (sc := defScope s5) (by decide +kernel)) (si_sq (se_mv 1)) (fun _ _ _ _ _ => (sgw_name nd)) (fun _ _ _ _ _ => (sp_one (st_cmp ol_neB (op_neB (by exact hu2)) (se_ixA (by exact hu5) (se_vb 3) se_int) se_str))) (fun _ _ _ _ _ => (se_mv 3)))))))⟩
/-- first_amid -/
theorem e6 (k : Nat) : fs (k + 1) 6 = fnF 3 1 (m_first_amid (fs k 5) (fs k 4)) := rfl
theorem w6 {T : Top K.fr mg} {k : Nat} (hp : K.pt = false) (L : Lv P K mg base T k) : FnOk P K.w K.fr mg base (L2.CX P K.w) (k + 1) T.a6 T.d6 ["book"] (spF K (cvK K.fr) 1 (fs (k + 1) 6)) := by
  rw [e6]
  refine fn_of' ["book", "key", "tree"] rfl rfl T.F6 sc6 fun cdv A outer s H E hr tk po => ?_
  have nd := sc6.nd
  have hu := hr.units
  have hu2 : _ + 199 < cLine := Nat.lt_of_le_of_lt (Nat.add_le_add_left (by decide : 199 ≤ 200) _) (Nat.lt_of_le_of_lt (Nat.add_le_add_right (Nat.le_add_right _ _) _) hr.un)
  have hu5 : _ + 65 < cLine := Nat.lt_of_le_of_lt (Nat.add_le_add_left (by decide : 65 ≤ 200) _) (Nat.lt_of_le_of_lt (Nat.add_le_add_right (Nat.le_add_right _ _) _) hr.un)
  unfold m_first_amid m_first_amid_b1
  exact ⟨_, (sss_cons (ss_for po rfl (si_sq (se_ixA (by exact hu5) (se_vb 0) se_int)) (sg_tup rfl (sgs_cons (sg_name nd) (sgs_cons (sg_name nd) sgs_nil))) (sss_kill (vs := [1, 2]) (sss_one (ss_if (sw_and (st_val (se_call L.h4 hr T.g4 T.F4.kp T.b4 tk (sa_cons (se_mv 2) sa_nil) none)) (sw_one (st_cmp ol_neB (op_neB (by exact hu2)) (se_ixA (by exact hu5) (se_ixA (by exact hu5) (se_call L.h5 hr T.g5 T.F5.kp T.b5 tk (sa_cons (se_mv 2) sa_nil) none) (se_neg se_int)) se_int) se_str))).st (sss_one (ss_end (ss_ret (se_rv 1)))) sss_nil)))) (sss_one (ss_end (ss_ret se_non))))⟩
/-- one_sided -/
theorem e7 (k : Nat) : fs (k + 1) 7 = fnF 1 1 (m_one_sided (fs k 6)) := rfl
theorem w7 {T : Top K.fr mg} {k : Nat} (hp : K.pt = false) (L : Lv P K mg base T k) : FnOk P K.w K.fr mg base (L2.CX P K.w) (k + 1) T.a7 T.d7 ["book"] (spF K (cvK K.fr) 1 (fs (k + 1) 7)) := by
  rw [e7]
  refine fn_of' ["book"] rfl rfl T.F7 sc7 fun cdv A outer s H E hr tk po => ?_
  have nd := sc7.nd
  have hu := hr.units
  have hu2 : _ + 199 < cLine := Nat.lt_of_le_of_lt (Nat.add_le_add_left (by decide : 199 ≤ 200) _) (Nat.lt_of_le_of_lt (Nat.add_le_add_right (Nat.le_add_right _ _) _) hr.un)
  have hu5 : _ + 65 < cLine := Nat.lt_of_le_of_lt (Nat.add_le_add_left (by decide : 65 ≤ 200) _) (Nat.lt_of_le_of_lt (Nat.add_le_add_right (Nat.le_add_right _ _) _) hr.un)
  unfold m_one_sided
  exact ⟨_, (sss_one (ss_end (ss_ret (se_cmp ol_is op_isA (se_call L.h6 hr T.g6 T.F6.kp T.b6 tk (sa_cons (se_mv 0) sa_nil) none) se_non))))⟩
/-- _law_box -/
theorem e8 (k : Nat) : fs (k + 1) 8 = fnF 4 1 (m_law_box) := rfl
theorem w8 {T : Top K.fr mg} {k : Nat} (hp : K.pt = false) (L : Lv P K mg base T k) : FnOk P K.w K.fr mg base (L2.CX P K.w) (k + 1) T.a8 T.d8 ["script"] (spF K (cvK K.fr) 1 (fs (k + 1) 8)) := by
  rw [e8]
  refine fn_of' ["script", "seed", "great", "cell"] rfl rfl T.F8 sc8 fun cdv A outer s H E hr tk po => ?_
  have nd := sc8.nd
  have hu := hr.units
  have hu2 : _ + 199 < cLine := Nat.lt_of_le_of_lt (Nat.add_le_add_left (by decide : 199 ≤ 200) _) (Nat.lt_of_le_of_lt (Nat.add_le_add_right (Nat.le_add_right _ _) _) hr.un)
  have hu5 : _ + 65 < cLine := Nat.lt_of_le_of_lt (Nat.add_le_add_left (by decide : 65 ≤ 200) _) (Nat.lt_of_le_of_lt (Nat.add_le_add_right (Nat.le_add_right _ _) _) hr.un)
  unfold m_law_box m_law_box_b1
  exact ⟨_, (sss_cons (ss_set (i := 1) nd se_int) (sss_cons (ss_set (i := 2) nd (se_lst sa_nil)) (sss_cons (ss_for po rfl (si_sq (se_mv 0)) (sg_name nd) (sss_kill (vs := [3]) (sss_cons (ss_set (i := 1) nd (se_bin ol_mod op_mod (se_bin ol_add op_addA (se_bin ol_add op_addA (se_bin ol_mulA op_mulA (se_vb 1) se_int) (se_bin ol_mod op_mod (se_vb 3) se_int)) se_int) se_int)) (sss_one (ss_if (st_cmp ol_cmp op_ge (se_vb 3) (se_bin ol_pow op_pow se_int se_int)) (sss_one (ss_app (i := 2) (se_mv 3))) sss_nil))))) (sss_one (ss_end (ss_ret (se_lst (sa_cons (se_mv 1) (sa_cons se_int (sa_cons (se_mv 2) sa_nil))))))))))⟩
/-- _law_pick -/
theorem e9 (k : Nat) : fs (k + 1) 9 = fnF 4 2 (m_law_pick) := rfl
theorem w9 {T : Top K.fr mg} {k : Nat} (hp : K.pt = false) (L : Lv P K mg base T k) : FnOk P K.w K.fr mg base (L2.CX P K.w) (k + 1) T.a9 T.d9 ["box", "count"] (spF K (cvK K.fr) 2 (fs (k + 1) 9)) := by
  rw [e9]
  refine fn_of' ["box", "count", "stir", "digit"] rfl rfl T.F9 sc9 fun cdv A outer s H E hr tk po => ?_
  have nd := sc9.nd
  have hu := hr.units
  have hu2 : _ + 199 < cLine := Nat.lt_of_le_of_lt (Nat.add_le_add_left (by decide : 199 ≤ 200) _) (Nat.lt_of_le_of_lt (Nat.add_le_add_right (Nat.le_add_right _ _) _) hr.un)
  have hu5 : _ + 65 < cLine := Nat.lt_of_le_of_lt (Nat.add_le_add_left (by decide : 65 ≤ 200) _) (Nat.lt_of_le_of_lt (Nat.add_le_add_right (Nat.le_add_right _ _) _) hr.un)
  unfold m_law_pick
  exact ⟨_, (sss_cons (ss_if (sw_and (st_cmp ol_eqB (op_eqB (by exact hu2)) (se_ixA (by exact hu5) (se_vb 0) se_int) se_int) (sw_one (st_cmp ol_cmp op_gt (se_cb cl_len call_len T.m_len (sa_cons (se_ixA (by exact hu5) (se_vb 0) se_int) sa_nil)) se_int))).st (sss_cons (ss_put (i := 0) (by exact hu5) se_int (se_ixA (by exact hu5) (se_ixA (by exact hu5) (se_vb 0) se_int) se_int)) (sss_one (ss_put (i := 0) (by exact hu5) se_int (se_slice (se_ixA (by exact hu5) (se_vb 0) se_int) (.some se_int) .non)))) sss_nil) (sss_cons (ss_kill (vs := [3]) (ss_if (st_cmp ol_cmp op_gt (se_ixA (by exact hu5) (se_vb 0) se_int) se_int) (sss_cons (ss_set (i := 3) nd (se_bin ol_mod op_mod (se_ixA (by exact hu5) (se_vb 0) se_int) (se_vb 1))) (sss_cons (ss_put (i := 0) (by exact hu5) se_int (se_bin ol_div op_fdiv (se_ixA (by exact hu5) (se_vb 0) se_int) (se_vb 1))) (sss_one (ss_end (ss_ret (se_rv 3)))))) sss_nil)) (sss_cons (ss_put (i := 0) (by exact hu5) se_int (se_bin ol_mod op_mod (se_bin ol_add op_addA (se_bin ol_mulA op_mulA (se_ixA (by exact hu5) (se_vb 0) se_int) se_int) se_int) se_int)) (sss_cons (ss_set (i := 2) nd (se_bin ol_mod op_mod (se_bin ol_mulA op_mulA (se_ixA (by exact hu5) (se_vb 0) se_int) (se_ixA (by exact hu5) (se_vb 0) se_int)) se_int)) (sss_one (ss_end (ss_ret (se_bin ol_mod op_mod (se_bin ol_div op_fdiv (se_bin ol_mod op_mod (se_bin ol_mulA op_mulA (se_vb 2) se_int) se_int) se_int) (se_vb 1)))))))))⟩
/-- _law_words -/
theorem e10 (k : Nat) : fs (k + 1) 10 = fnF 10 4 (m_law_words (fs k 9)) := rfl
theorem w10 {T : Top K.fr mg} {k : Nat} (hp : K.pt = false) (L : Lv P K mg base T k) : FnOk P K.w K.fr mg base (L2.CX P K.w) (k + 1) T.a10 T.d10 ["box", "heads", "tail", "count"] (spF K (cvK K.fr) 4 (fs (k + 1) 10)) := by
  rw [e10]
  refine fn_of' ["box", "heads", "tail", "count", "stem", "k", "at", "turn", "some", "word"] rfl rfl T.F10 sc10 fun cdv A outer s H E hr tk po => ?_
  have nd := sc10.nd
  have hu := hr.units
  have hu2 : _ + 199 < cLine := Nat.lt_of_le_of_lt (Nat.add_le_add_left (by decide : 199 ≤ 200) _) (Nat.lt_of_le_of_lt (Nat.add_le_add_right (Nat.le_add_right _ _) _) hr.un)
  have hu5 : _ + 65 < cLine := Nat.lt_of_le_of_lt (Nat.add_le_add_left (by decide : 65 ≤ 200) _) (Nat.lt_of_le_of_lt (Nat.add_le_add_right (Nat.le_add_right _ _) _) hr.un)
  unfold m_law_words m_law_words_b2 m_law_words_b1
  exact ⟨_, (sss_cons (ss_set (i := 4) nd se_str) (sss_cons (ss_for po rfl (si_r1 (se_call L.h9 hr T.g9 T.F9.kp T.b9 tk (sa_cons (se_vb 0) (sa_cons se_int sa_nil)) (some 0)) T.m_range) (sg_name nd) (sss_kill (vs := [5]) (sss_one (ss_set (i := 4) nd (se_bin ol_add op_addA (se_vb 4) (se_ixA (by exact hu5) (se_vb 1) (se_call L.h9 hr T.g9 T.F9.kp T.b9 tk (sa_cons (se_vb 0) (sa_cons se_int sa_nil)) (some 0)))))))) (sss_cons (ss_set (i := 6) nd (se_call L.h9 hr T.g9 T.F9.kp T.b9 tk (sa_cons (se_vb 0) (sa_cons (se_bin ol_add op_addA (se_cb cl_len call_len T.m_len (sa_cons (se_vb 4) sa_nil)) se_int) sa_nil)) (some 0))) (sss_cons (ss_set (i := 7) nd (se_call L.h9 hr T.g9 T.F9.kp T.b9 tk (sa_cons (se_vb 0) (sa_cons se_int sa_nil)) (some 0))) (sss_cons (ss_set (i := 8) nd (se_lst sa_nil)) (sss_cons (ss_for po rfl (si_r1 (se_vb 3) T.m_range) (sg_name nd) (sss_kill (vs := [5, 9]) (sss_cons (ss_set (i := 9) nd (se_bin ol_add op_addA (se_bin ol_add op_addA (se_slice (se_vb 4) .non (.some (se_vb 6))) (se_ixA (by exact hu5) (se_vb 1) (se_bin ol_mod op_mod (se_bin ol_add op_addA (se_vb 7) (se_bin ol_mulA op_mulA (se_vb 5) se_int)) se_int))) (se_slice (se_vb 4) (.some (se_vb 6)) .non))) (sss_one (ss_app (i := 8) (se_bin ol_add op_addA (se_vb 9) (se_bin ol_mulA op_mulA (se_vb 2) (se_call L.h9 hr T.g9 T.F9.kp T.b9 tk (sa_cons (se_vb 0) (sa_cons se_int sa_nil)) (some 0))))))))) (sss_one (ss_end (ss_ret (se_rv 8))))))))))⟩
/-- _law_socket -/
theorem e11 (k : Nat) : fs (k + 1) 11 = fnF 1 1 (m_law_socket) := rfl
theorem w11 {T : Top K.fr mg} {k : Nat} (hp : K.pt = false) (L : Lv P K mg base T k) : FnOk P K.w K.fr mg base (L2.CX P K.w) (k + 1) T.a11 T.d11 ["some"] (spF K (cvK K.fr) 1 (fs (k + 1) 11)) := by
  rw [e11]
  refine fn_of' ["some"] rfl rfl T.F11 sc11 fun cdv A outer s H E hr tk po => ?_
  have nd := sc11.nd
  have hu := hr.units
  have hu2 : _ + 199 < cLine := Nat.lt_of_le_of_lt (Nat.add_le_add_left (by decide : 199 ≤ 200) _) (Nat.lt_of_le_of_lt (Nat.add_le_add_right (Nat.le_add_right _ _) _) hr.un)
  have hu5 : _ + 65 < cLine := Nat.lt_of_le_of_lt (Nat.add_le_add_left (by decide : 65 ≤ 200) _) (Nat.lt_of_le_of_lt (Nat.add_le_add_right (Nat.le_add_right _ _) _) hr.un)
  unfold m_law_socket
  exact ⟨_, (sss_cons (ss_if (st_cmp ol_eqB (op_eqB (by exact hu2)) (se_ixA (by exact hu5) (se_vb 0) se_str) se_int) (sss_one (ss_ret se_bl)) sss_nil) (sss_cons (ss_put (i := 0) (by exact hu5) se_str (se_bin ol_sub op_sub (se_ixA (by exact hu5) (se_vb 0) se_str) se_int)) (sss_one (ss_ret se_bl))))⟩
/-- _law_leaf -/
theorem e12 (k : Nat) : fs (k + 1) 12 = fnF 3 2 (m_law_leaf_2 (fs k 9) (fs k 11)) := rfl
theorem w12 {T : Top K.fr mg} {k : Nat} (hp : K.pt = false) (L : Lv P K mg base T k) : FnOk P K.w K.fr mg base (L2.CX P K.w) (k + 1) T.a12 T.d12 ["box", "some"] (spF K (cvK K.fr) 2 (fs (k + 1) 12)) := by
  rw [e12]
  refine fn_of' ["box", "some", "way"] rfl rfl T.F12 sc12 fun cdv A outer s H E hr tk po => ?_
  have nd := sc12.nd
  have hu := hr.units
  have hu2 : _ + 199 < cLine := Nat.lt_of_le_of_lt (Nat.add_le_add_left (by decide : 199 ≤ 200) _) (Nat.lt_of_le_of_lt (Nat.add_le_add_right (Nat.le_add_right _ _) _) hr.un)
  have hu5 : _ + 65 < cLine := Nat.lt_of_le_of_lt (Nat.add_le_add_left (by decide : 65 ≤ 200) _) (Nat.lt_of_le_of_lt (Nat.add_le_add_right (Nat.le_add_right _ _) _) hr.un)
  unfold m_law_leaf_2
  exact ⟨_, (sss_cons (ss_set (i := 2) nd (se_call L.h9 hr T.g9 T.F9.kp T.b9 tk (sa_cons (se_vb 0) (sa_cons se_int sa_nil)) (some 0))) (sss_cons (ss_if (st_cmp ol_eqB (op_eqB (by exact hu2)) (se_vb 2) se_int) (sss_one (ss_end (ss_ret (se_tup (sa_cons se_str sa_nil))))) sss_nil) (sss_cons (ss_if (sw_and (st_cmp ol_ltA (op_ltA (by exact hu5)) (se_vb 2) se_int) (sw_one (st_val (se_call L.h11 hr T.g11 T.F11.kp T.b11 tk (sa_cons (se_vb 1) sa_nil) (some 0))))).st (sss_one (ss_end (ss_ret (se_tup (sa_cons se_str (sa_cons (se_ixA (by exact hu5) (se_ixA (by exact hu5) (se_vb 1) se_str) (se_bin ol_div op_fdiv (se_call L.h9 hr T.g9 T.F9.kp T.b9 tk (sa_cons (se_vb 0) (sa_cons se_int sa_nil)) (some 0)) se_int)) sa_nil)))))) sss_nil) (sss_one (ss_end (ss_ret (se_tup (sa_cons se_str (sa_cons (se_ixA (by exact hu5) (se_ixA (by exact hu5) (se_vb 1) se_str) (se_call L.h9 hr T.g9 T.F9.kp T.b9 tk (sa_cons (se_vb 0) (sa_cons (se_cb cl_len call_len T.m_len (sa_cons (se_ixA (by exact hu5) (se_vb 1) se_str) sa_nil)) sa_nil)) (some 0))) sa_nil)))))))))⟩
/-- _law_worn -/
theorem e13 (k : Nat) : fs (k + 1) 13 = fnF 3 2 (m_law_worn (fs k 9) (fs k 11)) := rfl
theorem w13 {T : Top K.fr mg} {k : Nat} (hp : K.pt = false) (L : Lv P K mg base T k) : FnOk P K.w K.fr mg base (L2.CX P K.w) (k + 1) T.a13 T.d13 ["box", "some"] (spF K (cvK K.fr) 2 (fs (k + 1) 13)) := by
  rw [e13]
  refine fn_of' ["box", "some", "way"] rfl rfl T.F13 sc13 fun cdv A outer s H E hr tk po => ?_
  have nd := sc13.nd
  have hu := hr.units
  have hu2 : _ + 199 < cLine := Nat.lt_of_le_of_lt (Nat.add_le_add_left (by decide : 199 ≤ 200) _) (Nat.lt_of_le_of_lt (Nat.add_le_add_right (Nat.le_add_right _ _) _) hr.un)
  have hu5 : _ + 65 < cLine := Nat.lt_of_le_of_lt (Nat.add_le_add_left (by decide : 65 ≤ 200) _) (Nat.lt_of_le_of_lt (Nat.add_le_add_right (Nat.le_add_right _ _) _) hr.un)
  unfold m_law_worn
  exact ⟨_, (sss_cons (ss_set (i := 2) nd (se_call L.h9 hr T.g9 T.F9.kp T.b9 tk (sa_cons (se_vb 0) (sa_cons se_int sa_nil)) (some 0))) (sss_cons (ss_if (sw_or (st_cmp ol_ltA (op_ltA (by exact hu5)) (se_vb 2) se_int) (sw_or (st_not (st_val (se_ixA (by exact hu5) (se_vb 1) se_str))) (sw_one (st_not (st_val (se_call L.h11 hr T.g11 T.F11.kp T.b11 tk (sa_cons (se_vb 1) sa_nil) (some 0))))))).st (sss_one (ss_end (ss_ret se_non))) sss_nil) (sss_one (ss_end (ss_ret (se_tup (sa_cons (se_ixA (by exact hu5) (se_ixA (by exact hu5) (se_vb 1) se_str) (se_bin ol_div op_fdiv (se_call L.h9 hr T.g9 T.F9.kp T.b9 tk (sa_cons (se_vb 0) (sa_cons se_int sa_nil)) (some 0)) se_int)) (sa_cons (se_cmp ol_eqB (op_eqB (by exact hu2)) (se_vb 2) se_int) sa_nil))))))))⟩
/-- _law_knot -/
theorem e14 (k : Nat) : fs (k + 1) 14 = fnF 11 5 (m_law_knot (fs k 9) (fs k 14) (fs k 12) (fs k 13)) := rfl
theorem w14 {T : Top K.fr mg} {k : Nat} (hp : K.pt = false) (L : Lv P K mg base T k) : FnOk P K.w K.fr mg base (L2.CX P K.w) (k + 1) T.a14 T.d14 ["box", "some", "name", "deep", "foot"] (spF K (cvK K.fr) 5 (fs (k + 1) 14)) := by
  rw [e14]
  refine fn_of' ["box", "some", "name", "deep", "foot", "worn", "kids", "size", "spot", "k", "here"] rfl rfl T.F14 sc14 fun cdv A outer s H E hr tk po => ?_
  have nd := sc14.nd
  have hu := hr.units
  have hu2 : _ + 199 < cLine := Nat.lt_of_le_of_lt (Nat.add_le_add_left (by decide : 199 ≤ 200) _) (Nat.lt_of_le_of_lt (Nat.add_le_add_right (Nat.le_add_right _ _) _) hr.un)
  have hu5 : _ + 65 < cLine := Nat.lt_of_le_of_lt (Nat.add_le_add_left (by decide : 65 ≤ 200) _) (Nat.lt_of_le_of_lt (Nat.add_le_add_right (Nat.le_add_right _ _) _) hr.un)
  unfold m_law_knot m_law_knot_b1
  exact ⟨_, (sss_cons (ss_set (i := 5) nd (se_callN L.h13 hr T.g13 T.F13.kp T.b13 tk (sa_cons (se_vb 0) (sa_cons (se_vb 1) sa_nil)) [0, 1])) (sss_cons (ss_set (i := 6) nd (se_lst sa_nil)) (sss_cons (ss_set (i := 7) nd (se_bin ol_add op_addA se_int (se_call L.h9 hr T.g9 T.F9.kp T.b9 tk (sa_cons (se_vb 0) (sa_cons se_int sa_nil)) (some 0)))) (sss_cons (ss_set (i := 8) nd (se_bin ol_sub op_sub (se_vb 7) se_int)) (sss_cons (ss_if (st_cmp ol_ltA (op_ltA (by exact hu5)) (se_call L.h9 hr T.g9 T.F9.kp T.b9 tk (sa_cons (se_vb 0) (sa_cons se_int sa_nil)) (some 0)) (se_ixA (by exact hu5) (se_vb 1) se_str)) (sss_one (ss_set (i := 8) nd (se_call L.h9 hr T.g9 T.F9.kp T.b9 tk (sa_cons (se_vb 0) (sa_cons (se_mv 7) sa_nil)) (some 0)))) sss_nil) (sss_cons (ss_for po rfl (si_r1 (se_vb 7) T.m_range) (sg_name nd) (sss_kill (vs := [9, 10]) (sss_cons (ss_set (i := 10) nd se_str) (sss_cons (ss_if (st_cmp ol_eqB (op_eqB (by exact hu2)) (se_vb 9) (se_vb 8)) (sss_one (ss_set (i := 10) nd (se_mv 4))) sss_nil) (sss_one (ss_if (sw_and (st_cmp ol_cmp op_gt (se_vb 3) se_int) (sw_one (st_cmp ol_eqB (op_eqB (by exact hu2)) (se_call L.h9 hr T.g9 T.F9.kp T.b9 tk (sa_cons (se_vb 0) (sa_cons se_int sa_nil)) (some 0)) se_int))).st (sss_one (ss_app (i := 6) (se_callN L.h14 hr T.g14 T.F14.kp T.b14 tk (sa_cons (se_vb 0) (sa_cons (se_vb 1) (sa_cons (se_ixA (by exact hu5) (se_ixA (by exact hu5) (se_vb 1) se_str) (se_call L.h9 hr T.g9 T.F9.kp T.b9 tk (sa_cons (se_vb 0) (sa_cons se_int sa_nil)) (some 0))) (sa_cons (se_bin ol_sub op_sub (se_vb 3) se_int) (sa_cons (se_mv 10) sa_nil))))) [0, 1]))) (sss_one (ss_if (st_cmp ol_neB (op_neB (by exact hu2)) (se_vb 10) se_str) (sss_one (ss_app (i := 6) (se_tup (sa_cons se_str (sa_cons (se_mv 10) sa_nil))))) (sss_one (ss_app (i := 6) (se_callN L.h12 hr T.g12 T.F12.kp T.b12 tk (sa_cons (se_vb 0) (sa_cons (se_vb 1) sa_nil)) [0, 1]))))))))))) (sss_one (ss_end (ss_ret (se_tup (sa_cons se_str (sa_cons (se_mv 2) (sa_cons (se_mv 5) (sa_cons (se_ct cl_tuple call_tupX T.m_tuple (sa_cons (se_vb 6) sa_nil)) sa_nil))))))))))))))⟩
/-- _law_signs -/
theorem e15 (k : Nat) : fs (k + 1) 15 = fnF 3 1 (m_law_signs (fs k 15)) := rfl
theorem w15 {T : Top K.fr mg} {k : Nat} (hp : K.pt = false) (L : Lv P K mg base T k) : FnOk P K.w K.fr mg base (L2.CX P K.w) (k + 1) T.a15 T.d15 ["piece"] (spF K (cvK K.fr) 1 (fs (k + 1) 15)) := by
  rw [e15]
  refine fn_of' ["piece", "signs", "kid"] rfl rfl T.F15 sc15 fun cdv A outer s H E hr tk po => ?_
  have nd := sc15.nd
  have hu := hr.units
  have hu2 : _ + 199 < cLine := Nat.lt_of_le_of_lt (Nat.add_le_add_left (by decide : 199 ≤ 200) _) (Nat.lt_of_le_of_lt (Nat.add_le_add_right (Nat.le_add_right _ _) _) hr.un)
  have hu5 : _ + 65 < cLine := Nat.lt_of_le_of_lt (Nat.add_le_add_left (by decide : 65 ≤ 200) _) (Nat.lt_of_le_of_lt (Nat.add_le_add_right (Nat.le_add_right _ _) _) hr.un)
  unfold m_law_signs m_law_signs_b1
  exact ⟨_, (sss_cons (ss_if (st_cmp ol_eqB (op_eqB (by exact hu2)) (se_ixA (by exact hu5) (se_vb 0) se_int) se_str) (sss_one (ss_end (ss_ret (se_lst (sa_cons (se_ixA (by exact hu5) (se_vb 0) se_int) sa_nil))))) sss_nil) (sss_cons (ss_set (i := 1) nd (se_lst sa_nil)) (sss_cons (ss_kill (vs := [2]) (ss_if (st_cmp ol_eqB (op_eqB (by exact hu2)) (se_ixA (by exact hu5) (se_vb 0) se_int) se_str) (sss_one (ss_for po rfl (si_sq (se_ixA (by exact hu5) (se_vb 0) se_int)) (sg_name nd) (sss_kill (vs := [2]) (sss_one (ss_set (i := 1) nd (se_bin ol_add op_addA (se_vb 1) (se_call L.h15 hr T.g15 T.F15.kp T.b15 tk (sa_cons (se_mv 2) sa_nil) none))))))) sss_nil)) (sss_one (ss_end (ss_ret (se_rv 1)))))))⟩
/-- _law_tree -/
theorem e16 (k : Nat) : fs (k + 1) 16 = fnF 7 5 (m_law_tree_2 (fs k 9) (fs k 15) (fs k 14)) := rfl
theorem w16 {T : Top K.fr mg} {k : Nat} (hp : K.pt = false) (L : Lv P K mg base T k) : FnOk P K.w K.fr mg base (L2.CX P K.w) (k + 1) T.a16 T.d16 ["box", "some", "name", "foot", "room"] (spF K (cvK K.fr) 5 (fs (k + 1) 16)) := by
  rw [e16]
  refine fn_of' ["box", "some", "name", "foot", "room", "tree", "sign"] rfl rfl T.F16 sc16 fun cdv A outer s H E hr tk po => ?_
  have nd := sc16.nd
  have hu := hr.units
  have hu2 : _ + 199 < cLine := Nat.lt_of_le_of_lt (Nat.add_le_add_left (by decide : 199 ≤ 200) _) (Nat.lt_of_le_of_lt (Nat.add_le_add_right (Nat.le_add_right _ _) _) hr.un)
  have hu5 : _ + 65 < cLine := Nat.lt_of_le_of_lt (Nat.add_le_add_left (by decide : 65 ≤ 200) _) (Nat.lt_of_le_of_lt (Nat.add_le_add_right (Nat.le_add_right _ _) _) hr.un)
  unfold m_law_tree_2
  exact ⟨_, (sss_cons (ss_put (i := 1) (by exact hu5) se_str (se_mv 4)) (sss_cons (ss_set (i := 5) nd (se_callN L.h14 hr T.g14 T.F14.kp T.b14 tk (sa_cons (se_vb 0) (sa_cons (se_vb 1) (sa_cons (se_mv 2) (sa_cons se_int (sa_cons (se_mv 3) sa_nil))))) [0, 1])) (sss_cons (ss_if (st_cmp ol_cmp op_gt (se_cb cl_len call_len T.m_len (sa_cons (se_call L.h15 hr T.g15 T.F15.kp T.b15 tk (sa_cons (se_mv 5) sa_nil) none) sa_nil)) se_int) (sss_one (ss_end (ss_ret (se_rv 5)))) sss_nil) (sss_cons (ss_set (i := 6) nd (se_tup (sa_cons se_str (sa_cons (se_ixA (by exact hu5) (se_ixA (by exact hu5) (se_vb 1) se_str) (se_call L.h9 hr T.g9 T.F9.kp T.b9 tk (sa_cons (se_vb 0) (sa_cons (se_cb cl_len call_len T.m_len (sa_cons (se_ixA (by exact hu5) (se_vb 1) se_str) sa_nil)) sa_nil)) (some 0))) sa_nil)))) (sss_cons (ss_if (sw_or (st_cmp ol_ltA (op_ltA (by exact hu5)) (se_ixA (by exact hu5) (se_vb 1) se_str) se_int) (sw_one (st_cmp ol_eqB (op_eqB (by exact hu2)) (se_call L.h9 hr T.g9 T.F9.kp T.b9 tk (sa_cons (se_vb 0) (sa_cons se_int sa_nil)) (some 0)) se_int))).st (sss_one (ss_end (ss_ret (se_bin ol_add op_addA (se_slice (se_vb 5) .non (.some se_int)) (se_tup (sa_cons (se_bin ol_add op_addA (se_tup (sa_cons (se_mv 6) sa_nil)) (se_ixA (by exact hu5) (se_vb 5) se_int)) sa_nil)))))) sss_nil) (sss_one (ss_end (ss_ret (se_bin ol_add op_addA (se_slice (se_vb 5) .non (.some se_int)) (se_tup (sa_cons (se_bin ol_add op_addA (se_ixA (by exact hu5) (se_vb 5) se_int) (se_tup (sa_cons (se_mv 6) sa_nil))) sa_nil)))))))))))⟩
/-- _law_book -/
theorem e17 (k : Nat) : fs (k + 1) 17 = fnF 11 4 (m_law_book_2 (fs k 9) (fs k 16) (fs k 10)) := rfl
theorem w17 {T : Top K.fr mg} {k : Nat} (hp : K.pt = false) (L : Lv P K mg base T k) : FnOk P K.w K.fr mg base (L2.CX P K.w) (k + 1) T.a17 T.d17 ["box", "some", "count", "room"] (spF K (cvK K.fr) 4 (fs (k + 1) 17)) := by
  rw [e17]
  refine fn_of' ["box", "some", "count", "room", "great", "keys", "trees", "k", "turn", "name", "foot"] rfl rfl T.F17 sc17 fun cdv A outer s H E hr tk po => ?_
  have nd := sc17.nd
  have hu := hr.units
  have hu2 : _ + 199 < cLine := Nat.lt_of_le_of_lt (Nat.add_le_add_left (by decide : 199 ≤ 200) _) (Nat.lt_of_le_of_lt (Nat.add_le_add_right (Nat.le_add_right _ _) _) hr.un)
  have hu5 : _ + 65 < cLine := Nat.lt_of_le_of_lt (Nat.add_le_add_left (by decide : 65 ≤ 200) _) (Nat.lt_of_le_of_lt (Nat.add_le_add_right (Nat.le_add_right _ _) _) hr.un)
  unfold m_law_book_2 m_law_book_2_b1
  exact ⟨_, (sss_cons (ss_set (i := 4) nd se_str) (sss_cons (ss_put (i := 1) (by exact hu5) se_str (se_call L.h10 hr T.g10 T.F10.kp T.b10 tk (sa_cons (se_vb 0) (sa_cons (se_mv 4) (sa_cons se_str (sa_cons se_int sa_nil)))) (some 0))) (sss_cons (ss_put (i := 1) (by exact hu5) se_str (se_call L.h10 hr T.g10 T.F10.kp T.b10 tk (sa_cons (se_vb 0) (sa_cons (se_mv 4) (sa_cons se_str (sa_cons se_int sa_nil)))) (some 0))) (sss_cons (ss_if (st_cmp ol_eqB (op_eqB (by exact hu2)) (se_call L.h9 hr T.g9 T.F9.kp T.b9 tk (sa_cons (se_vb 0) (sa_cons se_int sa_nil)) (some 0)) se_int) (sss_one (ss_put (i := 1) (by exact hu5) se_str (se_ct cl_list call_list_of T.m_list (sa_cons (se_ixA (by exact hu5) (se_vb 1) se_str) sa_nil)))) sss_nil) (sss_cons (ss_set (i := 5) nd (se_call L.h10 hr T.g10 T.F10.kp T.b10 tk (sa_cons (se_vb 0) (sa_cons (se_lower (se_vb 4)) (sa_cons se_str (sa_cons (se_mv 2) sa_nil)))) (some 0))) (sss_cons (ss_set (i := 6) nd (se_lst (sa_cons (se_tup (sa_cons (se_ixA (by exact hu5) (se_vb 5) se_int) (sa_cons (se_callN L.h16 hr T.g16 T.F16.kp T.b16 tk (sa_cons (se_vb 0) (sa_cons (se_vb 1) (sa_cons (se_ixA (by exact hu5) (se_ixA (by exact hu5) (se_vb 1) se_str) se_int) (sa_cons se_str (sa_cons (se_bin ol_mulA op_mulA (se_vb 3) (se_bin ol_div op_fdiv (se_bin ol_add op_addA se_int (se_call L.h9 hr T.g9 T.F9.kp T.b9 tk (sa_cons (se_vb 0) (sa_cons se_int sa_nil)) (some 0))) se_int)) sa_nil))))) [0, 1]) sa_nil))) sa_nil))) (sss_cons (ss_for po rfl (si_r2 se_int (se_vb 2) T.m_range) (sg_name nd) (sss_kill (vs := [7, 9, 10]) (sss_cons (ss_set (i := 9) nd (se_ixA (by exact hu5) (se_ixA (by exact hu5) (se_vb 1) se_str) (se_call L.h9 hr T.g9 T.F9.kp T.b9 tk (sa_cons (se_vb 0) (sa_cons se_int sa_nil)) (some 0)))) (sss_cons (ss_set (i := 10) nd se_str) (sss_cons (ss_if (sw_or (st_cmp ol_eqB (op_eqB (by exact hu2)) (se_vb 7) se_int) (sw_one (st_cmp ol_eqB (op_eqB (by exact hu2)) (se_call L.h9 hr T.g9 T.F9.kp T.b9 tk (sa_cons (se_vb 0) (sa_cons se_int sa_nil)) (some 0)) se_int))).st (sss_one (ss_set (i := 10) nd (se_ixA (by exact hu5) (se_ixA (by exact hu5) (se_vb 1) se_str) (se_bin ol_div op_fdiv (se_call L.h9 hr T.g9 T.F9.kp T.b9 tk (sa_cons (se_vb 0) (sa_cons se_int sa_nil)) (some 0)) se_int)))) sss_nil) (sss_one (ss_app (i := 6) (se_tup (sa_cons (se_ixA (by exact hu5) (se_vb 5) (se_vb 7)) (sa_cons (se_callN L.h16 hr T.g16 T.F16.kp T.b16 tk (sa_cons (se_vb 0) (sa_cons (se_vb 1) (sa_cons (se_mv 9) (sa_cons (se_mv 10) (sa_cons (se_mv 3) sa_nil))))) [0, 1]) sa_nil)))))))))) (sss_cons (ss_set (i := 8) nd (se_call L.h9 hr T.g9 T.F9.kp T.b9 tk (sa_cons (se_vb 0) (sa_cons (se_mv 2) sa_nil)) (some 0))) (sss_cons (ss_set (i := 6) nd (se_bin ol_add op_addA (se_slice (se_vb 6) (.some (se_vb 8)) .non) (se_slice (se_vb 6) .non (.some (se_vb 8))))) (sss_cons (ss_if (st_cmp ol_eqB (op_eqB (by exact hu2)) (se_call L.h9 hr T.g9 T.F9.kp T.b9 tk (sa_cons (se_vb 0) (sa_cons se_int sa_nil)) (some 0)) se_int) (sss_one (ss_set (i := 6) nd (se_revA (se_vb 6)))) sss_nil) (sss_one (ss_end (ss_ret (se_tup (sa_cons (se_ixA (by exact hu5) (se_ixA (by exact hu5) (se_vb 1) se_str) se_int) (sa_cons (se_ct cl_tuple call_tupX T.m_tuple (sa_cons (se_vb 6) sa_nil)) sa_nil))))))))))))))))⟩
/-- _law_leaves -/
theorem e18 (k : Nat) : fs (k + 1) 18 = fnF 3 1 (m_law_leaves (fs k 18)) := rfl
theorem w18 {T : Top K.fr mg} {k : Nat} (hp : K.pt = false) (L : Lv P K mg base T k) : FnOk P K.w K.fr mg base (L2.CX P K.w) (k + 1) T.a18 T.d18 ["piece"] (spF K (cvK K.fr) 1 (fs (k + 1) 18)) := by
  rw [e18]
  refine fn_of' ["piece", "leaves", "kid"] rfl rfl T.F18 sc18 fun cdv A outer s H E hr tk po => ?_
  have nd := sc18.nd
  have hu := hr.units
  have hu2 : _ + 199 < cLine := Nat.lt_of_le_of_lt (Nat.add_le_add_left (by decide : 199 ≤ 200) _) (Nat.lt_of_le_of_lt (Nat.add_le_add_right (Nat.le_add_right _ _) _) hr.un)
  have hu5 : _ + 65 < cLine := Nat.lt_of_le_of_lt (Nat.add_le_add_left (by decide : 65 ≤ 200) _) (Nat.lt_of_le_of_lt (Nat.add_le_add_right (Nat.le_add_right _ _) _) hr.un)
  unfold m_law_leaves m_law_leaves_b1
  exact ⟨_, (sss_cons (ss_if (st_cmp ol_neB (op_neB (by exact hu2)) (se_ixA (by exact hu5) (se_vb 0) se_int) se_str) (sss_one (ss_end (ss_ret (se_lst (sa_cons (se_ixA (by exact hu5) (se_vb 0) se_int) sa_nil))))) sss_nil) (sss_cons (ss_set (i := 1) nd (se_lst sa_nil)) (sss_cons (ss_for po rfl (si_sq (se_ixA (by exact hu5) (se_vb 0) se_int)) (sg_name nd) (sss_kill (vs := [2]) (sss_one (ss_set (i := 1) nd (se_bin ol_add op_addA (se_vb 1) (se_call L.h18 hr T.g18 T.F18.kp T.b18 tk (sa_cons (se_mv 2) sa_nil) none)))))) (sss_one (ss_end (ss_ret (se_rv 1)))))))⟩
/-- _law_deep -/
theorem e19 (k : Nat) : fs (k + 1) 19 = fnF 6 2 (m_law_deep_2 (fs k 9)) := rfl
theorem w19 {T : Top K.fr mg} {k : Nat} (hp : K.pt = false) (L : Lv P K mg base T k) : FnOk P K.w K.fr mg base (L2.CX P K.w) (k + 1) T.a19 T.d19 ["box", "some"] (spF K (cvK K.fr) 2 (fs (k + 1) 19)) := by
  rw [e19]
  refine fn_of' ["box", "some", "tree", "k", "kids", "behind"] rfl rfl T.F19 sc19 fun cdv A outer s H E hr tk po => ?_
  have nd := sc19.nd
  have hu := hr.units
  have hu2 : _ + 199 < cLine := Nat.lt_of_le_of_lt (Nat.add_le_add_left (by decide : 199 ≤ 200) _) (Nat.lt_of_le_of_lt (Nat.add_le_add_right (Nat.le_add_right _ _) _) hr.un)
  have hu5 : _ + 65 < cLine := Nat.lt_of_le_of_lt (Nat.add_le_add_left (by decide : 65 ≤ 200) _) (Nat.lt_of_le_of_lt (Nat.add_le_add_right (Nat.le_add_right _ _) _) hr.un)
  unfold m_law_deep_2 m_law_deep_2_b1
  exact ⟨_, (sss_cons (ss_set (i := 2) nd (se_tup (sa_cons se_str (sa_cons (se_ixA (by exact hu5) (se_ixA (by exact hu5) (se_vb 1) se_str) se_int) sa_nil)))) (sss_cons (ss_for po rfl (si_r1 (se_bin ol_add op_addA se_int (se_call L.h9 hr T.g9 T.F9.kp T.b9 tk (sa_cons (se_vb 0) (sa_cons se_int sa_nil)) (some 0))) T.m_range) (sg_name nd) (sss_kill (vs := [3, 4, 5]) (sss_cons (ss_set (i := 4) nd (se_tup (sa_cons (se_mv 2) sa_nil))) (sss_cons (ss_if (sw_or (st_cmp ol_eqB (op_eqB (by exact hu2)) (se_vb 3) se_int) (sw_one (st_cmp ol_eqB (op_eqB (by exact hu2)) (se_call L.h9 hr T.g9 T.F9.kp T.b9 tk (sa_cons (se_vb 0) (sa_cons se_int sa_nil)) (some 0)) se_int))).st (sss_one (ss_set (i := 4) nd (se_tup (sa_cons (se_tup (sa_cons se_str (sa_cons (se_ixA (by exact hu5) (se_ixA (by exact hu5) (se_vb 1) se_str) (se_call L.h9 hr T.g9 T.F9.kp T.b9 tk (sa_cons (se_vb 0) (sa_cons se_int sa_nil)) (some 0))) sa_nil))) (sa_cons (se_mv 2) sa_nil))))) sss_nil) (sss_cons (ss_kill (vs := [5]) (ss_if (st_cmp ol_eqB (op_eqB (by exact hu2)) (se_call L.h9 hr T.g9 T.F9.kp T.b9 tk (sa_cons (se_vb 0) (sa_cons se_int sa_nil)) (some 0)) se_int) (sss_cons (ss_set (i := 5) nd (se_lst (sa_cons (se_tup (sa_cons se_str sa_nil)) (sa_cons (se_tup (sa_cons se_str (sa_cons (se_ixA (by exact hu5) (se_ixA (by exact hu5) (se_vb 1) se_str) se_int) sa_nil))) (sa_cons (se_tup (sa_cons se_str (sa_cons (se_ixA (by exact hu5) (se_ixA (by exact hu5) (se_vb 1) se_str) se_int) sa_nil))) sa_nil))))) (sss_one (ss_set (i := 4) nd (se_bin ol_add op_addA (se_vb 4) (se_tup (sa_cons (se_ixA (by exact hu5) (se_vb 5) (se_call L.h9 hr T.g9 T.F9.kp T.b9 tk (sa_cons (se_vb 0) (sa_cons se_int sa_nil)) (some 0))) sa_nil)))))) sss_nil)) (sss_one (ss_set (i := 2) nd (se_tup (sa_cons se_str (sa_cons (se_ixA (by exact hu5) (se_ixA (by exact hu5) (se_vb 1) se_str) se_int) (sa_cons se_non (sa_cons (se_mv 4) sa_nil)))))))))))) (sss_one (ss_end (ss_ret (se_rv 2))))))⟩
/-- law -/
theorem e20 (k : Nat) : fs (k + 1) 20 = fnF 17 1 (m_law_k87 (fs k 7) (fs k 18) (fs k 19) (fs k 9) (fs k 17) (fs k 10) (fs k 8)) := rfl
theorem w20 {T : Top K.fr mg} {k : Nat} (hp : K.pt = false) (L : Lv P K mg base T k) : FnOk P K.w K.fr mg base (L2.CX P K.w) (k + 1) T.a20 T.d20 ["script"] (spF K (cvK K.fr) 1 (fs (k + 1) 20)) := by
  rw [e20]
  refine fn_of' ["script", "box", "signs", "free", "some", "book", "rows", "due", "deep", "starts", "things", "thing", "told", "key", "tree", "row", "pair"] rfl rfl T.F20 sc20 fun cdv A outer s H E hr tk po => ?_
  have nd := sc20.nd
  have hu := hr.units
  have hu2 : _ + 199 < cLine := Nat.lt_of_le_of_lt (Nat.add_le_add_left (by decide : 199 ≤ 200) _) (Nat.lt_of_le_of_lt (Nat.add_le_add_right (Nat.le_add_right _ _) _) hr.un)
  have hu5 : _ + 65 < cLine := Nat.lt_of_le_of_lt (Nat.add_le_add_left (by decide : 65 ≤ 200) _) (Nat.lt_of_le_of_lt (Nat.add_le_add_right (Nat.le_add_right _ _) _) hr.un)
  unfold m_law_k87 m_law_k87_ce6 m_law_k87_ce5 m_law_k87_ct4 m_law_k87_ce3 m_law_k87_ct2 m_law_k87_b1
  exact ⟨_, (sss_cons (ss_set (i := 1) nd (se_call L.h8 hr T.g8 T.F8.kp T.b8 tk (sa_cons (se_mv 0) sa_nil) none)) (sss_cons (ss_set (i := 2) nd (se_call L.h10 hr T.g10 T.F10.kp T.b10 tk (sa_cons (se_vb 1) (sa_cons se_str (sa_cons se_str (sa_cons se_int sa_nil)))) (some 0))) (sss_cons (ss_set (i := 3) nd (se_ixA (by exact hu5) (se_lst (sa_cons se_int (sa_cons se_int (sa_cons se_int (sa_cons se_int sa_nil))))) (se_call L.h9 hr T.g9 T.F9.kp T.b9 tk (sa_cons (se_vb 1) (sa_cons se_int sa_nil)) (some 0)))) (sss_cons (ss_set (i := 4) nd (se_dct (sd_cons se_str (se_mv 2) (sd_cons se_str (se_mv 3) (sd_cons se_str se_bl (sd_cons se_str se_int sd_nil)))))) (sss_cons (ss_set (i := 5) nd (se_callN L.h17 hr T.g17 T.F17.kp T.b17 tk (sa_cons (se_vb 1) (sa_cons (se_vb 4) (sa_cons (se_bin ol_add op_addA se_int (se_call L.h9 hr T.g9 T.F9.kp T.b9 tk (sa_cons (se_vb 1) (sa_cons se_int sa_nil)) (some 0))) (sa_cons se_int sa_nil)))) [0, 1])) (sss_cons (ss_setLc (i := 6) (own := [(("key" : Str), 13), (("tree" : Str), 14)]) rfl nd (blkOk_by (N := ["script", "box", "signs", "free", "some", "book", "rows", "due", "deep", "starts", "things", "thing", "told", "key", "tree", "row", "pair"]) (sc := defScope s20) (by decide +kernel)) (si_sq (se_ixA (by exact hu5) (se_vb 5) se_int)) (fun _ _ _ _ _ => (sgw_tup rfl (sgws_cons (sgw_name nd) (sgws_cons (sgw_name nd) sgws_nil)))) (fun _ _ _ _ _ => sp_nil) (fun _ _ _ _ _ => (se_call L.h18 (by exact hr) T.g18 T.F18.kp T.b18 takes0 (sa_cons (se_mv 14) sa_nil) none)) (sw_true rfl rfl rfl (by decide +kernel))) (sss_cons (ss_set (i := 7) nd (se_cmp ol_eqB (op_eqB (by exact hu2)) (se_cb cl_len call_len T.m_len (sa_cons (se_comp (own := [(("row" : Str), 15)]) rfl nd (blkOk_by (N := ["script", "box", "signs", "free", "some", "book", "rows", "due", "deep", "starts", "things", "thing", "told", "key", "tree", "row", "pair"]) (sc := defScope s20) (by decide +kernel)) (si_sq (se_mv 6)) (fun _ _ _ _ _ => (sgw_name nd)) (fun _ _ _ _ _ => (sp_one (sw_and (st_cmp ol_inB (op_inB (by exact hu5)) se_str (se_vb 15)) (sw_one (st_cmp ol_neB (op_neB (by exact hu2)) (se_ixA (by exact hu5) (se_vb 15) (se_neg se_int)) se_str))).st)) (fun _ _ _ _ _ => (se_mv 15))) sa_nil)) se_int)) (sss_cons (ss_set (i := 8) nd (se_call L.h19 hr T.g19 T.F19.kp T.b19 tk (sa_cons (se_vb 1) (sa_cons (se_mv 4) sa_nil)) (some 0))) (sss_cons (ss_set (i := 9) nd (se_ct cl_tuple call_tupX T.m_tuple (sa_cons (se_comp (own := [(("pair" : Str), 16), (("row" : Str), 15)]) rfl nd (blkOk_by (N := ["script", "box", "signs", "free", "some", "book", "rows", "due", "deep", "starts", "things", "thing", "told", "key", "tree", "row", "pair"]) (sc := defScope s20) (by decide +kernel)) (si_zip (se_ixA (by exact hu5) (se_vb 5) se_int) (se_mv 6) T.m_zip) (fun _ _ _ _ _ => (sgw_tup rfl (sgws_cons (sgw_name nd) (sgws_cons (sgw_name nd) sgws_nil)))) (fun _ _ _ _ _ => (sp_one (st_cmp ol_notInB (op_notInB (by exact hu5)) se_str (se_vb 15)))) (fun _ _ _ _ _ => (se_mv 16))) sa_nil))) (sss_cons (ss_set (i := 10) nd (se_lst (sa_cons (se_tup (sa_cons (se_mv 5) (sa_cons (se_mv 7) sa_nil))) (sa_cons (se_tup (sa_cons (se_tup (sa_cons (se_ixA (by exact hu5) (se_vb 5) se_int) (sa_cons (se_revA (se_ixA (by exact hu5) (se_vb 5) se_int)) sa_nil))) (sa_cons (se_mv 7) sa_nil))) (sa_cons (se_tup (sa_cons (se_mv 5) (sa_cons (se_mv 7) sa_nil))) (sa_cons (se_tup (sa_cons (se_tup (sa_cons (se_ixA (by exact hu5) (se_vb 5) se_int) (sa_cons (se_mv 9) sa_nil))) (sa_cons se_bl sa_nil))) sa_nil)))))) (sss_cons (ss_app (i := 10) (se_tup (sa_cons (se_tup (sa_cons (se_ixA (by exact hu5) (se_vb 5) se_int) (sa_cons (se_bin ol_add op_addA (se_vb 9) (se_tup (sa_cons (se_tup (sa_cons se_str (sa_cons (se_mv 8) sa_nil))) sa_nil))) sa_nil))) (sa_cons (se_cmp ol_eqB (op_eqB (by exact hu2)) (se_ixA (by exact hu5) (se_call L.h18 hr T.g18 T.F18.kp T.b18 tk (sa_cons (se_mv 8) sa_nil) none) (se_neg se_int)) se_str) sa_nil)))) (sss_cons (ss_for po rfl (si_sq (se_mv 10)) (sg_tup rfl (sgs_cons (sg_name nd) (sgs_cons (sg_name nd) sgs_nil))) (sss_kill (vs := [7, 11, 12]) (sss_cons (ss_set (i := 12) nd (se_call L.h7 hr T.g7 T.F7.kp T.b7 tk (sa_cons (se_mv 11) sa_nil) none)) (sss_one (ss_if (sw_or (st_not (st_val (se_isi kit_bool T.m_isinstance T.m_bool (se_vb 12)))) (sw_one (st_cmp ol_neB (op_neB (by exact hu2)) (se_vb 12) (se_vb 7)))).st (sss_one (ss_end (ss_ret se_bl))) sss_nil))))) (sss_one (ss_end (ss_ret se_bl)))))))))))))))⟩
theorem xw_NoPlace {T : Top K.fr mg} : ∀ k, IniOk P K.w K.fr mg base k T.xI_NoPlace T.xd_NoPlace ["place"] (fs k 21)
  | 0 => .inl rfl
  | 1 => .inl rfl
  | k + 2 => .inr ⟨k + 1, rfl, fn_init1 T.xF_NoPlace sci_NoPlace fun cdv A outer s H E => pss_cons (ps_expr (pe_ginit T.gi T.xg_GraftError (pa_cons (pe_var (i := 0) rfl (.inl rfl)) (pa_cons pe_str pa_nil)))) (pss_one (ps_ost (pe_var (i := 0) rfl (.inl rfl)) (pe_var (i := 1) rfl (.inl rfl))))⟩
theorem lv (hp : K.pt = false) (T : Top K.fr mg) : ∀ k, Lv P K mg base T k
  | 0 => ⟨fn_zero rfl, fn_zero rfl, fn_zero rfl, fn_zero rfl, fn_zero rfl, fn_zero rfl, fn_zero rfl, fn_zero rfl, fn_zero rfl, fn_zero rfl, fn_zero rfl, fn_zero rfl, fn_zero rfl, fn_zero rfl, fn_zero rfl, fn_zero rfl, fn_zero rfl, fn_zero rfl, fn_zero rfl, fn_zero rfl, fn_zero rfl, xw_NoPlace 0⟩
  | k + 1 => have L := lv hp T k; ⟨w0 hp L, w1 hp L, w2 hp L, w3 hp L, w4 hp L, w5 hp L, w6 hp L, w7 hp L, w8 hp L, w9 hp L, w10 hp L, w11 hp L, w12 hp L, w13 hp L, w14 hp L, w15 hp L, w16 hp L, w17 hp L, w18 hp L, w19 hp L, w20 hp L, xw_NoPlace (k + 1)⟩
end
end Wk87
namespace Wk87
open PySem L2 GS GM
/-! ### the end -/
theorem top_mk {K : PySem.W.Frag} {h : Heap} {mg : Str → Option Value} {fa f0 f1 f2 f3 f4 f5 f6 f7 f8 f9 f10 f11 f12 f13 f14 f15 f16 f17 f18 f19 f20 : Addr} (X : K.In h) (G : h.Ns mainGlobals mg) (hfa : mg "law" = some (.ref fa))
    {od0 an0 od1 an1 od2 an2 od3 an3 od4 an4 od5 an5 od6 an6 od7 an7 od8 an8 od9 an9 od10 an10 od11 an11 od12 an12 od13 an13 od14 an14 od15 an15 od16 an16 od17 an17 od18 an18 od19 an19 od20 an20 : Option Addr} {sl0 sl1 sl2 sl3 sl4 sl5 sl6 sl7 sl8 sl9 sl10 sl11 sl12 sl13 sl14 sl15 sl16 sl17 sl18 sl19 sl20 : Array (Option Value)} {oc0 kV0 dc0 pm0 cd0 ct0 oc1 kV1 dc1 pm1 cd1 ct1 oc2 kV2 dc2 pm2 cd2 ct2 oc3 kV3 dc3 pm3 cd3 ct3 oc4 kV4 dc4 pm4 cd4 ct4 oc5 kV5 dc5 pm5 cd5 ct5 oc6 kV6 dc6 pm6 cd6 ct6 oc7 kV7 dc7 pm7 cd7 ct7 oc8 kV8 dc8 pm8 cd8 ct8 oc9 kV9 dc9 pm9 cd9 ct9 oc10 kV10 dc10 pm10 cd10 ct10 oc11 kV11 dc11 pm11 cd11 ct11 oc12 kV12 dc12 pm12 cd12 ct12 oc13 kV13 dc13 pm13 cd13 ct13 oc14 kV14 dc14 pm14 cd14 ct14 oc15 kV15 dc15 pm15 cd15 ct15 oc16 kV16 dc16 pm16 cd16 ct16 oc17 kV17 dc17 pm17 cd17 ct17 oc18 kV18 dc18 pm18 cd18 ct18 oc19 kV19 dc19 pm19 cd19 ct19 oc20 kV20 dc20 pm20 cd20 ct20 : Value}
    (a0 : PySem.W.nsIn K mainGlobals "kids_of" = some (some (.ref f0))) (l0 : K.lookup f0 = some ⟨oc0, od0, .func (PySem.W.fnOf "kids_of" "kids_of" (defArgs s0) (defBody s0) (defScope s0) .none kV0 dc0 pm0 an0 cd0 ct0), sl0⟩) (c0 : PySem.W.codeIn K cd0 "kids_of" = true) (k0 : PySem.W.keepIn K (.ref f0) = true)
    (a1 : PySem.W.nsIn K mainGlobals "places" = some (some (.ref f1))) (l1 : K.lookup f1 = some ⟨oc1, od1, .func (PySem.W.fnOf "places" "places" (defArgs s1) (defBody s1) (defScope s1) .none kV1 dc1 pm1 an1 cd1 ct1), sl1⟩) (c1 : PySem.W.codeIn K cd1 "places" = true) (k1 : PySem.W.keepIn K (.ref f1) = true)
    (a2 : PySem.W.nsIn K mainGlobals "piece_at" = some (some (.ref f2))) (l2 : K.lookup f2 = some ⟨oc2, od2, .func (PySem.W.fnOf "piece_at" "piece_at" (defArgs s2) (defBody s2) (defScope s2) .none kV2 dc2 pm2 an2 cd2 ct2), sl2⟩) (c2 : PySem.W.codeIn K cd2 "piece_at" = true) (k2 : PySem.W.keepIn K (.ref f2) = true)
    (a3 : PySem.W.nsIn K mainGlobals "feet_of" = some (some (.ref f3))) (l3 : K.lookup f3 = some ⟨oc3, od3, .func (PySem.W.fnOf "feet_of" "feet_of" (defArgs s3) (defBody s3) (defScope s3) .none kV3 dc3 pm3 an3 cd3 ct3), sl3⟩) (c3 : PySem.W.codeIn K cd3 "feet_of" = true) (k3 : PySem.W.keepIn K (.ref f3) = true)
    (a4 : PySem.W.nsIn K mainGlobals "is_graft" = some (some (.ref f4))) (l4 : K.lookup f4 = some ⟨oc4, od4, .func (PySem.W.fnOf "is_graft" "is_graft" (defArgs s4) (defBody s4) (defScope s4) .none kV4 dc4 pm4 an4 cd4 ct4), sl4⟩) (c4 : PySem.W.codeIn K cd4 "is_graft" = true) (k4 : PySem.W.keepIn K (.ref f4) = true)
    (a5 : PySem.W.nsIn K mainGlobals "leaves_of" = some (some (.ref f5))) (l5 : K.lookup f5 = some ⟨oc5, od5, .func (PySem.W.fnOf "leaves_of" "leaves_of" (defArgs s5) (defBody s5) (defScope s5) .none kV5 dc5 pm5 an5 cd5 ct5), sl5⟩) (c5 : PySem.W.codeIn K cd5 "leaves_of" = true) (k5 : PySem.W.keepIn K (.ref f5) = true)
    (a6 : PySem.W.nsIn K mainGlobals "first_amid" = some (some (.ref f6))) (l6 : K.lookup f6 = some ⟨oc6, od6, .func (PySem.W.fnOf "first_amid" "first_amid" (defArgs s6) (defBody s6) (defScope s6) .none kV6 dc6 pm6 an6 cd6 ct6), sl6⟩) (c6 : PySem.W.codeIn K cd6 "first_amid" = true) (k6 : PySem.W.keepIn K (.ref f6) = true)
    (a7 : PySem.W.nsIn K mainGlobals "one_sided" = some (some (.ref f7))) (l7 : K.lookup f7 = some ⟨oc7, od7, .func (PySem.W.fnOf "one_sided" "one_sided" (defArgs s7) (defBody s7) (defScope s7) .none kV7 dc7 pm7 an7 cd7 ct7), sl7⟩) (c7 : PySem.W.codeIn K cd7 "one_sided" = true) (k7 : PySem.W.keepIn K (.ref f7) = true)
    (a8 : PySem.W.nsIn K mainGlobals "_law_box" = some (some (.ref f8))) (l8 : K.lookup f8 = some ⟨oc8, od8, .func (PySem.W.fnOf "_law_box" "_law_box" (defArgs s8) (defBody s8) (defScope s8) .none kV8 dc8 pm8 an8 cd8 ct8), sl8⟩) (c8 : PySem.W.codeIn K cd8 "_law_box" = true) (k8 : PySem.W.keepIn K (.ref f8) = true)
    (a9 : PySem.W.nsIn K mainGlobals "_law_pick" = some (some (.ref f9))) (l9 : K.lookup f9 = some ⟨oc9, od9, .func (PySem.W.fnOf "_law_pick" "_law_pick" (defArgs s9) (defBody s9) (defScope s9) .none kV9 dc9 pm9 an9 cd9 ct9), sl9⟩) (c9 : PySem.W.codeIn K cd9 "_law_pick" = true) (k9 : PySem.W.keepIn K (.ref f9) = true)
    (a10 : PySem.W.nsIn K mainGlobals "_law_words" = some (some (.ref f10))) (l10 : K.lookup f10 = some ⟨oc10, od10, .func (PySem.W.fnOf "_law_words" "_law_words" (defArgs s10) (defBody s10) (defScope s10) .none kV10 dc10 pm10 an10 cd10 ct10), sl10⟩) (c10 : PySem.W.codeIn K cd10 "_law_words" = true) (k10 : PySem.W.keepIn K (.ref f10) = true)
    (a11 : PySem.W.nsIn K mainGlobals "_law_socket" = some (some (.ref f11))) (l11 : K.lookup f11 = some ⟨oc11, od11, .func (PySem.W.fnOf "_law_socket" "_law_socket" (defArgs s11) (defBody s11) (defScope s11) .none kV11 dc11 pm11 an11 cd11 ct11), sl11⟩) (c11 : PySem.W.codeIn K cd11 "_law_socket" = true) (k11 : PySem.W.keepIn K (.ref f11) = true)
    (a12 : PySem.W.nsIn K mainGlobals "_law_leaf" = some (some (.ref f12))) (l12 : K.lookup f12 = some ⟨oc12, od12, .func (PySem.W.fnOf "_law_leaf" "_law_leaf" (defArgs s12) (defBody s12) (defScope s12) .none kV12 dc12 pm12 an12 cd12 ct12), sl12⟩) (c12 : PySem.W.codeIn K cd12 "_law_leaf" = true) (k12 : PySem.W.keepIn K (.ref f12) = true)
    (a13 : PySem.W.nsIn K mainGlobals "_law_worn" = some (some (.ref f13))) (l13 : K.lookup f13 = some ⟨oc13, od13, .func (PySem.W.fnOf "_law_worn" "_law_worn" (defArgs s13) (defBody s13) (defScope s13) .none kV13 dc13 pm13 an13 cd13 ct13), sl13⟩) (c13 : PySem.W.codeIn K cd13 "_law_worn" = true) (k13 : PySem.W.keepIn K (.ref f13) = true)
    (a14 : PySem.W.nsIn K mainGlobals "_law_knot" = some (some (.ref f14))) (l14 : K.lookup f14 = some ⟨oc14, od14, .func (PySem.W.fnOf "_law_knot" "_law_knot" (defArgs s14) (defBody s14) (defScope s14) .none kV14 dc14 pm14 an14 cd14 ct14), sl14⟩) (c14 : PySem.W.codeIn K cd14 "_law_knot" = true) (k14 : PySem.W.keepIn K (.ref f14) = true)
    (a15 : PySem.W.nsIn K mainGlobals "_law_signs" = some (some (.ref f15))) (l15 : K.lookup f15 = some ⟨oc15, od15, .func (PySem.W.fnOf "_law_signs" "_law_signs" (defArgs s15) (defBody s15) (defScope s15) .none kV15 dc15 pm15 an15 cd15 ct15), sl15⟩) (c15 : PySem.W.codeIn K cd15 "_law_signs" = true) (k15 : PySem.W.keepIn K (.ref f15) = true)
    (a16 : PySem.W.nsIn K mainGlobals "_law_tree" = some (some (.ref f16))) (l16 : K.lookup f16 = some ⟨oc16, od16, .func (PySem.W.fnOf "_law_tree" "_law_tree" (defArgs s16) (defBody s16) (defScope s16) .none kV16 dc16 pm16 an16 cd16 ct16), sl16⟩) (c16 : PySem.W.codeIn K cd16 "_law_tree" = true) (k16 : PySem.W.keepIn K (.ref f16) = true)
    (a17 : PySem.W.nsIn K mainGlobals "_law_book" = some (some (.ref f17))) (l17 : K.lookup f17 = some ⟨oc17, od17, .func (PySem.W.fnOf "_law_book" "_law_book" (defArgs s17) (defBody s17) (defScope s17) .none kV17 dc17 pm17 an17 cd17 ct17), sl17⟩) (c17 : PySem.W.codeIn K cd17 "_law_book" = true) (k17 : PySem.W.keepIn K (.ref f17) = true)
    (a18 : PySem.W.nsIn K mainGlobals "_law_leaves" = some (some (.ref f18))) (l18 : K.lookup f18 = some ⟨oc18, od18, .func (PySem.W.fnOf "_law_leaves" "_law_leaves" (defArgs s18) (defBody s18) (defScope s18) .none kV18 dc18 pm18 an18 cd18 ct18), sl18⟩) (c18 : PySem.W.codeIn K cd18 "_law_leaves" = true) (k18 : PySem.W.keepIn K (.ref f18) = true)
    (a19 : PySem.W.nsIn K mainGlobals "_law_deep" = some (some (.ref f19))) (l19 : K.lookup f19 = some ⟨oc19, od19, .func (PySem.W.fnOf "_law_deep" "_law_deep" (defArgs s19) (defBody s19) (defScope s19) .none kV19 dc19 pm19 an19 cd19 ct19), sl19⟩) (c19 : PySem.W.codeIn K cd19 "_law_deep" = true) (k19 : PySem.W.keepIn K (.ref f19) = true)
    (a20 : PySem.W.nsIn K mainGlobals "law" = some (some (.ref f20))) (l20 : K.lookup f20 = some ⟨oc20, od20, .func (PySem.W.fnOf "law" "law" (defArgs s20) (defBody s20) (defScope s20) .none kV20 dc20 pm20 an20 cd20 ct20), sl20⟩) (c20 : PySem.W.codeIn K cd20 "law" = true) (k20 : PySem.W.keepIn K (.ref f20) = true)
    (z_enumerate : PySem.W.nsIn K mainGlobals "enumerate" = some none)
    (z_len : PySem.W.nsIn K mainGlobals "len" = some none)
    (z_range : PySem.W.nsIn K mainGlobals "range" = some none)
    (z_tuple : PySem.W.nsIn K mainGlobals "tuple" = some none)
    (z_list : PySem.W.nsIn K mainGlobals "list" = some none)
    (z_isinstance : PySem.W.nsIn K mainGlobals "isinstance" = some none)
    (z_bool : PySem.W.nsIn K mainGlobals "bool" = some none)
    (z_zip : PySem.W.nsIn K mainGlobals "zip" = some none)
    {fx_GraftError : Addr} (xa_GraftError : PySem.W.nsIn K mainGlobals "GraftError" = some (some (.ref fx_GraftError)))
    {fx_NoPlace : Addr} (xa_NoPlace : PySem.W.nsIn K mainGlobals "NoPlace" = some (some (.ref fx_NoPlace)))
    (gi : giB K fx_GraftError = true)
    {fi_NoPlace : Addr} {xod_NoPlace xan_NoPlace : Option Addr} {xsl_NoPlace : Array (Option Value)} {xoc_NoPlace xkV_NoPlace xdc_NoPlace xpm_NoPlace xcd_NoPlace xct_NoPlace : Value}
    (xi_NoPlace : PySem.W.findIn K (.ref fx_NoPlace) "__init__" = some (some (.ref fi_NoPlace))) (xl_NoPlace : K.lookup fi_NoPlace = some ⟨xoc_NoPlace, xod_NoPlace, .func (PySem.W.fnOf "__init__" "NoPlace.__init__" (defArgs si_NoPlace) (defBody si_NoPlace) (defScope si_NoPlace) .none xkV_NoPlace xdc_NoPlace xpm_NoPlace xan_NoPlace xcd_NoPlace xct_NoPlace), xsl_NoPlace⟩) (xc_NoPlace : PySem.W.codeIn K xcd_NoPlace "NoPlace.__init__" = true) (xk_NoPlace : PySem.W.keepIn K (.ref fi_NoPlace) = true)
    {xn_NoPlace xq_NoPlace : Str} {xN_NoPlace : Addr} {xbs_NoPlace xbm_NoPlace : List Value} {xsn_NoPlace : List Str} {xsu_NoPlace : List Value} {xab_NoPlace : Bool} {xco_NoPlace : Option Bool} {xdd_NoPlace : Option Addr} {x0_NoPlace x1_NoPlace x2_NoPlace x3_NoPlace x5_NoPlace : Option Value}
    (xe_NoPlace : K.lookup fx_NoPlace = some (excClassObj xn_NoPlace xq_NoPlace fx_NoPlace xN_NoPlace xbs_NoPlace xbm_NoPlace true xsn_NoPlace xsu_NoPlace xab_NoPlace xco_NoPlace xdd_NoPlace x0_NoPlace x1_NoPlace x2_NoPlace x3_NoPlace x5_NoPlace "ValueError.__new__")) (xr_NoPlace : PySem.HandSPX.refsVE xbm_NoPlace = true) (xo_NoPlace : oeB K fx_NoPlace fi_NoPlace ["place"] = true) (xv_NoPlace : cvK K "NoPlace" = .ref fx_NoPlace)
    : ∃ T : Top K mg, T.a20 = fa ∧ ∀ (s : Shared) (v : Value), BindsTo s T.d20 ⟨[v], []⟩ [("script", v)] := by
  have e := hfa.symm.trans (PySem.W.mg_of X G a20)
  have e' : f20 = fa := by cases e; rfl
  have F0 := fun_mk (st := s0) l0 c0 k0
  have b0 := F0.binds (ps := ["tree"]) fun _ _ _ _ _ _ us hl => match us, hl with | [_], _ => rfl
  have F1 := fun_mk (st := s1) l1 c1 k1
  have b1 := F1.binds (ps := ["tree"]) fun _ _ _ _ _ _ us hl => match us, hl with | [_], _ => rfl
  have F2 := fun_mk (st := s2) l2 c2 k2
  have b2 := F2.binds (ps := ["tree", "place"]) fun _ _ _ _ _ _ us hl => match us, hl with | [_, _], _ => rfl
  have F3 := fun_mk (st := s3) l3 c3 k3
  have b3 := F3.binds (ps := ["tree"]) fun _ _ _ _ _ _ us hl => match us, hl with | [_], _ => rfl
  have F4 := fun_mk (st := s4) l4 c4 k4
  have b4 := F4.binds (ps := ["tree"]) fun _ _ _ _ _ _ us hl => match us, hl with | [_], _ => rfl
  have F5 := fun_mk (st := s5) l5 c5 k5
  have b5 := F5.binds (ps := ["tree"]) fun _ _ _ _ _ _ us hl => match us, hl with | [_], _ => rfl
  have F6 := fun_mk (st := s6) l6 c6 k6
  have b6 := F6.binds (ps := ["book"]) fun _ _ _ _ _ _ us hl => match us, hl with | [_], _ => rfl
  have F7 := fun_mk (st := s7) l7 c7 k7
  have b7 := F7.binds (ps := ["book"]) fun _ _ _ _ _ _ us hl => match us, hl with | [_], _ => rfl
  have F8 := fun_mk (st := s8) l8 c8 k8
  have b8 := F8.binds (ps := ["script"]) fun _ _ _ _ _ _ us hl => match us, hl with | [_], _ => rfl
  have F9 := fun_mk (st := s9) l9 c9 k9
  have b9 := F9.binds (ps := ["box", "count"]) fun _ _ _ _ _ _ us hl => match us, hl with | [_, _], _ => rfl
  have F10 := fun_mk (st := s10) l10 c10 k10
  have b10 := F10.binds (ps := ["box", "heads", "tail", "count"]) fun _ _ _ _ _ _ us hl => match us, hl with | [_, _, _, _], _ => rfl
  have F11 := fun_mk (st := s11) l11 c11 k11
  have b11 := F11.binds (ps := ["some"]) fun _ _ _ _ _ _ us hl => match us, hl with | [_], _ => rfl
  have F12 := fun_mk (st := s12) l12 c12 k12
  have b12 := F12.binds (ps := ["box", "some"]) fun _ _ _ _ _ _ us hl => match us, hl with | [_, _], _ => rfl
  have F13 := fun_mk (st := s13) l13 c13 k13
  have b13 := F13.binds (ps := ["box", "some"]) fun _ _ _ _ _ _ us hl => match us, hl with | [_, _], _ => rfl
  have F14 := fun_mk (st := s14) l14 c14 k14
  have b14 := F14.binds (ps := ["box", "some", "name", "deep", "foot"]) fun _ _ _ _ _ _ us hl => match us, hl with | [_, _, _, _, _], _ => rfl
  have F15 := fun_mk (st := s15) l15 c15 k15
  have b15 := F15.binds (ps := ["piece"]) fun _ _ _ _ _ _ us hl => match us, hl with | [_], _ => rfl
  have F16 := fun_mk (st := s16) l16 c16 k16
  have b16 := F16.binds (ps := ["box", "some", "name", "foot", "room"]) fun _ _ _ _ _ _ us hl => match us, hl with | [_, _, _, _, _], _ => rfl
  have F17 := fun_mk (st := s17) l17 c17 k17
  have b17 := F17.binds (ps := ["box", "some", "count", "room"]) fun _ _ _ _ _ _ us hl => match us, hl with | [_, _, _, _], _ => rfl
  have F18 := fun_mk (st := s18) l18 c18 k18
  have b18 := F18.binds (ps := ["piece"]) fun _ _ _ _ _ _ us hl => match us, hl with | [_], _ => rfl
  have F19 := fun_mk (st := s19) l19 c19 k19
  have b19 := F19.binds (ps := ["box", "some"]) fun _ _ _ _ _ _ us hl => match us, hl with | [_, _], _ => rfl
  have F20 := fun_mk (st := s20) l20 c20 k20
  have b20 := F20.binds (ps := ["script"]) fun _ _ _ _ _ _ us hl => match us, hl with | [_], _ => rfl
  have xF_NoPlace := fun_mk (st := si_NoPlace) xl_NoPlace xc_NoPlace xk_NoPlace
  have xb_NoPlace := xF_NoPlace.binds (ps := ["self", "place"]) fun _ _ _ _ _ _ us hl => match us, hl with | [_, _], _ => rfl
  obtain ⟨xs1_NoPlace, xs2_NoPlace, xs3_NoPlace, xs4_NoPlace, _⟩ := oeB_ok xo_NoPlace
  exact ⟨{ a0 := f0, d0 := _, F0 := F0, b0 := b0, g0 := PySem.W.mg_of X G a0, a1 := f1, d1 := _, F1 := F1, b1 := b1, g1 := PySem.W.mg_of X G a1, a2 := f2, d2 := _, F2 := F2, b2 := b2, g2 := PySem.W.mg_of X G a2, a3 := f3, d3 := _, F3 := F3, b3 := b3, g3 := PySem.W.mg_of X G a3, a4 := f4, d4 := _, F4 := F4, b4 := b4, g4 := PySem.W.mg_of X G a4, a5 := f5, d5 := _, F5 := F5, b5 := b5, g5 := PySem.W.mg_of X G a5, a6 := f6, d6 := _, F6 := F6, b6 := b6, g6 := PySem.W.mg_of X G a6, a7 := f7, d7 := _, F7 := F7, b7 := b7, g7 := PySem.W.mg_of X G a7, a8 := f8, d8 := _, F8 := F8, b8 := b8, g8 := PySem.W.mg_of X G a8, a9 := f9, d9 := _, F9 := F9, b9 := b9, g9 := PySem.W.mg_of X G a9, a10 := f10, d10 := _, F10 := F10, b10 := b10, g10 := PySem.W.mg_of X G a10, a11 := f11, d11 := _, F11 := F11, b11 := b11, g11 := PySem.W.mg_of X G a11, a12 := f12, d12 := _, F12 := F12, b12 := b12, g12 := PySem.W.mg_of X G a12, a13 := f13, d13 := _, F13 := F13, b13 := b13, g13 := PySem.W.mg_of X G a13, a14 := f14, d14 := _, F14 := F14, b14 := b14, g14 := PySem.W.mg_of X G a14, a15 := f15, d15 := _, F15 := F15, b15 := b15, g15 := PySem.W.mg_of X G a15, a16 := f16, d16 := _, F16 := F16, b16 := b16, g16 := PySem.W.mg_of X G a16, a17 := f17, d17 := _, F17 := F17, b17 := b17, g17 := PySem.W.mg_of X G a17, a18 := f18, d18 := _, F18 := F18, b18 := b18, g18 := PySem.W.mg_of X G a18, a19 := f19, d19 := _, F19 := F19, b19 := b19, g19 := PySem.W.mg_of X G a19, a20 := f20, d20 := _, F20 := F20, b20 := b20, g20 := PySem.W.mg_of X G a20, m_enumerate := PySem.W.mg_none_of X G z_enumerate, m_len := PySem.W.mg_none_of X G z_len, m_range := PySem.W.mg_none_of X G z_range, m_tuple := PySem.W.mg_none_of X G z_tuple, m_list := PySem.W.mg_none_of X G z_list, m_isinstance := PySem.W.mg_none_of X G z_isinstance, m_bool := PySem.W.mg_none_of X G z_bool, m_zip := PySem.W.mg_none_of X G z_zip, xA_GraftError := fx_GraftError, xg_GraftError := PySem.W.mg_of X G xa_GraftError, xA_NoPlace := fx_NoPlace, xg_NoPlace := PySem.W.mg_of X G xa_NoPlace, gi := gi, xI_NoPlace := fi_NoPlace, xd_NoPlace := _, xF_NoPlace := xF_NoPlace, xb_NoPlace := xb_NoPlace, xo_NoPlace := xo_NoPlace, xv_NoPlace := xv_NoPlace, xT_NoPlace := ⟨⟨_, _, _, _, _, _, _, _, _, _, _, _, _, _, _, xe_NoPlace, xr_NoPlace⟩, xs1_NoPlace, xs2_NoPlace, xs3_NoPlace, xs4_NoPlace⟩ }, e', fun s v => .of_eq rfl⟩
end Wk87
open PySem PySem.W PyProof.Rows
set_option maxRecDepth 100000 in
set_option maxHeartbeats 0 in
theorem PySem.Challenge.cw_graftsay_k87_one_side_holds : PySem.Challenge.rw_graftsay_k87_one_side.Holds := by
  w_on; o_law; k_head; (case hw => w_witness2)
  k_fill
  refine L2.walk_of (l := PySem.Challenge.rw_graftsay_k87_one_side) (n := 63) (k := 200) (x := "script") (CX := fun w => L2.CX PySem.Challenge.rw_graftsay_k87_one_side.prog w) (sp := fun w => GS.spFv { fr := _, w := w } 1 (Wk87.fs 200 20)) rfl (by decide) rfl ⟨rfl, by decide, by decide⟩ (fun w h Y => PySem.W.kIn_of Y) ?F (fun _ _ a ns hl _ hS => (Wk87.law_true ns hl).elim fun outs e => GS.law_sp hS e) (fun _ _ _ _ _ h => by obtain ⟨_, _, _, _, _, _, _, _, _, _, _, _, z⟩ := h; exact z)
  case F =>
    intro w mg fa h KX G hmg
    refine' (Wk87.top_mk KX G hmg ?a0 ?l0 ?c0 ?k0 ?a1 ?l1 ?c1 ?k1 ?a2 ?l2 ?c2 ?k2 ?a3 ?l3 ?c3 ?k3 ?a4 ?l4 ?c4 ?k4 ?a5 ?l5 ?c5 ?k5 ?a6 ?l6 ?c6 ?k6 ?a7 ?l7 ?c7 ?k7 ?a8 ?l8 ?c8 ?k8 ?a9 ?l9 ?c9 ?k9 ?a10 ?l10 ?c10 ?k10 ?a11 ?l11 ?c11 ?k11 ?a12 ?l12 ?c12 ?k12 ?a13 ?l13 ?c13 ?k13 ?a14 ?l14 ?c14 ?k14 ?a15 ?l15 ?c15 ?k15 ?a16 ?l16 ?c16 ?k16 ?a17 ?l17 ?c17 ?k17 ?a18 ?l18 ?c18 ?k18 ?a19 ?l19 ?c19 ?k19 ?a20 ?l20 ?c20 ?k20 ?z_enumerate ?z_len ?z_range ?z_tuple ?z_list ?z_isinstance ?z_bool ?z_zip ?xa_GraftError ?xa_NoPlace ?gi ?xi_NoPlace ?xl_NoPlace ?xc_NoPlace ?xk_NoPlace ?xe_NoPlace ?xr_NoPlace ?xo_NoPlace ?xv_NoPlace).elim fun T R => ?fin
    (case a0 => k_is)
    (case l0 => k_is)
    (case c0 => k_is)
    (case k0 => k_is)
    (case a1 => k_is)
    (case l1 => k_is)
    (case c1 => k_is)
    (case k1 => k_is)
    (case a2 => k_is)
    (case l2 => k_is)
    (case c2 => k_is)
    (case k2 => k_is)
    (case a3 => k_is)
    (case l3 => k_is)
    (case c3 => k_is)
    (case k3 => k_is)
    (case a4 => k_is)
    (case l4 => k_is)
    (case c4 => k_is)
    (case k4 => k_is)
    (case a5 => k_is)
    (case l5 => k_is)
    (case c5 => k_is)
    (case k5 => k_is)
    (case a6 => k_is)
    (case l6 => k_is)
    (case c6 => k_is)
    (case k6 => k_is)
    (case a7 => k_is)
    (case l7 => k_is)
    (case c7 => k_is)
    (case k7 => k_is)
    (case a8 => k_is)
    (case l8 => k_is)
    (case c8 => k_is)
    (case k8 => k_is)
    (case a9 => k_is)
    (case l9 => k_is)
    (case c9 => k_is)
    (case k9 => k_is)
    (case a10 => k_is)
    (case l10 => k_is)
    (case c10 => k_is)
    (case k10 => k_is)
    (case a11 => k_is)
    (case l11 => k_is)
    (case c11 => k_is)
    (case k11 => k_is)
    (case a12 => k_is)
    (case l12 => k_is)
    (case c12 => k_is)
    (case k12 => k_is)
    (case a13 => k_is)
    (case l13 => k_is)
    (case c13 => k_is)
    (case k13 => k_is)
    (case a14 => k_is)
    (case l14 => k_is)
    (case c14 => k_is)
    (case k14 => k_is)
    (case a15 => k_is)
    (case l15 => k_is)
    (case c15 => k_is)
    (case k15 => k_is)
    (case a16 => k_is)
    (case l16 => k_is)
    (case c16 => k_is)
    (case k16 => k_is)
    (case a17 => k_is)
    (case l17 => k_is)
    (case c17 => k_is)
    (case k17 => k_is)
    (case a18 => k_is)
    (case l18 => k_is)
    (case c18 => k_is)
    (case k18 => k_is)
    (case a19 => k_is)
    (case l19 => k_is)
    (case c19 => k_is)
    (case k19 => k_is)
    (case a20 => k_is)
    (case l20 => k_is)
    (case c20 => k_is)
    (case k20 => k_is)
    (case z_enumerate => k_is)
    (case z_len => k_is)
    (case z_range => k_is)
    (case z_tuple => k_is)
    (case z_list => k_is)
    (case z_isinstance => k_is)
    (case z_bool => k_is)
    (case z_zip => k_is)
    (case xa_GraftError => k_is)
    (case xa_NoPlace => k_is)
    (case gi => kernel_rfl)
    (case xi_NoPlace => k_is)
    (case xl_NoPlace => k_is)
    (case xc_NoPlace => k_is)
    (case xk_NoPlace => k_is)
    (case xe_NoPlace => k_is)
    (case xr_NoPlace => kernel_rfl)
    (case xo_NoPlace => kernel_rfl)
    (case xv_NoPlace => kernel_rfl)
    case fin =>
      obtain ⟨e, hb⟩ := R
      subst e
      exact ⟨T.d20, hb, fun base _ _ => (Wk87.lv (P := PySem.Challenge.rw_graftsay_k87_one_side.prog) (K := { fr := _, w := w }) (base := base) rfl T 200).h20⟩
