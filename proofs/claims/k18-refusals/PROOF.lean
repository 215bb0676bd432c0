import PyProof.Rows.All
import Wide.All
import OpenK.AllK
import Wide.FinOn
import OpenK.AllK
import HandS.ForMost
import HandS.Exc
import HandS.ExcOwn
import HandS.WordsExc
import HandS.Deep
import HandS.TupAny
import HandS.Conv
import HandS.IsInst
import HandS.Flow
import HandS.Style
import HandS.Walk
import HandS.ExcInit
import HandS.ExcField
import HandS.ExcValue
import KE.KExcIs
import HandS.TupMul
import KE.GoesMore
import HandS.More
import HandS.SetKeys
import HandS.Strs
import HandS.TryOnly
import HandS.RaiseMore
import PySem.Challenge.RW_graftsay_k18_refusals_apart
set_option Elab.async false
set_option linter.all false
set_option maxRecDepth 100000
set_option maxHeartbeats 4000000
namespace GS
open PySem L2
abbrev D := PyData
/-- how a slot holds its datum: shared (never changed any more), owned (the slot's own list or dict), lent by the caller -/
inductive Fl where | sh | ow | io
  deriving DecidableEq
structure Cel where
  d : D
  fl : Fl
abbrev Rho := List (Option Cel)
/-- what an expression gives: a shared datum, a new list or dict that nobody else holds, what stands in a slot -/
inductive Hd where | sh (d : D) | fr (d : D) | bw (i : Nat)
/-- an exception: its class's name, its fields -/
structure Xc where
  cls : Str
  fs : List (Str × D)
inductive RE where | stuck | ok (h : Hd) (ρ : Rho) | exc (x : Xc) (ρ : Rho)
inductive RS where | stuck | nx (ρ : Rho) | rt (h : Hd) (ρ : Rho) | bk (ρ : Rho) | ct (ρ : Rho) | exc (x : Xc) (ρ : Rho)
abbrev EF := Rho → RE
abbrev SF := Rho → RS
def kD : Key → D
  | .inl i => .int i
  | .inr x => .str x
/-- the class of that name in the written part -/
def cvK (K : PySem.W.Frag) (c : Str) : Value := match K.find? (fun p => match p.2.data with | .cls cd => cd.name == c | _ => false) with
  | some p => .ref p.1
  | none => .none
/-- an exception object -/
def exV (a : Addr) (cls : Value) (d : Option Addr) : HO := .ext fun h => ∃ (oe : Obj) (vs : Array Value), h.get? a = some oe ∧ Zc cls d oe ∧ oe.data = .fields vs
/-- what the written part says of an own exception class -/
def xcB (K : PySem.W.Frag) (cls : Value) : Bool := match cls with
  | .ref D => (PySem.W.clsIn K D).isSome && (decide (PySem.W.findIn K (.ref D) "__getattribute__" = some (some (.builtin "BaseException.__getattribute__"))) && (decide (PySem.W.findIn K (.ref D) "__getattr__" = some none) && (decide (PySem.W.subIn K (.ref D) (.type "BaseException") = some true) &&
      (PySem.W.hasDictIn K D && (decide (PySem.W.findIn K (.ref D) "__class__" = some (some (.builtin "object.__class__"))) && (decide (PySem.W.specialIn K (.builtin "object.__class__") "__get__" = some (some (.builtin "getset_descriptor.__get__"))) &&
      (decide (PySem.W.takesIn K (.builtin "object.__class__") = some true) && (decide (PySem.W.mroIn K D (.type "object") = some true) && ["tuple", "str", "bool", "int", "list", "dict"].all fun T => decide (PySem.W.kitOne K (.ref D) (.type T) = some false)))))))))
  | _ => false
/-- an exception as a datum: its class's name, its fields' names, what they hold -/
abbrev xnD (c : Str) (ns : List Str) (ds : List D) : D := .dict [(.none, .tuple (.str c :: .tuple (ns.map PyData.str) :: ds))]
def xnB : List (D × D) → Bool
  | (.none, _) :: _ => true
  | _ => false
/-- an exception's dict -/
def XdB (B : Hp) (d : Option Addr) (fs : List (Str × V)) : Prop := (d = none ∧ fs = []) ∨ ∃ dd, d = some dd ∧ B dd = some (.xd fs)
mutual
inductive Rp (K : PySem.W.Frag) (B : Hp) : V → D → Prop
  | non : Rp K B .non .none
  | bl (b : Bool) : Rp K B (.bl b) (.bool b)
  | int (i : Int) : Rp K B (.int i) (.int i)
  | str (x : Str) : Rp K B (.str x) (.str x)
  | lst {a : Addr} {xs : List V} {ds : List D} : SqL K B a xs → RpL K B xs ds → Rp K B (.ref a) (.list ds)
  | tup {a : Addr} {xs : List V} {ds : List D} : SqT K B a xs → RpL K B xs ds → Rp K B (.ref a) (.tuple ds)
  | dct {a : Addr} {kvs : List (Key × V)} {ps : List (D × D)} : B a = some (.dK kvs) → RpK K B kvs ps → Rp K B (.ref a) (.dict ps)
  | exn {a : Addr} {c : Str} {d : Option Addr} {fs : List (Str × V)} {ds : List D} : B a = some (exV a (cvK K c) d) → xcB K (cvK K c) = true → XdB B d fs → RpL K B (fs.map (·.2)) ds → Rp K B (.ref a) (xnD c (fs.map (·.1)) ds)
inductive RpL (K : PySem.W.Frag) (B : Hp) : List V → List D → Prop
  | nil : RpL K B [] []
  | cons {v : V} {vs : List V} {d : D} {ds : List D} : Rp K B v d → RpL K B vs ds → RpL K B (v :: vs) (d :: ds)
inductive RpK (K : PySem.W.Frag) (B : Hp) : List (Key × V) → List (D × D) → Prop
  | nil : RpK K B [] []
  | cons {k : Key} {v : V} {kvs : List (Key × V)} {d : D} {ps : List (D × D)} : Rp K B v d → RpK K B kvs ps → RpK K B ((k, v) :: kvs) ((kD k, d) :: ps)
end
theorem same_rd {H H' : Hp} {a : Addr} {u : HO} (e : Same H H') (h : Rd H a u) : Rd H' a u := by
  rcases h with h | ⟨o, h⟩
  · exact .inl (e _ _ h)
  · exact .inr ⟨o, e _ _ h⟩
theorem same_l {K : PySem.W.Frag} {H H' : Hp} {a : Addr} {xs : List V} (e : Same H H') (h : SqL K H a xs) : SqL K H' a xs := h.elim (fun h => .inl (same_rd e h)) .inr
theorem same_t {K : PySem.W.Frag} {H H' : Hp} {a : Addr} {xs : List V} (e : Same H H') (h : SqT K H a xs) : SqT K H' a xs := h.elim (fun h => .inl (same_rd e h)) .inr
theorem XdB.mono {B B' : Hp} {d : Option Addr} {fs : List (Str × V)} (e : Same B B') (h : XdB B d fs) : XdB B' d fs := h.imp id fun ⟨dd, e1, e2⟩ => ⟨dd, e1, e _ _ e2⟩
section
variable {K : PySem.W.Frag} {B B' : Hp}
mutual
theorem Rp.mono (e : Same B B') : ∀ {v : V} {d : D}, Rp K B v d → Rp K B' v d
  | _, _, .non => .non
  | _, _, .bl b => .bl b
  | _, _, .int i => .int i
  | _, _, .str x => .str x
  | _, _, .lst h t => .lst (same_l e h) (RpL.mono e t)
  | _, _, .tup h t => .tup (same_t e h) (RpL.mono e t)
  | _, _, .dct h t => .dct (e _ _ h) (RpK.mono e t)
  | _, _, .exn h q x t => .exn (e _ _ h) q (x.mono e) (RpL.mono e t)
theorem RpL.mono (e : Same B B') : ∀ {v : List V} {d : List D}, RpL K B v d → RpL K B' v d
  | _, _, .nil => .nil
  | _, _, .cons h t => .cons (Rp.mono e h) (RpL.mono e t)
theorem RpK.mono (e : Same B B') : ∀ {v : List (Key × V)} {d : List (D × D)}, RpK K B v d → RpK K B' v d
  | _, _, .nil => .nil
  | _, _, .cons h t => .cons (Rp.mono e h) (RpK.mono e t)
end
theorem RpL.length : ∀ {vs : List V} {ds : List D}, RpL K B vs ds → vs.length = ds.length
  | _, _, .nil => rfl
  | _, _, .cons _ t => by rw [List.length_cons, List.length_cons, RpL.length t]
theorem RpL.get : ∀ {vs : List V} {ds : List D} {i : Nat} {d : D}, RpL K B vs ds → ds[i]? = some d → ∃ v, vs[i]? = some v ∧ Rp K B v d
  | _, _, _, _, .nil, e => by simp at e
  | _, _, 0, _, .cons h _, e => by simp at e; subst e; exact ⟨_, rfl, h⟩
  | _, _, i + 1, d, .cons _ t, e => by
    obtain ⟨v, h1, h2⟩ := RpL.get (i := i) (d := d) t (by simpa using e)
    exact ⟨v, by simpa using h1, h2⟩
theorem RpL.getV : ∀ {vs : List V} {ds : List D} {i : Nat} {v : V}, RpL K B vs ds → vs[i]? = some v → ∃ d, ds[i]? = some d ∧ Rp K B v d
  | _, _, _, _, .nil, e => by simp at e
  | _, _, 0, _, .cons h _, e => by simp at e; subst e; exact ⟨_, rfl, h⟩
  | _, _, i + 1, d, .cons _ t, e => by
    obtain ⟨v, h1, h2⟩ := RpL.getV (i := i) (v := d) t (by simpa using e)
    exact ⟨v, by simpa using h1, h2⟩
theorem RpL.append : ∀ {vs ws : List V} {ds es : List D}, RpL K B vs ds → RpL K B ws es → RpL K B (vs ++ ws) (ds ++ es)
  | _, _, _, _, .nil, s => s
  | _, _, _, _, .cons h t, s => .cons h (RpL.append t s)
theorem RpL.take : ∀ {vs : List V} {ds : List D} (n : Nat), RpL K B vs ds → RpL K B (vs.take n) (ds.take n)
  | _, _, 0, _ => .nil
  | _, _, _ + 1, .nil => .nil
  | _, _, n + 1, .cons h t => .cons h (RpL.take n t)
theorem RpL.drop : ∀ {vs : List V} {ds : List D} (n : Nat), RpL K B vs ds → RpL K B (vs.drop n) (ds.drop n)
  | _, _, 0, r => r
  | _, _, _ + 1, .nil => .nil
  | _, _, n + 1, .cons _ t => RpL.drop n t
theorem RpL.set {x : V} {e : D} (r : Rp K B x e) : ∀ {vs : List V} {ds : List D} (i : Nat), RpL K B vs ds → RpL K B (vs.set i x) (ds.set i e)
  | _, _, _, .nil => .nil
  | _, _, 0, .cons _ t => .cons r t
  | _, _, i + 1, .cons q t => .cons q (RpL.set r i t)
theorem RpL.reverse {vs : List V} {ds : List D} (h : RpL K B vs ds) : RpL K B vs.reverse ds.reverse := by
  induction vs generalizing ds with
  | nil => cases h; exact .nil
  | cons v vs ih =>
    cases h with
    | cons h1 h2 =>
      rw [List.reverse_cons, List.reverse_cons]
      exact (ih h2).append (.cons h1 .nil)
mutual
def plain : D → Bool
  | .none => true
  | .bool _ => true
  | .int _ => true
  | .str _ => true
  | .list ds => plainL ds
  | .tuple ds => plainL ds
  | .dict _ => false
def plainL : List D → Bool
  | [] => true
  | d :: ds => plain d && plainL ds
end
mutual
theorem Rp.dp : ∀ {v : V} (d : D), Rp K B v d → plain d = true → Dp K B v d
  | _, .none, .non, _ => .non
  | _, .bool _, .bl b, _ => .bl b
  | _, .int _, .int i, _ => .int i
  | _, .str _, .str x, _ => .str x
  | _, .list ds, .lst h t, e => .lst h (RpL.dp ds t (by unfold plain at e; exact e))
  | _, .tuple ds, .tup h t, e => .tup h (RpL.dp ds t (by unfold plain at e; exact e))
  | _, .dict _, .dct h t, e => by unfold plain at e; cases e
  | _, .dict _, .exn _ _ _ _, e => by unfold plain at e; cases e
theorem RpL.dp : ∀ {vs : List V} (ds : List D), RpL K B vs ds → plainL ds = true → DpAll K B vs ds
  | _, [], .nil, _ => .nil
  | _, d :: ds, .cons h t, e => by
    unfold plainL at e
    rw [Bool.and_eq_true] at e
    exact .cons (Rp.dp d h e.1) (RpL.dp ds t e.2)
end
end
/-- the object of an owned slot -/
def Ow (K : PySem.W.Frag) (B : Hp) (o : Option HO) : D → Prop
  | .list ds => ∃ vs, o = some (.lst vs) ∧ RpL K B vs ds
  | .dict ps => ∃ kvs, o = some (.dK kvs) ∧ RpK K B kvs ps
  | _ => False
theorem Ow.mono {K : PySem.W.Frag} {B B' : Hp} {o : Option HO} (e : Same B B') : ∀ {d : D}, Ow K B o d → Ow K B' o d
  | .list _, ⟨vs, h1, h2⟩ => ⟨vs, h1, h2.mono e⟩
  | .dict _, ⟨vs, h1, h2⟩ => ⟨vs, h1, h2.mono e⟩
theorem Ow.some {K : PySem.W.Frag} {B : Hp} {o : Option HO} : ∀ {d : D}, Ow K B o d → ∃ u, o = Option.some u
  | .list _, ⟨vs, h1, _⟩ => ⟨_, h1⟩
  | .dict _, ⟨vs, h1, _⟩ => ⟨_, h1⟩
/-- slot i holds v by c -/
def COk (K : PySem.W.Frag) (B H : Hp) (c : Cel) (v : V) : Prop :=
  (c.fl = .sh ∧ Rp K B v c.d) ∨ (c.fl ≠ .sh ∧ ∃ a, v = .ref a ∧ B a = none ∧ Ow K B (H a) c.d)
def OwnA (ρ : Rho) (σ : St) (a : Addr) : Prop := ∃ (i : Nat) (c : Cel), ρ[i]? = some (some c) ∧ c.fl ≠ .sh ∧ σ[i]? = some (some (.ref a))
structure Sim (K : PySem.W.Frag) (ρ : Rho) (σ : St) (B H : Hp) : Prop where
  bh : Same B H
  len : ρ.length = σ.length
  sl : ∀ (i : Nat) (c : Cel), ρ[i]? = some (some c) → ∃ v, σ[i]? = some (some v) ∧ COk K B H c v
  dj : ∀ (i j : Nat) (ci cj : Cel) (a : Addr), ρ[i]? = some (some ci) → ρ[j]? = some (some cj) → ci.fl ≠ .sh → cj.fl ≠ .sh → σ[i]? = some (some (.ref a)) → σ[j]? = some (some (.ref a)) → i = j
/-- what may become shared or owned: a new address, or an owned one -/
def New (ρ : Rho) (σ : St) (H : Hp) (a : Addr) : Prop := H a = none ∨ OwnA ρ σ a
/-- from one state to a later one: what is shared stays and grows by new objects (and owned ones that are given up); what was neither shared nor owned stays -/
structure Ext (ρ : Rho) (σ : St) (B H : Hp) (ρ' : Rho) (σ' : St) (B' H' : Hp) : Prop where
  bb : Same B B'
  nw : ∀ a o, B' a = some o → B a = some o ∨ New ρ σ H a
  kp : ∀ a o, H a = some o → ¬ OwnA ρ σ a → H' a = some o
  sub : ∀ a, OwnA ρ' σ' a → New ρ σ H a
  io : ∀ (i : Nat) (c : Cel), ρ[i]? = some (some c) → c.fl = .io → σ'[i]? = σ[i]? ∧ ∃ c', ρ'[i]? = some (some c') ∧ c'.fl = .io
  oi : ∀ (i : Nat) (c : Cel), ρ'[i]? = some (some c) → c.fl = .io → ∃ c', ρ[i]? = some (some c') ∧ c'.fl = .io
section
variable {K : PySem.W.Frag} {ρ ρ1 ρ2 : Rho} {σ σ1 σ2 : St} {B B1 B2 H H1 H2 : Hp}
theorem Ext.refl : Ext ρ σ B H ρ σ B H :=
  ⟨Same.refl B, fun _ _ h => .inl h, fun _ _ h _ => h, fun _ h => .inr h, fun i c h1 h2 => ⟨rfl, c, h1, h2⟩, fun i c h1 h2 => ⟨c, h1, h2⟩⟩
/-- what is new later is new from the start -/
theorem Ext.back (a : Ext ρ σ B H ρ1 σ1 B1 H1) {x : Addr} (h : New ρ1 σ1 H1 x) : New ρ σ H x := by
  rcases h with h | h
  · by_cases ho : OwnA ρ σ x
    · exact .inr ho
    · cases e : H x with
      | none => exact .inl e
      | some u =>
        rw [a.kp x u e ho] at h
        cases h
  · exact a.sub x h
theorem Ext.trans (a : Ext ρ σ B H ρ1 σ1 B1 H1) (b : Ext ρ1 σ1 B1 H1 ρ2 σ2 B2 H2) : Ext ρ σ B H ρ2 σ2 B2 H2 where
  bb := a.bb.trans b.bb
  nw := fun x o h => (b.nw x o h).elim (fun h => a.nw x o h) fun h => .inr (a.back h)
  kp := fun x o h n => b.kp x o (a.kp x o h n) fun q => (a.sub x q).elim (fun z => by rw [h] at z; cases z) n
  sub := fun x h => a.back (b.sub x h)
  io := fun i c h1 h2 => by
    obtain ⟨e1, c1, q1, q2⟩ := a.io i c h1 h2
    obtain ⟨e2, c2, q3, q4⟩ := b.io i c1 q1 q2
    exact ⟨e2.trans e1, c2, q3, q4⟩
  oi := fun i c h1 h2 => by
    obtain ⟨c1, q1, q2⟩ := b.oi i c h1 h2
    exact a.oi i c1 q1 q2
/-- an address that is tracked, not shared and nobody's stays so -/
theorem Ext.keepN (a : Ext ρ σ B H ρ1 σ1 B1 H1) {x : Addr} {o : HO} (h : H x = some o) (hb : B x = none) (n : ¬ OwnA ρ σ x) : H1 x = some o ∧ B1 x = none ∧ ¬ OwnA ρ1 σ1 x := by
  have nn : ¬ New ρ σ H x := fun q => q.elim (fun z => by rw [h] at z; cases z) n
  refine ⟨a.kp x o h n, ?_, fun q => nn (a.sub x q)⟩
  cases e : B1 x with
  | none => rfl
  | some u =>
    rcases a.nw x u e with q | q
    · rw [hb] at q; cases q
    · exact absurd q nn
theorem Sim.ownH (S : Sim K ρ σ B H) {a : Addr} (h : OwnA ρ σ a) : B a = none ∧ ∃ o, H a = some o := by
  obtain ⟨i, c, h1, h2, h3⟩ := h
  obtain ⟨v, e, q⟩ := S.sl i c h1
  rw [h3] at e
  cases e
  rcases q with ⟨z, _⟩ | ⟨_, b, e, q1, q2⟩
  · exact absurd z h2
  · cases e
    exact ⟨q1, q2.some⟩
theorem Sim.free (S : Sim K ρ σ B H) {p : Addr} (h : H p = none) : B p = none ∧ ¬ OwnA ρ σ p :=
  ⟨S.bh.free h, fun q => by obtain ⟨_, o, e⟩ := S.ownH q; rw [h] at e; cases e⟩
theorem COk.mono {c : Cel} {v : V} (h : COk K B H c v) (e : Same B B1) (hf : ∀ a, v = .ref a → B a = none → (∃ o, H a = some o) → c.fl ≠ .sh → B1 a = none ∧ H1 a = H a) : COk K B1 H1 c v := by
  rcases h with ⟨h1, h2⟩ | ⟨h1, a, rfl, h2, h3⟩
  · exact .inl ⟨h1, h2.mono e⟩
  · obtain ⟨q1, q2⟩ := hf a rfl h2 h3.some h1
    exact .inr ⟨h1, a, rfl, q1, by rw [q2]; exact h3.mono e⟩
/-- a new object, shared -/
theorem Sim.newB (S : Sim K ρ σ B H) {p : Addr} (hp : H p = none) (o : HO) : Sim K ρ σ (upd B p o) (upd H p o) ∧ Ext ρ σ B H ρ σ (upd B p o) (upd H p o) := by
  obtain ⟨bp, np⟩ := S.free hp
  have sB : Same B (upd B p o) := fun b u e => by rw [upd_ne (ne_of_none e bp)]; exact e
  have sH : Same H (upd H p o) := fun b u e => by rw [upd_ne (ne_of_none e hp)]; exact e
  refine ⟨⟨fun b u e => ?_, S.len, fun i c h => ?_, S.dj⟩, ⟨sB, fun a u e => ?_, fun a u e _ => sH a u e, fun _ h => .inr h, fun i c h1 h2 => ⟨rfl, c, h1, h2⟩, fun i c h1 h2 => ⟨c, h1, h2⟩⟩⟩
  · by_cases hb : b = p
    · subst hb; rw [upd_same] at e ⊢; exact e
    · rw [upd_ne hb] at e ⊢; exact S.bh _ _ e
  · obtain ⟨v, e, q⟩ := S.sl i c h
    refine ⟨v, e, q.mono sB fun a hv ha ho hf => ?_⟩
    have ne : a ≠ p := fun z => by subst z; obtain ⟨_, w⟩ := ho; rw [hp] at w; cases w
    exact ⟨by rw [upd_ne ne]; exact ha, by rw [upd_ne ne]⟩
  · by_cases hb : a = p
    · subst hb; exact .inr (.inl hp)
    · rw [upd_ne hb] at e; exact .inl e
/-- a new object that nobody holds yet -/
theorem Sim.newH (S : Sim K ρ σ B H) {p : Addr} (hp : H p = none) (o : HO) : Sim K ρ σ B (upd H p o) ∧ Ext ρ σ B H ρ σ B (upd H p o) := by
  obtain ⟨bp, np⟩ := S.free hp
  have sH : Same H (upd H p o) := fun b u e => by rw [upd_ne (ne_of_none e hp)]; exact e
  refine ⟨⟨S.bh.trans sH, S.len, fun i c h => ?_, S.dj⟩, ⟨Same.refl B, fun a u e => .inl e, fun a u e _ => sH a u e, fun _ h => .inr h, fun i c h1 h2 => ⟨rfl, c, h1, h2⟩, fun i c h1 h2 => ⟨c, h1, h2⟩⟩⟩
  obtain ⟨v, e, q⟩ := S.sl i c h
  refine ⟨v, e, q.mono (Same.refl B) fun a hv ha ho hf => ?_⟩
  have ne : a ≠ p := fun z => by subst z; obtain ⟨_, w⟩ := ho; rw [hp] at w; cases w
  exact ⟨ha, by rw [upd_ne ne]⟩
/-- an object that nobody holds becomes shared -/
theorem Sim.share (S : Sim K ρ σ B H) {p : Addr} {o : HO} (hb : B p = none) (hp : H p = some o) (n : ¬ OwnA ρ σ p) : Sim K ρ σ (upd B p o) H := by
  have sB : Same B (upd B p o) := fun b u e => by rw [upd_ne (ne_of_none e hb)]; exact e
  refine ⟨fun b u e => ?_, S.len, fun i c h => ?_, S.dj⟩
  · by_cases h : b = p
    · subst h; rw [upd_same] at e; cases e; exact hp
    · rw [upd_ne h] at e; exact S.bh _ _ e
  · obtain ⟨v, e, q⟩ := S.sl i c h
    refine ⟨v, e, q.mono sB fun a hv ha ho hf => ⟨?_, rfl⟩⟩
    have ne : a ≠ p := fun z => by subst z; subst hv; exact n ⟨i, c, h, hf, e⟩
    rw [upd_ne ne]; exact ha
end
end GS
namespace GS
open PySem L2
def HdOk (K : PySem.W.Frag) (N : Addr → Prop) (ρ : Rho) (σ : St) (B H : Hp) (v : V) : Hd → Prop
  | .sh d => Rp K B v d
  | .fr d => ∃ a, v = .ref a ∧ B a = none ∧ Ow K B (H a) d ∧ ¬ OwnA ρ σ a ∧ N a
  | .bw i => σ[i]? = some (some v)
/-- the context of a reading: the written part, the classes' values by name, what is wanted of an exception -/
structure Ct where
  K : PySem.W.Frag
  cv : Str → Value
  W : WX
def XcOk (C : Ct) (B : Hp) (x : Xc) (cls : Value) (dct : Option Addr) : Prop :=
  cls = C.cv x.cls ∧ ((x.fs = [] ∧ dct = none) ∨ ∃ a fs, dct = some a ∧ B a = some (.xd fs) ∧ fs.map (·.1) = x.fs.map (·.1) ∧ RpL C.K B (fs.map (·.2)) (x.fs.map (·.2)))
def GoodE (C : Ct) (ρ : Rho) (σ : St) (B H : Hp) (Q : VK) : RE → Prop
  | .stuck => False
  | .ok h ρ' => ∀ v B' H', Sim C.K ρ' σ B' H' → Ext ρ σ B H ρ' σ B' H' → HdOk C.K (New ρ σ H) ρ' σ B' H' v h → Q v H'
  | .exc x ρ' => ∀ cls dct B' H', Sim C.K ρ' σ B' H' → Ext ρ σ B H ρ' σ B' H' → XcOk C B' x cls dct → C.W cls dct σ H'
def LkE (C : Ct) (t : TE) (f : EF) : Prop := ∀ ρ σ B H Q, Sim C.K ρ σ B H → GoodE C ρ σ B H Q (f ρ) → t σ H Q
structure SE (X : Cx) (C : Ct) (e : Expr) (t : TE) (f : EF) : Prop where
  pe : PE X e t
  lk : LkE C t f
def bindE (r : RE) (k : Hd → Rho → RE) : RE := match r with
  | .stuck => .stuck
  | .ok h ρ => k h ρ
  | .exc x ρ => .exc x ρ
/-- what a slot holds -/
def slot (ρ : Rho) (i : Nat) : Option Cel := match ρ[i]? with
  | some (some c) => some c
  | _ => none
theorem slot_some {ρ : Rho} {i : Nat} {c : Cel} (h : slot ρ i = some c) : ρ[i]? = some (some c) := by
  unfold slot at h
  split at h
  · rename_i c' e; cases h; exact e
  · cases h
def getH (ρ : Rho) : Hd → Option D
  | .sh d => some d
  | .fr d => some d
  | .bw i => (slot ρ i).map (·.d)
def capH (ρ : Rho) : Hd → Option D
  | .sh d => some d
  | .fr d => some d
  | .bw i => match slot ρ i with
    | some ⟨d, .sh⟩ => some d
    | _ => none
def setl : Hd → Hd
  | .fr d => .sh d
  | h => h
/-- captured: a shared datum -/
def eCap (f : EF) : EF := fun ρ => bindE (f ρ) fun h ρ' => match capH ρ' h with
  | some d => .ok (.sh d) ρ'
  | none => .stuck
/-- looked at: what is new is shared -/
def eSet (f : EF) : EF := fun ρ => bindE (f ρ) fun h ρ' => .ok (setl h) ρ'
section
variable {C : Ct} {ρ ρ' ρ1 : Rho} {σ : St} {B B' H H' B1 H1 : Hp} {Q : VK} {t ta tb : TE} {f fa fb : EF} {N N' : Addr → Prop} {v : V}
theorem HdOk.mono {K : PySem.W.Frag} (k : ∀ a, N a → N' a) : ∀ {h : Hd}, HdOk K N ρ σ B H v h → HdOk K N' ρ σ B H v h
  | .sh _, q => q
  | .fr _, ⟨a, h1, h2, h3, h4, h5⟩ => ⟨a, h1, h2, h3, h4, k a h5⟩
  | .bw _, q => q
/-- a step in the middle: what is good behind is good ahead -/
theorem GoodE.ext (e : Ext ρ σ B H ρ1 σ B1 H1) : ∀ {r : RE}, GoodE C ρ σ B H Q r → GoodE C ρ1 σ B1 H1 Q r
  | .stuck, h => h
  | .ok _ _, h => fun v B' H' s x y => h v B' H' s (e.trans x) (y.mono fun _ z => e.back z)
  | .exc _ _, h => fun c d B' H' s x => h c d B' H' s (e.trans x)
theorem GoodE.imp {Q' : VK} (k : ∀ v H, Q v H → Q' v H) : ∀ {r : RE}, GoodE C ρ σ B H Q r → GoodE C ρ σ B H Q' r
  | .stuck, h => h
  | .ok _ _, h => fun v B' H' s x y => k _ _ (h v B' H' s x y)
  | .exc _ _, h => h
/-- THE RULE: an expression, then what follows -/
theorem LkE.bind (l : LkE C t f) (S : Sim C.K ρ σ B H) {k : Hd → Rho → RE} {Q' : VK} (g : GoodE C ρ σ B H Q (bindE (f ρ) k))
    (h : ∀ hd ρ1 v B1 H1, Sim C.K ρ1 σ B1 H1 → Ext ρ σ B H ρ1 σ B1 H1 → HdOk C.K (New ρ σ H) ρ1 σ B1 H1 v hd → GoodE C ρ σ B H Q (k hd ρ1) → Q' v H1) : t σ H Q' := by
  refine l ρ σ B H Q' S ?_
  cases e : f ρ with
  | stuck => rw [e] at g; exact g
  | ok hd ρ1 =>
    rw [e] at g
    exact fun v B1 H1 s x y => h hd ρ1 v B1 H1 s x y g
  | exc x ρ1 =>
    rw [e] at g
    exact g
/-- a new datum that nobody holds is shared from here on -/
theorem Sim.cap (S : Sim C.K ρ1 σ B1 H1) (x : Ext ρ σ B H ρ1 σ B1 H1) {d : D} (h : HdOk C.K (New ρ σ H) ρ1 σ B1 H1 v (.fr d)) : ∃ B2, Sim C.K ρ1 σ B2 H1 ∧ Ext ρ σ B H ρ1 σ B2 H1 ∧ Rp C.K B2 v d := by
  obtain ⟨a, rfl, hb, ho, hn, hN⟩ := h
  obtain ⟨o, e⟩ := ho.some
  have sB : Same B1 (upd B1 a o) := fun b u e => by rw [upd_ne (ne_of_none e hb)]; exact e
  refine ⟨upd B1 a o, S.share hb e hn, ⟨x.bb.trans sB, fun b u e => ?_, x.kp, x.sub, x.io, x.oi⟩, ?_⟩
  · by_cases hb : b = a
    · subst hb; exact .inr hN
    · rw [upd_ne hb] at e; exact x.nw b u e
  · rw [e] at ho
    have ho := ho.mono sB
    cases d with
    | list ds =>
      obtain ⟨vs, e1, e2⟩ := ho
      cases e1
      exact .lst (.inl (.inl upd_same)) e2
    | dict ps =>
      obtain ⟨vs, e1, e2⟩ := ho
      cases e1
      exact .dct upd_same e2
    | _ => exact ho.elim
theorem LkE.cap (l : LkE C t f) : LkE C t (eCap f) := fun ρ σ B H Q S g => by
  refine l.bind S g fun hd ρ1 v B1 H1 S1 x y g => ?_
  cases hd with
  | sh d => exact g v B1 H1 S1 x y
  | fr d =>
    obtain ⟨B2, S2, x2, r⟩ := S1.cap x y
    exact g v B2 H1 S2 x2 r
  | bw i =>
    unfold capH at g
    dsimp only at g
    split at g
    · rename_i d e
      split at e
      · rename_i d' e'
        cases e
        have e' := slot_some e'
        obtain ⟨v', q1, q2⟩ := S1.sl i _ e'
        have y' : σ[i]? = some (some v) := y
        rw [y'] at q1
        cases q1
        rcases q2 with ⟨_, q2⟩ | ⟨q, _⟩
        · exact g v B1 H1 S1 x q2
        · exact absurd rfl q
      · cases e
    · exact g.elim
theorem LkE.set (l : LkE C t f) : LkE C t (eSet f) := fun ρ σ B H Q S g => by
  refine l.bind S g fun hd ρ1 v B1 H1 S1 x y g => ?_
  cases hd with
  | sh d => exact g v B1 H1 S1 x y
  | fr d =>
    obtain ⟨B2, S2, x2, r⟩ := S1.cap x y
    exact g v B2 H1 S2 x2 r
  | bw i => exact g v B1 H1 S1 x y
theorem SE.cap {X : Cx} {e : Expr} (h : SE X C e t f) : SE X C e t (eCap f) := ⟨h.pe, h.lk.cap⟩
theorem SE.set {X : Cx} {e : Expr} (h : SE X C e t f) : SE X C e t (eSet f) := ⟨h.pe, h.lk.set⟩
def Tp (K : PySem.W.Frag) (B H : Hp) (v : V) : D → Prop
  | .list ds => ∃ a vs, v = .ref a ∧ SqL K H a vs ∧ RpL K B vs ds
  | .dict ps => (∃ a kvs, v = .ref a ∧ H a = some (.dK kvs) ∧ RpK K B kvs ps) ∨ (xnB ps = true ∧ Rp K B v (.dict ps))
  | d => Rp K B v d
theorem Tp.of {K : PySem.W.Frag} (s : Same B H) : ∀ {d : D}, Rp K B v d → Tp K B H v d
  | .list _, .lst h t => ⟨_, _, rfl, same_l s h, t⟩
  | .dict _, .dct h t => .inl ⟨_, _, rfl, s _ _ h, t⟩
  | .dict _, .exn h q x t => .inr ⟨rfl, .exn h q x t⟩
  | .none, h => h
  | .bool _, h => h
  | .int _, h => h
  | .str _, h => h
  | .tuple _, h => h
theorem Tp.rp {K : PySem.W.Frag} (s : Same B H) : ∀ {d : D}, Tp K B H v d → Rp K H v d
  | .list _, ⟨_, _, e, h, t⟩ => by subst e; exact .lst h (t.mono s)
  | .dict _, .inl ⟨_, _, e, h, t⟩ => by subst e; exact .dct h (t.mono s)
  | .dict _, .inr ⟨_, h⟩ => Rp.mono s h
  | .none, h => Rp.mono s h
  | .bool _, h => Rp.mono s h
  | .int _, h => Rp.mono s h
  | .str _, h => Rp.mono s h
  | .tuple _, h => Rp.mono s h
theorem Sim.tp (S : Sim C.K ρ σ B H) {h : Hd} {d : D} (y : HdOk C.K N ρ σ B H v h) (g : getH ρ h = some d) : Tp C.K B H v d := by
  cases h with
  | sh e =>
    cases g
    exact Tp.of S.bh y
  | fr e =>
    cases g
    obtain ⟨a, rfl, hb, ho, _⟩ := y
    cases d with
    | list ds =>
      obtain ⟨vs, e1, e2⟩ := ho
      exact ⟨a, vs, rfl, .inl (.inl e1), e2⟩
    | dict ds =>
      obtain ⟨vs, e1, e2⟩ := ho
      exact .inl ⟨a, vs, rfl, e1, e2⟩
    | _ => exact ho.elim
  | bw i =>
    replace g : (slot ρ i).map (·.d) = some d := g
    cases e : slot ρ i with
    | none => rw [e] at g; cases g
    | some c =>
      rw [e] at g
      cases g
      obtain ⟨v', q1, q2⟩ := S.sl i c (slot_some e)
      have y' : σ[i]? = some (some v) := y
      rw [y'] at q1
      cases q1
      rcases q2 with ⟨_, q2⟩ | ⟨_, a, rfl, hb, ho⟩
      · exact Tp.of S.bh q2
      · obtain ⟨d, fl⟩ := c
        cases d with
        | list ds =>
          obtain ⟨vs, e1, e2⟩ := ho
          exact ⟨a, vs, rfl, .inl (.inl e1), e2⟩
        | dict ds =>
          obtain ⟨vs, e1, e2⟩ := ho
          exact .inl ⟨a, vs, rfl, e1, e2⟩
        | _ => exact ho.elim
/-- a looked-at operand stays good -/
theorem HdOk.ext (x : Ext ρ σ B H ρ1 σ B1 H1) {h : Hd} (y : HdOk C.K N ρ σ B H v (setl h)) : HdOk C.K N' ρ1 σ B1 H1 v (setl h) := by
  cases h with
  | sh d => exact Rp.mono x.bb y
  | fr d => exact Rp.mono x.bb y
  | bw i => exact y
def OpL (K : PySem.W.Frag) (r : R2) (o : D → D → Option Hd) : Prop := ∀ ρ σ B H x y dx dy h Q, Sim K ρ σ B H → Tp K B H x dx → Tp K B H y dy → o dx dy = some h →
  (∀ v B' H', Sim K ρ σ B' H' → Ext ρ σ B H ρ σ B' H' → HdOk K (New ρ σ H) ρ σ B' H' v h → Q v H') → r x y H Q
def eBin (o : D → D → Option Hd) (fa fb : EF) : EF := fun ρ => bindE (eSet fa ρ) fun ha ρ1 => bindE (eSet fb ρ1) fun hb ρ2 => match getH ρ2 ha, getH ρ2 hb with
  | some da, some db => match o da db with
    | some h => .ok h ρ2
    | none => .stuck
  | _, _ => .stuck
theorem LkE.setBind (l : LkE C t f) (S : Sim C.K ρ σ B H) {k : Hd → Rho → RE} {Q' : VK} (g : GoodE C ρ σ B H Q (bindE (eSet f ρ) k))
    (h : ∀ hd ρ1 v B1 H1, Sim C.K ρ1 σ B1 H1 → Ext ρ σ B H ρ1 σ B1 H1 → HdOk C.K (New ρ σ H) ρ1 σ B1 H1 v (setl hd) → GoodE C ρ1 σ B1 H1 Q (k (setl hd) ρ1) → Q' v H1) : t σ H Q' := by
  refine l.set ρ σ B H Q' S ?_
  unfold eSet at g ⊢
  cases e : f ρ with
  | stuck => rw [e] at g; exact g
  | ok hd ρ1 =>
    rw [e] at g
    exact fun v B1 H1 s x y => h hd ρ1 v B1 H1 s x y (GoodE.ext x g)
  | exc x ρ1 =>
    rw [e] at g
    exact g
theorem lk_op {r : R2} {o : D → D → Option Hd} (hr : OpL C.K r o) (la : LkE C ta fa) (lb : LkE C tb fb) : LkE C (tOp r ta tb) (eBin o fa fb) := fun ρ σ B H Q S g => by
  refine la.setBind S g fun ha ρ1 x B1 H1 S1 e1 y1 g1 => ?_
  refine lb.setBind S1 g1 fun hb ρ2 y B2 H2 S2 e2 y2 g2 => ?_
  split at g2
  · rename_i da db ea eb
    split at g2
    · rename_i h eh
      exact hr ρ2 σ B2 H2 x y da db h Q S2 (S2.tp (N := fun _ => True) (HdOk.ext e2 y1) ea) (S2.tp y2 eb) eh g2
    · exact g2.elim
  · exact g2.elim
theorem se_bin {X : Cx} {r : R2} {o : D → D → Option Hd} {op : Operator} {a b : Expr} {pos : Pos} (hr : OpL C.K r o) (ho : OpR X (binaryOp op) r) (la : SE X C a ta fa) (lb : SE X C b tb fb) : SE X C (.BinOp a op b pos) (tOp r ta tb) (eBin o fa fb) :=
  ⟨pe_op ho la.pe lb.pe, lk_op hr la.lk lb.lk⟩
/-- two ways of one operator -/
def orO (o o' : D → D → Option Hd) : D → D → Option Hd := fun x y => match o x y with
  | some h => some h
  | none => o' x y
theorem OpL.or {K : PySem.W.Frag} {r r' : R2} {o o' : D → D → Option Hd} (a : OpL K r o) (b : OpL K r' o') : OpL K (fun x y H Q => r x y H Q ∨ r' x y H Q) (orO o o') := fun ρ σ B H x y dx dy h Q S tx ty e k => by
  unfold orO at e
  cases q : o dx dy with
  | some h' =>
    rw [q] at e
    cases e
    exact .inl (a ρ σ B H x y dx dy _ Q S tx ty q k)
  | none =>
    rw [q] at e
    exact .inr (b ρ σ B H x y dx dy _ Q S tx ty e k)
end
end GS
namespace GS
open PySem L2 PySem.Calls
section
variable {K : PySem.W.Frag} {ρ : Rho} {σ : St} {B H : Hp} {v x y : V} {Q : VK}
theorem Tp.int {i : Int} (h : Tp K B H v (.int i)) : v = .int i := by cases h; rfl
theorem Tp.str {i : Str} (h : Tp K B H v (.str i)) : v = .str i := by cases h; rfl
theorem Tp.bl {i : Bool} (h : Tp K B H v (.bool i)) : v = .bl i := by cases h; rfl
theorem Tp.non (h : Tp K B H v .none) : v = .non := by cases h; rfl
theorem Rp.tupE {ds : List D} (h : Rp K B v (.tuple ds)) : ∃ a vs, v = .ref a ∧ SqT K B a vs ∧ RpL K B vs ds := by
  cases h with
  | tup h t => exact ⟨_, _, rfl, h, t⟩
theorem Rp.lstE {ds : List D} (h : Rp K B v (.list ds)) : ∃ a vs, v = .ref a ∧ SqL K B a vs ∧ RpL K B vs ds := by
  cases h with
  | lst h t => exact ⟨_, _, rfl, h, t⟩
theorem Tp.tup {ds : List D} (h : Tp K B H v (.tuple ds)) : ∃ a vs, v = .ref a ∧ SqT K B a vs ∧ RpL K B vs ds := Rp.tupE h
/-- the state as it is, a shared value -/
theorem now (S : Sim K ρ σ B H) {d : D} (h : Rp K B v d) (k : ∀ v B' H', Sim K ρ σ B' H' → Ext ρ σ B H ρ σ B' H' → HdOk K (New ρ σ H) ρ σ B' H' v (.sh d) → Q v H') : Q v H := k v B H S Ext.refl h
/-- a new tuple, shared -/
theorem newT (S : Sim K ρ σ B H) {vs : List V} {ds : List D} (h : RpL K B vs ds) (k : ∀ v B' H', Sim K ρ σ B' H' → Ext ρ σ B H ρ σ B' H' → HdOk K (New ρ σ H) ρ σ B' H' v (.sh (.tuple ds)) → Q v H') :
    ∀ p, H p = none → Q (.ref p) (upd H p (.tup vs)) := fun p hp => by
  obtain ⟨S', x⟩ := S.newB hp (.tup vs)
  exact k _ _ _ S' x (.tup (.inl (.inl upd_same)) (h.mono x.bb))
/-- a new list that nobody holds -/
theorem newL (S : Sim K ρ σ B H) {vs : List V} {ds : List D} (h : RpL K B vs ds) (k : ∀ v B' H', Sim K ρ σ B' H' → Ext ρ σ B H ρ σ B' H' → HdOk K (New ρ σ H) ρ σ B' H' v (.fr (.list ds)) → Q v H') :
    ∀ p, H p = none → Q (.ref p) (upd H p (.lst vs)) := fun p hp => by
  obtain ⟨S', x⟩ := S.newH hp (.lst vs)
  obtain ⟨b, n⟩ := S.free hp
  exact k _ _ _ S' x ⟨p, rfl, b, ⟨vs, upd_same, h⟩, n, .inl hp⟩
end
section
variable {X : Cx}
def rCatL (K : PySem.W.Frag) : R2 := fun x y H Q => ∃ l b xs zs, x = .ref l ∧ y = .ref b ∧ SqL K H l xs ∧ SqL K H b zs ∧ xs.length + zs.length ≤ sizeLine ∧ ∀ p, H p = none → Q (.ref p) (upd H p (.lst (xs ++ zs)))
theorem op_catL : OpR X (binaryOp .Add) (rCatL X.K) := by
  intro pins s σ H x y v u Q I rx ry h
  obtain ⟨l, b, xs, zs, rfl, rfl, hH, hB, hz, q⟩ := h
  cases rx
  cases ry
  obtain ⟨its, r, p1, _⟩ := I.list hH
  obtain ⟨its2, r2, p2, _⟩ := I.list hB
  have l1 := r.length
  have l2 := r2.length
  obtain ⟨⟨cls, dd, data, sl⟩, ho, hc, n, hd⟩ := p1.isList
  obtain ⟨⟨cls2, dd2, data2, sl2⟩, ho2, hc2, n2, hd2⟩ := p2.isList
  simp only at hc hd hc2 hd2
  subst hc hd hc2 hd2
  refine concat_meets ⟨_, ho, rfl⟩ ⟨_, ho2, rfl⟩ noFill_list_add seq_list_add PySem.F.slot_list_add PySem.F.entry_list_add (PySem.F.args_list_add_2 _ _) (PyProof.Rows.list_addW l b its.toArray its2.toArray n n2 dd dd2 sl sl2 (by simp; omega)) ⟨ho, ho2, ?_⟩
  have e : its.toArray ++ its2.toArray = (its ++ its2).toArray := by simp
  rw [e]
  exact ⟨.ref _, _, I.lnew (t' := s.toks) (r.append r2) (by rw [List.length_append]; omega), rfl, q _ I.fresh⟩
end
theorem if_some {c : Prop} [Decidable c] {α : Type} {a h : α} (e : (if c then some a else none) = some h) : c ∧ a = h := by
  split at e
  · cases e; exact ⟨by assumption, rfl⟩
  · cases e
/-- + -/
def addD : D → D → Option Hd
  | .int i, .int j => some (.sh (.int (i + j)))
  | .str i, .str j => if i.length + j.length ≤ sizeLine then some (.sh (.str (i ++ j))) else none
  | .tuple xs, .tuple ys => if xs.length + ys.length ≤ sizeLine then some (.sh (.tuple (xs ++ ys))) else none
  | .list xs, .list ys => if xs.length + ys.length ≤ sizeLine then some (.fr (.list (xs ++ ys))) else none
  | _, _ => none
def rAddA (K : PySem.W.Frag) : R2 := fun x y H Q => (rI0 fun i j => .int (i + j)) x y H Q ∨ ((∃ i j, x = .str i ∧ y = .str j ∧ i.length + j.length ≤ sizeLine ∧ Q (.str (i ++ j)) H) ∨ (rCatA K x y H Q ∨ rCatL K x y H Q))
theorem op_addA {X : Cx} : OpR X (binaryOp .Add) (rAddA X.K) := OpR.or op_add (OpR.or op_add_str (OpR.or op_catA op_catL))
theorem ol_add {K : PySem.W.Frag} : OpL K (rAddA K) addD := fun ρ σ B H x y dx dy h Q S tx ty e k => by
  cases dx <;> cases dy <;> first | (cases (show none = some h from e); done) | skip
  · cases e
    rw [tx.int, ty.int]
    exact .inl ⟨_, _, rfl, rfl, now S (.int _) k⟩
  · obtain ⟨c, rfl⟩ := if_some e
    rw [tx.str, ty.str]
    exact .inr (.inl ⟨_, _, rfl, rfl, c, now S (.str _) k⟩)
  · obtain ⟨c, rfl⟩ := if_some e
    obtain ⟨a, vs, rfl, ha, ra⟩ := tx
    obtain ⟨b, ws, rfl, hb, rb⟩ := ty
    exact .inr (.inr (.inr ⟨a, b, vs, ws, rfl, rfl, ha, hb, by rw [ra.length, rb.length]; exact c, newL S (ra.append rb) k⟩))
  · obtain ⟨c, rfl⟩ := if_some e
    obtain ⟨a, vs, rfl, ha, ra⟩ := tx.tup
    obtain ⟨b, ws, rfl, hb, rb⟩ := ty.tup
    have l1 := ra.length
    have l2 := rb.length
    refine .inr (.inr (.inl ⟨a, b, vs, ws, rfl, rfl, same_t S.bh ha, same_t S.bh hb, by omega, fun e => ?_, fun _ e => ?_, fun _ _ => newT S (ra.append rb) k⟩))
    · subst e
      cases ra
      exact now S (.tup hb rb) k
    · subst e
      cases rb
      rw [List.append_nil] at k
      exact now S (.tup ha ra) k
/-- int operators -/
def intD (c : Int → Int → Bool) (f : Int → Int → D) : D → D → Option Hd
  | .int i, .int j => if c i j then some (.sh (f i j)) else none
  | _, _ => none
theorem ol_int {K : PySem.W.Frag} {c : Int → Int → Bool} {P : Int → Int → Prop} {f : Int → Int → D} {g : Int → Int → V} (hc : ∀ i j, c i j = true → P i j) (hg : ∀ B i j, Rp K B (g i j) (f i j)) : OpL K (rI P g) (intD c f) := fun ρ σ B H x y dx dy h Q S tx ty e k => by
  cases dx <;> cases dy <;> first | (cases (show none = some h from e); done) | skip
  obtain ⟨c, rfl⟩ := if_some e
  rw [tx.int, ty.int]
  exact ⟨_, _, rfl, rfl, hc _ _ c, now S (hg B _ _) k⟩
theorem ol_int0 {K : PySem.W.Frag} {f : Int → Int → D} {g : Int → Int → V} (hg : ∀ B i j, Rp K B (g i j) (f i j)) : OpL K (rI0 g) (intD (fun _ _ => true) f) := fun ρ σ B H x y dx dy h Q S tx ty e k => by
  cases dx <;> cases dy <;> first | (cases (show none = some h from e); done) | skip
  cases e
  rw [tx.int, ty.int]
  exact ⟨_, _, rfl, rfl, now S (hg B _ _) k⟩
def modD : D → D → Option Hd := intD (fun _ j => decide (0 < j)) fun i j => .int (i % j)
theorem ol_mod {K : PySem.W.Frag} : OpL K (rI (fun _ j => 0 < j) fun i j => .int (i % j)) modD := ol_int (fun i j h => by simpa using h) fun _ _ _ => .int _
def ltI (f : Int → Int → Bool) : D → D → Option Hd := intD (fun _ _ => true) fun i j => .bool (f i j)
theorem ol_cmp {K : PySem.W.Frag} {f : Int → Int → Bool} : OpL K (rI0 fun i j => .bl (f i j)) (ltI f) := ol_int0 fun _ _ _ => .bl _
end GS
namespace GS
open PySem L2
section
variable {K : PySem.W.Frag} {ρ : Rho} {σ : St} {B H : Hp} {v x y : V} {Q : VK}
def ixD : D → D → Option Hd
  | .list ds, .int i => (atI ds i).map Hd.sh
  | .tuple ds, .int i => (atI ds i).map Hd.sh
  | .str z, .int i => if z.length ≤ sizeLine then (atI z.cps.toList i).map fun c => Hd.sh (.str ⟨#[c]⟩) else none
  | _, _ => none
theorem RpL.atI {vs : List V} {ds : List D} (h : RpL K B vs ds) {i : Int} {d : D} (e : atI ds i = some d) : ∃ v, atI vs i = some v ∧ Rp K B v d := by
  unfold L2.atI at e ⊢
  rw [h.length]
  cases q : ixN ds.length i with
  | none => rw [q] at e; cases e
  | some j =>
    rw [q] at e
    exact h.get e
theorem ol_ix : OpL K (rIx K) ixD := fun ρ σ B H x y dx dy h Q S tx ty e k => by
  cases dy with
  | int i =>
    rw [ty.int]
    cases dx with
    | list ds =>
      obtain ⟨d, e1, rfl⟩ := Option.map_eq_some_iff.mp e
      obtain ⟨a, vs, rfl, ha, ra⟩ := tx
      obtain ⟨v, q1, q2⟩ := ra.atI e1
      exact .inl ⟨a, vs, i, v, rfl, rfl, ha, q1, now S q2 k⟩
    | tuple ds =>
      obtain ⟨d, e1, rfl⟩ := Option.map_eq_some_iff.mp e
      obtain ⟨a, vs, rfl, ha, ra⟩ := tx.tup
      obtain ⟨v, q1, q2⟩ := ra.atI e1
      exact .inr (.inl ⟨a, vs, i, v, rfl, rfl, same_t S.bh ha, q1, now S q2 k⟩)
    | str z =>
      have e' : (if z.length ≤ sizeLine then (L2.atI z.cps.toList i).map fun c => Hd.sh (.str ⟨#[c]⟩) else none) = some h := e
      split at e'
      · obtain ⟨c, e1, rfl⟩ := Option.map_eq_some_iff.mp e'
        rw [tx.str]
        exact .inr (.inr ⟨z, i, c, rfl, rfl, by assumption, e1, now S (.str _) k⟩)
      · cases e'
    | _ => cases e
  | _ => cases dx <;> cases (show none = some h from e)
end
section
variable {X : Cx} {C : Ct} {a b c e : Expr} {ta tb tc te : TE} {fa fb fc fe : EF} {pos p2 : Pos}
def cutD (ds : List D) (lo hi : Option Int) : List D := (ds.drop (HT.sIx ds.length 0 lo)).take (HT.sIx ds.length ds.length hi - HT.sIx ds.length 0 lo)
def slD (lo hi : Option Int) : D → Option Hd
  | .list ds => some (.fr (.list (cutD ds lo hi)))
  | .tuple ds => some (.sh (.tuple (cutD ds lo hi)))
  | .str z => if z.length ≤ sizeLine then some (.sh (.str (cutS z lo hi))) else none
  | _ => none
def rSlAll (K : PySem.W.Frag) : V → Option Int → Option Int → Hp → VK → Prop := fun x lo hi H Q => rSlL K x lo hi H Q ∨ (rSlA K x lo hi H Q ∨ rSlS x lo hi H Q)
theorem sl_all : SlR X (rSlAll X.K) := SlR.or sl_list (SlR.or sl_tupA sl_str)
theorem RpL.cut {K : PySem.W.Frag} {B : Hp} {vs : List V} {ds : List D} (h : RpL K B vs ds) (lo hi : Option Int) : RpL K B (cutV vs lo hi) (cutD ds lo hi) := by
  unfold cutV cutD
  rw [h.length]
  exact (h.drop _).take _
theorem ls_all {K : PySem.W.Frag} {ρ : Rho} {σ : St} {B H : Hp} {x : V} {Q : VK} {d : D} {h : Hd} {lo hi : Option Int} (S : Sim K ρ σ B H) (tx : Tp K B H x d) (e : slD lo hi d = some h)
    (k : ∀ v B' H', Sim K ρ σ B' H' → Ext ρ σ B H ρ σ B' H' → HdOk K (New ρ σ H) ρ σ B' H' v h → Q v H') : rSlAll K x lo hi H Q := by
  cases d with
  | list ds =>
    cases e
    obtain ⟨a, vs, rfl, ha, ra⟩ := tx
    exact .inl ⟨a, vs, rfl, ha, newL S (ra.cut lo hi) k⟩
  | tuple ds =>
    cases e
    obtain ⟨a, vs, rfl, ha, ra⟩ := tx.tup
    refine .inr (.inl ⟨a, vs, rfl, same_t S.bh ha, fun w => ?_, fun _ => newT S (ra.cut lo hi) k⟩)
    have ec : cutD ds lo hi = ds := by
      unfold cutD
      rw [← ra.length, w.1, w.2, List.drop_zero, Nat.sub_zero, ra.length, List.take_length]
    rw [ec] at k
    exact now S (.tup ha ra) k
  | str z =>
    obtain ⟨c, rfl⟩ := if_some e
    rw [tx.str]
    exact .inr (.inr ⟨z, rfl, c, now S (.str _) k⟩)
  | _ => cases e
/-- a part of a slice: nothing, or an int -/
inductive PartOk (X : Cx) (C : Ct) : Option Expr → TO → Option EF → Prop
  | non : PartOk X C none tNoPart none
  | some {e : Expr} {t : TE} {f : EF} : SE X C e t f → PartOk X C (some e) (tPart t) (some f)
def ePart (f : Option EF) (ρ : Rho) (k : Option Int → Rho → RE) : RE := match f with
  | none => k none ρ
  | some g => bindE (eSet g ρ) fun h ρ1 => match getH ρ1 h with
    | some (.int i) => k (some i) ρ1
    | _ => .stuck
def eSl (fe : EF) (fl fh : Option EF) : EF := fun ρ => bindE (eSet fe ρ) fun h ρ1 => ePart fl ρ1 fun lo ρ2 => ePart fh ρ2 fun hi ρ3 => match (getH ρ3 h).bind (slD lo hi) with
  | some r => .ok r ρ3
  | none => .stuck
theorem PartOk.pe {o : Option Expr} {t : TO} {f : Option EF} (h : PartOk X C o t f) : PO X o t := by
  cases h with
  | non => exact po_none
  | some s => exact po_some s.pe
theorem PartOk.bind {o : Option Expr} {t : TO} {f : Option EF} (h : PartOk X C o t f) {ρ : Rho} {σ : St} {B H : Hp} {Q : VK} (S : Sim C.K ρ σ B H) {k : Option Int → Rho → RE} {Q' : Option Int → Hp → Prop} (g : GoodE C ρ σ B H Q (ePart f ρ k))
    (q : ∀ i ρ1 B1 H1, Sim C.K ρ1 σ B1 H1 → Ext ρ σ B H ρ1 σ B1 H1 → GoodE C ρ1 σ B1 H1 Q (k i ρ1) → Q' i H1) : t σ H Q' := by
  cases h with
  | non => exact q none ρ B H S Ext.refl g
  | some s =>
    refine s.lk.setBind S g fun hd ρ1 x B1 H1 S1 e1 y1 g1 => ?_
    split at g1
    · rename_i i ei
      exact ⟨i, (S1.tp y1 ei).int, q (Option.some i) ρ1 B1 H1 S1 e1 g1⟩
    · exact g1.elim
theorem se_slice {lo hi : Option Expr} {tl th : TO} {fl fh : Option EF} (le : SE X C e te fe) (hl : PartOk X C lo tl fl) (hh : PartOk X C hi th fh) (hk : X.K = C.K := by rfl) :
    SE X C (.Subscript e (.Slice lo hi none p2) pos) (tSl (rSlAll C.K) te tl th) (eSl fe fl fh) := by
  refine ⟨by rw [← hk]; exact pe_slice sl_all le.pe hl.pe hh.pe, fun ρ σ B H Q S g => ?_⟩
  refine le.lk.setBind S g fun hd ρ1 x B1 H1 S1 e1 y1 g1 => ?_
  refine hl.bind S1 g1 fun i ρ2 B2 H2 S2 e2 g2 => ?_
  refine hh.bind S2 g2 fun j ρ3 B3 H3 S3 e3 g3 => ?_
  split at g3
  · rename_i r er
    obtain ⟨d, ed, es⟩ := Option.bind_eq_some_iff.mp er
    exact ls_all S3 (S3.tp (N := fun _ => True) (HdOk.ext (e2.trans e3) y1) ed) es g3
  · exact g3.elim
def GoodT (C : Ct) (ρ : Rho) (σ : St) (B H : Hp) (Q : Bool → Hp → Prop) : RE → Prop
  | .ok (.sh (.bool b)) ρ' => ∀ B' H', Sim C.K ρ' σ B' H' → Ext ρ σ B H ρ' σ B' H' → Q b H'
  | .exc x ρ' => ∀ cls dct B' H', Sim C.K ρ' σ B' H' → Ext ρ σ B H ρ' σ B' H' → XcOk C B' x cls dct → C.W cls dct σ H'
  | _ => False
def LkT (C : Ct) (t : TT) (f : EF) : Prop := ∀ ρ σ B H Q, Sim C.K ρ σ B H → GoodT C ρ σ B H Q (f ρ) → t σ H Q
structure ST (X : Cx) (C : Ct) (e : Expr) (t : TT) (f : EF) : Prop where
  pt : PT X e t
  lk : LkT C t f
structure SW (X : Cx) (C : Ct) (e : Expr) (t : TT) (f : EF) : Prop where
  pw : PW X e t
  lk : LkT C t f
theorem SW.st {t : TT} {f : EF} (h : SW X C e t f) : ST X C e t f := ⟨h.pw.pt, h.lk⟩
theorem GoodT.ext {ρ ρ1 : Rho} {σ : St} {B H B1 H1 : Hp} {Q : Bool → Hp → Prop} (x : Ext ρ σ B H ρ1 σ B1 H1) : ∀ {r : RE}, GoodT C ρ σ B H Q r → GoodT C ρ1 σ B1 H1 Q r := fun {r} g => by
  cases r with
  | stuck => exact g
  | exc c ρ2 => exact fun cls dct B' H' s y => g cls dct B' H' s (x.trans y)
  | ok h ρ2 =>
    cases h with
    | sh d =>
      cases d with
      | bool b => exact fun B' H' s y => g B' H' s (x.trans y)
      | _ => exact g
    | _ => exact g
/-- a bool: looked at -/
def eB (f : EF) : EF := fun ρ => bindE (eSet f ρ) fun h ρ1 => match getH ρ1 h with
  | some (.bool b) => .ok (.sh (.bool b)) ρ1
  | _ => .stuck
theorem lk_B {t : TE} {f : EF} (l : LkE C t f) : LkT C (tB t) (eB f) := fun ρ σ B H Q S g => by
  refine l.set ρ σ B H _ S ?_
  unfold eB at g
  cases e : eSet f ρ with
  | stuck => rw [e] at g; exact g
  | exc c ρ1 => rw [e] at g; exact g
  | ok h ρ1 =>
    rw [e] at g
    replace g : GoodT C ρ σ B H Q (match getH ρ1 h with | some (.bool b) => .ok (.sh (.bool b)) ρ1 | _ => .stuck) := g
    intro v B1 H1 S1 x y
    split at g
    · rename_i b eb
      exact ⟨b, (S1.tp y eb).bl, g B1 H1 S1 x⟩
    · exact g.elim
theorem st_val {t : TE} {f : EF} (h : SE X C e t f) (he : ∀ whole, isTrue e X.env whole = (do let v ← whole; standAt e.pos; holding [v] (truthy v)) := by intro _; rfl) : ST X C e (tB t) (eB f) := ⟨pt_val h.pe he, lk_B h.lk⟩
theorem se_cmp {op : CmpOp} {r : R2} {o : D → D → Option Hd} (hr : OpL C.K r o) (ho : OpR X (compareOp op) r) (la : SE X C a ta fa) (lb : SE X C b tb fb) (hm : behindInMarks op b = false := by first | exact nomark _ | rfl) : SE X C (.Compare a [op] [b] pos) (tOp r ta tb) (eBin o fa fb) :=
  ⟨pe_cmpR ho la.pe lb.pe hm, lk_op hr la.lk lb.lk⟩
theorem st_cmp {op : CmpOp} {r : R2} {o : D → D → Option Hd} (hr : OpL C.K r o) (ho : OpR X (compareOp op) r) (la : SE X C a ta fa) (lb : SE X C b tb fb) (hm : behindInMarks op b = false := by first | exact nomark _ | rfl) : ST X C (.Compare a [op] [b] pos) (tTest (tOp r ta tb)) (eB (eBin o fa fb)) :=
  ⟨pt_cmpR ho la.pe lb.pe hm, lk_B (lk_op hr la.lk lb.lk)⟩
/-- a test, then what follows -/
theorem LkT.bind {t : TT} {f : EF} (l : LkT C t f) {ρ : Rho} {σ : St} {B H : Hp} (S : Sim C.K ρ σ B H) {Q' : Bool → Hp → Prop}
    (hx : ∀ x ρ1, f ρ = .exc x ρ1 → ∀ cls dct B' H', Sim C.K ρ1 σ B' H' → Ext ρ σ B H ρ1 σ B' H' → XcOk C B' x cls dct → C.W cls dct σ H')
    (h : ∀ b ρ1, f ρ = .ok (.sh (.bool b)) ρ1 → ∀ B1 H1, Sim C.K ρ1 σ B1 H1 → Ext ρ σ B H ρ1 σ B1 H1 → Q' b H1) (hs : (∃ b ρ1, f ρ = .ok (.sh (.bool b)) ρ1) ∨ ∃ x ρ1, f ρ = .exc x ρ1) : t σ H Q' := by
  refine l ρ σ B H Q' S ?_
  rcases hs with ⟨b, ρ1, e⟩ | ⟨x, ρ1, e⟩
  · rw [e]; exact h b ρ1 e
  · rw [e]; exact hx x ρ1 e
def bindB (r : RE) (k : Bool → Rho → RE) : RE := match r with
  | .ok (.sh (.bool b)) ρ => k b ρ
  | .exc x ρ => .exc x ρ
  | _ => .stuck
theorem LkT.bindE {t : TT} {f : EF} (l : LkT C t f) {ρ : Rho} {σ : St} {B H : Hp} (S : Sim C.K ρ σ B H) {Q : VK} {k : Bool → Rho → RE} {Q' : Bool → Hp → Prop} (g : GoodE C ρ σ B H Q (bindB (f ρ) k))
    (h : ∀ b ρ1 B1 H1, Sim C.K ρ1 σ B1 H1 → Ext ρ σ B H ρ1 σ B1 H1 → GoodE C ρ1 σ B1 H1 Q (k b ρ1) → Q' b H1) : t σ H Q' := by
  refine l ρ σ B H Q' S ?_
  cases e : f ρ with
  | stuck => rw [e] at g; exact g
  | exc x ρ1 => rw [e] at g; exact g
  | ok hd ρ1 =>
    rw [e] at g
    cases hd with
    | sh d =>
      cases d with
      | bool b => exact fun B1 H1 s x => h b ρ1 B1 H1 s x (GoodE.ext x g)
      | _ => exact g
    | _ => exact g
theorem LkT.bindT {t : TT} {f : EF} (l : LkT C t f) {ρ : Rho} {σ : St} {B H : Hp} (S : Sim C.K ρ σ B H) {Q : Bool → Hp → Prop} {k : Bool → Rho → RE} {Q' : Bool → Hp → Prop} (g : GoodT C ρ σ B H Q (bindB (f ρ) k))
    (h : ∀ b ρ1 B1 H1, Sim C.K ρ1 σ B1 H1 → Ext ρ σ B H ρ1 σ B1 H1 → GoodT C ρ1 σ B1 H1 Q (k b ρ1) → Q' b H1) : t σ H Q' := by
  refine l ρ σ B H Q' S ?_
  cases e : f ρ with
  | stuck => rw [e] at g; exact g
  | exc x ρ1 => rw [e] at g; exact g
  | ok hd ρ1 =>
    rw [e] at g
    cases hd with
    | sh d =>
      cases d with
      | bool b => exact fun B1 H1 s x => h b ρ1 B1 H1 s x (GoodT.ext x g)
      | _ => exact g
    | _ => exact g
def eNot (f : EF) : EF := fun ρ => bindB (f ρ) fun b ρ1 => .ok (.sh (.bool (!b))) ρ1
def eOr (f g : EF) : EF := fun ρ => bindB (f ρ) fun b ρ1 => if b then .ok (.sh (.bool true)) ρ1 else g ρ1
def eIf (f g h : EF) : EF := fun ρ => bindB (f ρ) fun b ρ1 => if b then g ρ1 else h ρ1
variable {t u w : TT} {f g h : EF}
theorem st_not (l : ST X C a t f) : ST X C (.UnaryOp .Not a pos) (tNot t) (eNot f) := ⟨pt_not l.pt, fun ρ σ B H Q S g => l.lk.bindT S g fun b ρ1 B1 H1 S1 e1 g1 => g1 B1 H1 S1 Ext.refl⟩
theorem sw_one {op : BoolOp} (l : ST X C a t f) : SW X C (.BoolOp op [a] pos) t f := by
  cases op
  · exact ⟨pw_and1 l.pt, l.lk⟩
  · exact ⟨pw_or1 l.pt, l.lk⟩
theorem sw_or {rest : List Expr} (l : ST X C a t f) (m : SW X C (.BoolOp .Or (b :: rest) pos) u g) : SW X C (.BoolOp .Or (a :: b :: rest) pos) (tOr t u) (eOr f g) :=
  ⟨pw_or l.pt m.pw, fun ρ σ B H Q S gd => l.lk.bindT S gd fun b ρ1 B1 H1 S1 e1 g1 => by
    cases b with
    | false => exact m.lk ρ1 σ B1 H1 Q S1 g1
    | true => exact g1 B1 H1 S1 Ext.refl⟩
theorem se_if (l : ST X C c t f) (la : SE X C a ta fa) (lb : SE X C b tb fb) : SE X C (.IfExp c a b pos) (tIf t ta tb) (eIf f fa fb) := ⟨pe_ifExp l.pt la.pe lb.pe, fun ρ σ B H Q S g => l.lk.bindE S g fun b ρ1 B1 H1 S1 e1 g1 => by
  cases b with
  | true => exact la.lk ρ1 σ B1 H1 Q S1 g1
  | false => exact lb.lk ρ1 σ B1 H1 Q S1 g1⟩
end
end GS
namespace GS
open PySem L2
section
variable {X : Cx} {C : Ct} {e : Expr} {es : List Expr} {te : TE} {fe : EF} {pos : Pos}
/-- a name, looked at -/
def eVb (i : Nat) : EF := fun ρ => match slot ρ i with
  | some _ => .ok (.bw i) ρ
  | none => .stuck
/-- a name whose datum is shared from here on -/
def eMv (i : Nat) : EF := fun ρ => match slot ρ i with
  | some ⟨d, .sh⟩ => .ok (.sh d) ρ
  | some ⟨d, .ow⟩ => .ok (.sh d) (ρ.set i (some ⟨d, .sh⟩))
  | _ => .stuck
def eC (d : D) : EF := fun ρ => .ok (.sh d) ρ
theorem set_get {ρ : Rho} {i j : Nat} {c : Option Cel} {x : Option Cel} (h : (ρ.set i c)[j]? = some x) : (i = j ∧ x = c) ∨ (i ≠ j ∧ ρ[j]? = some x) := by
  rw [List.getElem?_set] at h
  by_cases e : i = j
  · rw [if_pos e] at h
    split at h
    · cases h; exact .inl ⟨e, rfl⟩
    · cases h
  · rw [if_neg e] at h
    exact .inr ⟨e, h⟩
theorem set_at {ρ : Rho} {i : Nat} {c : Option Cel} (h : i < ρ.length) : (ρ.set i c)[i]? = some c := by
  rw [List.getElem?_set, if_pos rfl, if_pos h]
theorem set_other {ρ : Rho} {i j : Nat} {c : Option Cel} (h : i ≠ j) : (ρ.set i c)[j]? = ρ[j]? := by
  rw [List.getElem?_set, if_neg h]
theorem lt_of {ρ : Rho} {i : Nat} {x : Option Cel} (h : ρ[i]? = some x) : i < ρ.length := (List.getElem?_eq_some_iff.mp h).1
theorem se_vb (i : Nat) {x : Str} (hN : X.N[i]? = some x := by rfl) (hv : Vis X.env.scope x := by first | exact Or.inl rfl | exact Or.inr (Or.inl rfl) | exact Or.inr (Or.inr rfl)) (hd : (x == ("__debug__" : Str)) = false := by decide)
    (hcd : (x == ("__classdict__" : Str)) = false := by decide) : SE X C (.Name x pos) (tVar i) (eVb i) := ⟨pe_var hN hv hd hcd, lk_vb⟩
theorem se_mv (i : Nat) {x : Str} (hN : X.N[i]? = some x := by rfl) (hv : Vis X.env.scope x := by first | exact Or.inl rfl | exact Or.inr (Or.inl rfl) | exact Or.inr (Or.inr rfl)) (hd : (x == ("__debug__" : Str)) = false := by decide)
    (hcd : (x == ("__classdict__" : Str)) = false := by decide) : SE X C (.Name x pos) (tVar i) (eMv i) := ⟨pe_var hN hv hd hcd, lk_mv⟩
theorem lk_c {v : V} {d : D} (h : ∀ B, Rp C.K B v d) : LkE C (tC v) (eC d) := fun ρ σ B H Q S g => g v B H S Ext.refl (h B)
theorem se_int {i : Int} {j : Nat} : SE X C (.Constant (.int i) j pos) (tC (.int i)) (eC (.int i)) := ⟨pe_int, lk_c fun _ => .int i⟩
theorem se_str {i : Str} {j : Nat} : SE X C (.Constant (.str i) j pos) (tC (.str i)) (eC (.str i)) := ⟨pe_str, lk_c fun _ => .str i⟩
theorem se_bl {i : Bool} {j : Nat} : SE X C (.Constant (.bool i) j pos) (tC (.bl i)) (eC (.bool i)) := ⟨pe_bl, lk_c fun _ => .bl i⟩
inductive RA where | stuck | ok (hs : List Hd) (ρ : Rho) | exc (x : Xc) (ρ : Rho)
abbrev AF := Rho → RA
def HsOk (K : PySem.W.Frag) (σ : St) (B : Hp) (v : V) : Hd → Prop
  | .sh d => Rp K B v d
  | .fr _ => False
  | .bw i => σ[i]? = some (some v)
inductive HdL (K : PySem.W.Frag) (σ : St) (B : Hp) : List V → List Hd → Prop
  | nil : HdL K σ B [] []
  | cons {v : V} {vs : List V} {h : Hd} {hs : List Hd} : HsOk K σ B v h → HdL K σ B vs hs → HdL K σ B (v :: vs) (h :: hs)
theorem HsOk.mono {K : PySem.W.Frag} {σ : St} {B B1 : Hp} (e : Same B B1) {v : V} : ∀ {h : Hd}, HsOk K σ B v h → HsOk K σ B1 v h
  | .sh _, q => Rp.mono e q
  | .fr _, q => q
  | .bw _, q => q
theorem HdL.mono {K : PySem.W.Frag} {σ : St} {B B1 : Hp} (e : Same B B1) : ∀ {vs : List V} {hs : List Hd}, HdL K σ B vs hs → HdL K σ B1 vs hs
  | _, _, .nil => .nil
  | _, _, .cons h t => .cons (h.mono e) (HdL.mono e t)
theorem HdL.length {K : PySem.W.Frag} {σ : St} {B : Hp} : ∀ {vs : List V} {hs : List Hd}, HdL K σ B vs hs → vs.length = hs.length
  | _, _, .nil => rfl
  | _, _, .cons h t => by rw [List.length_cons, List.length_cons, HdL.length t]
def GoodA (C : Ct) (ρ : Rho) (σ : St) (B H : Hp) (Q : List V → Hp → Prop) : RA → Prop
  | .stuck => False
  | .ok hs ρ' => ∀ vs B' H', Sim C.K ρ' σ B' H' → Ext ρ σ B H ρ' σ B' H' → HdL C.K σ B' vs hs → Q vs H'
  | .exc x ρ' => ∀ cls dct B' H', Sim C.K ρ' σ B' H' → Ext ρ σ B H ρ' σ B' H' → XcOk C B' x cls dct → C.W cls dct σ H'
def LkA (C : Ct) (t : TA) (f : AF) : Prop := ∀ ρ σ B H Q, Sim C.K ρ σ B H → GoodA C ρ σ B H Q (f ρ) → t σ H Q
structure SA (X : Cx) (C : Ct) (es : List Expr) (t : TA) (f : AF) : Prop where
  pa : PA X es t
  lk : LkA C t f
def aNil : AF := fun ρ => .ok [] ρ
def aCons (f : EF) (g : AF) : AF := fun ρ => match eSet f ρ with
  | .stuck => .stuck
  | .exc x ρ1 => .exc x ρ1
  | .ok h ρ1 => match g ρ1 with
    | .stuck => .stuck
    | .exc x ρ2 => .exc x ρ2
    | .ok hs ρ2 => .ok (h :: hs) ρ2
theorem GoodA.ext {ρ ρ1 : Rho} {σ : St} {B H B1 H1 : Hp} {Q : List V → Hp → Prop} (x : Ext ρ σ B H ρ1 σ B1 H1) : ∀ {r : RA}, GoodA C ρ σ B H Q r → GoodA C ρ1 σ B1 H1 Q r
  | .stuck, g => g
  | .ok _ _, g => fun vs B' H' s y z => g vs B' H' s (x.trans y) z
  | .exc _ _, g => fun c d B' H' s y z => g c d B' H' s (x.trans y) z
theorem hs_of {K : PySem.W.Frag} {N : Addr → Prop} {ρ : Rho} {σ : St} {B H : Hp} {v : V} {h : Hd} (y : HdOk K N ρ σ B H v (setl h)) : HsOk K σ B v (setl h) := by
  cases h <;> exact y
theorem sa_nil : SA X C [] tNil aNil := ⟨pa_nil, fun ρ σ B H Q S g => g [] B H S Ext.refl .nil⟩
theorem sa_cons {t : TA} {g : AF} (l : SE X C e te fe) (m : SA X C es t g) (hs : starEach (e :: es) X.env = (false, eval e X.env) :: starEach es X.env := by rfl) : SA X C (e :: es) (tCons te t) (aCons fe g) := ⟨pa_cons l.pe m.pa hs, fun ρ σ B H Q S gd => by
  refine l.lk.set ρ σ B H _ S ?_
  unfold aCons at gd
  cases e : eSet fe ρ with
  | stuck => rw [e] at gd; exact gd
  | exc x ρ1 => rw [e] at gd; exact gd
  | ok h ρ1 =>
    rw [e] at gd
    intro v B1 H1 S1 x1 y1
    have y2 : HsOk C.K σ B1 v h := by
      unfold eSet bindE at e
      split at e
      · cases e
      · rename_i h' ρ' e'
        cases e
        exact hs_of y1
      · cases e
    refine m.lk ρ1 σ B1 H1 _ S1 ?_
    cases e2 : g ρ1 with
    | stuck => simp only [e2] at gd; exact gd
    | exc x ρ2 => simp only [e2] at gd; exact GoodA.ext x1 (r := .exc x ρ2) gd
    | ok hs ρ2 =>
      simp only [e2] at gd
      exact fun vs B2 H2 S2 x2 y3 => gd (v :: vs) B2 H2 S2 (x1.trans x2) (.cons (y2.mono x2.bb) y3)⟩
def bindA (r : RA) (k : List Hd → Rho → RE) : RE := match r with
  | .stuck => .stuck
  | .ok hs ρ => k hs ρ
  | .exc x ρ => .exc x ρ
theorem LkA.bind {t : TA} {f : AF} (l : LkA C t f) {ρ : Rho} {σ : St} {B H : Hp} (S : Sim C.K ρ σ B H) {Q : VK} {k : List Hd → Rho → RE} {Q' : List V → Hp → Prop} (g : GoodE C ρ σ B H Q (bindA (f ρ) k))
    (h : ∀ hs ρ1 vs B1 H1, Sim C.K ρ1 σ B1 H1 → Ext ρ σ B H ρ1 σ B1 H1 → HdL C.K σ B1 vs hs → GoodE C ρ1 σ B1 H1 Q (k hs ρ1) → Q' vs H1) : t σ H Q' := by
  refine l ρ σ B H Q' S ?_
  cases e : f ρ with
  | stuck => rw [e] at g; exact g
  | exc x ρ1 => rw [e] at g; exact g
  | ok hs ρ1 =>
    rw [e] at g
    exact fun vs B1 H1 s x y => h hs ρ1 vs B1 H1 s x y (GoodE.ext x g)
/-- all are data of their own -/
def shs : List Hd → Option (List D)
  | [] => some []
  | .sh d :: hs => (shs hs).map (d :: ·)
  | _ :: _ => none
theorem shs_ok {K : PySem.W.Frag} {σ : St} {B : Hp} : ∀ {vs : List V} {hs : List Hd} {ds : List D}, HdL K σ B vs hs → shs hs = some ds → RpL K B vs ds
  | _, _, _, .nil, e => by cases e; exact .nil
  | _, .sh d :: hs, _, .cons h t, e => by
    obtain ⟨r, er, rfl⟩ := Option.map_eq_some_iff.mp (show (shs hs).map (d :: ·) = some _ from e)
    exact .cons h (shs_ok t er)
/-- what they are, looked at -/
def gets (ρ : Rho) : List Hd → Option (List D)
  | [] => some []
  | h :: hs => match getH ρ h, gets ρ hs with
    | some d, some ds => some (d :: ds)
    | _, _ => none
inductive TpL (K : PySem.W.Frag) (B H : Hp) : List V → List D → Prop
  | nil : TpL K B H [] []
  | cons {v : V} {vs : List V} {d : D} {ds : List D} : Tp K B H v d → TpL K B H vs ds → TpL K B H (v :: vs) (d :: ds)
theorem hd_hs {K : PySem.W.Frag} {N : Addr → Prop} {ρ : Rho} {σ : St} {B H : Hp} {v : V} : ∀ {h : Hd}, HsOk K σ B v h → HdOk K N ρ σ B H v h
  | .sh _, q => q
  | .bw _, q => q
theorem gets_ok {ρ : Rho} {σ : St} {B H : Hp} (S : Sim C.K ρ σ B H) : ∀ {vs : List V} {hs : List Hd} {ds : List D}, HdL C.K σ B vs hs → gets ρ hs = some ds → TpL C.K B H vs ds
  | _, _, _, .nil, e => by cases e; exact .nil
  | _, h :: hs, _, .cons y t, e => by
    unfold gets at e
    split at e
    · rename_i d ds e1 e2
      cases e
      exact .cons (S.tp (N := fun _ => True) (hd_hs y) e1) (gets_ok S t e2)
    · cases e
def eLst (f : AF) : EF := fun ρ => bindA (f ρ) fun hs ρ1 => match shs hs with
  | some ds => if ds.length ≤ 1000 then .ok (.fr (.list ds)) ρ1 else .stuck
  | none => .stuck
theorem small {n : Nat} (h : n ≤ 1000) : n ≤ sizeLine := Nat.le_of_lt (small1000 h)
theorem se_lst {t : TA} {f : AF} (l : SA X C es t f) : SE X C (.List es pos) (tLst t) (eLst f) := ⟨pe_lst l.pa, fun ρ σ B H Q S g => by
  refine l.lk.bind S g fun hs ρ1 vs B1 H1 S1 x1 y1 g1 => ?_
  split at g1
  · rename_i ds e
    split at g1
    · have r := shs_ok y1 e
      exact ⟨by rw [r.length]; exact small (by assumption), newL S1 r g1⟩
    · exact g1.elim
  · exact g1.elim⟩
def CalL (K : PySem.W.Frag) (r : List V → Hp → VK → Prop) (o : List D → Option Hd) : Prop := ∀ ρ σ B H xs ds h Q, Sim K ρ σ B H → TpL K B H xs ds → o ds = some h →
  (∀ v B' H', Sim K ρ σ B' H' → Ext ρ σ B H ρ σ B' H' → HdOk K (New ρ σ H) ρ σ B' H' v h → Q v H') → r xs H Q
def eCB (o : List D → Option Hd) (f : AF) : EF := fun ρ => bindA (f ρ) fun hs ρ1 => match (gets ρ1 hs).bind o with
  | some h => .ok h ρ1
  | none => .stuck
theorem lk_cb {t : TA} {f : AF} {r : List V → Hp → VK → Prop} {o : List D → Option Hd} (hr : CalL C.K r o) (l : LkA C t f) : LkE C (tCB r t) (eCB o f) := fun ρ σ B H Q S g => by
  refine l.bind S g fun hs ρ1 vs B1 H1 S1 x1 y1 g1 => ?_
  split at g1
  · rename_i h e
    obtain ⟨ds, e1, e2⟩ := Option.bind_eq_some_iff.mp e
    exact hr ρ1 σ B1 H1 vs ds h Q S1 (gets_ok S1 y1 e1) e2 g1
  · exact g1.elim
theorem se_cb {x : Str} {id : String} {p : Pos} {t : TA} {f : AF} {r : List V → Hp → VK → Prop} {o : List D → Option Hd} (hr : CalL C.K r o) (hc : CallR X (.builtin id) r) (hm : X.mg x = none) (l : SA X C (e :: es) t f) (hv : bootBuiltins x = some (.builtin id) := by decide +kernel) (hg : Gl X x := by rfl)
    (hn : x ≠ "__name__" := by decide) (hdb : (x == ("__debug__" : Str)) = false := by decide) (he : starEach (e :: es) X.env = (false, eval e X.env) :: starEach es X.env := by rfl) (hpl : (backTo pos (starEach es X.env)).any (·.1) = false := by rfl) :
    SE X C (.Call (.Name x p) (e :: es) [] pos) (tCB r t) (eCB o f) := ⟨pe_callB hc hg hm hv l.pa hn hdb he hpl, lk_cb hr l.lk⟩
theorem se_ct {x : Str} {T : String} {p : Pos} {t : TA} {f : AF} {r : List V → Hp → VK → Prop} {o : List D → Option Hd} (hr : CalL C.K r o) (hc : CallR X (.type T) r) (hm : X.mg x = none) (l : SA X C (e :: es) t f) (hv : bootBuiltins x = some (.type T) := by decide +kernel) (hg : Gl X x := by rfl)
    (hn : x ≠ "__name__" := by decide) (hdb : (x == ("__debug__" : Str)) = false := by decide) (he : starEach (e :: es) X.env = (false, eval e X.env) :: starEach es X.env := by rfl) (hpl : (backTo pos (starEach es X.env)).any (·.1) = false := by rfl) :
    SE X C (.Call (.Name x p) (e :: es) [] pos) (tCB r t) (eCB o f) := ⟨pe_callTy hc hg hm hv l.pa hn hdb he hpl, lk_cb hr l.lk⟩
end
section
variable {K : PySem.W.Frag}
/-- one argument, two -/
def un1 (o : D → Option Hd) : List D → Option Hd
  | [d] => o d
  | _ => none
def un2 (o : D → D → Option Hd) : List D → Option Hd
  | [d, e] => o d e
  | _ => none
theorem CalL.one {r : List V → Hp → VK → Prop} {o : D → Option Hd} (k : ∀ ρ σ B H x d h Q, Sim K ρ σ B H → Tp K B H x d → o d = some h →
    (∀ v B' H', Sim K ρ σ B' H' → Ext ρ σ B H ρ σ B' H' → HdOk K (New ρ σ H) ρ σ B' H' v h → Q v H') → r [x] H Q) : CalL K r (un1 o) := fun ρ σ B H xs ds h Q S y e q => by
  cases y with
  | nil => cases e
  | cons t u =>
    cases u with
    | nil => exact k ρ σ B H _ _ h Q S t e q
    | cons _ _ => cases e
theorem CalL.two {r : List V → Hp → VK → Prop} {o : D → D → Option Hd} (k : ∀ ρ σ B H x y d d' h Q, Sim K ρ σ B H → Tp K B H x d → Tp K B H y d' → o d d' = some h →
    (∀ v B' H', Sim K ρ σ B' H' → Ext ρ σ B H ρ σ B' H' → HdOk K (New ρ σ H) ρ σ B' H' v h → Q v H') → r [x, y] H Q) : CalL K r (un2 o) := fun ρ σ B H xs ds h Q S y e q => by
  cases y with
  | nil => cases e
  | cons t u =>
    cases u with
    | nil => cases e
    | cons u w =>
      cases w with
      | nil => exact k ρ σ B H _ _ _ _ h Q S t u e q
      | cons _ _ => cases e
def lenD : D → Option Hd
  | .list ds => some (.sh (.int ds.length))
  | .tuple ds => some (.sh (.int ds.length))
  | .str z => if z.length ≤ sizeLine then some (.sh (.int z.length)) else none
  | _ => none
def rLen (K : PySem.W.Frag) : List V → Hp → VK → Prop := fun xs H Q => ∃ x n, xs = [x] ∧ LenV K x H n ∧ Q (.int n) H
theorem cl_len : CalL K (rLen K) (un1 lenD) := CalL.one fun ρ σ B H x d h Q S t e k => by
  cases d with
  | list ds =>
    cases e
    obtain ⟨a, vs, rfl, ha, ra⟩ := t
    refine ⟨_, vs.length, rfl, .inl ⟨vs, ha, rfl⟩, ?_⟩
    rw [ra.length]
    exact now S (.int _) k
  | tuple ds =>
    cases e
    obtain ⟨a, vs, rfl, ha, ra⟩ := Tp.tup t
    refine ⟨_, vs.length, rfl, .inr ⟨vs, same_t S.bh ha, rfl⟩, ?_⟩
    rw [ra.length]
    exact now S (.int _) k
  | str z =>
    obtain ⟨c, rfl⟩ := if_some e
    rw [Tp.str t]
    exact ⟨_, z.length, rfl, ⟨c, rfl⟩, now S (.int _) k⟩
  | _ => cases e
def tupleD : D → Option Hd
  | .list ds => some (.sh (.tuple ds))
  | .tuple ds => some (.sh (.tuple ds))
  | _ => none
def rTupleA (K : PySem.W.Frag) : List V → Hp → VK → Prop := fun xs H Q => ∃ p ys, xs = [.ref p] ∧ ((SqL K H p ys ∧ ∀ l, H l = none → Q (.ref l) (upd H l (.tup ys))) ∨ (SqT K H p ys ∧ Q (.ref p) H))
theorem cl_tuple : CalL K (rTupleA K) (un1 tupleD) := CalL.one fun ρ σ B H x d h Q S t e k => by
  cases d with
  | list ds =>
    cases e
    obtain ⟨a, vs, rfl, ha, ra⟩ := t
    exact ⟨a, vs, rfl, .inl ⟨ha, newT S ra k⟩⟩
  | tuple ds =>
    cases e
    obtain ⟨a, vs, rfl, ha, ra⟩ := Tp.tup t
    exact ⟨a, vs, rfl, .inr ⟨same_t S.bh ha, now S (.tup ha ra) k⟩⟩
  | _ => cases e
/-- isinstance of a built-in type -/
def tyOf : D → String
  | .none => "NoneType"
  | .bool _ => "bool"
  | .int _ => "int"
  | .str _ => "str"
  | .list _ => "list"
  | .tuple _ => "tuple"
  | .dict ps => if xnB ps then "Exception" else "dict"
def isXn : D → Bool | .dict ps => xnB ps | _ => false
theorem tyX {B H : Hp} (s : Same B H) {v : V} {d : D} (h : Tp K B H v d) (hx : isXn d = false) : TyX K H v (.type (tyOf d)) := by
  cases d with
  | none => rw [h.non]; exact .base .non
  | bool b => rw [h.bl]; exact .base (.bl b)
  | int i => rw [h.int]; exact .base (.int i)
  | str z => rw [h.str]; exact .base (.str z)
  | list ds =>
    obtain ⟨a, vs, rfl, ha, _⟩ := h
    rcases ha with (ha | ⟨o, ha⟩) | ⟨o, its, n, e, c, _⟩
    · exact .base (.lst ha)
    · exact .base (.frz ha)
    · exact .kList e c
  | tuple ds =>
    obtain ⟨a, vs, rfl, ha, _⟩ := h.tup
    rcases same_t s ha with (ha | ⟨o, ha⟩) | ⟨o, its, n, e, c, _⟩
    · exact .base (.tup ha)
    · exact .fTuple ha
    · exact .kTuple e c
  | dict ps =>
    have hx : xnB ps = false := hx
    rcases h with ⟨a, vs, rfl, ha, _⟩ | ⟨z, _⟩
    · show TyX K H _ (.type (if xnB ps then "Exception" else "dict"))
      rw [hx]
      exact .base (.dK ha)
    · rw [hx] at z; cases z
end
theorem xcB_ok {K : PySem.W.Frag} {cls : Value} (h : xcB K cls = true) : ∃ D, cls = .ref D ∧ (PySem.W.clsIn K D).isSome = true ∧ PySem.W.findIn K (.ref D) "__getattribute__" = some (some (.builtin "BaseException.__getattribute__")) ∧ PySem.W.findIn K (.ref D) "__getattr__" = some none ∧
    PySem.W.subIn K (.ref D) (.type "BaseException") = some true ∧ PySem.W.hasDictIn K D = true ∧ PySem.W.findIn K (.ref D) "__class__" = some (some (.builtin "object.__class__")) ∧ PySem.W.specialIn K (.builtin "object.__class__") "__get__" = some (some (.builtin "getset_descriptor.__get__")) ∧
    PySem.W.takesIn K (.builtin "object.__class__") = some true ∧ PySem.W.mroIn K D (.type "object") = some true ∧ ∀ T ∈ ["tuple", "str", "bool", "int", "list", "dict"], PySem.W.kitOne K (.ref D) (.type T) = some false := by
  unfold xcB at h
  split at h
  · rename_i D
    simp only [Bool.and_eq_true, decide_eq_true_eq] at h
    obtain ⟨h1, h2, h3, h4, h5, h6, h7, h8, h9, h10⟩ := h
    exact ⟨D, rfl, h1, h2, h3, h4, h5, h6, h7, h8, h9, fun T hT => of_decide_eq_true (List.all_eq_true.mp h10 T hT)⟩
  · cases h
theorem exV_at {P : Program} {w : World} {H : Hp} {h : Heap} {a : Addr} {cls : Value} {d : Option Addr} (hok : HOk P w H h) (e : H a = some (exV a cls d)) : ∃ (oe : Obj) (vs : Array Value), h.get? a = some oe ∧ Zc cls d oe ∧ oe.data = .fields vs := by
  have x : ObjOk P w H h a (.ext fun h => ∃ (oe : Obj) (vs : Array Value), h.get? a = some oe ∧ Zc cls d oe ∧ oe.data = .fields vs) := hok a _ e
  exact x.1
theorem exV_inst {X : Cx} {pins : List (Addr × Obj)} {σ : St} {H : Hp} {s : Shared} {a D : Addr} {d : Option Addr} {fs : List (Str × V)} (I : Inv X pins σ H s) (e : H a = some (exV a (.ref D) d)) (x : XdB H d fs) :
    ∃ (oe : Obj) (od : Option Obj), PySem.W.InstAt s.heap a oe D od := by
  obtain ⟨oe, vs, ha, hz, hd⟩ := exV_at I.hok e
  rcases x with ⟨rfl, _⟩ | ⟨dd, rfl, ed⟩
  · exact ⟨oe, none, ha, hz.1, by unfold PySem.W.notCls; rw [hd] <;> rfl, by rw [hz.2]; trivial⟩
  · have hx : ObjOk X.prog X.w H s.heap dd (.xd fs) := I.hok dd _ ed
    obtain ⟨mA, hns, hr⟩ := hx
    obtain ⟨od, ho, hl⟩ := lookIn_ns hns
    exact ⟨oe, some od, ha, hz.1, by unfold PySem.W.notCls; rw [hd] <;> rfl, by rw [hz.2]; exact ho⟩
def rIsX (K : PySem.W.Frag) : List V → Hp → VK → Prop := fun xs H Q => ∃ (a : Addr) (c : V) (D : Addr) (d : Option Addr) (fs : List (Str × V)) (u : Value) (b : Bool), xs = [.ref a, c] ∧ ClsV c u ∧ H a = some (exV a (.ref D) d) ∧ XdB H d fs ∧ xcB K (.ref D) = true ∧ PySem.W.kitOne K (.ref D) u = some b ∧ Q (.bl b) H
theorem call_isX {X : Cx} : CallR X (.builtin "isinstance") (rIsX X.K) := by
  intro pins s σ H xs us Q I r h
  obtain ⟨a, c, D, d, fs, u, b, rfl, k, ea, xd, xb, e, q⟩ := h
  obtain ⟨u1, u2, rfl, r1, r2⟩ := vals2 r
  have e2 := k.eq r2
  subst e2
  obtain rfl : u1 = Value.ref a := r1
  obtain ⟨oe, od, J⟩ := exV_inst I ea xd
  obtain ⟨D', eD, h1, h2, h3, h4, h5, h6, h7, h8, h9, _⟩ := xcB_ok xb
  cases eD
  exact PySem.W.kia_one (PySem.W.kitx_exc h1 h2 h3 h4 h6 h7 h8 h9) I.kIn J e (fun z => nomatch z) fun tk => ⟨.bl b, H, I.tok tk, rfl, q⟩
def rIsiA (K : PySem.W.Frag) : List V → Hp → VK → Prop := fun xs H Q => rIsi K xs H Q ∨ rIsX K xs H Q
theorem call_isiA {X : Cx} : CallR X (.builtin "isinstance") (rIsiA X.K) := by
  intro pins s σ H xs us Q I r h
  rcases h with h | h
  · exact call_isi pins s σ H xs us Q I r h
  · exact call_isX pins s σ H xs us Q I r h
/-- what is kept of an exception's datum -/
theorem Tp.xn {K : PySem.W.Frag} {B H : Hp} {v : V} {d : D} (s : Same B H) (h : Tp K B H v d) (hx : isXn d = true) : ∃ (a : Addr) (c : Str) (dd : Option Addr) (fs : List (Str × V)) (ds : List D), v = .ref a ∧ d = xnD c (fs.map (·.1)) ds ∧ H a = some (exV a (cvK K c) dd) ∧ xcB K (cvK K c) = true ∧ XdB H dd fs ∧ RpL K B (fs.map (·.2)) ds := by
  cases d with
  | dict ps =>
    rcases h with ⟨a, kvs, rfl, _, r⟩ | ⟨_, h⟩
    · have hx : xnB ps = true := hx
      cases r with
      | nil => cases hx
      | @cons k _ _ _ _ _ _ => cases k <;> cases hx
    · cases h with
      | dct _ r =>
        have hx : xnB ps = true := hx
        cases r with
        | nil => cases hx
        | @cons k _ _ _ _ _ _ => cases k <;> cases hx
      | exn h1 h2 h3 h4 => exact ⟨_, _, _, _, _, rfl, rfl, s _ _ h1, h2, h3.mono s, h4⟩
  | _ => cases hx
section
variable {X : Cx} {C : Ct} {e : Expr} {te : TE} {fe : EF} {pos : Pos}
end
end GS
namespace GS
open PySem L2
/-- what a def does: of its parameters' cells what comes back, and the lent cell behind -/
abbrev FF := Rho → RE
def spF (K : PySem.W.Frag) (cv : Str → Value) (n : Nat) (F : FF) : Sp := fun vs H Q E => ∃ ρ B, ρ.length = n ∧ Sim K ρ (vs.map some) B H ∧
  GoodE ⟨K, cv, fun cls d _ H' => E cls d H'⟩ ρ (vs.map some) B H Q (F ρ)
def argC (ρ : Rho) (io : Bool) : Hd → Option Cel
  | .sh d => if io then none else some ⟨d, .sh⟩
  | .bw i => if io then (match slot ρ i with
    | some ⟨d, .ow⟩ => some ⟨d, .io⟩
    | some ⟨d, .io⟩ => some ⟨d, .io⟩
    | _ => none) else none
  | .fr _ => none
/-- the callee's cells; io: the place of the lent argument -/
def args (ρ : Rho) (io : Option Nat) : Nat → List Hd → Option Rho
  | _, [] => some []
  | k, h :: hs => match argC ρ (decide (io = some k)) h, args ρ io (k + 1) hs with
    | some c, some r => some (some c :: r)
    | _, _ => none
def putB (ρ : Rho) (io : Option Nat) (hs : List Hd) (outs : Rho) : Option Rho := match io with
  | none => some ρ
  | some j => match hs[j]? with
    | some (.bw i) => match slot ρ i, slot outs j with
      | some c, some c' => some (ρ.set i (some ⟨c'.d, c.fl⟩))
      | _, _ => none
    | _ => none
def eCall (n : Nat) (io : Option Nat) (F : FF) (fs : AF) : EF := fun ρ => bindA (fs ρ) fun hs ρ1 => match args ρ1 io 0 hs with
  | none => .stuck
  | some ρ0 => if ρ0.length ≠ n then .stuck else match F ρ0 with
    | .stuck => .stuck
    | .ok h outs => match h, putB ρ1 io hs outs with
      | .bw _, _ => .stuck
      | _, none => .stuck
      | _, some ρ2 => .ok h ρ2
    | .exc x outs => match putB ρ1 io hs outs with
      | none => .stuck
      | some ρ2 => .exc x ρ2
theorem argC_sh {ρ : Rho} {b : Bool} {d : D} {c : Cel} (h : argC ρ b (.sh d) = some c) : b = false ∧ c = ⟨d, .sh⟩ := by
  cases b
  · cases h; exact ⟨rfl, rfl⟩
  · cases h
theorem argC_bw {ρ : Rho} {b : Bool} {i : Nat} {c : Cel} (h : argC ρ b (.bw i) = some c) : b = true ∧ ∃ d fl, ρ[i]? = some (some ⟨d, fl⟩) ∧ fl ≠ .sh ∧ c = ⟨d, .io⟩ := by
  cases b
  · cases h
  · refine ⟨rfl, ?_⟩
    replace h : (match slot ρ i with | some ⟨d, .ow⟩ => some ⟨d, .io⟩ | some ⟨d, .io⟩ => some ⟨d, .io⟩ | _ => none) = some c := h
    split at h
    · rename_i d es
      cases h
      exact ⟨d, .ow, slot_some es, by simp, rfl⟩
    · rename_i d es
      cases h
      exact ⟨d, .io, slot_some es, by simp, rfl⟩
    · cases h
theorem args_at {ρ : Rho} {io : Option Nat} : ∀ {k : Nat} {hs : List Hd} {r : Rho}, args ρ io k hs = some r → r.length = hs.length ∧ ∀ (j : Nat) (c : Cel), r[j]? = some (some c) → ∃ h, hs[j]? = some h ∧ argC ρ (decide (io = some (k + j))) h = some c
  | _, [], _, e => by cases e; exact ⟨rfl, fun j c h => by simp at h⟩
  | k, h :: hs, r, e => by
    unfold args at e
    split at e
    · rename_i c r' e1 e2
      cases e
      obtain ⟨l, q⟩ := args_at e2
      refine ⟨by rw [List.length_cons, List.length_cons, l], fun j c' hj => ?_⟩
      cases j with
      | zero => simp at hj; subst hj; exact ⟨h, rfl, e1⟩
      | succ j =>
        obtain ⟨h', q1, q2⟩ := q j c' (by simpa using hj)
        exact ⟨h', by simpa using q1, by rw [show k + (j + 1) = k + 1 + j by omega]; exact q2⟩
    · cases e
theorem args_has {ρ : Rho} {io : Option Nat} : ∀ {k : Nat} {hs : List Hd} {r : Rho} {j : Nat} {h : Hd}, args ρ io k hs = some r → hs[j]? = some h → ∃ c, r[j]? = some (some c)
  | _, [], _, _, _, _, h => by simp at h
  | k, h :: hs, r, j, h', e, hj => by
    unfold args at e
    split at e
    · rename_i c r' e1 e2
      cases e
      cases j with
      | zero => exact ⟨c, rfl⟩
      | succ j =>
        obtain ⟨c', q⟩ := args_has (j := j) e2 (by simpa using hj)
        exact ⟨c', by simpa using q⟩
    · cases e
theorem HdL.get {K : PySem.W.Frag} {σ : St} {B : Hp} : ∀ {vs : List V} {hs : List Hd} {j : Nat} {h : Hd}, HdL K σ B vs hs → hs[j]? = some h → ∃ v, vs[j]? = some v ∧ HsOk K σ B v h
  | _, _, _, _, .nil, e => by simp at e
  | _, _, 0, _, .cons h _, e => by simp at e; subst e; exact ⟨_, rfl, h⟩
  | _, _, j + 1, h, .cons _ t, e => by
    obtain ⟨v, q1, q2⟩ := HdL.get (j := j) (h := h) t (by simpa using e)
    exact ⟨v, by simpa using q1, q2⟩
section
variable {K : PySem.W.Frag} {ρ ρ0 ρ0' ρ2 : Rho} {σ : St} {B H B' H' : Hp} {io : Option Nat} {hs : List Hd} {vs : List V}
/-- the callee's cell j that is lent is the caller's slot i -/
theorem args_own (e : args ρ io 0 hs = some ρ0) {j : Nat} {c : Cel} (hc : ρ0[j]? = some (some c)) (nf : c.fl ≠ .sh) : io = some j ∧ ∃ i d fl, hs[j]? = some (.bw i) ∧ ρ[i]? = some (some ⟨d, fl⟩) ∧ fl ≠ .sh ∧ c = ⟨d, .io⟩ := by
  obtain ⟨_, q⟩ := args_at e
  obtain ⟨h, h1, h2⟩ := q j c hc
  rw [Nat.zero_add] at h2
  cases h with
  | sh d =>
    obtain ⟨_, rfl⟩ := argC_sh h2
    exact absurd rfl nf
  | fr d => cases h2
  | bw i =>
    obtain ⟨b, d, fl, q1, q2, q3⟩ := argC_bw h2
    exact ⟨of_decide_eq_true b, i, d, fl, h1, q1, q2, q3⟩
theorem args_sim (S : Sim K ρ σ B H) (y : HdL K σ B vs hs) (e : args ρ io 0 hs = some ρ0) : Sim K ρ0 (vs.map some) B H := by
  obtain ⟨l, q⟩ := args_at e
  refine ⟨S.bh, by rw [l, List.length_map, y.length], fun j c hj => ?_, fun i j ci cj a hi hj ni nj _ _ => ?_⟩
  · obtain ⟨h, h1, h2⟩ := q j c hj
    obtain ⟨v, hv, ok⟩ := y.get h1
    refine ⟨v, by rw [List.getElem?_map, hv]; rfl, ?_⟩
    by_cases nf : c.fl = .sh
    · refine .inl ⟨nf, ?_⟩
      cases h with
      | sh d =>
        obtain ⟨_, rfl⟩ := argC_sh h2
        exact ok
      | fr d => cases h2
      | bw i =>
        obtain ⟨_, d, fl, _, _, rfl⟩ := argC_bw h2
        cases nf
    · obtain ⟨_, i, d, fl, h3, h4, h5, rfl⟩ := args_own e hj nf
      rw [h1] at h3
      cases h3
      obtain ⟨v', e1, cok⟩ := S.sl i _ h4
      have ok' : σ[i]? = some (some v) := ok
      rw [ok'] at e1
      cases e1
      rcases cok with ⟨z, _⟩ | ⟨_, z⟩
      · exact absurd z h5
      · exact .inr ⟨by simp, z⟩
  · obtain ⟨e1, _⟩ := args_own e hi ni
    obtain ⟨e2, _⟩ := args_own e hj nj
    rw [e1] at e2
    cases e2
    rfl
theorem args_ownA (y : HdL K σ B vs hs) (e : args ρ io 0 hs = some ρ0) {a : Addr} (h : OwnA ρ0 (vs.map some) a) : OwnA ρ σ a := by
  obtain ⟨j, c, h1, h2, h3⟩ := h
  obtain ⟨_, i, d, fl, q1, q2, q3, _⟩ := args_own e h1 h2
  obtain ⟨v, hv, ok⟩ := y.get q1
  rw [List.getElem?_map, hv] at h3
  cases h3
  exact ⟨i, _, q2, q3, ok⟩
/-- behind the call -/
theorem back_sim (S : Sim K ρ σ B H) (y : HdL K σ B vs hs) (e : args ρ io 0 hs = some ρ0) (S' : Sim K ρ0' (vs.map some) B' H') (x : Ext ρ0 (vs.map some) B H ρ0' (vs.map some) B' H') (p : putB ρ io hs ρ0' = some ρ2) :
    Sim K ρ2 σ B' H' ∧ Ext ρ σ B H ρ2 σ B' H' ∧ (∀ a, New ρ0 (vs.map some) H a → New ρ σ H a) ∧ ∀ a, ¬ OwnA ρ0' (vs.map some) a → New ρ0 (vs.map some) H a → ¬ OwnA ρ2 σ a := by
  -- a slot of the caller that is not lent
  have sub0 : ∀ a, OwnA ρ0 (vs.map some) a → OwnA ρ σ a := fun a h => args_ownA y e h
  have newN : ∀ a, New ρ0 (vs.map some) H a → New ρ σ H a := fun a h => h.elim .inl fun h => .inr (sub0 a h)
  -- what ρ2 is
  have key : (∀ (k : Nat) (c : Cel), ρ2[k]? = some (some c) → (ρ[k]? = some (some c) ∧ ∀ j, io = some j → hs[j]? ≠ some (.bw k)) ∨ ∃ j c0 c', io = some j ∧ hs[j]? = some (.bw k) ∧ ρ[k]? = some (some c0) ∧ ρ0'[j]? = some (some c') ∧ c = ⟨c'.d, c0.fl⟩) ∧
      ρ2.length = ρ.length ∧ (∀ (k : Nat) (c : Cel), ρ[k]? = some (some c) → ∃ c2, ρ2[k]? = some (some c2) ∧ c2.fl = c.fl) := by
    unfold putB at p
    split at p
    · cases p
      exact ⟨fun k c h => .inl ⟨h, fun j z => nomatch z⟩, rfl, fun k c h => ⟨c, h, rfl⟩⟩
    · rename_i j
      split at p
      · rename_i i hi
        split at p
        · rename_i c0 c' e1 e2
          cases p
          have e1 := slot_some e1
          have e2 := slot_some e2
          refine ⟨fun k c h => ?_, by rw [List.length_set], fun k c h => ?_⟩
          · rcases set_get h with ⟨rfl, ec⟩ | ⟨ne, h⟩
            · cases ec
              exact .inr ⟨j, c0, c', rfl, hi, e1, e2, rfl⟩
            · refine .inl ⟨h, fun j' z w => ?_⟩
              cases z
              rw [hi] at w
              cases w
              exact ne rfl
          · by_cases hk : i = k
            · subst hk
              rw [e1] at h
              cases h
              exact ⟨_, set_at (lt_of e1), rfl⟩
            · exact ⟨c, by rw [set_other hk]; exact h, rfl⟩
        · cases p
      · cases p
  obtain ⟨k1, k2, k3⟩ := key
  -- an owned slot that is not lent keeps its object
  have keep : ∀ (k : Nat) (c : Cel) (a : Addr), ρ[k]? = some (some c) → c.fl ≠ .sh → σ[k]? = some (some (.ref a)) → (∀ j, io = some j → hs[j]? ≠ some (.bw k)) → ¬ OwnA ρ0 (vs.map some) a := fun k c a hk hf hs' hn ho => by
    obtain ⟨j, c0, h1, h2, h3⟩ := ho
    obtain ⟨q0, i, d, fl, q1, q2, q3, _⟩ := args_own e h1 h2
    obtain ⟨v, hv, ok⟩ := y.get q1
    rw [List.getElem?_map, hv] at h3
    cases h3
    have := S.dj i k _ c a q2 hk q3 hf ok hs'
    subst this
    exact hn j q0 q1
  have ownBack : ∀ a, OwnA ρ2 σ a → OwnA ρ σ a := fun a ⟨k, c, h1, h2, h3⟩ => by
    rcases k1 k c h1 with ⟨h, _⟩ | ⟨j, c0, c', _, _, h, _, rfl⟩
    · exact ⟨k, c, h, h2, h3⟩
    · exact ⟨k, c0, h, h2, h3⟩
  refine ⟨⟨S'.bh, by rw [k2]; exact S.len, fun k c hk => ?_, fun i j ci cj a hi hj ni nj ei ej => ?_⟩, ⟨x.bb, fun a o h => (x.nw a o h).imp id (newN a), fun a o h n => x.kp a o h fun z => n (sub0 a z), fun a h => .inr (ownBack a h), fun k c hk hf => ?_, fun k c hk hf => ?_⟩, newN, fun a n1 n2 ho => ?_⟩
  · rcases k1 k c hk with ⟨h, hn⟩ | ⟨j, c0, c', hj, q1, h, q2, rfl⟩
    · obtain ⟨v, ev, ok⟩ := S.sl k c h
      refine ⟨v, ev, ok.mono x.bb fun a hv hb ho hf => ?_⟩
      subst hv
      obtain ⟨o, eo⟩ := ho
      obtain ⟨r1, r2, _⟩ := x.keepN eo hb (keep k c a h hf ev hn)
      exact ⟨r2, by rw [r1, eo]⟩
    · obtain ⟨v, ev, ok⟩ := y.get q1
      have ok' : σ[k]? = some (some v) := ok
      refine ⟨v, ok', ?_⟩
      -- the lent cell is lent at the start, so it is behind
      obtain ⟨cs, hcs⟩ := args_has e q1
      by_cases hsh : cs.fl = .sh
      · exfalso
        obtain ⟨_, qq⟩ := args_at e
        obtain ⟨h', w1, w2⟩ := qq j cs hcs
        rw [q1] at w1
        cases w1
        obtain ⟨_, d, fl, _, _, rfl⟩ := argC_bw w2
        cases hsh
      · obtain ⟨_, i, d, fl, r1, r2, r3, rfl⟩ := args_own e hcs hsh
        rw [q1] at r1
        cases r1
        rw [h] at r2
        cases r2
        obtain ⟨_, c2, w1, w2⟩ := x.io j _ hcs rfl
        rw [q2] at w1
        cases w1
        obtain ⟨v', e1, cok⟩ := S'.sl j c' q2
        rw [List.getElem?_map, ev] at e1
        cases e1
        rcases cok with ⟨z, _⟩ | ⟨_, z⟩
        · rw [w2] at z; cases z
        · exact .inr ⟨r3, z⟩
  · have f1 : ∃ c1, ρ[i]? = some (some c1) ∧ c1.fl ≠ .sh := by
      rcases k1 i ci hi with ⟨h, _⟩ | ⟨_, c0, _, _, _, h, _, rfl⟩
      · exact ⟨ci, h, ni⟩
      · exact ⟨c0, h, ni⟩
    have f2 : ∃ c1, ρ[j]? = some (some c1) ∧ c1.fl ≠ .sh := by
      rcases k1 j cj hj with ⟨h, _⟩ | ⟨_, c0, _, _, _, h, _, rfl⟩
      · exact ⟨cj, h, nj⟩
      · exact ⟨c0, h, nj⟩
    obtain ⟨c1, a1, a2⟩ := f1
    obtain ⟨c2, b1, b2⟩ := f2
    exact S.dj i j c1 c2 a a1 b1 a2 b2 ei ej
  · obtain ⟨c2, h1, h2⟩ := k3 k c hk
    exact ⟨rfl, c2, h1, by rw [h2, hf]⟩
  · rcases k1 k c hk with ⟨h, _⟩ | ⟨_, c0, _, _, _, h, _, rfl⟩
    · exact ⟨c, h, hf⟩
    · exact ⟨c0, h, hf⟩
  · obtain ⟨k, c, h1, h2, h3⟩ := ho
    rcases k1 k c h1 with ⟨h, hn⟩ | ⟨j, c0, c', hj, q1, h, q2, rfl⟩
    · have n0 := keep k c a h h2 h3 hn
      have := S.ownH ⟨k, c, h, h2, h3⟩
      obtain ⟨_, o, eo⟩ := this
      rcases n2 with z | z
      · rw [eo] at z; cases z
      · exact n0 z
    · obtain ⟨v, ev, ok⟩ := y.get q1
      have ok' : σ[k]? = some (some v) := ok
      rw [h3] at ok'
      cases ok'
      obtain ⟨cs, hcs⟩ := args_has e q1
      by_cases hsh : cs.fl = .sh
      · obtain ⟨_, qq⟩ := args_at e
        obtain ⟨h', w1, w2⟩ := qq j cs hcs
        rw [q1] at w1
        cases w1
        obtain ⟨_, d, fl, _, _, rfl⟩ := argC_bw w2
        cases hsh
      · obtain ⟨_, i, d, fl, r1, r2, r3, rfl⟩ := args_own e hcs hsh
        obtain ⟨_, c2, w1, w2⟩ := x.io j _ hcs rfl
        rw [q2] at w1
        cases w1
        exact n1 ⟨j, c', q2, by rw [w2]; simp, by rw [List.getElem?_map, ev]; rfl⟩
end
section
variable {X : Cx} {C : Ct} {e : Expr} {es : List Expr} {pos p : Pos} {x : Str} {k n : Nat} {f : Addr} {fd : FuncData} {ps : List Str} {io : Option Nat} {F : FF} {t : TA} {g : AF}
theorem lk_call (l : LkA C t g) : LkE C (tCallS (spF C.K C.cv n F) (WE C.W) t) (eCall n io F g) := fun ρ σ B H Q S gd => by
  refine l.bind S gd fun hs ρ1 vs B1 H1 S1 x1 y1 g1 => ?_
  split at g1
  · exact g1.elim
  · rename_i ρ0 ea
    split at g1
    · exact g1.elim
    · rename_i hl
      have hl : ρ0.length = n := Classical.not_not.mp hl
      refine ⟨ρ0, B1, hl, args_sim S1 y1 ea, ?_⟩
      cases ef : F ρ0 with
      | stuck => rw [ef] at g1; exact g1
      | exc c outs =>
        rw [ef] at g1
        dsimp only at g1
        split at g1
        · exact g1.elim
        · rename_i ρ2 ep
          intro cls dct B2 H2 S2 x2 ok
          obtain ⟨S3, x3, _, _⟩ := back_sim S1 y1 ea S2 x2 ep
          exact g1 cls dct B2 H2 S3 x3 ok
      | ok h outs =>
        rw [ef] at g1
        dsimp only at g1
        intro v B2 H2 S2 x2 y2
        cases ep : putB ρ1 io hs outs with
        | none => rw [ep] at g1; cases h <;> exact g1.elim
        | some ρ2 =>
          rw [ep] at g1
          obtain ⟨S3, x3, n1, n2⟩ := back_sim S1 y1 ea S2 x2 ep
          cases h with
          | sh d => exact g1 v B2 H2 S3 x3 y2
          | fr d =>
            obtain ⟨a, r1, r2, r3, r4, r5⟩ := y2
            exact g1 v B2 H2 S3 x3 ⟨a, r1, r2, r3, n2 a r4 r5, n1 a r5⟩
          | bw i => exact g1.elim
theorem se_call (FO : FnOk X.prog X.w X.K X.mg X.base (L2.CX X.prog X.w) k f fd ps (spF C.K C.cv n F)) (hr : Room k X.A) (hm : X.mg x = some (.ref f)) (hkp : PySem.W.keepIn X.K (.ref f) = true) (hb : Binds X.K fd ps []) (tk : Takes X C.W)
    (l : SA X C (e :: es) t g) (io : Option Nat) (hg : Gl X x := by rfl) (hdb : (x == ("__debug__" : Str)) = false := by decide) (he : starEach (e :: es) X.env = (false, eval e X.env) :: starEach es X.env := by rfl)
    (hpl : (backTo pos (starEach es X.env)).any (·.1) = false := by rfl) : SE X C (.Call (.Name x p) (e :: es) [] pos) (tCallS (spF C.K C.cv n F) (WE C.W) t) (eCall n io F g) :=
  ⟨pe_callS FO hr hg hm hkp hb (fun σ => passAt tk σ) l.pa hdb he hpl, lk_call l.lk⟩
end
end GS
namespace GS
open PySem L2
def GoodS (C : Ct) (ρ : Rho) (σ : St) (B H : Hp) (D : Ends) : RS → Prop
  | .stuck => False
  | .nx ρ' => ∀ σ' B' H', Sim C.K ρ' σ' B' H' → Ext ρ σ B H ρ' σ' B' H' → D.nx σ' H'
  | .bk ρ' => ∀ σ' B' H', Sim C.K ρ' σ' B' H' → Ext ρ σ B H ρ' σ' B' H' → D.bk σ' H'
  | .ct ρ' => ∀ σ' B' H', Sim C.K ρ' σ' B' H' → Ext ρ σ B H ρ' σ' B' H' → D.ct σ' H'
  | .rt h ρ' => ∀ v σ' B' H', Sim C.K ρ' σ' B' H' → Ext ρ σ B H ρ' σ' B' H' → HdOk C.K (New ρ σ H) ρ' σ' B' H' v h → D.rt v H'
  | .exc x ρ' => ∀ cls dct σ' B' H', Sim C.K ρ' σ' B' H' → Ext ρ σ B H ρ' σ' B' H' → XcOk C B' x cls dct → C.W cls dct σ' H'
def LkS (C : Ct) (t : TS) (g : SF) : Prop := ∀ ρ σ B H D, Sim C.K ρ σ B H → GoodS C ρ σ B H D (g ρ) → t D σ H
structure SS (X : Cx) (C : Ct) (st : Stmt) (t : TS) (g : SF) : Prop where
  ps : PS X st t
  lk : LkS C t g
structure SSs (X : Cx) (C : Ct) (st : List Stmt) (t : TS) (g : SF) : Prop where
  ps : PSs X st t
  lk : LkS C t g
section
variable {X : Cx} {C : Ct} {ρ ρ1 : Rho} {σ σ1 : St} {B H B1 H1 : Hp} {Ed : Ends} {t u : TS} {f g : SF} {st : Stmt} {rest : List Stmt} {pos : Pos}
theorem GoodS.ext (e : Ext ρ σ B H ρ1 σ1 B1 H1) : ∀ {r : RS}, GoodS C ρ σ B H Ed r → GoodS C ρ1 σ1 B1 H1 Ed r
  | .stuck, h => h
  | .nx _, h => fun σ' B' H' s x => h σ' B' H' s (e.trans x)
  | .bk _, h => fun σ' B' H' s x => h σ' B' H' s (e.trans x)
  | .ct _, h => fun σ' B' H' s x => h σ' B' H' s (e.trans x)
  | .rt _ _, h => fun v σ' B' H' s x y => h v σ' B' H' s (e.trans x) (y.mono fun _ z => e.back z)
  | .exc _ _, h => fun c d σ' B' H' s x => h c d σ' B' H' s (e.trans x)
def sNil : SF := fun ρ => .nx ρ
def bindS (r : RS) (k : Rho → RS) : RS := match r with
  | .nx ρ => k ρ
  | r => r
def sSeq (f g : SF) : SF := fun ρ => bindS (f ρ) g
theorem lk_seq (lf : LkS C t f) (lg : LkS C u g) : LkS C (tSeq t u) (sSeq f g) := fun ρ σ B H D S gd => by
  refine lf ρ σ B H _ S ?_
  unfold sSeq bindS at gd
  cases e : f ρ with
  | nx ρ1 =>
    rw [e] at gd
    exact fun σ' B' H' s x => lg ρ1 σ' B' H' D s (GoodS.ext x gd)
  | stuck => rw [e] at gd; exact gd
  | bk _ => rw [e] at gd; exact gd
  | ct _ => rw [e] at gd; exact gd
  | rt _ _ => rw [e] at gd; exact gd
  | exc _ _ => rw [e] at gd; exact gd
theorem sss_nil : SSs X C [] tNext sNil := ⟨pss_nil, fun ρ σ B H D S g => g σ B H S Ext.refl⟩
theorem sss_cons (a : SS X C st t f) (b : SSs X C rest u g) : SSs X C (st :: rest) (tSeq t u) (sSeq f g) := ⟨pss_cons a.ps b.ps, lk_seq a.lk b.lk⟩
theorem sss_one (a : SS X C st t f) : SSs X C [st] t f := ⟨pss_one a.ps, a.lk⟩
def bindES (r : RE) (k : Hd → Rho → RS) : RS := match r with
  | .stuck => .stuck
  | .ok h ρ => k h ρ
  | .exc x ρ => .exc x ρ
theorem LkE.bindS {te : TE} {fe : EF} (l : LkE C te fe) (S : Sim C.K ρ σ B H) {k : Hd → Rho → RS} {Q' : VK} (g : GoodS C ρ σ B H Ed (bindES (fe ρ) k))
    (h : ∀ hd ρ1 v B1 H1, Sim C.K ρ1 σ B1 H1 → Ext ρ σ B H ρ1 σ B1 H1 → HdOk C.K (New ρ σ H) ρ1 σ B1 H1 v hd → GoodS C ρ σ B H Ed (k hd ρ1) → Q' v H1) : te σ H Q' := by
  refine l ρ σ B H Q' S ?_
  cases e : fe ρ with
  | stuck => rw [e] at g; exact g
  | ok hd ρ1 => rw [e] at g; exact fun v B1 H1 s x y => h hd ρ1 v B1 H1 s x y g
  | exc x ρ1 => rw [e] at g; exact fun c d B' H' s x => g c d σ B' H' s x
variable {e : Expr} {te : TE} {fe : EF}
def sRet (fe : EF) : SF := fun ρ => bindES (fe ρ) fun h ρ1 => match h with
  | .bw i => match capH ρ1 (.bw i) with
    | some d => .rt (.sh d) ρ1
    | none => .stuck
  | h => .rt h ρ1
theorem cap_bw (S : Sim C.K ρ σ B H) {i : Nat} {d : D} {v : V} (y : σ[i]? = some (some v)) (e : capH ρ (.bw i) = some d) : Rp C.K B v d := by
  replace e : (match slot ρ i with | some ⟨d, .sh⟩ => some d | _ => none) = some d := e
  split at e
  · rename_i d' e'
    cases e
    obtain ⟨v', q1, q2⟩ := S.sl i _ (slot_some e')
    rw [y] at q1
    cases q1
    rcases q2 with ⟨_, q2⟩ | ⟨q, _⟩
    · exact q2
    · exact absurd rfl q
  · cases e
theorem ss_ret (l : SE X C e te fe) : SS X C (.Return (some e) pos) (tRet te) (sRet fe) := ⟨ps_ret l.pe, fun ρ σ B H D S g => by
  refine l.lk.bindS S g fun hd ρ1 v B1 H1 S1 x1 y1 g1 => ?_
  cases hd with
  | sh d => exact g1 v σ B1 H1 S1 x1 y1
  | fr d => exact g1 v σ B1 H1 S1 x1 y1
  | bw i =>
    dsimp only at g1
    split at g1
    · rename_i d ed
      exact g1 v σ B1 H1 S1 x1 (cap_bw S1 y1 ed)
    · exact g1.elim⟩
def bindBS (r : RE) (k : Bool → Rho → RS) : RS := match r with
  | .ok (.sh (.bool b)) ρ => k b ρ
  | .exc x ρ => .exc x ρ
  | _ => .stuck
theorem LkT.bindS {tt : TT} {ft : EF} (l : LkT C tt ft) (S : Sim C.K ρ σ B H) {k : Bool → Rho → RS} {Q' : Bool → Hp → Prop} (g : GoodS C ρ σ B H Ed (bindBS (ft ρ) k))
    (h : ∀ b ρ1 B1 H1, Sim C.K ρ1 σ B1 H1 → Ext ρ σ B H ρ1 σ B1 H1 → GoodS C ρ1 σ B1 H1 Ed (k b ρ1) → Q' b H1) : tt σ H Q' := by
  refine l ρ σ B H Q' S ?_
  cases e : ft ρ with
  | stuck => rw [e] at g; exact g
  | exc x ρ1 => rw [e] at g; exact fun c d B' H' s x => g c d σ B' H' s x
  | ok hd ρ1 =>
    rw [e] at g
    cases hd with
    | sh d =>
      cases d with
      | bool b => exact fun B1 H1 s x => h b ρ1 B1 H1 s x (GoodS.ext x g)
      | _ => exact g
    | _ => exact g
def sIf (ft : EF) (f g : SF) : SF := fun ρ => bindBS (ft ρ) fun b ρ1 => if b then f ρ1 else g ρ1
theorem ss_if {c : Expr} {a b : List Stmt} {tt : TT} {ft : EF} (l : ST X C c tt ft) (la : SSs X C a t f) (lb : SSs X C b u g) : SS X C (.If c a b pos) (tIfS tt t u) (sIf ft f g) := ⟨ps_if l.pt la.ps lb.ps, fun ρ σ B H D S gd =>
  l.lk.bindS S gd fun b ρ1 B1 H1 S1 x1 g1 => by
    cases b with
    | true => exact la.lk ρ1 σ B1 H1 D S1 g1
    | false => exact lb.lk ρ1 σ B1 H1 D S1 g1⟩
def ioAt (ρ : Rho) (i : Nat) : Bool := match slot ρ i with
  | some ⟨_, .io⟩ => true
  | _ => false
theorem not_io {i : Nat} (h : ioAt ρ i = false) {c : Cel} (e : ρ[i]? = some (some c)) : c.fl ≠ .io := fun z => by
  unfold ioAt slot at h
  rw [e] at h
  obtain ⟨d, fl⟩ := c
  cases z
  cases h
/-- what may be put into slot i of the state behind -/
theorem store_ok {K : PySem.W.Frag} (S : Sim K ρ1 σ B1 H1) (x : Ext ρ σ B H ρ1 σ B1 H1) {i : Nat} {c : Cel} {v : V} (hi : i < ρ1.length) (hn : ioAt ρ1 i = false) (hf : c.fl ≠ .io) (ok : COk K B1 H1 c v)
    (hnew : c.fl ≠ .sh → ∀ a, v = .ref a → New ρ σ H a ∧ ∀ j cj, i ≠ j → ρ1[j]? = some (some cj) → cj.fl ≠ .sh → σ[j]? ≠ some (some (.ref a))) :
    Sim K (ρ1.set i (some c)) (σ.set i (some v)) B1 H1 ∧ Ext ρ σ B H (ρ1.set i (some c)) (σ.set i (some v)) B1 H1 := by
  have hl := S.len
  have ats : (σ.set i (some v))[i]? = some (some v) := by rw [List.getElem?_set, if_pos rfl, if_pos (by omega)]
  have oth : ∀ j, i ≠ j → (σ.set i (some v))[j]? = σ[j]? := fun j h => by rw [List.getElem?_set, if_neg h]
  refine ⟨⟨S.bh, by rw [List.length_set, List.length_set]; exact hl, fun j cj hj => ?_, fun j k cj ck a hj hk nj nk ej ek => ?_⟩, ⟨x.bb, x.nw, x.kp, fun a ha => ?_, fun j cj hj hjf => ?_, fun j cj hj hjf => ?_⟩⟩
  · rcases set_get hj with ⟨rfl, ec⟩ | ⟨ne, hj⟩
    · cases ec; exact ⟨v, ats, ok⟩
    · rw [oth j ne]; exact S.sl j cj hj
  · rcases set_get hj with ⟨rfl, ec⟩ | ⟨ne, hj⟩
    · rcases set_get hk with ⟨rfl, _⟩ | ⟨ne', hk⟩
      · rfl
      · cases ec
        rw [ats] at ej
        cases ej
        rw [oth k ne'] at ek
        exact absurd ek ((hnew nj a rfl).2 k ck ne' hk nk)
    · rcases set_get hk with ⟨rfl, ec⟩ | ⟨ne', hk⟩
      · cases ec
        rw [ats] at ek
        cases ek
        rw [oth j ne] at ej
        exact absurd ej ((hnew nk a rfl).2 j cj ne hj nj)
      · rw [oth j ne] at ej
        rw [oth k ne'] at ek
        exact S.dj j k cj ck a hj hk nj nk ej ek
  · obtain ⟨j, cj, hj, nj, ej⟩ := ha
    rcases set_get hj with ⟨rfl, ec⟩ | ⟨ne, hj⟩
    · cases ec
      rw [ats] at ej
      cases ej
      exact (hnew nj a rfl).1
    · rw [oth j ne] at ej
      exact x.sub a ⟨j, cj, hj, nj, ej⟩
  · obtain ⟨e1, c1, q1, q2⟩ := x.io j cj hj hjf
    have ne : i ≠ j := fun z => by subst z; exact not_io hn q1 q2
    exact ⟨(oth j ne).trans e1, c1, (set_other ne).trans q1, q2⟩
  · rcases set_get hj with ⟨rfl, ec⟩ | ⟨ne, hj⟩
    · cases ec; exact absurd hjf hf
    · exact x.oi j cj hj hjf
def setR (ρ : Rho) (i : Nat) (c : Cel) : RS := if i < ρ.length && !ioAt ρ i then .nx (ρ.set i (some c)) else .stuck
def setHd (ρ1 : Rho) (i : Nat) : Hd → RS
  | .sh d => setR ρ1 i ⟨d, .sh⟩
  | .fr d => setR ρ1 i ⟨d, .ow⟩
  | .bw j => match capH ρ1 (.bw j) with
    | some d => setR ρ1 i ⟨d, .sh⟩
    | none => .stuck
def sSet (i : Nat) (fe : EF) : SF := fun ρ => bindES (fe ρ) fun h ρ1 => setHd ρ1 i h
theorem setR_ok {i : Nat} {c : Cel} (g : GoodS C ρ σ B H Ed (setR ρ1 i c)) : i < ρ1.length ∧ ioAt ρ1 i = false ∧ ∀ σ' B' H', Sim C.K (ρ1.set i (some c)) σ' B' H' → Ext ρ σ B H (ρ1.set i (some c)) σ' B' H' → Ed.nx σ' H' := by
  unfold setR at g
  split at g
  · rename_i h
    simp only [Bool.and_eq_true, decide_eq_true_eq, Bool.not_eq_true'] at h
    exact ⟨h.1, h.2, g⟩
  · exact g.elim
/-- storing what an expression gave -/
theorem put_hd (S1 : Sim C.K ρ1 σ B1 H1) (x1 : Ext ρ σ B H ρ1 σ B1 H1) {hd : Hd} {v : V} (y1 : HdOk C.K (New ρ σ H) ρ1 σ B1 H1 v hd) {i : Nat} (g : GoodS C ρ σ B H Ed (setHd ρ1 i hd)) : Ed.nx (σ.set i (some v)) H1 := by
  cases hd with
  | sh d =>
    obtain ⟨h1, h2, h3⟩ := setR_ok g
    obtain ⟨S2, x2⟩ := store_ok S1 x1 (c := ⟨d, .sh⟩) h1 h2 (by simp) (.inl ⟨rfl, y1⟩) fun z => absurd rfl z
    exact h3 _ _ _ S2 x2
  | fr d =>
    obtain ⟨h1, h2, h3⟩ := setR_ok g
    obtain ⟨a, rfl, q1, q2, q3, q4⟩ := y1
    obtain ⟨S2, x2⟩ := store_ok S1 x1 (c := ⟨d, .ow⟩) h1 h2 (by simp) (.inr ⟨by simp, a, rfl, q1, q2⟩) fun _ b e => by
      cases e
      exact ⟨q4, fun j cj _ hj nj ej => q3 ⟨j, cj, hj, nj, ej⟩⟩
    exact h3 _ _ _ S2 x2
  | bw j =>
    unfold setHd at g
    dsimp only at g
    split at g
    · rename_i d ed
      obtain ⟨h1, h2, h3⟩ := setR_ok g
      obtain ⟨S2, x2⟩ := store_ok S1 x1 (c := ⟨d, .sh⟩) h1 h2 (by simp) (.inl ⟨rfl, cap_bw S1 y1 ed⟩) fun z => absurd rfl z
      exact h3 _ _ _ S2 x2
    · exact g.elim
theorem lk_set {i : Nat} (l : LkE C te fe) : LkS C (tAsg te (gName i)) (sSet i fe) := fun ρ σ B H D S g =>
  l.bindS S g fun hd ρ1 v B1 H1 S1 x1 y1 g1 => put_hd S1 x1 y1 g1
theorem ss_set {i : Nat} {x : Str} {pos' : Pos} (hN : X.N.Nodup) (l : SE X C e te fe) (hi : X.N[i]? = some x := by rfl) (hx : Loc X.env.scope x := by first | exact Or.inl rfl | exact Or.inr rfl) (hs : swapsWith e (some (.Name x pos')) pos.line X.env = pure false := by rfl)
    (hf : X.fn x = true ∨ X.env.scope.names.lookup x = some .local := by first | exact .inl rfl | exact .inr rfl | assumption) : SS X C (.Assign [.Name x pos'] e pos) (tAsg te (gName i)) (sSet i fe) := ⟨ps_set hN hi hx l.pe hs hf, lk_set l.lk⟩
def LkG (C : Ct) (g : TG) (f : D → Rho → Option Rho) : Prop := ∀ ρ σ B H v d ρ' Q, Sim C.K ρ σ B H → Rp C.K B v d → f d ρ = some ρ' → (∀ σ' B' H', Sim C.K ρ' σ' B' H' → Ext ρ σ B H ρ' σ' B' H' → Q σ' H') → g v σ H Q
structure SG (X : Cx) (C : Ct) (tg : Expr) (t : TG) (f : D → Rho → Option Rho) : Prop where
  pg : PG X tg t
  lk : LkG C t f
def gN (i : Nat) : D → Rho → Option Rho := fun d ρ => if i < ρ.length && !ioAt ρ i then some (ρ.set i (some ⟨d, .sh⟩)) else none
theorem sg_name {i : Nat} {x : Str} (hN : X.N.Nodup) (hi : X.N[i]? = some x := by rfl) (hx : Loc X.env.scope x := by first | exact Or.inl rfl | exact Or.inr rfl)
    (hf : X.fn x = true ∨ X.env.scope.names.lookup x = some .local := by first | exact .inl rfl | exact .inr rfl | assumption) : SG X C (.Name x pos) (gName i) (gN i) := ⟨pg_name hN hi hx hf, lk_gN⟩
end
end GS
namespace GS
open PySem L2
/-- a list, a tuple, a text: whichever comes -/
def iSeq (K : PySem.W.Frag) (te : TE) : TI := fun σ H R => te σ H fun x H1 =>
  (∃ a, x = .ref a ∧ (∃ xs, SqL K H1 a xs) ∧ R (Itl K a) H1) ∨ (∃ a, x = .ref a ∧ (∃ xs, SqT K H1 a xs) ∧ R (Itt K a) H1) ∨ ∃ z, x = .str z ∧ R (Its z) H1
theorem pi_seq {X : Cx} {tg e : Expr} {te : TE} (he : PE X e te) : PI X tg e (iSeq X.K te) := by
  refine ⟨fun pins s σ H R I h => ?_⟩
  refine thn (he.run pins s σ H _ I h) fun v s1 ⟨x, H1, I1, r1, q1⟩ => ?_
  rcases q1 with ⟨a, e, ⟨xs, hq⟩, q⟩ | ⟨a, e, ⟨xs, hq⟩, q⟩ | ⟨x, ex, q⟩
  · subst e
    cases r1
    obtain ⟨its, rv, p, hz⟩ := I1.list hq
    refine wpAny_pyIter_list p.isList ?_
    exact pi_one (tk := s1.toks) I1 _ (turn_list a _) ⟨_, Heap.get?_push_size _ rfl, rfl, rfl⟩ q
  · subst e
    cases r1
    obtain ⟨its, rv, p, hz⟩ := I1.tuple hq
    refine wpAny_pyIter_tuple (show s1.heap.IsTuple a its.toArray from p) ?_
    exact pi_one (tk := s1.toks) I1 _ (turn_tuple a _) ⟨_, Heap.get?_push_size _ rfl, rfl, rfl⟩ q
  · subst ex
    obtain ⟨t, rfl⟩ := r1
    cases ha : x.cps.all (· < 128)
    · exact wpAny_pyIter_wide ha (pi_one (tk := s1.toks) I1 _ (turn_str _ x t "str_iterator" (.inr rfl)) ⟨_, Heap.get?_push_size _ rfl, rfl, rfl⟩ q)
    · exact wpAny_pyIter_ascii ha (pi_one (tk := s1.toks) I1 _ (turn_str _ x t "str_ascii_iterator" (.inl rfl)) ⟨_, Heap.get?_push_size _ rfl, rfl, rfl⟩ q)
/-- what the i-th turn gives -/
def YOk (K : PySem.W.Frag) (B : Hp) (ds : List D) : Nat → Hp → V → Hp → Prop := fun i H x H' => ∃ d, ds[i]? = some d ∧
  ((H' = H ∧ Rp K B x d) ∨ ∃ T vs es, x = .ref T ∧ H T = none ∧ H' = upd H T (.tup vs) ∧ d = .tuple es ∧ RpL K B vs es)
def ItOk (K : PySem.W.Frag) (B : Hp) (ds : List D) (J : It) : Prop := Walk J ds.length (fun H => Same B H) (YOk K B ds)
inductive RI where | stuck | ok (ds : List D) (ρ : Rho) | exc (x : Xc) (ρ : Rho)
abbrev IF := Rho → RI
def GoodI (C : Ct) (ρ : Rho) (σ : St) (B H : Hp) (R : It → Hp → Prop) : RI → Prop
  | .stuck => False
  | .ok ds ρ' => ∀ J B' H', Sim C.K ρ' σ B' H' → Ext ρ σ B H ρ' σ B' H' → ItOk C.K B' ds J → R J H'
  | .exc x ρ' => ∀ cls dct B' H', Sim C.K ρ' σ B' H' → Ext ρ σ B H ρ' σ B' H' → XcOk C B' x cls dct → C.W cls dct σ H'
def LkI (C : Ct) (w : TI) (f : IF) : Prop := ∀ ρ σ B H R, Sim C.K ρ σ B H → GoodI C ρ σ B H R (f ρ) → w σ H R
structure SI (X : Cx) (C : Ct) (tg it : Expr) (w : TI) (f : IF) : Prop where
  pi : PI X tg it w
  lk : LkI C w f
def bindEI (r : RE) (k : Hd → Rho → RI) : RI := match r with
  | .stuck => .stuck
  | .ok h ρ => k h ρ
  | .exc x ρ => .exc x ρ
def items : D → Option (List D)
  | .list ds => some ds
  | .tuple ds => some ds
  | .str z => some (z.cps.toList.map fun c => .str ⟨#[c]⟩)
  | _ => none
/-- for over a list, a tuple or a text that is shared -/
def iSq (fe : EF) : IF := fun ρ => bindEI (eCap fe ρ) fun h ρ1 => match h with
  | .sh d => match items d with
    | some ds => .ok ds ρ1
    | none => .stuck
  | _ => .stuck
section
variable {X : Cx} {C : Ct} {ρ ρ1 : Rho} {σ σ1 : St} {B H B1 H1 : Hp} {e tg : Expr} {te : TE} {fe : EF} {pos p : Pos}
theorem LkE.bindI (l : LkE C te fe) (S : Sim C.K ρ σ B H) {k : Hd → Rho → RI} {R : It → Hp → Prop} {Q' : VK} (g : GoodI C ρ σ B H R (bindEI (fe ρ) k))
    (h : ∀ hd ρ1 v B1 H1, Sim C.K ρ1 σ B1 H1 → Ext ρ σ B H ρ1 σ B1 H1 → HdOk C.K (New ρ σ H) ρ1 σ B1 H1 v hd → GoodI C ρ σ B H R (k hd ρ1) → Q' v H1) : te σ H Q' := by
  refine l ρ σ B H Q' S ?_
  cases e : fe ρ with
  | stuck => rw [e] at g; exact g
  | ok hd ρ1 => rw [e] at g; exact fun v B1 H1 s x y => h hd ρ1 v B1 H1 s x y g
  | exc x ρ1 => rw [e] at g; exact g
theorem it_list {K : PySem.W.Frag} {a : Addr} {vs : List V} {ds : List D} (h : SqL K B a vs) (r : RpL K B vs ds) : ItOk K B ds (Itl K a) := by
  unfold ItOk
  rw [← r.length]
  refine (walk_list (K := K) (a := a) (xs := vs)).mono (fun H s => same_l s h) fun i H x H' hi s y => ?_
  obtain ⟨rfl, hv⟩ := y
  obtain ⟨d, q1, q2⟩ := r.getV hv
  exact ⟨d, q1, .inl ⟨rfl, q2⟩⟩
theorem it_tup {K : PySem.W.Frag} {a : Addr} {vs : List V} {ds : List D} (h : SqT K B a vs) (r : RpL K B vs ds) : ItOk K B ds (Itt K a) := by
  unfold ItOk
  rw [← r.length]
  refine (walk_tup (K := K) (a := a) (xs := vs)).mono (fun H s => same_t s h) fun i H x H' hi s y => ?_
  obtain ⟨rfl, hv⟩ := y
  obtain ⟨d, q1, q2⟩ := r.getV hv
  exact ⟨d, q1, .inl ⟨rfl, q2⟩⟩
theorem lk_sq (l : LkE C te fe) : LkI C (iSeq C.K te) (iSq fe) := fun ρ σ B H R S g => by
  refine l.cap.bindI S g fun hd ρ1 v B1 H1 S1 x1 y1 g1 => ?_
  cases hd with
  | sh d =>
    dsimp only at g1
    split at g1
    · rename_i ds ed
      cases d with
      | list es =>
        cases ed
        obtain ⟨a, vs, rfl, ha, ra⟩ := Rp.lstE y1
        exact .inl ⟨a, rfl, ⟨vs, same_l S1.bh ha⟩, g1 _ _ _ S1 x1 (it_list ha ra)⟩
      | tuple es =>
        cases ed
        obtain ⟨a, vs, rfl, ha, ra⟩ := Rp.tupE y1
        exact .inr (.inl ⟨a, rfl, ⟨vs, same_t S1.bh ha⟩, g1 _ _ _ S1 x1 (it_tup ha ra)⟩)
      | str z =>
        cases ed
        cases (show Rp C.K B1 v (.str z) from y1)
        exact .inr (.inr ⟨z, rfl, g1 _ _ _ S1 x1 it_str⟩)
      | _ => cases ed
    · exact g1.elim
  | _ => exact g1.elim
theorem si_sq (l : SE X C e te fe) (hk : X.K = C.K := by rfl) : SI X C tg e (iSeq C.K te) (iSq fe) := ⟨by rw [← hk]; exact pi_seq l.pe, lk_sq l.lk⟩
def rgD (lo : Int) (n : Nat) : List D := (List.range n).map fun (i : Nat) => PyData.int (lo + (i : Int))
def okR (i : Int) : Bool := Nat.ble i.natAbs 1000000000
def iR1 (fe : EF) : IF := fun ρ => bindEI (eSet fe ρ) fun h ρ1 => match getH ρ1 h with
  | some (.int j) => if okR j then .ok (rgD 0 j.toNat) ρ1 else .stuck
  | _ => .stuck
theorem e62 : (2 : Int) ^ 62 = 4611686018427387904 := by decide +kernel
theorem okR_ok {i : Int} (h : okR i = true) : -(2 ^ 62) ≤ i ∧ i < 2 ^ 62 := by
  have := Nat.le_of_ble_eq_true h
  rw [e62]
  omega
theorem si_r1 (l : SE X C e te fe) (hm : X.mg "range" = none) (hg : Gl X "range" := by rfl) (hs : starEach [e] X.env = [(false, eval e X.env)] := by rfl) : SI X C tg (.Call (.Name "range" p) [e] [] pos) (iRng1 (tCons te tNil)) (iR1 fe) := ⟨pi_range1 hg hm (pa_cons l.pe pa_nil hs) hs, fun ρ σ B H R S g => by
  refine l.lk.set.bindI S g fun hd ρ1 v B1 H1 S1 x1 y1 g1 => ?_
  split at g1
  · rename_i j ej
    split at g1
    · rename_i ok
      obtain ⟨h1, h2⟩ := okR_ok ok
      exact ⟨j, by rw [(S1.tp y1 ej).int], h1, h2, g1 _ _ _ S1 x1 it_range⟩
    · exact g1.elim
  · exact g1.elim⟩
theorem GoodI.ext (x : Ext ρ σ B H ρ1 σ B1 H1) {R : It → Hp → Prop} : ∀ {r : RI}, GoodI C ρ σ B H R r → GoodI C ρ1 σ B1 H1 R r
  | .stuck, g => g
  | .ok _ _, g => fun J B' H' s y z => g J B' H' s (x.trans y) z
  | .exc _ _, g => fun c d B' H' s y z => g c d B' H' s (x.trans y) z
def forL (g : D → Rho → Option Rho) (b : SF) : List D → Rho → RS
  | [], ρ => .nx ρ
  | d :: ds, ρ => match g d ρ with
    | none => .stuck
    | some ρ1 => match b ρ1 with
      | .nx ρ2 => forL g b ds ρ2
      | .ct ρ2 => forL g b ds ρ2
      | .bk ρ2 => .nx ρ2
      | r => r
def sFor (fi : IF) (g : D → Rho → Option Rho) (b : SF) : SF := fun ρ => match fi ρ with
  | .stuck => .stuck
  | .exc x ρ1 => .exc x ρ1
  | .ok ds ρ1 => forL g b ds ρ1
theorem lk_for {w : TI} {tgt : TG} {tb : TS} {fi : IF} {g : D → Rho → Option Rho} {b : SF} (li : LkI C w fi) (lg : LkG C tgt g) (lb : LkS C tb b) : LkS C (tFor w tgt tb) (sFor fi g b) := fun ρ σ B H E S gd => by
  refine li ρ σ B H _ S ?_
  unfold sFor at gd
  cases e : fi ρ with
  | stuck => rw [e] at gd; exact gd
  | exc x ρ1 => rw [e] at gd; exact fun c d B' H' s x => gd c d σ B' H' s x
  | ok ds ρ1 =>
    rw [e] at gd
    replace gd : GoodS C ρ σ B H E (forL g b ds ρ1) := gd
    intro J B1 H1 S1 x1 ok
    refine for_it ok (fun i σ' H' => ∃ ρ' B', Sim C.K ρ' σ' B' H' ∧ Ext ρ σ B H ρ' σ' B' H' ∧ Same B1 B' ∧ GoodS C ρ σ B H E (forL g b (ds.drop i) ρ')) ⟨ρ1, B1, S1, x1, Same.refl _, gd⟩ (fun i σ' H' _ ⟨ρ', B', S', _, s', _⟩ => s'.trans S'.bh) ?_ ?_
    · rintro i v σ' H' H2 hi ⟨ρ', B', S', x', s', g'⟩ ⟨d, ed, y⟩
      have hd : ds.drop i = d :: ds.drop (i + 1) := by
        have := List.drop_eq_getElem_cons hi
        rw [this]
        congr 1
        exact Option.some.inj ((List.getElem?_eq_getElem hi).symm.trans ed)
      rw [hd] at g'
      have step : ∃ B2, Sim C.K ρ' σ' B2 H2 ∧ Ext ρ σ B H ρ' σ' B2 H2 ∧ Same B1 B2 ∧ Rp C.K B2 v d := by
        rcases y with ⟨rfl, r⟩ | ⟨T, vs, es, rfl, hT, rfl, rfl, r⟩
        · exact ⟨B', S', x', s', r.mono s'⟩
        · obtain ⟨S2, x2⟩ := S'.newB hT (.tup vs)
          exact ⟨_, S2, x'.trans x2, s'.trans x2.bb, .tup (.inl (.inl upd_same)) (r.mono (s'.trans x2.bb))⟩
      obtain ⟨B2, S2, x2, s2, r2⟩ := step
      unfold forL at g'
      cases eg : g d ρ' with
      | none => rw [eg] at g'; exact g'.elim
      | some ρ3 =>
        rw [eg] at g'
        refine lg ρ' σ' B2 H2 v d ρ3 _ S2 r2 eg fun σ3 B3 H3 S3 x3 => ?_
        refine lb ρ3 σ3 B3 H3 _ S3 ?_
        have x3' := x2.trans x3
        cases eb : b ρ3 with
        | stuck => simp only [eb] at g'; exact g'
        | nx ρ4 => simp only [eb] at g'; exact fun σ4 B4 H4 S4 x4 => ⟨ρ4, B4, S4, x3'.trans x4, (s2.trans x3.bb).trans x4.bb, g'⟩
        | ct ρ4 => simp only [eb] at g'; exact fun σ4 B4 H4 S4 x4 => ⟨ρ4, B4, S4, x3'.trans x4, (s2.trans x3.bb).trans x4.bb, g'⟩
        | bk ρ4 => simp only [eb] at g'; exact fun σ4 B4 H4 S4 x4 => g' σ4 B4 H4 S4 (x3'.trans x4)
        | rt h ρ4 => simp only [eb] at g'; exact GoodS.ext (r := .rt h ρ4) x3' g'
        | exc c ρ4 => simp only [eb] at g'; exact GoodS.ext (r := .exc c ρ4) x3' g'
    · rintro σ' H' ⟨ρ', B', S', x', _, g'⟩
      rw [List.drop_length] at g'
      exact g' σ' B' H' S' x'
theorem ss_for {it : Expr} {body : List Stmt} {w : TI} {tgt : TG} {tb : TS} {fi : IF} {g : D → Rho → Option Rho} {b : SF} (hp : PassesOwn (model X.prog X.w) X.A X.env X.xe) (hc : X.calm = true) (li : SI X C tg it w fi) (lg : SG X C tg tgt g) (lb : SSs X C body tb b)
    (hs : ∀ x, foldedSetIterable it X.env x = pure x := by intro _; rfl) : SS X C (.For tg it body [] pos) (tFor w tgt tb) (sFor fi g b) := ⟨ps_for hp hc li.pi lg.pg lb.ps hs, lk_for li.lk lg.lk lb.lk⟩
def wipeR (ρ : Rho) : List Nat → Rho
  | [] => ρ
  | v :: vs => (wipeR ρ vs).set v none
/-- the turns: acc what is made so far -/
def lcL (vs : List Nat) (g : D → Rho → Option Rho) (ft fe : EF) : List D → List D → Rho → RE
  | [], acc, ρ => .ok (.fr (.list acc)) ρ
  | d :: ds, acc, ρ => match g d ρ with
    | none => .stuck
    | some ρ1 => bindB (ft ρ1) fun c ρ2 => if c then bindE (eCap fe ρ2) fun h ρ3 => match h with
        | .sh y => if acc.length < sizeLine then lcL vs g ft fe ds (acc ++ [y]) (wipeR ρ3 vs) else .stuck
        | _ => .stuck
      else lcL vs g ft fe ds acc (wipeR ρ2 vs)
def eLc (vs : List Nat) (fi : IF) (g : D → Rho → Option Rho) (ft fe : EF) : EF := fun ρ => match fi ρ with
  | .stuck => .stuck
  | .exc x ρ1 => .exc x ρ1
  | .ok ds ρ1 => if vs.all fun i => !ioAt ρ1 i then lcL vs g ft fe ds [] (wipeR ρ1 vs) else .stuck
theorem wipeR_len (ρ : Rho) : ∀ vs : List Nat, (wipeR ρ vs).length = ρ.length
  | [] => rfl
  | v :: vs => by unfold wipeR; rw [List.length_set, wipeR_len ρ vs]
theorem wipeR_some {ρ : Rho} {i : Nat} {c : Cel} : ∀ {vs : List Nat}, (wipeR ρ vs)[i]? = some (some c) → ρ[i]? = some (some c) ∧ i ∉ vs
  | [], h => ⟨h, by simp⟩
  | v :: vs, h => by
    unfold wipeR at h
    rcases set_get h with ⟨_, ec⟩ | ⟨ne, h⟩
    · cases ec
    · obtain ⟨h1, h2⟩ := wipeR_some h
      exact ⟨h1, by simp only [List.mem_cons, not_or]; exact ⟨fun e => ne e.symm, h2⟩⟩
theorem wipeR_keep {ρ : Rho} {i : Nat} : ∀ {vs : List Nat}, i ∉ vs → (wipeR ρ vs)[i]? = ρ[i]?
  | [], _ => rfl
  | v :: vs, h => by
    simp only [List.mem_cons, not_or] at h
    unfold wipeR
    rw [set_other (fun e => h.1 e.symm)]
    exact wipeR_keep h.2
theorem wipe_keep {σ : St} {i : Nat} : ∀ {vs : List Nat}, i ∉ vs → (wipe σ vs)[i]? = σ[i]?
  | [], _ => rfl
  | v :: vs, h => by
    simp only [List.mem_cons, not_or] at h
    unfold wipe
    rw [List.getElem?_set, if_neg (fun e => h.1 e.symm)]
    exact wipe_keep h.2
/-- slots are forgotten on both sides -/
theorem Sim.wipe {K : PySem.W.Frag} {σ' : St} (S : Sim K ρ σ B H) (vs : List Nat) (hl : σ'.length = σ.length) (he : ∀ i, i ∉ vs → σ'[i]? = σ[i]?) : Sim K (wipeR ρ vs) σ' B H := by
  refine ⟨S.bh, by rw [wipeR_len, hl]; exact S.len, fun i c h => ?_, fun i j ci cj a hi hj ni nj ei ej => ?_⟩
  · obtain ⟨h1, h2⟩ := wipeR_some h
    rw [he i h2]
    exact S.sl i c h1
  · obtain ⟨h1, h2⟩ := wipeR_some hi
    obtain ⟨h3, h4⟩ := wipeR_some hj
    rw [he i h2] at ei
    rw [he j h4] at ej
    exact S.dj i j ci cj a h1 h3 ni nj ei ej
theorem Ext.wipe {σ' : St} (x : Ext ρ σ B H ρ1 σ1 B1 H1) (vs : List Nat) (hn : ∀ i ∈ vs, ∀ c, ρ[i]? = some (some c) → c.fl ≠ .io) (he : ∀ i, i ∉ vs → σ'[i]? = σ1[i]?) : Ext ρ σ B H (wipeR ρ1 vs) σ' B1 H1 := by
  refine ⟨x.bb, x.nw, x.kp, fun a ⟨i, c, h1, h2, h3⟩ => ?_, fun i c h1 h2 => ?_, fun i c h1 h2 => ?_⟩
  · obtain ⟨q1, q2⟩ := wipeR_some h1
    rw [he i q2] at h3
    exact x.sub a ⟨i, c, q1, h2, h3⟩
  · have ni : i ∉ vs := fun z => hn i z c h1 h2
    obtain ⟨e1, c1, q1, q2⟩ := x.io i c h1 h2
    exact ⟨(he i ni).trans e1, c1, (wipeR_keep ni).trans q1, q2⟩
  · obtain ⟨q1, _⟩ := wipeR_some h1
    exact x.oi i c q1 h2
end
end GS
namespace GS
open PySem L2
section
variable {X : Cx} {C : Ct} {ρ ρ1 : Rho} {σ σ1 σ' : St} {B H B1 H1 : Hp} {e tg : Expr} {te : TE} {fe : EF} {pos p : Pos} {vs : List Nat} {K : PySem.W.Frag}
theorem wipe_get (σ : St) (j : Nat) : ∀ vs : List Nat, (wipe σ vs)[j]? = if j ∈ vs then (if j < σ.length then some none else none) else σ[j]?
  | [] => by simp [wipe]
  | v :: vs => by
    unfold wipe
    rw [List.getElem?_set, wipe_get σ j vs, wipe_length]
    by_cases h : v = j
    · subst h; simp
    · have h' : ¬ j = v := fun z => h z.symm
      simp [h, h']
theorem wipe_set {i : Nat} {x : Option V} (h : i ∈ vs) : wipe (σ.set i x) vs = wipe σ vs := by
  apply List.ext_getElem?
  intro j
  rw [wipe_get, wipe_get, List.length_set]
  by_cases hj : j ∈ vs
  · simp [hj]
  · rw [if_neg hj, if_neg hj, List.getElem?_set, if_neg (fun (z : i = j) => hj (z ▸ h))]
theorem of_wipe (h : wipe σ1 vs = wipe σ vs) : σ1.length = σ.length ∧ ∀ i, i ∉ vs → σ1[i]? = σ[i]? := by
  refine ⟨by rw [← wipe_length σ1 vs, h, wipe_length], fun i hi => ?_⟩
  rw [← wipe_keep hi, h, wipe_keep hi]
/-- targets of a comprehension -/
def LkGw (C : Ct) (vs : List Nat) (g : TG) (f : D → Rho → Option Rho) : Prop := ∀ ρ σ B H v d ρ' Q, Sim C.K ρ σ B H → Rp C.K B v d → f d ρ = some ρ' → (∀ σ' B' H', Sim C.K ρ' σ' B' H' → Ext ρ σ B H ρ' σ' B' H' → wipe σ' vs = wipe σ vs → Q σ' H') → g v σ H Q
theorem lkw_N {i : Nat} (hi : i ∈ vs) : LkGw C vs (gName i) (gN i) := fun ρ σ B H v d ρ' Q S r e k => by
  unfold gN at e
  obtain ⟨h, rfl⟩ := if_some e
  simp only [Bool.and_eq_true, decide_eq_true_eq, Bool.not_eq_true'] at h
  obtain ⟨S2, x2⟩ := store_ok S Ext.refl (c := ⟨d, .sh⟩) h.1 h.2 (by simp) (.inl ⟨rfl, r⟩) fun z => absurd rfl z
  exact k _ _ _ S2 x2 (wipe_set hi)
/-- without exceptions -/
def eNox (f : EF) : EF := fun ρ => match f ρ with
  | .exc _ _ => .stuck
  | r => r
abbrev Ct.nox (C : Ct) : Ct := { C with W := fun _ _ _ _ => False }
theorem LkE.ofNox {t : TE} {f : EF} (l : LkE C.nox t f) : LkE C t (eNox f) := fun ρ σ B H Q S g => by
  refine l ρ σ B H Q S ?_
  unfold eNox at g
  cases e : f ρ with
  | stuck => rw [e] at g; exact g
  | ok h ρ1 => rw [e] at g; exact g
  | exc x ρ1 => rw [e] at g; exact g.elim
theorem LkT.ofNox {t : TT} {f : EF} (l : LkT C.nox t f) : LkT C t (eNox f) := fun ρ σ B H Q S g => by
  refine l ρ σ B H Q S ?_
  unfold eNox at g
  cases e : f ρ with
  | stuck => rw [e] at g; exact g
  | ok h ρ1 =>
    rw [e] at g
    cases h with
    | sh d => cases d <;> exact g
    | _ => exact g
  | exc x ρ1 => rw [e] at g; exact g.elim
theorem eNox_ne (f : EF) (ρ : Rho) {x : Xc} {ρ1 : Rho} : eNox f ρ ≠ .exc x ρ1 := fun h => by
  unfold eNox at h
  split at h
  · cases h
  · rename_i z; exact z _ _ h
theorem cap_nox_ne (f : EF) (ρ : Rho) {x : Xc} {ρ1 : Rho} : eCap (eNox f) ρ ≠ .exc x ρ1 := fun h => by
  unfold eCap bindE at h
  split at h
  · cases h
  · dsimp only at h
    split at h <;> cases h
  · rename_i e; exact eNox_ne _ _ e
def NoV (ρ : Rho) (vs : List Nat) : Prop := ∀ (i : Nat) (c : Cel), ρ[i]? = some (some c) → i ∉ vs
theorem noV_wipe : NoV (wipeR ρ vs) vs := fun i c h => (wipeR_some h).2
theorem Sim.swap (S : Sim K ρ σ B H) (n : NoV ρ vs) (hl : σ'.length = σ.length) (he : ∀ i, i ∉ vs → σ'[i]? = σ[i]?) : Sim K ρ σ' B H := by
  refine ⟨S.bh, by rw [hl]; exact S.len, fun i c h => ?_, fun i j ci cj a hi hj ni nj ei ej => ?_⟩
  · rw [he i (n i c h)]; exact S.sl i c h
  · rw [he i (n i ci hi)] at ei
    rw [he j (n j cj hj)] at ej
    exact S.dj i j ci cj a hi hj ni nj ei ej
theorem Sim.tweak (S : Sim K ρ σ B H) {q : Addr} {o : HO} (hb : B q = none) (hn : ¬ OwnA ρ σ q) : Sim K ρ σ B (upd H q o) := by
  refine ⟨fun b u z => ?_, S.len, fun i c h => ?_, S.dj⟩
  · rw [upd_ne (ne_of_none z hb)]; exact S.bh _ _ z
  · obtain ⟨v, ev, ok⟩ := S.sl i c h
    refine ⟨v, ev, ok.mono (Same.refl B) fun a hv ha ho hf => ⟨ha, ?_⟩⟩
    have ne : a ≠ q := fun z => by subst z hv; exact hn ⟨i, c, h, hf, ev⟩
    rw [upd_ne ne]
theorem Ext.tweak (x : Ext ρ σ B H ρ1 σ1 B1 H1) {q : Addr} {o : HO} (hn : New ρ σ H q) : Ext ρ σ B H ρ1 σ1 B1 (upd H1 q o) := by
  refine ⟨x.bb, x.nw, fun a u h n => ?_, x.sub, x.io, x.oi⟩
  have ne : a ≠ q := fun z => by
    subst z
    rcases hn with z | z
    · rw [h] at z; cases z
    · exact n z
  rw [upd_ne ne]
  exact x.kp a u h n
theorem OwnA.swap {a : Addr} (n : NoV ρ vs) (he : ∀ i, i ∉ vs → σ'[i]? = σ[i]?) (h : OwnA ρ σ' a) : OwnA ρ σ a := by
  obtain ⟨i, c, h1, h2, h3⟩ := h
  exact ⟨i, c, h1, h2, (he i (n i c h1)).symm.trans h3⟩
theorem Ext.swapL (x : Ext ρ σ' B H ρ1 σ1 B1 H1) (n : NoV ρ vs) (he : ∀ i, i ∉ vs → σ'[i]? = σ[i]?) (ho : ∀ (i : Nat) c, ρ[i]? = some (some c) → c.fl = .io → σ1[i]? = σ[i]?) : Ext ρ σ B H ρ1 σ1 B1 H1 := by
  have own : ∀ a, OwnA ρ σ' a → OwnA ρ σ a := fun a h => h.swap n he
  have own' : ∀ a, OwnA ρ σ a → OwnA ρ σ' a := fun a h => h.swap n fun i hi => (he i hi).symm
  exact ⟨x.bb, fun a o h => (x.nw a o h).imp id fun z => z.elim .inl fun z => .inr (own a z), fun a o h z => x.kp a o h fun w => z (own a w), fun a h => (x.sub a h).elim .inl fun z => .inr (own a z),
    fun i c h1 h2 => ⟨ho i c h1 h2, (x.io i c h1 h2).2⟩, x.oi⟩
theorem lk_lc {w : TI} {tgt : TG} {tt : TT} {fi : IF} {g : D → Rho → Option Rho} {ft : EF} (li : LkI C w fi) (lg : LkGw C vs tgt g) (lt : LkT C.nox tt ft) (le : LkE C.nox te fe) : LkE C (tLc w tgt tt te vs) (eLc vs fi g (eNox ft) (eNox fe)) := fun ρ σ B H Q S gd => by
  have lt' := lt.ofNox
  have le' := le.ofNox
  refine li ρ σ B H _ S ?_
  unfold eLc at gd
  cases e : fi ρ with
  | stuck => rw [e] at gd; exact gd
  | exc x ρ1 => rw [e] at gd; exact gd
  | ok ds ρ1 =>
    rw [e] at gd
    replace gd : GoodE C ρ σ B H Q (if vs.all fun i => !ioAt ρ1 i then lcL vs g (eNox ft) (eNox fe) ds [] (wipeR ρ1 vs) else .stuck) := gd
    by_cases hio : (vs.all fun i => !ioAt ρ1 i) = true
    case neg => rw [if_neg hio] at gd; exact gd.elim
    rw [if_pos hio] at gd
    intro J B1 H1 S1 x1 ok Dd hD
    have hio' : ∀ i ∈ vs, ∀ c, ρ1[i]? = some (some c) → c.fl ≠ .io := fun i hi c hc => by
      have := List.all_eq_true.mp hio i hi
      exact not_io (by simpa using this) hc
    have hio0 : ∀ i ∈ vs, ∀ c, ρ[i]? = some (some c) → c.fl ≠ .io := fun i hi c hc hf => by
      obtain ⟨_, c', q1, q2⟩ := x1.io i c hc hf
      exact hio' i hi c' q1 q2
    obtain ⟨bD, nD⟩ := S1.free hD
    have newD : New ρ σ H Dd := x1.back (.inl hD)
    have wk : ∀ i, i ∉ vs → (wipe σ vs)[i]? = σ[i]? := fun i hi => wipe_keep hi
    have wl : (wipe σ vs).length = σ.length := wipe_length σ vs
    -- the start
    have S0 : Sim C.K (wipeR ρ1 vs) σ B1 (upd H1 Dd (.lst [])) := (S1.wipe vs rfl fun _ _ => rfl).tweak bD fun ⟨i, c, h1, h2, h3⟩ => nD ⟨i, c, (wipeR_some h1).1, h2, h3⟩
    have x0 : Ext ρ σ B H (wipeR ρ1 vs) σ B1 (upd H1 Dd (.lst [])) := (x1.wipe vs hio0 fun _ _ => rfl).tweak newD
    refine lc_it ok (fun i Hc => ∃ ρ' B' vacc acc, Sim C.K ρ' σ B' Hc ∧ NoV ρ' vs ∧ Ext ρ σ B H ρ' σ B' Hc ∧ Same B1 B' ∧ Hc Dd = some (.lst vacc) ∧ B' Dd = none ∧ ¬ OwnA ρ' σ Dd ∧ RpL C.K B' vacc acc ∧ GoodE C ρ σ B H Q (lcL vs g (eNox ft) (eNox fe) (ds.drop i) acc ρ'))
      ⟨wipeR ρ1 vs, B1, [], [], S0, noV_wipe, x0, Same.refl _, upd_same, bD, fun ⟨i, c, h1, h2, h3⟩ => nD ⟨i, c, (wipeR_some h1).1, h2, h3⟩, .nil, gd⟩ (fun i Hc _ ⟨ρ', B', _, _, S', _, _, s', _⟩ => s'.trans S'.bh) ?_ ?_
    · rintro i v Hc H2 hi ⟨ρ', B', vacc, acc, S', nv, x', s', hacc, bacc, nacc, racc, g'⟩ ⟨d, ed, y⟩
      have hd : ds.drop i = d :: ds.drop (i + 1) := by
        have := List.drop_eq_getElem_cons hi
        rw [this]
        congr 1
        exact Option.some.inj ((List.getElem?_eq_getElem hi).symm.trans ed)
      rw [hd] at g'
      -- the turn's item
      have step : ∃ B2, Sim C.K ρ' σ B2 H2 ∧ Ext ρ σ B H ρ' σ B2 H2 ∧ Same B1 B2 ∧ Rp C.K B2 v d ∧ H2 Dd = some (.lst vacc) ∧ B2 Dd = none ∧ RpL C.K B2 vacc acc := by
        rcases y with ⟨rfl, r⟩ | ⟨T, ws, es, rfl, hT, rfl, rfl, r⟩
        · exact ⟨B', S', x', s', r.mono s', hacc, bacc, racc⟩
        · obtain ⟨S2, x2⟩ := S'.newB hT (.tup ws)
          have ne : Dd ≠ T := ne_of_none hacc hT
          exact ⟨_, S2, x'.trans x2, s'.trans x2.bb, .tup (.inl (.inl upd_same)) (r.mono (s'.trans x2.bb)), by rw [upd_ne ne]; exact hacc, by rw [upd_ne ne]; exact bacc, racc.mono x2.bb⟩
      obtain ⟨B2, S2, x2, s2, r2, hacc2, bacc2, racc2⟩ := step
      unfold lcL at g'
      cases eg : g d ρ' with
      | none => rw [eg] at g'; exact g'.elim
      | some ρ3 =>
        rw [eg] at g'
        have S2w : Sim C.K ρ' (wipe σ vs) B2 H2 := S2.swap nv wl wk
        refine lg ρ' (wipe σ vs) B2 H2 v d ρ3 _ S2w r2 eg fun σ3 B3 H3 S3 x3 w3 => ?_
        have w3' : wipe σ3 vs = wipe σ vs := by
          rw [w3]
          apply List.ext_getElem?
          intro j
          rw [wipe_get, wl, wipe_get]
          by_cases hj : j ∈ vs <;> simp [hj]
        obtain ⟨l3, k3⟩ := of_wipe w3'
        refine ⟨w3', ?_⟩
        have nacc' : ¬ OwnA ρ' (wipe σ vs) Dd := fun z => nacc (z.swap nv wk)
        obtain ⟨hacc3, bacc3, nacc3⟩ := x3.keepN hacc2 bacc2 nacc'
        -- from the start to here, at σ3
        have x3s : Ext ρ σ B H ρ3 σ3 B3 H3 := x2.trans (x3.swapL nv wk fun j c h1 h2 => k3 j (nv j c h1))
        dsimp only at g'
        refine lt' ρ3 σ3 B3 H3 _ S3 ?_
        cases et : eNox ft ρ3 with
        | stuck => rw [et] at g'; exact g'.elim
        | exc c ρ4 => exact absurd et (eNox_ne _ _)
        | ok h ρ4 =>
          rw [et] at g'
          cases h with
          | fr _ => exact g'.elim
          | bw _ => exact g'.elim
          | sh dd =>
            cases dd with
            | bool b =>
              replace g' : GoodE C ρ σ B H Q (if b then bindE (eCap (eNox fe) ρ4) fun h ρ3 => match h with
                | .sh y => if acc.length < sizeLine then lcL vs g (eNox ft) (eNox fe) (ds.drop (i + 1)) (acc ++ [y]) (wipeR ρ3 vs) else .stuck
                | _ => .stuck
                else lcL vs g (eNox ft) (eNox fe) (ds.drop (i + 1)) acc (wipeR ρ4 vs)) := g'
              intro B4 H4 S4 x4
              obtain ⟨hacc4, bacc4, nacc4⟩ := x4.keepN hacc3 bacc3 nacc3
              have x4s : Ext ρ σ B H ρ4 σ3 B4 H4 := x3s.trans x4
              have racc4 := (racc2.mono x3.bb).mono x4.bb
              have s4 : Same B1 B4 := (s2.trans x3.bb).trans x4.bb
              cases b with
              | false =>
                rw [if_neg Bool.false_ne_true] at g' ⊢
                exact ⟨wipeR ρ4 vs, B4, vacc, acc, S4.wipe vs l3.symm fun j hj => (k3 j hj).symm, noV_wipe, x4s.wipe vs hio0 fun j hj => (k3 j hj).symm, s4, hacc4, bacc4,
                  fun ⟨j, c, h1, h2, h3⟩ => nacc4 ⟨j, c, (wipeR_some h1).1, h2, (k3 j (wipeR_some h1).2).trans h3⟩, racc4, g'⟩
              | true =>
                rw [if_pos rfl] at g' ⊢
                refine le'.cap ρ4 σ3 B4 H4 _ S4 ?_
                cases ee : eCap (eNox fe) ρ4 with
                | stuck => rw [ee] at g'; exact g'.elim
                | exc c ρ5 => exact absurd ee (cap_nox_ne _ _)
                | ok h ρ5 =>
                  rw [ee] at g'
                  cases h with
                  | fr _ => exact g'.elim
                  | bw _ => exact g'.elim
                  | sh y =>
                    replace g' : GoodE C ρ σ B H Q (if acc.length < sizeLine then lcL vs g (eNox ft) (eNox fe) (ds.drop (i + 1)) (acc ++ [y]) (wipeR ρ5 vs) else .stuck) := g'
                    intro u B5 H5 S5 x5 y5
                    obtain ⟨hacc5, bacc5, nacc5⟩ := x5.keepN hacc4 bacc4 nacc4
                    by_cases hsz : acc.length < sizeLine
                    case neg => rw [if_neg hsz] at g'; exact g'.elim
                    rw [if_pos hsz] at g'
                    have nown : ¬ OwnA (wipeR ρ5 vs) σ Dd := fun ⟨j, c, h1, h2, h3⟩ => nacc5 ⟨j, c, (wipeR_some h1).1, h2, (k3 j (wipeR_some h1).2).trans h3⟩
                    refine ⟨vacc, hacc5, by rw [racc.length]; exact hsz, wipeR ρ5 vs, B5, vacc ++ [u], acc ++ [y], (S5.wipe vs l3.symm fun j hj => (k3 j hj).symm).tweak bacc5 nown, noV_wipe,
                      ((x4s.trans x5).wipe vs hio0 fun j hj => (k3 j hj).symm).tweak newD, s4.trans x5.bb, upd_same, bacc5, nown, (racc4.mono x5.bb).append (.cons y5 .nil), g'⟩
            | _ => exact g'.elim
    · rintro Hc ⟨ρ', B', vacc, acc, S', nv, x', s', hacc, bacc, nacc, racc, g'⟩
      rw [List.drop_length] at g'
      exact g' _ B' Hc S' x' ⟨Dd, rfl, bacc, ⟨vacc, hacc, racc⟩, nacc, newD⟩
/-- a comprehension with one for -/
theorem se_lc {elt it : Expr} {ifs : List Expr} {scope : Scope} {own : List (Str × Nat)} {w : TI} {tgt : TG} {tt : TT} {fi : IF} {g : D → Rho → Option Rho} {ft : EF} (hc : X.calm = true) (hN : X.N.Nodup) (li : SI X C tg it w fi) (ok : BlkOk X.N X.env.scope scope own)
    (hg : ∀ (s : Shared) (H : Hp) (c : Addr) (cl : List (Str × Addr)) (fp : List Addr), PG (X.blk s H scope (compEnvC scope cl c X.env) fp) tg tgt) (lg : LkGw C (own.map (·.2)) tgt g)
    (ht : ∀ (s : Shared) (H : Hp) (c : Addr) (cl : List (Str × Addr)) (fp : List Addr), PTs (X.blk s H scope (compEnvC scope cl c X.env) fp) ifs tt) (lt : LkT C.nox tt ft)
    (he : ∀ (s : Shared) (H : Hp) (c : Addr) (cl : List (Str × Addr)) (fp : List Addr), PE (X.blk s H scope (compEnvC scope cl c X.env) fp) elt te) (le : LkE C.nox te fe)
    (hs : ∀ x, foldedSetIterable it X.env x = pure x := by intro _; rfl) : SE X C (.ListComp elt [⟨tg, it, ifs, 0⟩] scope pos) (tLc w tgt tt te (own.map (·.2))) (eLc (own.map (·.2)) fi g (eNox ft) (eNox fe)) :=
  ⟨pe_lc hc hN li.pi ok hg ht he hs, lk_lc li.lk lg lt le⟩
end
end GS
namespace GS
open PySem L2
section
variable {X : Cx} {C : Ct} {ρ ρ1 : Rho} {σ σ1 σ' : St} {B H B1 H1 : Hp} {e tg : Expr} {te : TE} {fe : EF} {pos p : Pos} {vs : List Nat} {K : PySem.W.Frag}
/-- the object of an owned slot -/
theorem Sim.own (S : Sim K ρ σ B H) {i : Nat} {c : Cel} (hi : ρ[i]? = some (some c)) (hf : c.fl ≠ .sh) : ∃ a, σ[i]? = some (some (.ref a)) ∧ B a = none ∧ Ow K B (H a) c.d := by
  obtain ⟨v, ev, ok⟩ := S.sl i c hi
  rcases ok with ⟨z, _⟩ | ⟨_, b, rfl, hb, ho⟩
  · exact absurd z hf
  · exact ⟨b, ev, hb, ho⟩
end
def ioC : Option Cel → Option Cel
  | some ⟨d, .io⟩ => some ⟨d, .io⟩
  | _ => none
def outR (ρ : Rho) (n : Nat) : Rho := (List.range n).map fun i => ioC (slot ρ i)
def fnF (m n : Nat) (g : SF) : FF := fun ρ => match g (ρ ++ List.replicate (m - n) none) with
  | .rt (.bw _) _ => .stuck
  | .rt h ρ1 => .ok h (outR ρ1 n)
  | .nx ρ1 => .ok (.sh .none) (outR ρ1 n)
  | .exc x ρ1 => .exc x (outR ρ1 n)
  | _ => .stuck
theorem ioC_some {o : Option Cel} {c : Cel} (h : ioC o = some c) : o = some c ∧ c.fl = .io := by
  unfold ioC at h
  split at h
  · cases h; exact ⟨rfl, rfl⟩
  · cases h
theorem outR_at {ρ : Rho} {n i : Nat} {c : Cel} (h : (outR ρ n)[i]? = some (some c)) : i < n ∧ ρ[i]? = some (some c) ∧ c.fl = .io := by
  unfold outR at h
  rw [List.getElem?_map] at h
  by_cases hi : i < n
  · rw [List.getElem?_range hi] at h
    obtain ⟨q1, q2⟩ := ioC_some (Option.some.inj h)
    exact ⟨hi, slot_some q1, q2⟩
  · rw [List.getElem?_eq_none (by rw [List.length_range]; omega)] at h
    cases h
theorem slot_of {ρ : Rho} {i : Nat} {c : Cel} (h : ρ[i]? = some (some c)) : slot ρ i = some c := by
  unfold slot
  rw [h]
theorem outR_has {ρ : Rho} {n i : Nat} {c : Cel} (hi : i < n) (h : ρ[i]? = some (some c)) (hf : c.fl = .io) : (outR ρ n)[i]? = some (some c) := by
  unfold outR
  rw [List.getElem?_map, List.getElem?_range hi]
  show some (ioC (slot ρ i)) = _
  rw [slot_of h]
  obtain ⟨d, fl⟩ := c
  cases hf
  rfl
section
variable {K : PySem.W.Frag} {ρ ρ1 : Rho} {σ1 : St} {B H B1 H1 : Hp} {N : List Str} {vs : List V} {n : Nat}
theorem start_get {i : Nat} (h : i < vs.length) : (L2.start N vs)[i]? = (vs.map some)[i]? := by
  unfold L2.start
  rw [List.getElem?_append_left (by simpa using h)]
theorem ap_get {m : Nat} {i : Nat} {c : Cel} (h : (ρ ++ List.replicate m none)[i]? = some (some c)) : i < ρ.length ∧ ρ[i]? = some (some c) := by
  by_cases hi : i < ρ.length
  · rw [List.getElem?_append_left hi] at h; exact ⟨hi, h⟩
  · rw [List.getElem?_append_right (by omega), List.getElem?_replicate] at h
    split at h <;> cases h
theorem ap_of {m : Nat} {i : Nat} {c : Cel} (h : ρ[i]? = some (some c)) : (ρ ++ List.replicate m none)[i]? = some (some c) := by
  rw [List.getElem?_append_left (lt_of h)]; exact h
theorem entry_own {m : Nat} (hl : ρ.length = vs.length) {a : Addr} : OwnA (ρ ++ List.replicate m none) (L2.start N vs) a ↔ OwnA ρ (vs.map some) a := by
  constructor
  · rintro ⟨i, c, h1, h2, h3⟩
    obtain ⟨q1, q2⟩ := ap_get h1
    exact ⟨i, c, q2, h2, by rw [← start_get (by omega)]; exact h3⟩
  · rintro ⟨i, c, h1, h2, h3⟩
    exact ⟨i, c, ap_of h1, h2, by rw [start_get (by have := lt_of h1; omega)]; exact h3⟩
theorem entry_sim (S : Sim K ρ (vs.map some) B H) (hN : vs.length ≤ N.length) : Sim K (ρ ++ List.replicate (N.length - vs.length) none) (L2.start N vs) B H := by
  have hl : ρ.length = vs.length := by rw [S.len, List.length_map]
  refine ⟨S.bh, ?_, fun i c h => ?_, fun i j ci cj a hi hj ni nj ei ej => ?_⟩
  · unfold L2.start
    rw [List.length_append, List.length_append, List.length_replicate, List.length_replicate, List.length_map, hl]
  · obtain ⟨q1, q2⟩ := ap_get h
    obtain ⟨v, ev, ok⟩ := S.sl i c q2
    exact ⟨v, by rw [start_get (by omega)]; exact ev, ok⟩
  · obtain ⟨q1, q2⟩ := ap_get hi
    obtain ⟨q3, q4⟩ := ap_get hj
    rw [start_get (by omega)] at ei ej
    exact S.dj i j ci cj a q2 q4 ni nj ei ej
/-- the body's end as the caller sees it -/
theorem exit_sim {m : Nat} (S : Sim K ρ (vs.map some) B H) (hn : ρ.length = n) (S1 : Sim K ρ1 σ1 B1 H1) (x : Ext (ρ ++ List.replicate m none) (L2.start N vs) B H ρ1 σ1 B1 H1) :
    Sim K (outR ρ1 n) (vs.map some) B1 H1 ∧ Ext ρ (vs.map some) B H (outR ρ1 n) (vs.map some) B1 H1 ∧ (∀ a, OwnA (outR ρ1 n) (vs.map some) a → OwnA ρ1 σ1 a) ∧ ∀ a, New (ρ ++ List.replicate m none) (L2.start N vs) H a → New ρ (vs.map some) H a := by
  have hl : ρ.length = vs.length := by rw [S.len, List.length_map]
  have hnew : ∀ a, New (ρ ++ List.replicate m none) (L2.start N vs) H a → New ρ (vs.map some) H a := fun a h => h.imp id (entry_own hl).mp
  -- a lent slot stands as at the entry
  have same : ∀ (i : Nat) (c : Cel), (outR ρ1 n)[i]? = some (some c) → i < vs.length ∧ ρ1[i]? = some (some c) ∧ c.fl = .io ∧ σ1[i]? = (vs.map some)[i]? := fun i c h => by
    obtain ⟨q1, q2, q3⟩ := outR_at h
    obtain ⟨c', r1, r2⟩ := x.oi i c q2 q3
    obtain ⟨w1, _⟩ := ap_get r1
    have e := (x.io i c' r1 r2).1
    rw [start_get (by omega)] at e
    exact ⟨by omega, q2, q3, e⟩
  have own : ∀ a, OwnA (outR ρ1 n) (vs.map some) a → OwnA ρ1 σ1 a := fun a ⟨i, c, h1, h2, h3⟩ => by
    obtain ⟨_, q2, _, q4⟩ := same i c h1
    exact ⟨i, c, q2, h2, q4.trans h3⟩
  refine ⟨⟨S1.bh, ?_, fun i c h => ?_, fun i j ci cj a hi hj ni nj ei ej => ?_⟩, ⟨x.bb, fun a o h => (x.nw a o h).imp id (hnew a), fun a o h z => x.kp a o h fun w => z ((entry_own hl).mp w), fun a h => hnew a (x.sub a (own a h)), fun i c h1 h2 => ?_, fun i c h1 h2 => ?_⟩, own, hnew⟩
  · unfold outR
    rw [List.length_map, List.length_range, List.length_map]
    omega
  · obtain ⟨_, q2, _, q4⟩ := same i c h
    obtain ⟨v, ev, ok⟩ := S1.sl i c q2
    exact ⟨v, q4.symm.trans ev, ok⟩
  · obtain ⟨_, q2, _, q4⟩ := same i ci hi
    obtain ⟨_, r2, _, r4⟩ := same j cj hj
    exact S1.dj i j ci cj a q2 r2 ni nj (q4.trans ei) (r4.trans ej)
  · obtain ⟨_, c', q1, q2⟩ := x.io i c (ap_of h1) h2
    exact ⟨rfl, c', outR_has (by have := lt_of h1; omega) q1 q2, q2⟩
  · obtain ⟨_, q2, q3, _⟩ := same i c h1
    obtain ⟨c', r1, r2⟩ := x.oi i c q2 q3
    exact ⟨c', (ap_get r1).2, r2⟩
end
section
variable {P : Program} {w : World} {K : PySem.W.Frag} {mg : Str → Option Value} {base : Heap} {cv : Str → Value}
abbrev cxF (P : Program) (w : World) (K : PySem.W.Frag) (mg : Str → Option Value) (base : Heap) (N : List Str) (qual : Str) (st : Stmt) (f : Addr) (cdv : Value) (A : Around) (outer : List Env) (s : Shared) (H : Hp) (E : XK) : Cx :=
  cxOf (L2.CX P w) P w K mg base N qual (defScope st) f cdv A outer s H E
abbrev ctF (K : PySem.W.Frag) (cv : Str → Value) (E : XK) : Ct := ⟨K, cv, fun cls d _ H' => E cls d H'⟩
/-- THE RULE for a def: from its body -/
theorem fn_mk {x qual : Str} {st : Stmt} {f : Addr} {fd : FuncData} {N ps : List Str} {k : Nat} {g : SF} (F : Fun K x qual st f fd) (S : FnScope N ps (defScope st))
    (hb : ∀ (cdv : Value) (A : Around) (outer : List Env) (s : Shared) (H : Hp) (E : XK), Room k (cxF P w K mg base N qual st f cdv A outer s H E).A → Takes (cxF P w K mg base N qual st f cdv A outer s H E) (ctF K cv E).W →
      PassesOwn (model P w) (cxF P w K mg base N qual st f cdv A outer s H E).A (cxF P w K mg base N qual st f cdv A outer s H E).env (cxF P w K mg base N qual st f cdv A outer s H E).xe →
      ∃ t, SSs (cxF P w K mg base N qual st f cdv A outer s H E) (ctF K cv E) (defBody st) t g) :
    FnOk P w K mg base (L2.CX P w) (k + 1) f fd ps (spF K cv ps.length (fnF N.length ps.length g)) := by
  have hpl : ps.length ≤ N.length := by have := congrArg List.length S.pre; rw [List.length_take] at this; omega
  refine F.okX S (fun vs H Q E h => ?_) (fun cdv A outer s H vs Q E hr h => ?_)
  · obtain ⟨ρ, B, hl, Sm, _⟩ := h
    have := Sm.len
    rw [List.length_map] at this
    omega
  · obtain ⟨ρ, B, hl, Sm, gd⟩ := h
    have hv : vs.length = ps.length := by
      have := Sm.len
      rw [List.length_map] at this
      omega
    obtain ⟨t, ht⟩ := hb cdv A outer s H E hr (takes_of rfl rfl rfl rfl) (passes_of rfl)
    refine ⟨t, ht.ps, ht.lk (ρ ++ List.replicate (N.length - ps.length) none) _ B H _ (by rw [← hv]; exact entry_sim Sm (by omega)) ?_⟩
    unfold fnF at gd
    cases eg : g (ρ ++ List.replicate (N.length - ps.length) none) with
    | stuck => rw [eg] at gd; exact gd
    | bk _ => rw [eg] at gd; exact gd.elim
    | ct _ => rw [eg] at gd; exact gd.elim
    | nx ρ1 =>
      rw [eg] at gd
      intro σ1 B1 H1 S1 x1
      obtain ⟨S2, x2, _, _⟩ := exit_sim Sm hl S1 x1
      exact gd .non B1 H1 S2 x2 .non
    | exc c ρ1 =>
      rw [eg] at gd
      intro cls dct σ1 B1 H1 S1 x1 ok
      obtain ⟨S2, x2, _, _⟩ := exit_sim Sm hl S1 x1
      exact gd cls dct B1 H1 S2 x2 ok
    | rt h ρ1 =>
      rw [eg] at gd
      intro v σ1 B1 H1 S1 x1 y1
      obtain ⟨S2, x2, n1, n2⟩ := exit_sim Sm hl S1 x1
      cases h with
      | sh d => exact gd v B1 H1 S2 x2 y1
      | fr d =>
        obtain ⟨a, r1, r2, r3, r4, r5⟩ := y1
        exact gd v B1 H1 S2 x2 ⟨a, r1, r2, r3, fun z => r4 (n1 a z), n2 a r5⟩
      | bw i => exact gd.elim
theorem fn_zero {f : Addr} {fd : FuncData} {ps : List Str} {n : Nat} (hn : n = ps.length) : FnOk P w K mg base (L2.CX P w) 0 f fd ps (spF K cv n fun _ => .stuck) :=
  ⟨fun vs H Q E ⟨_, _, _, _, h⟩ => h.elim, fun A outer s H args us vs Q E _ _ _ _ ⟨_, _, _, _, h⟩ => h.elim⟩
theorem rpl_ints {B : Hp} : ∀ ns : List Int, RpL K B (ns.map V.int) (ns.map PyData.int)
  | [] => .nil
  | n :: ns => .cons (.int n) (rpl_ints ns)
/-- the law's promise from what it computes -/
theorem law_sp {F : FF} {H : Hp} {a : Addr} {ns : List Int} {outs : Rho} (h : SqL K H a (ns.map V.int)) (e : F [some ⟨.list (ns.map .int), .sh⟩] = .ok (.sh (.bool true)) outs) {E : XK} :
    spF K cv 1 F [.ref a] H (fun v _ => v = .bl true) E := by
  refine ⟨[some ⟨.list (ns.map .int), .sh⟩], H, rfl, ⟨Same.refl H, rfl, fun i c hi => ?_, fun i j ci cj b hi hj ni nj _ _ => ?_⟩, ?_⟩
  · match i, hi with
    | 0, hi =>
      cases hi
      exact ⟨.ref a, rfl, .inl ⟨rfl, .lst h (rpl_ints ns)⟩⟩
    | i + 1, hi => simp at hi
  · match i, hi with
    | 0, hi =>
      cases hi
      exact absurd rfl ni
    | i + 1, hi => simp at hi
  · rw [e]
    intro v B' H' S x y
    cases (show Rp K B' v (.bool true) from y)
    rfl
end
end GS
namespace GS
open PySem L2
section
variable {X : Cx} {C : Ct} {ρ ρ1 : Rho} {σ σ1 σ' : St} {B H B1 H1 : Hp} {e tg : Expr} {te : TE} {fe : EF} {pos p : Pos} {vs : List Nat} {K : PySem.W.Frag}
/-- targets and tests of a comprehension -/
structure SGw (X : Cx) (C : Ct) (vs : List Nat) (tg : Expr) (t : TG) (f : D → Rho → Option Rho) : Prop where
  pg : PG X tg t
  lk : LkGw C vs t f
theorem sgw_name {i : Nat} {x : Str} (hN : X.N.Nodup) (hm : i ∈ vs := by simp) (hi : X.N[i]? = some x := by rfl) (hx : Loc X.env.scope x := by first | exact Or.inl rfl | exact Or.inr rfl)
    (hf : X.fn x = true ∨ X.env.scope.names.lookup x = some .local := by first | exact .inl rfl | exact .inr rfl | assumption) : SGw X C vs (.Name x pos) (gName i) (gN i) := ⟨pg_name hN hi hx hf, lkw_N hm⟩
structure SP (X : Cx) (C : Ct) (ifs : List Expr) (t : TT) (f : EF) : Prop where
  pt : PTs X ifs t
  lk : LkT C t f
def eYes : EF := fun ρ => .ok (.sh (.bool true)) ρ
theorem sp_nil : SP X C [] tYes eYes := ⟨pts_nil, fun ρ σ B H Q S g => g B H S Ext.refl⟩
abbrev bk (X : Cx) (scope : Scope) (s : Shared) (H : Hp) (c : Addr) (cl : List (Str × Addr)) (fp : List Addr) : Cx := X.blk s H scope (compEnvC scope cl c X.env) fp
theorem se_comp {elt it : Expr} {ifs : List Expr} {scope : Scope} {own : List (Str × Nat)} {w : TI} {tgt : TG} {tt : TT} {fi : IF} {g : D → Rho → Option Rho} {ft : EF} (hc : X.calm = true) (hN : X.N.Nodup) (ok : BlkOk X.N X.env.scope scope own) (li : SI X C tg it w fi)
    (hg : ∀ s H c cl fp, SGw (bk X scope s H c cl fp) C (own.map (·.2)) tg tgt g) (ht : ∀ s H c cl fp, SP (bk X scope s H c cl fp) C.nox ifs tt ft) (he : ∀ s H c cl fp, SE (bk X scope s H c cl fp) C.nox elt te fe)
    (hs : ∀ x, foldedSetIterable it X.env x = pure x := by intro _; rfl) : SE X C (.ListComp elt [⟨tg, it, ifs, 0⟩] scope pos) (tLc w tgt tt te (own.map (·.2))) (eLc (own.map (·.2)) fi g (eNox ft) (eNox fe)) :=
  se_lc hc hN li ok (fun s H c cl fp => (hg s H c cl fp).pg) (hg X.s_0 X.H_0 0 [] []).lk (fun s H c cl fp => (ht s H c cl fp).pt) (ht X.s_0 X.H_0 0 [] []).lk (fun s H c cl fp => (he s H c cl fp).pe) (he X.s_0 X.H_0 0 [] []).lk hs
end
theorem fn_of' {P : Program} {w : World} {K : PySem.W.Frag} {mg : Str → Option Value} {base : Heap} {cv : Str → Value} {x qual : Str} {st : Stmt} {f : Addr} {fd : FuncData} (N : List Str) {ps : List Str} {k m n : Nat} {g : SF} (hm : N.length = m) (hn : ps.length = n) (F : Fun K x qual st f fd) (S : FnScope N ps (defScope st))
    (hb : ∀ (cdv : Value) (A : Around) (outer : List Env) (s : Shared) (H : Hp) (E : XK), Room k (cxF P w K mg base N qual st f cdv A outer s H E).A → Takes (cxF P w K mg base N qual st f cdv A outer s H E) (ctF K cv E).W →
      PassesOwn (model P w) (cxF P w K mg base N qual st f cdv A outer s H E).A (cxF P w K mg base N qual st f cdv A outer s H E).env (cxF P w K mg base N qual st f cdv A outer s H E).xe →
      ∃ t, SSs (cxF P w K mg base N qual st f cdv A outer s H E) (ctF K cv E) (defBody st) t g) :
    FnOk P w K mg base (L2.CX P w) (k + 1) f fd ps (spF K cv n (fnF m n g)) := by
  subst hm hn
  exact fn_mk F S hb
end GS
namespace GS
open PySem L2
section
variable {ρ ρ1 : Rho} {c : Prop} [Decidable c]
@[simp] theorem bindE_ok (h : Hd) (k : Hd → Rho → RE) : bindE (.ok h ρ) k = k h ρ := rfl
@[simp] theorem bindE_st (k : Hd → Rho → RE) : bindE .stuck k = .stuck := rfl
@[simp] theorem bindE_ex (x : Xc) (k : Hd → Rho → RE) : bindE (.exc x ρ) k = .exc x ρ := rfl
@[simp] theorem bindE_if (a b : RE) (k : Hd → Rho → RE) : bindE (if c then a else b) k = if c then bindE a k else bindE b k := by split <;> rfl
@[simp] theorem bindB_ok (b : Bool) (k : Bool → Rho → RE) : bindB (.ok (.sh (.bool b)) ρ) k = k b ρ := rfl
@[simp] theorem bindB_st (k : Bool → Rho → RE) : bindB .stuck k = .stuck := rfl
@[simp] theorem bindB_ex (x : Xc) (k : Bool → Rho → RE) : bindB (.exc x ρ) k = .exc x ρ := rfl
@[simp] theorem bindB_if (a b : RE) (k : Bool → Rho → RE) : bindB (if c then a else b) k = if c then bindB a k else bindB b k := by split <;> rfl
@[simp] theorem bindA_ok (h : List Hd) (k : List Hd → Rho → RE) : bindA (.ok h ρ) k = k h ρ := rfl
@[simp] theorem bindA_st (k : List Hd → Rho → RE) : bindA .stuck k = .stuck := rfl
@[simp] theorem bindA_ex (x : Xc) (k : List Hd → Rho → RE) : bindA (.exc x ρ) k = .exc x ρ := rfl
@[simp] theorem bindA_if (a b : RA) (k : List Hd → Rho → RE) : bindA (if c then a else b) k = if c then bindA a k else bindA b k := by split <;> rfl
@[simp] theorem bindES_ok (h : Hd) (k : Hd → Rho → RS) : bindES (.ok h ρ) k = k h ρ := rfl
@[simp] theorem bindES_st (k : Hd → Rho → RS) : bindES .stuck k = .stuck := rfl
@[simp] theorem bindES_ex (x : Xc) (k : Hd → Rho → RS) : bindES (.exc x ρ) k = .exc x ρ := rfl
@[simp] theorem bindES_if (a b : RE) (k : Hd → Rho → RS) : bindES (if c then a else b) k = if c then bindES a k else bindES b k := by split <;> rfl
@[simp] theorem bindBS_ok (b : Bool) (k : Bool → Rho → RS) : bindBS (.ok (.sh (.bool b)) ρ) k = k b ρ := rfl
@[simp] theorem bindBS_st (k : Bool → Rho → RS) : bindBS .stuck k = .stuck := rfl
@[simp] theorem bindBS_ex (x : Xc) (k : Bool → Rho → RS) : bindBS (.exc x ρ) k = .exc x ρ := rfl
@[simp] theorem bindBS_if (a b : RE) (k : Bool → Rho → RS) : bindBS (if c then a else b) k = if c then bindBS a k else bindBS b k := by split <;> rfl
@[simp] theorem bindEI_ok (h : Hd) (k : Hd → Rho → RI) : bindEI (.ok h ρ) k = k h ρ := rfl
@[simp] theorem bindEI_st (k : Hd → Rho → RI) : bindEI .stuck k = .stuck := rfl
@[simp] theorem bindEI_ex (x : Xc) (k : Hd → Rho → RI) : bindEI (.exc x ρ) k = .exc x ρ := rfl
@[simp] theorem bindEI_if (a b : RE) (k : Hd → Rho → RI) : bindEI (if c then a else b) k = if c then bindEI a k else bindEI b k := by split <;> rfl
@[simp] theorem bindS_nx (k : Rho → RS) : bindS (.nx ρ) k = k ρ := rfl
@[simp] theorem bindS_st (k : Rho → RS) : bindS .stuck k = .stuck := rfl
@[simp] theorem bindS_rt (h : Hd) (k : Rho → RS) : bindS (.rt h ρ) k = .rt h ρ := rfl
@[simp] theorem bindS_ex (x : Xc) (k : Rho → RS) : bindS (.exc x ρ) k = .exc x ρ := rfl
@[simp] theorem bindS_bk (k : Rho → RS) : bindS (.bk ρ) k = .bk ρ := rfl
@[simp] theorem bindS_ct (k : Rho → RS) : bindS (.ct ρ) k = .ct ρ := rfl
@[simp] theorem bindS_if (a b : RS) (k : Rho → RS) : bindS (if c then a else b) k = if c then bindS a k else bindS b k := by split <;> rfl
@[simp] theorem slot_nil (i : Nat) : slot [] i = none := rfl
@[simp] theorem slot_zero (x : Option Cel) : slot (x :: ρ) 0 = x := by cases x <;> rfl
@[simp] theorem slot_succ (x : Option Cel) (i : Nat) : slot (x :: ρ) (i + 1) = slot ρ i := rfl
@[simp] theorem getH_sh (d : D) : getH ρ (.sh d) = some d := rfl
@[simp] theorem getH_fr (d : D) : getH ρ (.fr d) = some d := rfl
@[simp] theorem getH_bw (i : Nat) : getH ρ (.bw i) = (slot ρ i).map (·.d) := rfl
@[simp] theorem setl_sh (d : D) : setl (.sh d) = .sh d := rfl
@[simp] theorem setl_fr (d : D) : setl (.fr d) = .sh d := rfl
@[simp] theorem setl_bw (i : Nat) : setl (.bw i) = .bw i := rfl
@[simp] theorem capH_sh (d : D) : capH ρ (.sh d) = some d := rfl
@[simp] theorem capH_fr (d : D) : capH ρ (.fr d) = some d := rfl
@[simp] theorem capH_bw (i : Nat) : capH ρ (.bw i) = match slot ρ i with | some ⟨d, .sh⟩ => some d | _ => none := rfl
@[simp] theorem eC_eq (d : D) : eC d ρ = .ok (.sh d) ρ := rfl
@[simp] theorem eVb_eq (i : Nat) : eVb i ρ = match slot ρ i with | some _ => .ok (.bw i) ρ | none => .stuck := rfl
@[simp] theorem eMv_eq (i : Nat) : eMv i ρ = match slot ρ i with | some ⟨d, .sh⟩ => .ok (.sh d) ρ | some ⟨d, .ow⟩ => .ok (.sh d) (ρ.set i (some ⟨d, .sh⟩)) | _ => .stuck := rfl
@[simp] theorem eCap_eq (f : EF) : eCap f ρ = bindE (f ρ) fun h ρ' => match capH ρ' h with | some d => .ok (.sh d) ρ' | none => .stuck := rfl
@[simp] theorem eSet_eq (f : EF) : eSet f ρ = bindE (f ρ) fun h ρ' => .ok (setl h) ρ' := rfl
@[simp] theorem eNot_eq (f : EF) : eNot f ρ = bindB (f ρ) fun b ρ1 => .ok (.sh (.bool (!b))) ρ1 := rfl
@[simp] theorem eOr_eq (f g : EF) : eOr f g ρ = bindB (f ρ) fun b ρ1 => if b then .ok (.sh (.bool true)) ρ1 else g ρ1 := rfl
@[simp] theorem eIf_eq (f g h : EF) : eIf f g h ρ = bindB (f ρ) fun b ρ1 => if b then g ρ1 else h ρ1 := rfl
@[simp] theorem ePart_n (k : Option Int → Rho → RE) : ePart none ρ k = k none ρ := rfl
@[simp] theorem aNil_eq : aNil ρ = .ok [] ρ := rfl
@[simp] theorem shs_nil : shs [] = some [] := rfl
@[simp] theorem shs_cons (d : D) (hs : List Hd) : shs (.sh d :: hs) = (shs hs).map (d :: ·) := rfl
@[simp] theorem gets_nil : gets ρ [] = some [] := rfl
@[simp] theorem un1_1 (o : D → Option Hd) (d : D) : un1 o [d] = o d := rfl
@[simp] theorem un2_2 (o : D → D → Option Hd) (d e : D) : un2 o [d, e] = o d e := rfl
@[simp] theorem sNil_eq : sNil ρ = .nx ρ := rfl
@[simp] theorem sSeq_eq (f g : SF) : sSeq f g ρ = bindS (f ρ) g := rfl
@[simp] theorem sIf_eq (ft : EF) (f g : SF) : sIf ft f g ρ = bindBS (ft ρ) fun b ρ1 => if b then f ρ1 else g ρ1 := rfl
@[simp] theorem ioAt_nil (i : Nat) : ioAt [] i = false := rfl
@[simp] theorem ioAt_zn : ioAt (none :: ρ) 0 = false := rfl
@[simp] theorem ioAt_zs (d : D) : ioAt (some ⟨d, .sh⟩ :: ρ) 0 = false := rfl
@[simp] theorem ioAt_zo (d : D) : ioAt (some ⟨d, .ow⟩ :: ρ) 0 = false := rfl
@[simp] theorem ioAt_succ (x : Option Cel) (i : Nat) : ioAt (x :: ρ) (i + 1) = ioAt ρ i := rfl
@[simp] theorem sSet_eq (i : Nat) (f : EF) : sSet i f ρ = bindES (f ρ) fun h ρ1 => setHd ρ1 i h := rfl
@[simp] theorem setHd_sh (i : Nat) (d : D) : setHd ρ i (.sh d) = setR ρ i ⟨d, .sh⟩ := rfl
@[simp] theorem setHd_fr (i : Nat) (d : D) : setHd ρ i (.fr d) = setR ρ i ⟨d, .ow⟩ := rfl
def bindI (r : RI) (k : List D → Rho → RS) : RS := match r with
  | .stuck => .stuck
  | .exc x ρ1 => .exc x ρ1
  | .ok ds ρ1 => k ds ρ1
@[simp] theorem bindI_ok (ds : List D) (k : List D → Rho → RS) : bindI (.ok ds ρ) k = k ds ρ := rfl
@[simp] theorem bindI_st (k : List D → Rho → RS) : bindI .stuck k = .stuck := rfl
@[simp] theorem bindI_if (a b : RI) (k : List D → Rho → RS) : bindI (if c then a else b) k = if c then bindI a k else bindI b k := by split <;> rfl
@[simp] theorem sFor_eq (fi : IF) (g : D → Rho → Option Rho) (b : SF) : sFor fi g b ρ = bindI (fi ρ) fun ds ρ1 => forL g b ds ρ1 := by unfold sFor bindI; rfl
@[simp] theorem eNox_eq (f : EF) : eNox f ρ = match f ρ with | .exc _ _ => .stuck | r => r := rfl
@[simp] theorem wipeR_nil : wipeR ρ [] = ρ := rfl
@[simp] theorem wipeR_cons (v : Nat) (vs : List Nat) : wipeR ρ (v :: vs) = (wipeR ρ vs).set v none := rfl
@[simp] theorem addD_i (i j : Int) : addD (.int i) (.int j) = some (.sh (.int (i + j))) := rfl
@[simp] theorem addD_s (i j : Str) : addD (.str i) (.str j) = if i.length + j.length ≤ sizeLine then some (.sh (.str (i ++ j))) else none := rfl
@[simp] theorem addD_t (i j : List D) : addD (.tuple i) (.tuple j) = if i.length + j.length ≤ sizeLine then some (.sh (.tuple (i ++ j))) else none := rfl
@[simp] theorem addD_l (i j : List D) : addD (.list i) (.list j) = if i.length + j.length ≤ sizeLine then some (.fr (.list (i ++ j))) else none := rfl
@[simp] theorem ltI_i (f : Int → Int → Bool) (i j : Int) : ltI f (.int i) (.int j) = some (.sh (.bool (f i j))) := rfl
@[simp] theorem lenD_l (ds : List D) : lenD (.list ds) = some (.sh (.int ds.length)) := rfl
@[simp] theorem lenD_t (ds : List D) : lenD (.tuple ds) = some (.sh (.int ds.length)) := rfl
@[simp] theorem lenD_s (z : Str) : lenD (.str z) = if z.length ≤ sizeLine then some (.sh (.int z.length)) else none := rfl
@[simp] theorem ixD_l (ds : List D) (i : Int) : ixD (.list ds) (.int i) = (atI ds i).map Hd.sh := rfl
@[simp] theorem ixD_t (ds : List D) (i : Int) : ixD (.tuple ds) (.int i) = (atI ds i).map Hd.sh := rfl
@[simp] theorem ixD_s (z : Str) (i : Int) : ixD (.str z) (.int i) = if z.length ≤ sizeLine then (atI z.cps.toList i).map fun c => Hd.sh (.str ⟨#[c]⟩) else none := rfl
@[simp] theorem slD_l (lo hi : Option Int) (ds : List D) : slD lo hi (.list ds) = some (.fr (.list (cutD ds lo hi))) := rfl
@[simp] theorem slD_t (lo hi : Option Int) (ds : List D) : slD lo hi (.tuple ds) = some (.sh (.tuple (cutD ds lo hi))) := rfl
@[simp] theorem slD_s (lo hi : Option Int) (z : Str) : slD lo hi (.str z) = if z.length ≤ sizeLine then some (.sh (.str (cutS z lo hi))) else none := rfl
@[simp] theorem tupleD_l (ds : List D) : tupleD (.list ds) = some (.sh (.tuple ds)) := rfl
@[simp] theorem tupleD_t (ds : List D) : tupleD (.tuple ds) = some (.sh (.tuple ds)) := rfl
end
end GS
namespace GS
open PySem L2
section
variable {ρ ρ1 : Rho} {c : Prop} [Decidable c]
/-- a def's end -/
def finR (n : Nat) (r : RS) : RE := match r with
  | .rt (.bw _) _ => .stuck
  | .rt h ρ1 => .ok h (outR ρ1 n)
  | .nx ρ1 => .ok (.sh .none) (outR ρ1 n)
  | .exc x ρ1 => .exc x (outR ρ1 n)
  | _ => .stuck
@[simp] theorem finR_sh (n : Nat) (d : D) : finR n (.rt (.sh d) ρ) = .ok (.sh d) (outR ρ n) := rfl
@[simp] theorem finR_fr (n : Nat) (d : D) : finR n (.rt (.fr d) ρ) = .ok (.fr d) (outR ρ n) := rfl
@[simp] theorem finR_nx (n : Nat) : finR n (.nx ρ) = .ok (.sh .none) (outR ρ n) := rfl
@[simp] theorem finR_ex (n : Nat) (x : Xc) : finR n (.exc x ρ) = .exc x (outR ρ n) := rfl
@[simp] theorem finR_if (n : Nat) (a b : RS) : finR n (if c then a else b) = if c then finR n a else finR n b := by split <;> rfl
theorem fnF_eq (m n : Nat) (g : SF) : fnF m n g ρ = finR n (g (ρ ++ List.replicate (m - n) none)) := by unfold fnF finR; rfl
@[simp] theorem ioC_sh (d : D) : ioC (some ⟨d, .sh⟩) = none := rfl
@[simp] theorem ioC_ow (d : D) : ioC (some ⟨d, .ow⟩) = none := rfl
@[simp] theorem ioC_io (d : D) : ioC (some ⟨d, .io⟩) = some ⟨d, .io⟩ := rfl
@[simp] theorem ioC_no : ioC none = none := rfl
@[simp] theorem args_nil (io : Option Nat) (k : Nat) : args ρ io k [] = some [] := rfl
@[simp] theorem argC_shf (d : D) : argC ρ false (.sh d) = some ⟨d, .sh⟩ := rfl
@[simp] theorem forL_nil (g : D → Rho → Option Rho) (b : SF) : forL g b [] ρ = .nx ρ := rfl
/-- one turn's end -/
def turnR (k : Rho → RS) (r : RS) : RS := match r with
  | .nx ρ2 => k ρ2
  | .ct ρ2 => k ρ2
  | .bk ρ2 => .nx ρ2
  | r => r
@[simp] theorem turnR_nx (k : Rho → RS) : turnR k (.nx ρ) = k ρ := rfl
@[simp] theorem turnR_ct (k : Rho → RS) : turnR k (.ct ρ) = k ρ := rfl
@[simp] theorem turnR_bk (k : Rho → RS) : turnR k (.bk ρ) = .nx ρ := rfl
@[simp] theorem turnR_rt (k : Rho → RS) (h : Hd) : turnR k (.rt h ρ) = .rt h ρ := rfl
@[simp] theorem turnR_ex (k : Rho → RS) (x : Xc) : turnR k (.exc x ρ) = .exc x ρ := rfl
@[simp] theorem turnR_st (k : Rho → RS) : turnR k .stuck = .stuck := rfl
@[simp] theorem turnR_if (k : Rho → RS) (a b : RS) : turnR k (if c then a else b) = if c then turnR k a else turnR k b := by split <;> rfl
def optR (o : Option Rho) (k : Rho → RS) : RS := match o with
  | none => .stuck
  | some ρ1 => k ρ1
@[simp] theorem optR_s (k : Rho → RS) : optR (some ρ) k = k ρ := rfl
theorem forL_cons (g : D → Rho → Option Rho) (b : SF) (d : D) (ds : List D) : forL g b (d :: ds) ρ = optR (g d ρ) fun ρ1 => turnR (forL g b ds) (b ρ1) := by
  unfold optR turnR
  rw [forL]
  try rfl
def optE (o : Option Rho) (k : Rho → RE) : RE := match o with
  | none => .stuck
  | some ρ1 => k ρ1
@[simp] theorem optE_s (k : Rho → RE) : optE (some ρ) k = k ρ := rfl
theorem lcL_nil (vs : List Nat) (g : D → Rho → Option Rho) (ft fe : EF) (acc : List D) : lcL vs g ft fe [] acc ρ = .ok (.fr (.list acc)) ρ := rfl
def lcR (acc : List D) (k : List D → Rho → RE) (h : Hd) (ρ3 : Rho) : RE := match h with
  | .sh y => if acc.length < sizeLine then k (acc ++ [y]) ρ3 else .stuck
  | _ => .stuck
@[simp] theorem lcR_s (acc : List D) (k : List D → Rho → RE) (y : D) : lcR acc k (.sh y) ρ = if acc.length < sizeLine then k (acc ++ [y]) ρ else .stuck := rfl
theorem lcL_cons (vs : List Nat) (g : D → Rho → Option Rho) (ft fe : EF) (d : D) (ds acc : List D) : lcL vs g ft fe (d :: ds) acc ρ = optE (g d ρ) fun ρ1 => bindB (ft ρ1) fun c ρ2 => if c then bindE (eCap fe ρ2) (lcR acc fun acc' ρ3 => lcL vs g ft fe ds acc' (wipeR ρ3 vs)) else lcL vs g ft fe ds acc (wipeR ρ2 vs) := by
  unfold optE lcR
  rw [lcL]
  try rfl
@[simp] theorem gN_eq (i : Nat) (d : D) : gN i d ρ = if i < ρ.length && !ioAt ρ i then some (ρ.set i (some ⟨d, .sh⟩)) else none := rfl
@[simp] theorem optR_if (a b : Option Rho) (k : Rho → RS) : optR (if c then a else b) k = if c then optR a k else optR b k := by split <;> rfl
@[simp] theorem optE_if (a b : Option Rho) (k : Rho → RE) : optE (if c then a else b) k = if c then optE a k else optE b k := by split <;> rfl
@[simp] theorem setR_eq (i : Nat) (c : Cel) : setR ρ i c = if i < ρ.length && !ioAt ρ i then .nx (ρ.set i (some c)) else .stuck := rfl
@[simp] theorem atI_zero {α : Type} (x : α) (xs : List α) : atI (x :: xs) 0 = some x := by
  have := atI_nat (xs := x :: xs) (j := 0) (v := x) rfl
  exact this
theorem atI_lt {α : Type} {xs : List α} {i : Int} (h0 : 0 ≤ i) (h1 : i < xs.length) : ∃ x, atI xs i = some x ∧ x ∈ xs := by
  have hk : i.toNat < xs.length := by omega
  have e : i = ((i.toNat : Nat) : Int) := by omega
  have q := atI_nat (xs := xs) (List.getElem?_eq_getElem hk)
  rw [← e] at q
  exact ⟨_, q, List.getElem_mem hk⟩
end
end GS
namespace GS
open PySem L2
def kEq : D → D → Bool
  | .int i, .int j => decide (i = j)
  | .str i, .str j => decide (i = j)
  | _, _ => false
def isK : D → Bool
  | .int _ => true
  | .str _ => true
  | _ => false
def dGet : List (D × D) → D → Option D
  | [], _ => none
  | (a, d) :: r, k => if kEq a k then some d else dGet r k
theorem kEq_k (a b : Key) : kEq (kD a) (kD b) = decide (a = b) := by
  cases a <;> cases b <;> simp [kD, kEq]
theorem isK_k {d : D} (h : isK d = true) : ∃ k, d = kD k := by
  cases d <;> first | (cases h; done) | skip
  · exact ⟨.inl _, rfl⟩
  · exact ⟨.inr _, rfl⟩
section
variable {K : PySem.W.Frag} {B H : Hp} {ρ : Rho} {σ : St} {x y v : V} {Q : VK}
theorem Tp.key {k : Key} (h : Tp K B H v (kD k)) : v = kV k := by
  cases k
  · exact h.int
  · exact h.str
theorem rpk_get {k : Key} : ∀ {kvs : List (Key × V)} {ps : List (D × D)}, RpK K B kvs ps → (∀ d, dGet ps (kD k) = some d → ∃ v, valV kvs k = some v ∧ Rp K B v d) ∧ (dGet ps (kD k) = none → valV kvs k = none)
  | _, _, .nil => ⟨fun d h => (by cases h), fun _ => rfl⟩
  | _, _, .cons (k := a) (v := v) (d := e) r t => by
    obtain ⟨h1, h2⟩ := rpk_get (k := k) t
    unfold dGet
    rw [kEq_k]
    by_cases c : a = k
    · rw [decide_eq_true c]
      refine ⟨fun d h => ?_, fun h => ?_⟩
      · cases h
        exact ⟨v, valV_pos c, r⟩
      · cases h
    · rw [decide_eq_false c]
      rw [valV_neg c]
      exact ⟨h1, h2⟩
/-- a dict proper -/
theorem Tp.dct {H : Hp} {v : V} {ps : List (D × D)} (h : Tp K B H v (.dict ps)) (hx : (∃ d, ps = [(.none, d)]) → False) : ∃ a kvs, v = .ref a ∧ H a = some (.dK kvs) ∧ RpK K B kvs ps := by
  rcases h with h | ⟨z, h⟩
  · exact h
  · cases h with
    | dct _ r =>
      cases r with
      | nil => cases z
      | @cons k _ _ _ _ _ _ => cases k <;> cases z
    | exn _ _ _ _ => exact (hx ⟨_, rfl⟩).elim
theorem dGet_xn {ps : List (D × D)} (h : ∃ d, ps = [(.none, d)]) (k : Key) : dGet ps (kD k) = none := by
  obtain ⟨d, rfl⟩ := h
  cases k <;> rfl
def dgD : D → D → Option Hd
  | .dict ps, k => if isK k then (dGet ps k).map Hd.sh else none
  | _, _ => none
def rDG : R2 := fun x y H Q => ∃ a v, x = .ref a ∧ DGet H a y (some v) ∧ Q v H
theorem ol_dg : OpL K rDG dgD := fun ρ σ B H x y dx dy h Q S tx ty e k => by
  cases dx <;> first | (cases (show none = some h from e); done) | skip
  rename_i ps
  replace e : (if isK dy then (dGet ps dy).map Hd.sh else none) = some h := e
  split at e
  · rename_i hk
    obtain ⟨ky, rfl⟩ := isK_k hk
    obtain ⟨d, e1, rfl⟩ := Option.map_eq_some_iff.mp e
    obtain ⟨a, kvs, rfl, ha, ra⟩ := tx.dct fun z => by
      rw [dGet_xn z ky] at e1
      cases e1
    obtain ⟨v, q1, q2⟩ := (rpk_get ra).1 d e1
    rw [ty.key]
    refine ⟨a, v, rfl, ?_, now S q2 k⟩
    rw [← q1]
    exact DGet.k ha
  · cases e
open PyProof.Rows PySem.Spec in
theorem ix_dict {X : Cx} (hu : X.A.units + 1 < cLine) : IxR X rDG := by
  intro value slice pins s σ H x y v u Q I rx ry q hs
  obtain ⟨a, w, rfl, g, q⟩ := q
  obtain rfl : v = Value.ref a := rx
  have hT := dict_typeIs I g
  unfold subscriptTail
  refine wpAny_bind ?_
  rw [getitemInPython_of_ne hT.not_modules]
  refine wpAny_bind (wpAny_specialOf hT PySem.F.slot_dict_getitem.lookup ?_)
  have fin : wpAny (model X.prog X.w) X.A (subscripted slice false (Value.ref a) u) (fun r s₃ => wpAny (model X.prog X.w) X.A (letTemporaryGo value (Value.ref a) r >>= fun _ => pure r) (EP X pins σ Q) X.xe s₃) X.xe s := by
    rw [hs]
    exact wpAny_operating (wpAny_mono (d_getItem hu I g ry fun w' s3 I3 rw' => ⟨w, H, I3, rw', q⟩) (fun r s₃ h₃ => wpAny_bind (wpAny_letTemporaryGo (wpAny_pure h₃))) fun _ _ x => x)
  exact wpAny_pure (wpAny_bind fin)
def ixA : D → D → Option Hd
  | .dict ps, k => dgD (.dict ps) k
  | d, k => ixD d k
def rIxA (K : PySem.W.Frag) : R2 := fun x y H Q => rIx K x y H Q ∨ rDG x y H Q
theorem ol_ixA : OpL K (rIxA K) ixA := fun ρ σ B H x y dx dy h Q S tx ty e k => by
  cases dx with
  | dict ps => exact .inr (ol_dg ρ σ B H x y _ dy h Q S tx ty e k)
  | _ => exact .inl (ol_ix ρ σ B H x y _ dy h Q S tx ty e k)
end
section
variable {X : Cx} {C : Ct} {a b e : Expr} {ta tb te : TE} {fa fb fe : EF} {pos pos' q1 : Pos} {ρ ρ1 : Rho} {σ : St} {B H B1 H1 : Hp}
theorem se_ixA (hu : X.A.units + 65 < cLine) (la : SE X C a ta fa) (lb : SE X C b tb fb) (hk : X.K = C.K := by rfl) (hs : PlainIx b := by intro _ _; rfl) : SE X C (.Subscript a b pos) (tOp (rIxA C.K) ta tb) (eBin ixA fa fb) :=
  ⟨by rw [← hk]; exact pe_ix (IxR.or ix_seq (ix_dict (by omega))) la.pe lb.pe hs, lk_op ol_ixA la.lk lb.lk⟩
end
end GS
namespace GS
open PySem L2
inductive RP where | stuck | ok (ps : List (D × D)) (ρ : Rho) | exc (x : Xc) (ρ : Rho)
section
variable {X : Cx} {C : Ct} {a b e : Expr} {ta tb te tk tv : TE} {fa fb fe fk fv : EF} {pos pos' q1 : Pos} {ρ ρ1 : Rho} {σ : St} {B H B1 H1 : Hp} {K : PySem.W.Frag}
def GoodP (C : Ct) (ρ : Rho) (σ : St) (B H : Hp) (Q : List (V × V) → Hp → Prop) : RP → Prop
  | .stuck => False
  | .ok ps ρ' => ∀ kvs B' H', Sim C.K ρ' σ B' H' → Ext ρ σ B H ρ' σ B' H' → RpK C.K B' kvs ps → Q (kvs.map fun kv => (kV kv.1, kv.2)) H'
  | .exc x ρ' => ∀ cls dct B' H', Sim C.K ρ' σ B' H' → Ext ρ σ B H ρ' σ B' H' → XcOk C B' x cls dct → C.W cls dct σ H'
theorem GoodP.ext {Q : List (V × V) → Hp → Prop} (x : Ext ρ σ B H ρ1 σ B1 H1) : ∀ {r : RP}, GoodP C ρ σ B H Q r → GoodP C ρ1 σ B1 H1 Q r
  | .stuck, g => g
  | .ok _ _, g => fun vs B' H' s y z => g vs B' H' s (x.trans y) z
  | .exc _ _, g => fun c d B' H' s y z => g c d B' H' s (x.trans y) z
end
end GS
namespace GS
open PySem L2
section
variable {X : Cx} {C : Ct} {e0 : Expr} {es : List Expr} {pos p : Pos} {x : Str} {k n : Nat} {f : Addr} {fd : FuncData} {ps : List Str} {F : FF} {t : TA} {g : AF} {t0 : TE} {f0 : EF}
end
end GS
namespace GS
open PySem L2
section
variable {K : PySem.W.Frag} {ρ : Rho} {σ : St} {B H : Hp} {v x y : V} {Q : VK}
end
section
variable {X : Cx} {C : Ct} {a b e : Expr} {ta tb te : TE} {fa fb fe : EF} {pos p p1 p2 p3 : Pos}
end
end GS
namespace GS
open PySem L2
def mapR (k : Rho → Rho) : RS → RS
  | .stuck => .stuck
  | .nx ρ => .nx (k ρ)
  | .bk ρ => .bk (k ρ)
  | .ct ρ => .ct (k ρ)
  | .rt h ρ => .rt h (k ρ)
  | .exc x ρ => .exc x (k ρ)
/-- less is known -/
structure Weak (ρ ρ' : Rho) : Prop where
  len : ρ'.length = ρ.length
  sub : ∀ (i : Nat) (c : Cel), ρ'[i]? = some (some c) → ρ[i]? = some (some c)
  io : ∀ (i : Nat) (c : Cel), ρ[i]? = some (some c) → c.fl = .io → ρ'[i]? = some (some c)
section
variable {K : PySem.W.Frag} {X : Cx} {C : Ct} {ρ ρ1 ρ2 : Rho} {σ σ1 : St} {B H B1 H1 : Hp} {Ed : Ends} {t u : TS} {f g : SF} {st : Stmt} {rest : List Stmt} {pos : Pos}
theorem OwnA.weak (w : Weak ρ ρ1) {a : Addr} (h : OwnA ρ1 σ a) : OwnA ρ σ a := by
  obtain ⟨i, c, h1, h2, h3⟩ := h
  exact ⟨i, c, w.sub i c h1, h2, h3⟩
theorem Sim.weak (S : Sim K ρ σ B H) (w : Weak ρ ρ1) : Sim K ρ1 σ B H :=
  ⟨S.bh, w.len.trans S.len, fun i c h => S.sl i c (w.sub i c h), fun i j ci cj a hi hj => S.dj i j ci cj a (w.sub i ci hi) (w.sub j cj hj)⟩
theorem Ext.weak (x : Ext ρ σ B H ρ1 σ1 B1 H1) (w : Weak ρ1 ρ2) : Ext ρ σ B H ρ2 σ1 B1 H1 :=
  ⟨x.bb, x.nw, x.kp, fun a h => x.sub a (OwnA.weak w h), fun i c h1 h2 => by
    obtain ⟨e1, c1, q1, q2⟩ := x.io i c h1 h2
    exact ⟨e1, c1, w.io i c1 q1 q2, q2⟩, fun i c h1 h2 => x.oi i c (w.sub i c h1) h2⟩
theorem HdOk.weak {N : Addr → Prop} {v : V} (w : Weak ρ ρ1) : ∀ {h : Hd}, HdOk K N ρ σ B H v h → HdOk K N ρ1 σ B H v h
  | .sh _, q => q
  | .fr _, ⟨a, h1, h2, h3, h4, h5⟩ => ⟨a, h1, h2, h3, fun z => h4 (OwnA.weak w z), h5⟩
  | .bw _, q => q
theorem lk_weak {k : Rho → Rho} {f : SF} (hk : ∀ ρ' σ' B' H', Ext ρ σ B H ρ' σ' B' H' → Weak ρ' (k ρ')) (g : GoodS C ρ σ B H Ed (mapR k (f ρ))) : GoodS C ρ σ B H Ed (f ρ) := by
  cases e : f ρ with
  | stuck => rw [e] at g; exact g
  | nx ρ' => rw [e] at g; exact fun σ' B' H' s x => g σ' B' H' (s.weak (hk _ _ _ _ x)) (x.weak (hk _ _ _ _ x))
  | bk ρ' => rw [e] at g; exact fun σ' B' H' s x => g σ' B' H' (s.weak (hk _ _ _ _ x)) (x.weak (hk _ _ _ _ x))
  | ct ρ' => rw [e] at g; exact fun σ' B' H' s x => g σ' B' H' (s.weak (hk _ _ _ _ x)) (x.weak (hk _ _ _ _ x))
  | rt h ρ' => rw [e] at g; exact fun v σ' B' H' s x y => g v σ' B' H' (s.weak (hk _ _ _ _ x)) (x.weak (hk _ _ _ _ x)) (y.weak (hk _ _ _ _ x))
  | exc y ρ' => rw [e] at g; exact fun c d σ' B' H' s x z => g c d σ' B' H' (s.weak (hk _ _ _ _ x)) (x.weak (hk _ _ _ _ x)) z
def sKill (vs : List Nat) (f : SF) : SF := fun ρ => if vs.all fun i => !ioAt ρ i then mapR (fun ρ => wipeR ρ vs) (f ρ) else .stuck
theorem weak_wipe {vs : List Nat} (h : ∀ i ∈ vs, ∀ c, ρ[i]? = some (some c) → c.fl ≠ .io) : Weak ρ (wipeR ρ vs) :=
  ⟨wipeR_len _ _, fun i c e => (wipeR_some e).1, fun i c e z => by
    have ni : i ∉ vs := fun q => h i q c e z
    rw [wipeR_keep ni]; exact e⟩
theorem lk_kill {vs : List Nat} (l : LkS C t f) : LkS C t (sKill vs f) := fun ρ σ B H D S g => by
  unfold sKill at g
  split at g
  · rename_i hv
    refine l ρ σ B H D S (lk_weak (fun ρ' σ' B' H' x => weak_wipe fun i hi c hc hf => ?_) g)
    have := List.all_eq_true.mp hv i hi
    obtain ⟨c', q1, q2⟩ := x.oi i c hc hf
    exact not_io (by simpa using this) q1 q2
  · exact g.elim
theorem sss_kill {vs : List Nat} {sts : List Stmt} (l : SSs X C sts t f) : SSs X C sts t (sKill vs f) := ⟨l.ps, lk_kill l.lk⟩
theorem weak_io : Weak ρ (ρ.map ioC) := by
  refine ⟨List.length_map _, fun i c e => ?_, fun i c e z => ?_⟩
  · rw [List.getElem?_map] at e
    obtain ⟨o, h1, h2⟩ := Option.map_eq_some_iff.mp e
    rw [h1, (ioC_some h2).1]
  · rw [List.getElem?_map, e]
    obtain ⟨d, fl⟩ := c
    cases z
    rfl
/-- only what is lent stays -/
def sEnd (f : SF) : SF := fun ρ => mapR (fun ρ => ρ.map ioC) (f ρ)
theorem lk_end (l : LkS C t f) : LkS C t (sEnd f) := fun ρ σ B H D S g => l ρ σ B H D S (lk_weak (fun _ _ _ _ _ => weak_io) g)
theorem ss_end (l : SS X C st t f) : SS X C st t (sEnd f) := ⟨l.ps, lk_end l.lk⟩
end
end GS
namespace GS
open PySem L2
def flatEq : D → D → Option Bool
  | .str i, .str j => some (decide (i = j))
  | .int i, .int j => some (decide (i = j))
  | .bool i, .bool j => some (decide (i = j))
  | .none, .none => some true
  | .none, .str _ => some false
  | .str _, .none => some false
  | .none, .int _ => some false
  | .int _, .none => some false
  | _, _ => none
/-- no dicts, at most 190 deep -/
def okW (d : D) : Bool := GS.plain d && PyData.canLay0 d && Nat.ble d.depth 190
def eqB (neg : Bool) : D → D → Option Hd := fun x y => match flatEq x y with
  | some b => some (.sh (.bool (neg ^^ b)))
  | none => if okW x && okW y then some (.sh (.bool (neg ^^ PyData.eqv x y))) else none
def rEqW (K : PySem.W.Frag) : R2 := fun x y H Q => ∃ d e, Dp K H x d ∧ Dp K H y e ∧ PyData.canLay0 d = true ∧ PyData.canLay0 e = true ∧ d.depth ≤ 190 ∧ Q (.bl (PyData.eqv d e)) H
def rNeW (K : PySem.W.Frag) : R2 := fun x y H Q => ∃ d e, Dp K H x d ∧ Dp K H y e ∧ PyData.canLay0 d = true ∧ PyData.canLay0 e = true ∧ d.depth ≤ 190 ∧ Q (.bl (!PyData.eqv d e)) H
theorem op_eqW {X : Cx} (hu : X.A.units + 199 < cLine) : OpR X (compareOp .Eq) (rEqW X.K) := by
  intro pins s σ H x y v u Q I rx ry h
  obtain ⟨d, e, hd, he, sd, se, dp, q⟩ := h
  obtain ⟨as, r1⟩ := Dp.reads I d x v hd rx
  obtain ⟨bs, r2⟩ := Dp.reads I e y u he ry
  exact SeqAt.compareEq_reads r1 r2 sd se (by omega) ⟨.bl _, H, I, rfl, q⟩
theorem op_neW {X : Cx} (hu : X.A.units + 199 < cLine) : OpR X (compareOp .NotEq) (rNeW X.K) := by
  intro pins s σ H x y v u Q I rx ry h
  obtain ⟨d, e, hd, he, sd, se, dp, q⟩ := h
  obtain ⟨as, r1⟩ := Dp.reads I d x v hd rx
  obtain ⟨bs, r2⟩ := Dp.reads I e y u he ry
  exact SeqAt.compareNe_reads r1 r2 sd se (by omega) ⟨.bl _, H, I, rfl, q⟩
section
variable {K : PySem.W.Frag}
theorem flatEq_V {B H : Hp} {x y : V} {dx dy : D} {b : Bool} (tx : Tp K B H x dx) (ty : Tp K B H y dy) (e : flatEq dx dy = some b) : scal x y = true ∧ decide (x = y) = b := by
  cases dx <;> cases dy <;> first | (cases (show none = some b from e); done) | skip
  · cases e; rw [tx.non, ty.non]; exact ⟨rfl, rfl⟩
  · cases e; rw [tx.non, ty.int]; exact ⟨rfl, by simp⟩
  · cases e; rw [tx.non, ty.str]; exact ⟨rfl, by simp⟩
  · cases e; rw [tx.bl, ty.bl]; exact ⟨rfl, by simp⟩
  · cases e; rw [tx.int, ty.non]; exact ⟨rfl, by simp⟩
  · cases e; rw [tx.int, ty.int]; exact ⟨rfl, by simp⟩
  · cases e; rw [tx.str, ty.non]; exact ⟨rfl, by simp⟩
  · cases e; rw [tx.str, ty.str]; exact ⟨rfl, by simp⟩
theorem op_eqB {X : Cx} (hu : X.A.units + 199 < cLine) : OpR X (compareOp .Eq) (fun x y H Q => rEq x y H Q ∨ rEqW X.K x y H Q) := OpR.or op_eq (op_eqW hu)
theorem op_neB {X : Cx} (hu : X.A.units + 199 < cLine) : OpR X (compareOp .NotEq) (fun x y H Q => rNe x y H Q ∨ rNeW X.K x y H Q) := OpR.or op_ne (op_neW hu)
theorem okW_ok {d : D} (h : okW d = true) : GS.plain d = true ∧ PyData.canLay0 d = true ∧ d.depth ≤ 190 := by
  unfold okW at h
  rw [Bool.and_eq_true, Bool.and_eq_true] at h
  exact ⟨h.1.1, h.1.2, Nat.le_of_ble_eq_true h.2⟩
theorem ol_eqB : OpL K (fun x y H Q => rEq x y H Q ∨ rEqW K x y H Q) (eqB false) := fun ρ σ B H x y dx dy h Q S tx ty e k => by
  unfold eqB at e
  split at e
  · rename_i b eb
    cases e
    obtain ⟨q1, q2⟩ := flatEq_V tx ty eb
    refine .inl ⟨q1, ?_⟩
    rw [q2]
    have := now (v := .bl (false ^^ b)) S (.bl _) k
    rwa [Bool.false_xor] at this
  · obtain ⟨c, rfl⟩ := if_some e
    rw [Bool.and_eq_true] at c
    obtain ⟨p1, c1, d1⟩ := okW_ok c.1
    obtain ⟨p2, c2, d2⟩ := okW_ok c.2
    refine .inr ⟨dx, dy, (tx.rp S.bh).dp _ p1, (ty.rp S.bh).dp _ p2, c1, c2, d1, ?_⟩
    have := now (v := .bl (false ^^ PyData.eqv dx dy)) S (.bl _) k
    rwa [Bool.false_xor] at this
theorem ol_neB : OpL K (fun x y H Q => rNe x y H Q ∨ rNeW K x y H Q) (eqB true) := fun ρ σ B H x y dx dy h Q S tx ty e k => by
  unfold eqB at e
  split at e
  · rename_i b eb
    cases e
    obtain ⟨q1, q2⟩ := flatEq_V tx ty eb
    refine .inl ⟨q1, ?_⟩
    rw [q2]
    have := now (v := .bl (true ^^ b)) S (.bl _) k
    rwa [Bool.true_xor] at this
  · obtain ⟨c, rfl⟩ := if_some e
    rw [Bool.and_eq_true] at c
    obtain ⟨p1, c1, d1⟩ := okW_ok c.1
    obtain ⟨p2, c2, d2⟩ := okW_ok c.2
    refine .inr ⟨dx, dy, (tx.rp S.bh).dp _ p1, (ty.rp S.bh).dp _ p2, c1, c2, d1, ?_⟩
    have := now (v := .bl (true ^^ PyData.eqv dx dy)) S (.bl _) k
    rwa [Bool.true_xor] at this
end
end GS
namespace GS
open PySem L2
def stuckF : FF := fun _ => .stuck
section
variable {ρ ρ1 : Rho} {c : Prop} [Decidable c]
@[simp] theorem mapR_st (k : Rho → Rho) : mapR k .stuck = .stuck := rfl
@[simp] theorem mapR_nx (k : Rho → Rho) : mapR k (.nx ρ) = .nx (k ρ) := rfl
@[simp] theorem mapR_bk (k : Rho → Rho) : mapR k (.bk ρ) = .bk (k ρ) := rfl
@[simp] theorem mapR_ct (k : Rho → Rho) : mapR k (.ct ρ) = .ct (k ρ) := rfl
@[simp] theorem mapR_rt (k : Rho → Rho) (h : Hd) : mapR k (.rt h ρ) = .rt h (k ρ) := rfl
@[simp] theorem mapR_ex (k : Rho → Rho) (x : Xc) : mapR k (.exc x ρ) = .exc x (k ρ) := rfl
@[simp] theorem mapR_if (k : Rho → Rho) (a b : RS) : mapR k (if c then a else b) = if c then mapR k a else mapR k b := by split <;> rfl
@[simp] theorem sKill_eq (vs : List Nat) (f : SF) : sKill vs f ρ = if vs.all fun i => !ioAt ρ i then mapR (fun ρ => wipeR ρ vs) (f ρ) else .stuck := rfl
@[simp] theorem sEnd_eq (f : SF) : sEnd f ρ = mapR (fun ρ => ρ.map ioC) (f ρ) := rfl
@[simp] theorem ioAt_zi (d : D) : ioAt (some ⟨d, .io⟩ :: ρ) 0 = true := rfl
@[simp] theorem outR_zero : outR ρ 0 = [] := rfl
@[simp] theorem outR_succ (x : Option Cel) (n : Nat) : outR (x :: ρ) (n + 1) = ioC x :: outR ρ n := by
  unfold outR
  rw [List.range_succ_eq_map, List.map_cons, List.map_map, slot_zero]
  rfl
@[simp] theorem ixA_l (ds : List D) (i : Int) : ixA (.list ds) (.int i) = (atI ds i).map Hd.sh := rfl
@[simp] theorem ixA_t (ds : List D) (i : Int) : ixA (.tuple ds) (.int i) = (atI ds i).map Hd.sh := rfl
@[simp] theorem ixA_s (z : Str) (i : Int) : ixA (.str z) (.int i) = if z.length ≤ sizeLine then (atI z.cps.toList i).map fun c => Hd.sh (.str ⟨#[c]⟩) else none := rfl
@[simp] theorem ixA_d (ps : List (D × D)) (k : D) : ixA (.dict ps) k = if isK k then (dGet ps k).map Hd.sh else none := rfl
@[simp] theorem isK_s (z : Str) : isK (.str z) = true := rfl
@[simp] theorem isK_i (z : Int) : isK (.int z) = true := rfl
@[simp] theorem kEq_s (z w : Str) : kEq (.str z) (.str w) = decide (z = w) := rfl
@[simp] theorem kEq_i (z w : Int) : kEq (.int z) (.int w) = decide (z = w) := rfl
@[simp] theorem dGet_nil (k : D) : dGet [] k = none := rfl
@[simp] theorem dGet_cons (a d : D) (r : List (D × D)) (k : D) : dGet ((a, d) :: r) k = if kEq a k then some d else dGet r k := rfl
@[simp] theorem ofS_inj (a b : String) : (Str.ofString a = Str.ofString b) ↔ a = b := by
  constructor
  · intro h
    rw [Str.ofString_eq_toList, Str.ofString_eq_toList, Str.mk.injEq] at h
    have h2 : a.toList.map Char.toNat = b.toList.map Char.toNat := by
      have := congrArg Array.toList h
      simpa using this
    have h3 : a.toList = b.toList := (List.map_inj_right (fun x y e => Char.toNat_inj.mp e)).mp h2
    exact String.toList_inj.mp h3
  · intro h; rw [h]
theorem ofS_len (a : String) : (Str.ofString a).length = a.toList.length := by
  rw [Str.ofString_eq_toList]
  show (List.toArray _).size = _
  simp
theorem ofS_cps (a : String) : (Str.ofString a).cps.toList = a.toList.map Char.toNat := by
  rw [Str.ofString_eq_toList]
@[simp] theorem xnB_nil : xnB [] = false := rfl
@[simp] theorem xnB_str (x : Str) (d : D) (ps : List (D × D)) : xnB ((.str x, d) :: ps) = false := rfl
@[simp] theorem xnB_int (x : Int) (d : D) (ps : List (D × D)) : xnB ((.int x, d) :: ps) = false := rfl
@[simp] theorem eqB_i (neg : Bool) (i j : Int) : eqB neg (.int i) (.int j) = some (.sh (.bool (neg ^^ decide (i = j)))) := rfl
@[simp] theorem eqB_s (neg : Bool) (i j : Str) : eqB neg (.str i) (.str j) = some (.sh (.bool (neg ^^ decide (i = j)))) := rfl
@[simp] theorem eqB_b (neg : Bool) (i j : Bool) : eqB neg (.bool i) (.bool j) = some (.sh (.bool (neg ^^ decide (i = j)))) := rfl
@[simp] theorem eqB_nn (neg : Bool) : eqB neg .none .none = some (.sh (.bool (neg ^^ true))) := rfl
@[simp] theorem eqB_ns (neg : Bool) (j : Str) : eqB neg .none (.str j) = some (.sh (.bool (neg ^^ false))) := rfl
@[simp] theorem eqB_sn (neg : Bool) (j : Str) : eqB neg (.str j) .none = some (.sh (.bool (neg ^^ false))) := rfl
@[simp] theorem eqB_ni (neg : Bool) (j : Int) : eqB neg .none (.int j) = some (.sh (.bool (neg ^^ false))) := rfl
@[simp] theorem eqB_in (neg : Bool) (j : Int) : eqB neg (.int j) .none = some (.sh (.bool (neg ^^ false))) := rfl
/-- any two data that can be compared -/
theorem eqB_of {x y : D} (neg : Bool) (hx : okW x = true) (hy : okW y = true) : eqB neg x y = some (.sh (.bool (neg ^^ PyData.eqv x y))) := by
  unfold eqB
  split
  · rename_i b e
    congr 4
    cases x <;> cases y <;> first | (cases (show none = some b from e); done) | (cases e; simp [PyData.eqv]; done) | skip
    · cases e; simp [PyData.eqv]; rw [Bool.eq_iff_iff]; simp
    · cases e; simp [PyData.eqv]; rw [Bool.eq_iff_iff]; simp
    · cases e; simp [PyData.eqv]; rw [Bool.eq_iff_iff]; simp
  · rw [hx, hy]
    rfl
@[simp] theorem argC_bwo (i : Nat) : argC ρ true (.bw i) = match slot ρ i with
    | some ⟨d, .ow⟩ => some ⟨d, .io⟩
    | some ⟨d, .io⟩ => some ⟨d, .io⟩
    | _ => none := rfl
/-- a loop that only looks: it leaves with r at the first item that p does not hold of -/
theorem forL_look {α : Type} {g : D → Rho → Option Rho} {b : SF} (ρ ρ' : Rho) (it : α → D) (p : α → Bool) (r : Hd) : ∀ (as : List α),
    (∀ a, a ∈ as → optR (g (it a) ρ) b = if p a then .nx ρ else .rt r ρ') → forL g b (as.map it) ρ = if as.all p then .nx ρ else .rt r ρ'
  | [], _ => rfl
  | a :: as, k => by
    have h1 := k a (List.mem_cons_self ..)
    have q := forL_look ρ ρ' it p r as fun a m => k a (List.mem_cons_of_mem _ m)
    rw [List.map_cons, forL_cons]
    unfold optR at h1 ⊢
    split at h1
    · split at h1 <;> cases h1
    · dsimp only
      rw [h1]
      cases hp : p a <;> simp [hp, q]
/-- .. of the datum itself -/
theorem forL_lookD {g : D → Rho → Option Rho} {b : SF} (ρ ρ' : Rho) (p : D → Bool) (r : Hd) (ds : List D) (k : ∀ a, a ∈ ds → optR (g a ρ) b = if p a then .nx ρ else .rt r ρ') : forL g b ds ρ = if ds.all p then .nx ρ else .rt r ρ' := by
  have := forL_look (α := D) (g := g) (b := b) ρ ρ' id p r ds k
  simpa using this
/-- a comprehension over things, by a test and an element -/
theorem lcL_fm {α : Type} {vs : List Nat} {g : D → Rho → Option Rho} {ft fe : EF} (ρ : Rho) (it : α → D) (p : α → Bool) (el : α → D) : ∀ (as : List α) (acc : List D), acc.length + as.length ≤ sizeLine →
    (∀ a, a ∈ as → ∃ ρ1, g (it a) ρ = some ρ1 ∧ (∃ ρ2, ft ρ1 = .ok (.sh (.bool (p a))) ρ2 ∧ wipeR ρ2 vs = ρ ∧ (p a = true → ∃ ρ3, eCap fe ρ2 = .ok (.sh (el a)) ρ3 ∧ wipeR ρ3 vs = ρ))) →
    lcL vs g ft fe (as.map it) acc ρ = .ok (.fr (.list (acc ++ (as.filter p).map el))) ρ
  | [], acc, _, _ => by simp [lcL_nil]
  | a :: as, acc, hl, k => by
    rw [List.length_cons] at hl
    obtain ⟨ρ1, h1, ρ2, h2, h3, h4⟩ := k a (List.mem_cons_self ..)
    rw [List.map_cons, lcL_cons, h1, optE_s, h2, bindB_ok]
    cases hp : p a with
    | true =>
      obtain ⟨ρ3, h5, h6⟩ := h4 hp
      rw [if_pos rfl, h5, bindE_ok, lcR_s, if_pos (by omega), h6, lcL_fm ρ it p el as _ (by rw [List.length_append, List.length_singleton]; omega) fun a m => k a (List.mem_cons_of_mem _ m), List.filter_cons_of_pos hp]
      simp
    | false =>
      rw [if_neg Bool.false_ne_true, h3, lcL_fm ρ it p el as _ (by omega) fun a m => k a (List.mem_cons_of_mem _ m), List.filter_cons_of_neg (by rw [hp]; exact Bool.false_ne_true)]
/-- .. where nothing else changes; up: what a turn sees -/
theorem lcL_up {α : Type} {vs : List Nat} {g : D → Rho → Option Rho} {ft fe : EF} (ρ : Rho) (it : α → D) (up : α → Rho) (p : α → Bool) (el : α → D) (as : List α) (acc : List D) (hl : acc.length + as.length ≤ sizeLine)
    (k : ∀ a, a ∈ as → g (it a) ρ = some (up a) ∧ ft (up a) = .ok (.sh (.bool (p a))) (up a) ∧ wipeR (up a) vs = ρ ∧ (p a = true → eCap fe (up a) = .ok (.sh (el a)) (up a))) :
    lcL vs g ft fe (as.map it) acc ρ = .ok (.fr (.list (acc ++ (as.filter p).map el))) ρ :=
  lcL_fm ρ it p el as acc hl fun a m => by
    obtain ⟨h1, h2, h3, h4⟩ := k a m
    exact ⟨_, h1, _, h2, h3, fun h => ⟨_, h4 h, h3⟩⟩
/-- .. without a test -/
theorem lcL_all {α : Type} {vs : List Nat} {g : D → Rho → Option Rho} {fe : EF} (ρ : Rho) (it : α → D) (up : α → Rho) (el : α → D) (as : List α) (acc : List D) (hl : acc.length + as.length ≤ sizeLine)
    (k : ∀ a, a ∈ as → g (it a) ρ = some (up a) ∧ wipeR (up a) vs = ρ ∧ eCap fe (up a) = .ok (.sh (el a)) (up a)) :
    lcL vs g (eNox eYes) fe (as.map it) acc ρ = .ok (.fr (.list (acc ++ as.map el))) ρ := by
  have := lcL_up (ft := eNox eYes) (fe := fe) ρ it up (fun _ => true) el as acc hl fun a m => by
    obtain ⟨h1, h2, h3⟩ := k a m
    exact ⟨h1, rfl, h2, fun _ => h3⟩
  rw [this, List.filter_eq_self.mpr fun _ _ => rfl]
end
theorem fits {n : Nat} (h : n ≤ 1000000) : n ≤ sizeLine := Nat.le_trans h (by decide)
theorem fitsl {n : Nat} (h : n < 1000000) : n < sizeLine := Nat.lt_of_lt_of_le h (by decide)
theorem len_eq (s : Str) : s.length = s.cps.toList.length := by rw [Array.length_toList]; rfl
theorem app_cps (a b : Str) : (a ++ b).cps.toList = a.cps.toList ++ b.cps.toList := by
  show (a.cps ++ b.cps).toList = _
  simp
end GS
namespace GM
open PySem L2 GS
end GM
namespace GM
open PySem L2 GS
abbrev GRT : Str := Str.ofString "ABCDEFGHIJKLMNOPQRSTUVWXYZ"
abbrev SML : Str := Str.ofString "abcdefghijklmnopqrstuvwxyz"
abbrev FIG : Str := Str.ofString "0123456789"
def okN (F : Str) (c : Nat) : Bool := decide (c ∈ F.cps) || decide (c ∈ FIG.cps)
def nameL (F : Str) : List Nat → Bool
  | [] => false
  | c :: cs => decide ((c :: cs).length ≤ 24) && decide (c ∈ F.cps) && (c :: cs).all (okN F)
def nameB (s : Str) : Bool := nameL GRT s.cps.toList
def signB (s : Str) : Bool := decide (1 ≤ s.cps.toList.length) && decide (s.cps.toList.length ≤ 6) && s.cps.toList.all fun c => decide (c ∈ SML.cps)
end GM
namespace GM
open PySem L2 GS
end GM
namespace GM
open PySem L2 GS
end GM
namespace GM
open PySem L2 GS
inductive Tr where
  | sign (s : Str)
  | void
  | hole (n : Str)
  | foot (n : Str)
  | knot (n : Str) (tk : Option (Str × Bool)) (ks : List Tr)
  deriving Inhabited
def okTk : Option (Str × Bool) → Bool
  | none => true
  | some (m, _) => nameB m
mutual
def Tr.ok : Tr → Bool
  | .sign s => signB s
  | .void => true
  | .hole n => nameB n
  | .foot n => nameB n
  | .knot n tk ks => nameB n && (okTk tk && (decide (1 ≤ ks.length) && (decide (ks.length ≤ 8) && Tr.okL ks)))
def Tr.okL : List Tr → Bool
  | [] => true
  | t :: ts => t.ok && Tr.okL ts
end
mutual
def Tr.ht : Tr → Nat
  | .knot _ _ ks => Tr.htL ks + 1
  | _ => 0
def Tr.htL : List Tr → Nat
  | [] => 0
  | t :: ts => max t.ht (Tr.htL ts)
end
mutual
/-- no dicts, texts of code points -/
def cleanB : D → Bool
  | .str x => PyData.strOk x
  | .list ds => cleanL ds
  | .tuple ds => cleanL ds
  | .dict _ => false
  | _ => true
def cleanL : List D → Bool
  | [] => true
  | d :: ds => cleanB d && cleanL ds
end
mutual
theorem clean_ok : ∀ d : D, cleanB d = true → plain d = true ∧ PyData.canLay0 d = true
  | .none, _ => ⟨rfl, rfl⟩
  | .bool _, _ => ⟨rfl, rfl⟩
  | .int _, _ => ⟨rfl, rfl⟩
  | .str x, h => ⟨rfl, h⟩
  | .list ds, h => by
    rw [cleanB] at h
    obtain ⟨h1, h2⟩ := cleanL_ok ds h
    exact ⟨by rw [GS.plain]; exact h1, by rw [PyData.canLay0]; exact h2⟩
  | .tuple ds, h => by
    rw [cleanB] at h
    obtain ⟨h1, h2⟩ := cleanL_ok ds h
    exact ⟨by rw [GS.plain]; exact h1, by rw [PyData.canLay0]; exact h2⟩
  | .dict _, h => by cases h
theorem cleanL_ok : ∀ ds : List D, cleanL ds = true → plainL ds = true ∧ PyData.canLayAll0 ds = true
  | [], _ => ⟨rfl, rfl⟩
  | d :: ds, h => by
    rw [cleanL, Bool.and_eq_true] at h
    obtain ⟨h1, h2⟩ := clean_ok d h.1
    obtain ⟨h3, h4⟩ := cleanL_ok ds h.2
    exact ⟨by rw [plainL, h1, h3]; rfl, by rw [PyData.canLayAll0, h2, h4]; rfl⟩
end
theorem okW_of {d : D} (h : cleanB d = true) (hd : d.depth ≤ 190) : okW d = true := by
  obtain ⟨h1, h2⟩ := clean_ok d h
  unfold okW
  rw [h1, h2, Nat.ble_eq_true_of_le hd]; rfl
theorem cleanL_of {ds : List D} (h : ∀ d ∈ ds, cleanB d = true) : cleanL ds = true := by
  induction ds with
  | nil => rfl
  | cons e ds ih => rw [cleanL, h e (by simp), ih fun t m => h t (by simp [m])]; rfl
theorem depthAll_of {ds : List D} {n : Nat} (h : ∀ d ∈ ds, d.depth ≤ n) : PyData.depthAll ds ≤ n := by
  induction ds with
  | nil => rw [PyData.depthAll]; omega
  | cons e ds ih =>
    rw [PyData.depthAll]
    have := h e (by simp)
    have := ih fun t m => h t (by simp [m])
    omega
theorem strOk_of {s : Str} (h : ∀ c ∈ s.cps.toList, c < 0x110000) : PyData.strOk s = true := by
  unfold PyData.strOk
  rw [← Array.all_toList, List.all_eq_true]
  intro c m
  exact decide_eq_true (h c m)
end GM
namespace GM
open PySem L2 GS
end GM
namespace GS
open PySem L2
/-- one of a list -/
def pick {α : Type} [Inhabited α] (xs : List α) (i : Int) : α := (atI xs i).getD default
theorem atI_pick {α : Type} [Inhabited α] {xs : List α} {i : Int} (h0 : 0 ≤ i) (h1 : i < xs.length) : atI xs i = some (pick xs i) ∧ pick xs i ∈ xs := by
  obtain ⟨x, h2, h3⟩ := atI_lt h0 h1
  unfold pick
  rw [h2]
  exact ⟨rfl, h3⟩
@[simp] theorem atI_mod {α : Type} [Inhabited α] {xs : List α} {c n : Int} (h0 : 0 < n) (h : n = xs.length) : atI xs (c % n) = some (pick xs (c % n)) :=
  (atI_pick (Int.emod_nonneg _ (by omega)) (by rw [← h]; exact Int.emod_lt_of_pos _ h0)).1
theorem pick_mem {α : Type} [Inhabited α] {xs : List α} {c n : Int} (h0 : 0 < n) (h : n = xs.length) : pick xs (c % n) ∈ xs :=
  (atI_pick (Int.emod_nonneg _ (by omega)) (by rw [← h]; exact Int.emod_lt_of_pos _ h0)).2
@[simp] theorem atI_1 {α : Type} (a b : α) (r : List α) : atI (a :: b :: r) 1 = some b := by
  have := atI_nat (xs := a :: b :: r) (j := 1) (v := b) rfl
  exact this
@[simp] theorem atI_2 {α : Type} (a b c : α) (r : List α) : atI (a :: b :: c :: r) 2 = some c := by
  have := atI_nat (xs := a :: b :: c :: r) (j := 2) (v := c) rfl
  exact this
@[simp] theorem atI_3 {α : Type} (a b c d : α) (r : List α) : atI (a :: b :: c :: d :: r) 3 = some d := by
  have := atI_nat (xs := a :: b :: c :: d :: r) (j := 3) (v := d) rfl
  exact this
instance : Inhabited D := ⟨.none⟩
@[simp] theorem strOk_ofS (a : String) : PyData.strOk (Str.ofString a) = true := by
  unfold PyData.strOk
  rw [← Array.all_toList, ofS_cps, List.all_eq_true]
  intro c m
  obtain ⟨ch, _, rfl⟩ := List.mem_map.mp m
  have := ch.valid
  refine decide_eq_true ?_
  unfold Char.toNat
  rcases this with h | h
  · have : ch.val.toNat < 0xd800 := h
    omega
  · exact h.2
end GS
namespace GM
open PySem L2 GS
end GM
namespace GS
open PySem L2
theorem cutD_to (ds : List D) (i : Nat) : cutD ds none (some (i : Int)) = ds.take i := by
  unfold cutD
  rw [HT.sIx_none, HT.sIx_nat]
  simp only [List.drop_zero, Nat.sub_zero]
  by_cases h : i ≤ ds.length
  · rw [Nat.min_eq_left h]
  · rw [Nat.min_eq_right (by omega), List.take_of_length_le (Nat.le_refl _), List.take_of_length_le (by omega)]
end GS
namespace PySem
open Sem (wp)
open AutoSeq1 (wpAny_loadPart')
section
variable {prog : Program} {w : World} {A : Around} {E : Value → Shared → Prop} {s : Shared}
end
end PySem
namespace L2
open PySem PySem.Spec PyProof.Rows
end L2
namespace GS
open PySem L2
section
variable {X : Cx} {C : Ct} {ρ ρ1 : Rho} {σ σ1 : St} {B H B1 H1 : Hp} {e tg : Expr} {te : TE} {fe : EF} {pos p tpos : Pos}
end
end GS
namespace GS
open PySem L2
section
variable {K : PySem.W.Frag} {X : Cx} {C : Ct} {ρ ρ1 : Rho} {σ σ1 : St} {B H B1 H1 : Hp} {e e2 : Expr} {te ti : TE} {fe fi : EF} {pos : Pos} {st : Stmt}
end
end GS
namespace GS
open PySem L2
section
variable {ρ ρ1 : Rho} {c : Prop} [Decidable c]
end
end GS
namespace GS
open PySem L2
def mRes (o : D → D → Option Hd) (a b : Option D) (ρ : Rho) : RE := match a, b with
  | some x, some y => (match o x y with
    | some h => .ok h ρ
    | none => .stuck)
  | _, _ => .stuck
def mGo (o : D → D → Option Hd) (fa : EF) (ha : Hd) (d : Option D) (ρ1 : Rho) : RE := match d with
  | some (.str _) => bindE (eSet fa ρ1) fun hb ρ2 => mRes o (getH ρ2 ha) (getH ρ2 hb) ρ2
  | _ => .stuck
/-- x.m(y), x a text -/
def eM1 (o : D → D → Option Hd) (fr fa : EF) : EF := fun ρ => bindE (eSet fr ρ) fun ha ρ1 => mGo o fa ha (getH ρ1 ha) ρ1
section
variable {K : PySem.W.Frag} {X : Cx} {C : Ct} {a b : Expr} {ta tb : TE} {fa fb : EF} {apos pos : Pos}
theorem lk_m1 {r : V → List V → Hp → VK → Prop} {o : D → D → Option Hd} (hr : OpL C.K (fun x y H Q => r x [y] H Q) o) (la : LkE C ta fa) (lb : LkE C tb fb) : LkE C (tM1 r ta tb) (eM1 o fa fb) := fun ρ σ B H Q S g => by
  refine la.setBind S g fun ha ρ1 x B1 H1 S1 e1 y1 g1 => ?_
  unfold mGo at g1
  split at g1
  · rename_i z ez
    have tz := S1.tp y1 ez
    refine ⟨⟨z, tz.str⟩, ?_⟩
    refine lb.setBind S1 g1 fun hb ρ2 y B2 H2 S2 e2 y2 g2 => ?_
    unfold mRes at g2
    split at g2
    · rename_i da db ea eb
      split at g2
      · rename_i h eh
        exact hr ρ2 σ B2 H2 x y da db h Q S2 (S2.tp (N := fun _ => True) (HdOk.ext e2 y1) ea) (S2.tp y2 eb) eh g2
      · exact g2.elim
    · exact g2.elim
  · exact g1.elim
def strsD : List D → Option (List Str)
  | [] => some []
  | .str z :: ds => (strsD ds).map (z :: ·)
  | _ :: _ => none
theorem strsD_ok {B : Hp} : ∀ {vs : List V} {ds : List D} {zs : List Str}, RpL K B vs ds → strsD ds = some zs → vs = zs.map V.str
  | _, _, _, .nil, e => by cases e; rfl
  | _, _, _, .cons (d := d) h t, e => by
    cases d with
    | str z =>
      rename_i ds
      obtain ⟨r, h1, rfl⟩ := Option.map_eq_some_iff.mp (show (strsD ds).map (z :: ·) = some _ from e)
      cases h
      rw [strsD_ok t h1]; rfl
    | _ => cases e
def joinOk (a : Str) (ys : List Str) : Bool := Nat.ble ((ys.map (·.length)).sum + ys.length * a.length) 16777216
def joinD : D → D → Option Hd
  | .str a, .list ds => (strsD ds).bind fun ys => if joinOk a ys then some (.sh (.str (Txt.join a ys))) else none
  | .str a, .tuple ds => (strsD ds).bind fun ys => if joinOk a ys then some (.sh (.str (Txt.join a ys))) else none
  | _, _ => none
theorem ol_join : OpL K (fun x y H Q => ∃ a p, ∃ ys : List Str, x = .str a ∧ [y] = [.ref p] ∧ (SqL K H p (ys.map V.str) ∨ SqT K H p (ys.map V.str)) ∧ (ys.map (·.length)).sum + ys.length * a.length ≤ 16777216 ∧ Q (.str (Txt.join a ys)) H) joinD := fun ρ σ B H x y dx dy h Q S tx ty e k => by
  cases dx with
  | str a =>
    rw [tx.str]
    cases dy with
    | list ds =>
      obtain ⟨ys, e1, e2⟩ := Option.bind_eq_some_iff.mp (show (strsD ds).bind _ = some h from e)
      obtain ⟨c, rfl⟩ := if_some e2
      obtain ⟨p, vs, rfl, ha, ra⟩ := ty
      rw [strsD_ok ra e1] at ha
      exact ⟨a, p, ys, rfl, rfl, .inl ha, Nat.le_of_ble_eq_true c, now S (.str _) k⟩
    | tuple ds =>
      obtain ⟨ys, e1, e2⟩ := Option.bind_eq_some_iff.mp (show (strsD ds).bind _ = some h from e)
      obtain ⟨c, rfl⟩ := if_some e2
      obtain ⟨p, vs, rfl, ha, ra⟩ := ty.tup
      rw [strsD_ok ra e1] at ha
      exact ⟨a, p, ys, rfl, rfl, .inr (same_t S.bh ha), Nat.le_of_ble_eq_true c, now S (.str _) k⟩
    | _ => cases (show none = some h from e)
  | _ => cases dy <;> cases (show none = some h from e)
theorem se_join (la : SE X C a ta fa) (lb : SE X C b tb fb) (hk : X.K = C.K := by rfl) (hs : starEach [b] X.env = [(false, eval b X.env)] := by rfl) (hbase : attributeBase a "join" X.env (eval a X.env) = eval a X.env := by rfl) (hline : (apos.endLine == pos.line) = true := by rfl) :
    SE X C (.Call (.Attribute a "join" apos) [b] [] pos) (tM1 (fun x xs H Q => ∃ a p, ∃ ys : List Str, x = .str a ∧ xs = [.ref p] ∧ (SqL C.K H p (ys.map V.str) ∨ SqT C.K H p (ys.map V.str)) ∧ (ys.map (·.length)).sum + ys.length * a.length ≤ 16777216 ∧ Q (.str (Txt.join a ys)) H) ta tb) (eM1 joinD fa fb) :=
  ⟨by rw [← hk]; exact pe_join la.pe lb.pe hs hbase hline, lk_m1 ol_join la.lk lb.lk⟩
end
end GS
namespace GS
open PySem L2
section
variable {ρ ρ1 : Rho} {c : Prop} [Decidable c]
@[simp] theorem mGo_s (o : D → D → Option Hd) (fa : EF) (ha : Hd) (z : Str) : mGo o fa ha (some (.str z)) ρ = bindE (eSet fa ρ) fun hb ρ2 => mRes o (getH ρ2 ha) (getH ρ2 hb) ρ2 := rfl
@[simp] theorem eM1_eq (o : D → D → Option Hd) (fr fa : EF) : eM1 o fr fa ρ = bindE (eSet fr ρ) fun ha ρ1 => mGo o fa ha (getH ρ1 ha) ρ1 := rfl
theorem strsD_map (zs : List Str) : strsD (zs.map .str) = some zs := by
  induction zs with
  | nil => rfl
  | cons z zs ih => rw [List.map_cons, strsD, ih]; rfl
theorem joinD_l (a : Str) (ys : List Str) (h : joinOk a ys = true) : joinD (.str a) (.list (ys.map .str)) = some (.sh (.str (Txt.join a ys))) := by
  show (strsD (ys.map .str)).bind _ = _
  rw [strsD_map, Option.bind_some, if_pos h]
end
end GS
namespace GS
open PySem L2 PySem.Spec PyProof.Rows
theorem exV_ok {P : Program} {w : World} {H : Hp} {h : Heap} {a : Addr} {cls : Value} {d : Option Addr} {oe : Obj} {vs : Array Value} (e : h.get? a = some oe) (z : Zc cls d oe) (q : oe.data = .fields vs) : ObjOk P w H h a (exV a cls d) :=
  ⟨⟨oe, vs, e, z, q⟩, ⟨_, e⟩, fun h1 h2 x k => by
    obtain ⟨o, v, e1, e2⟩ := x
    exact ⟨o, v, k _ e1, e2⟩⟩
section
variable {X : Cx} {pins : List (Addr × Obj)} {σ : L2.St} {H : Hp} {s : Shared}
end
section
variable {X : Cx} {x n : Str} {c : Value} {i : Nat} {body suite : List Stmt} {b₀ : Stmt} {np pos pos' : Pos} {R : TS} {ts : TS} {Wout : WX}
end
end GS
namespace GS
open PySem L2
/-- an exception as a datum -/
def xD (x : Xc) : D := xnD x.cls (x.fs.map (·.1)) (x.fs.map (·.2))
section
variable {K : PySem.W.Frag} {ρ ρ1 : Rho} {σ σ1 : St} {B H B1 H1 : Hp}
end
section
variable {X : Cx} {C : Ct} {x n : Str} {c : Value} {i : Nat} {body suite : List Stmt} {b₀ : Stmt} {np pos pos' : Pos} {ts : TS} {fb fh : SF} {ns cs : List Str}
end
end GS
namespace GS
open PySem L2
def lookX (f : Str) : List D → List D → Option D
  | .str g :: ns, d :: ds => if f = g then some d else lookX f ns ds
  | _, _ => none
theorem lookX_ok {K : PySem.W.Frag} {B : Hp} {f : Str} {d : D} : ∀ {fs : List (Str × V)} {ds : List D}, RpL K B (fs.map (·.2)) ds → lookX f ((fs.map (·.1)).map PyData.str) ds = some d → ∃ v, fs.lookup f = some v ∧ Rp K B v d
  | [], ds, _, e => by cases ds <;> cases e
  | (g, v) :: fs, _, .cons (d := d') h t, e => by
    replace e : (if f = g then some d' else lookX f ((fs.map (·.1)).map PyData.str) _) = some d := e
    by_cases hf : f = g
    · rw [if_pos hf] at e
      cases e
      exact ⟨v, by rw [hf]; simp [List.lookup], h⟩
    · rw [if_neg hf] at e
      obtain ⟨v', q1, q2⟩ := lookX_ok t e
      have eb : (f == g) = false := by simpa using hf
      exact ⟨v', by simp [List.lookup, eb]; exact q1, q2⟩
/-- the class's name -/
def clsX : D → Option Str
  | .dict [(.none, .tuple (.str c :: .tuple _ :: _))] => some c
  | _ => none
def fldX (f : Str) : D → Option D
  | .dict [(.none, .tuple (.str _ :: .tuple ns :: ds))] => lookX f ns ds
  | _ => none
def eXf (ns : List Str) (f : Str) (fe : EF) : EF := fun ρ => bindE (eSet fe ρ) fun h ρ1 => match getH ρ1 h with
  | some d => match clsX d, fldX f d with
    | some c, some y => if ns.contains c then .ok (.sh y) ρ1 else .stuck
    | _, _ => .stuck
  | none => .stuck
def tXF (K : PySem.W.Frag) (f : Str) (te : TE) : TE := fun σ H Q => te σ H fun x H1 => ∃ (a C dd : Addr) (fs : List (Str × V)) (v : V), x = .ref a ∧ H1 a = some (exV a (.ref C) (some dd)) ∧ xcB K (.ref C) = true ∧ PySem.W.findIn K (.ref C) f = some none ∧ H1 dd = some (.xd fs) ∧ fs.lookup f = some v ∧ Q v H1
def fldB (K : PySem.W.Frag) (f : Str) (ns : List Str) : Bool := ns.all fun n => decide (PySem.W.findIn K (cvK K n) f = some none)
theorem clsX_xn {d : D} {c : Str} (h : clsX d = some c) : isXn d = true := by
  unfold clsX at h
  split at h
  · rfl
  · cases h
section
variable {X : Cx} {C : Ct} {e : Expr} {te : TE} {fe : EF} {pos : Pos} {ns cs : List Str}
open PySem.Spec PyProof.Rows in
theorem pe_XF {f : Str} (he : PE X e te) (hb : attributeBase e f X.env (eval e X.env) = eval e X.env := by rfl) : PE X (.Attribute e f pos) (tXF X.K f te) := by
  refine ⟨fun pins s σ H Q I h => ?_⟩
  refine attr_of hb (thn (he.run pins s σ H _ I h) fun u s1 hh => ?_)
  obtain ⟨x, H1, I1, rx, a, C, dd, fs, v, ex, ea, xb, hno, ed, l, q⟩ := hh
  subst ex
  obtain rfl : u = Value.ref a := rx
  obtain ⟨oe, vs, ha, hz, hd⟩ := exV_at I1.hok ea
  obtain ⟨D', eD, h1, h2, h3, h4, h5, _⟩ := xcB_ok xb
  cases eD
  have hx : ObjOk X.prog X.w H1 s1.heap dd (.xd fs) := I1.hok dd _ ed
  obtain ⟨mA, hns, hr⟩ := hx
  obtain ⟨od, ho, hl⟩ := lookIn_ns hns
  obtain ⟨u, hu, ru⟩ := RelO.some_of (v := v) (o := mA f) (by rw [← l]; exact hr f)
  have J : PySem.W.InstAt s1.heap a oe C (some od) := ⟨ha, hz.1, by unfold PySem.W.notCls; rw [hd] <;> rfl, by rw [hz.2]; exact ho⟩
  exact HandSPX.exc_get I1.kIn J h2 h3 h4 (PySem.W.findObj_own h5 hno rfl (by rw [hl, hu])) (handed_of ru) ⟨v, H1, I1.tok _, ru, q⟩
theorem lk_XF {f : Str} (hb : fldB C.K f ns = true) (l : LkE C te fe) : LkE C (tXF C.K f te) (eXf ns f fe) := fun ρ σ B H Q S g => by
  refine l.setBind S g fun hd ρ1 x B1 H1 S1 e1 y1 g1 => ?_
  split at g1
  · rename_i d ed
    split at g1
    · rename_i c y ec ey
      split at g1
      · rename_i hn
        obtain ⟨a, c', dd, fs, ds, rfl, rfl, h1, h2, h3, h4⟩ := (S1.tp y1 ed).xn S1.bh (clsX_xn ec)
        have hn : c ∈ ns := by simpa using hn
        cases ec
        have hno := of_decide_eq_true (List.all_eq_true.mp hb _ hn)
        obtain ⟨v, q1, q2⟩ := lookX_ok h4 ey
        obtain ⟨D, eD, _⟩ := xcB_ok h2
        rw [eD] at h1 h2 hno
        rcases h3 with ⟨rfl, rfl⟩ | ⟨d2, rfl, h3⟩
        · cases q1
        · exact ⟨a, D, d2, fs, v, rfl, h1, h2, hno, h3, q1, g1 v B1 H1 S1 Ext.refl q2⟩
      · exact g1.elim
    · exact g1.elim
  · exact g1.elim
theorem se_xf {f : Str} (hfb : fldB C.K f ns = true) (l : SE X C e te fe) (hk : X.K = C.K := by rfl) (hb : attributeBase e f X.env (eval e X.env) = eval e X.env := by rfl) : SE X C (.Attribute e f pos) (tXF C.K f te) (eXf ns f fe) :=
  ⟨by rw [← hk]; exact pe_XF l.pe hb, lk_XF hfb l.lk⟩
def isoX (ns cs : List Str) (d : D) : Option Bool := if isXn d then (match clsX d with
    | some c => if ns.contains c then some (cs.contains c) else none
    | none => none) else some false
def eIsC (ns cs : List Str) (f : EF) : EF := fun ρ => bindE (eSet f ρ) fun h ρ1 => match getH ρ1 h with
  | some d => match isoX ns cs d with
    | some b => .ok (.sh (.bool b)) ρ1
    | none => .stuck
  | none => .stuck
abbrev tyNames : List String := ["NoneType", "bool", "int", "str", "list", "tuple", "dict"]
/-- of the class c -/
def isoB (K : PySem.W.Frag) (c : Value) (ns cs : List Str) : Bool := (ns.all fun n => decide (PySem.W.kitOne K (cvK K n) c = some (cs.contains n))) && tyNames.all fun T => decide (PySem.W.kitOne K (.type T) c = some false)
theorem tyOf_in {d : D} (h : isXn d = false) : tyOf d ∈ tyNames := by
  cases d with
  | dict ps =>
    have h : xnB ps = false := h
    show (if xnB ps then "Exception" else "dict") ∈ tyNames
    rw [h]
    decide
  | none => show "NoneType" ∈ tyNames; decide
  | bool _ => show "bool" ∈ tyNames; decide
  | int _ => show "int" ∈ tyNames; decide
  | str _ => show "str" ∈ tyNames; decide
  | list _ => show "list" ∈ tyNames; decide
  | tuple _ => show "tuple" ∈ tyNames; decide
theorem isoX_xn {d : D} {b : Bool} (h : isoX ns cs d = some b) (hx : isXn d = true) : ∃ c, clsX d = some c ∧ c ∈ ns ∧ b = cs.contains c := by
  unfold isoX at h
  rw [if_pos hx] at h
  split at h
  · rename_i c e
    split at h
    · rename_i hn
      cases h
      exact ⟨c, e, by simpa using hn, rfl⟩
    · cases h
  · cases h
theorem isoX_no {d : D} {b : Bool} (h : isoX ns cs d = some b) (hx : isXn d = false) : b = false := by
  unfold isoX at h
  rw [if_neg (by rw [hx]; exact Bool.false_ne_true)] at h
  cases h
  rfl
theorem lk_iso {c : V} {u : Value} (hv : ClsV c u) (hb : isoB C.K u ns cs = true) (l : LkE C te fe) : LkE C (tCB (rIsiA C.K) (tCons te (tCons (tC c) tNil))) (eIsC ns cs fe) := fun ρ σ B H Q S g => by
  refine l.setBind S g fun hd ρ1 x B1 H1 S1 e1 y1 g1 => ?_
  unfold isoB at hb
  rw [Bool.and_eq_true] at hb
  split at g1
  · rename_i d ed
    split at g1
    · rename_i b eb
      cases hx : isXn d with
      | false =>
        have := isoX_no eb hx
        subst this
        exact .inl ⟨x, c, _, _, _, rfl, hv, tyX S1.bh (S1.tp y1 ed) hx, of_decide_eq_true (List.all_eq_true.mp hb.2 _ (tyOf_in hx)), g1 _ B1 H1 S1 Ext.refl (.bl _)⟩
      | true =>
        obtain ⟨c0, ec, hn, rfl⟩ := isoX_xn eb hx
        obtain ⟨a, c', dd, fs, ds, rfl, rfl, h1, h2, h3, h4⟩ := (S1.tp y1 ed).xn S1.bh hx
        cases ec
        have hko := of_decide_eq_true (List.all_eq_true.mp hb.1 _ hn)
        obtain ⟨D, eD, _⟩ := xcB_ok h2
        rw [eD] at h1 h2 hko
        exact .inr ⟨a, c, D, dd, fs, _, _, rfl, hv, h1, h3, h2, hko, g1 _ B1 H1 S1 Ext.refl (.bl _)⟩
    · exact g1.elim
  · exact g1.elim
/-- isinstance(e, C), C an own class -/
theorem se_isc {x : Str} {A : Addr} {q1 q2 : Pos} (hm : X.mg "isinstance" = none) (hmC : X.mg x = some (.ref A)) (hb : isoB C.K (.ref A) ns cs = true) (l : SE X C e te fe) (hk : X.K = C.K := by rfl) (hg : Gl X "isinstance" := by rfl) (hgC : Gl X x := by rfl) (hd : (x == ("__debug__" : Str)) = false := by decide)
    (he : starEach (e :: [.Name x q2]) X.env = (false, eval e X.env) :: starEach [.Name x q2] X.env := by rfl) :
    SE X C (.Call (.Name "isinstance" q1) [e, .Name x q2] [] pos) (tCB (rIsiA C.K) (tCons te (tCons (tC (.ref A)) tNil))) (eIsC ns cs fe) :=
  ⟨by rw [← hk]; exact pe_callB call_isiA hg hm (by decide +kernel) (pa_cons l.pe (pa_cons (pe_glob hgC hmC rfl hd) pa_nil) he) (by decide) (by decide) he, lk_iso (.own A) hb l.lk⟩
/-- .. by a built-in exception class -/
theorem se_ist {x : Str} {T : String} {q1 q2 : Pos} (hm : X.mg "isinstance" = none) (hmT : X.mg x = none) (hb : isoB C.K (.type T) ns cs = true) (l : SE X C e te fe) (hvT : bootBuiltins x = some (.type T) := by decide +kernel) (hk : X.K = C.K := by rfl) (hg : Gl X "isinstance" := by rfl) (hgT : Gl X x := by rfl)
    (hnT : x ≠ "__name__" := by decide) (hdT : (x == ("__debug__" : Str)) = false := by decide)
    (he : starEach (e :: [.Name x q2]) X.env = (false, eval e X.env) :: starEach [.Name x q2] X.env := by rfl) :
    SE X C (.Call (.Name "isinstance" q1) [e, .Name x q2] [] pos) (tCB (rIsiA C.K) (tCons te (tCons (tC (.ty T)) tNil))) (eIsC ns cs fe) :=
  ⟨by rw [← hk]; exact pe_callB call_isiA hg hm (by decide +kernel) (pa_cons l.pe (pa_cons (pe_bltn hgT hmT hvT rfl hnT hdT) pa_nil) he) (by decide) (by decide) he, lk_iso (.ty T) hb l.lk⟩
end
end GS
namespace GS
open PySem L2
/-- what the written part says of G, whose __init__ is ValueError's -/
def giB (K : PySem.W.Frag) (G : Addr) : Bool := decide (PySem.W.specialIn K (.ref G) "__getattribute__" = some (some (.builtin "type.__getattribute__"))) && (PySem.W.readsIn K G (.type "type") && match PySem.W.findCls K (.ref G) (.type "type") "__init__" with
  | some (.val v) => decide (v = .builtin "ValueError.__init__")
  | _ => false)
theorem giB_ok {K : PySem.W.Frag} {G : Addr} (h : giB K G = true) : PySem.W.specialIn K (.ref G) "__getattribute__" = some (some (.builtin "type.__getattribute__")) ∧ PySem.W.readsIn K G (.type "type") = true ∧ PySem.W.findCls K (.ref G) (.type "type") "__init__" = some (.val (.builtin "ValueError.__init__")) := by
  unfold giB at h
  rw [Bool.and_eq_true, Bool.and_eq_true, decide_eq_true_eq] at h
  obtain ⟨h1, h2, h3⟩ := h
  refine ⟨h1, h2, ?_⟩
  split at h3
  · rename_i v e
    rw [e, of_decide_eq_true h3]
  · cases h3
section
variable {X : Cx} {e : Expr} {es : List Expr} {ta : TA} {p1 p2 pos : Pos} {x : Str} {G : Addr}
open PySem.Spec PyProof.Rows in
theorem pe_ginit {pl : Sem Bool} (hgi : giB X.K G = true) (hm : X.mg x = some (.ref G)) (ha : PA X (e :: es) ta) (hg : Gl X x := by rfl) (hdb : (x == ("__debug__" : Str)) = false := by decide)
    (hc : eval (.Call (.Attribute (.Name x p1) "__init__" p2) (e :: es) [] pos) X.env = (do
      let ov ← eval (.Name x p1) X.env
      standAt p2.atName
      let (f, first) ← holding [ov] (getMethod ov "__init__" pl)
      callWith pos f first (backTo pos (starEach (e :: es) X.env)) (backToKw pos (keywordEach [] X.env))) := by rfl)
    (he : starEach (e :: es) X.env = (false, eval e X.env) :: starEach es X.env := by rfl) (hpl : (backTo pos (starEach es X.env)).any (·.1) = false := by rfl) :
    PE X (.Call (.Attribute (.Name x p1) "__init__" p2) (e :: es) [] pos) (tVeI X.K ta) := by
  obtain ⟨h1, h2, h3⟩ := giB_ok hgi
  refine ⟨fun pins s σ H Q I h => ?_⟩
  refine PySem.W.methodCall_KW (ld_glob I hg hm ?_ hdb) hc
  refine PySem.W.method_cls I.kIn h1 (PySem.W.cls_value I.kIn h2 h3 (by decide +kernel) ?_)
  show wpAny _ _ (callWith pos (Value.builtin "ValueError.__init__") [] (backTo pos (starEach (e :: es) X.env)) []) _ _ _
  refine PyProof.Rows.callWith_method1 (thn (ha.run pos pins _ σ H _ (I.tok _) h) fun us s1 ⟨vs, H1, I1, r1, a, C, ws, ev, hl, T, ea, q⟩ => ?_) he hpl
  subst ev
  cases r1 with
  | @cons _ u0 _ ur ra rw' =>
    obtain rfl : u0 = Value.ref a := ra
    have hlen : ur.length ≤ sizeLine := by
      rw [← Paired.length rw', sizeLine_eq]
      omega
    exact oinit_ok T I1 ea hlen fun s' J => ⟨.non, H1, J, rfl, q⟩
end
/-- what an own __init__ that sets the fields fns keeps -/
def spI (K : PySem.W.Frag) (fns : List Str) : Sp := fun vs H Q _ => ∃ (a C : Addr) (ys : List V), vs = .ref a :: ys ∧ ys.length = fns.length ∧ H a = some (exo a C none) ∧ OexC K C ∧ (∀ f ∈ fns, PySem.W.findIn K (.ref C) f = some none) ∧
  ∀ (dx : Addr) (H' : Hp), H dx = none → dx ≠ a → H' a = some (exo a C (some dx)) → H' dx = some (exd dx (fns.zip ys).reverse) → (∀ b, b ≠ a → b ≠ dx → H' b = H b) → Q .non H'
section
variable {P : Program} {w : World} {K : PySem.W.Frag} {mg : Str → Option Value} {base : Heap}
theorem fn_init1 {f qual msg : Str} {st : Stmt} {fI : Addr} {fd : FuncData} {k : Nat} (F : Fun K "__init__" qual st fI fd) (S : FnScope ["self", f] ["self", f] (defScope st))
    (hok : ∀ cdv A outer s H E, PSs (cxOf (L2.CX P w) P w K mg base ["self", f] qual (defScope st) fI cdv A outer s H E) (defBody st) (tSeq (tDrop (tVeI K (tCons (tVar 0) (tCons (tC (.str msg)) tNil)))) (tOst K f (tVar 0) (tVar 1)))) :
    FnOk P w K mg base (L2.CX P w) (k + 1) fI fd ["self", f] (spI K [f]) := by
  refine F.okX S (fun vs H Q E h => ?_) (fun cdv A outer s H vs Q E hr h => ⟨_, hok cdv A outer s H E, ?_⟩)
  · obtain ⟨a, C, ys, rfl, hl, _⟩ := h
    rw [List.length_cons, hl]; rfl
  · obtain ⟨a, C, ys, rfl, hl, ea, T, hno, q⟩ := h
    match ys, hl with
    | [y], _ =>
      refine ⟨.ref a, rfl, a, C, [.str msg], rfl, by rw [List.length_singleton]; omega, T, ea, ?_⟩
      refine ⟨y, rfl, .ref a, rfl, a, C, rfl, T, hno f (List.mem_singleton.mpr rfl), .inl ⟨ea, fun dx n ne => q dx _ n ne upd_same ?_ fun b h1 h2 => ?_⟩⟩
      · rw [upd_ne ne, upd_same]; rfl
      · rw [upd_ne h1, upd_ne h2]
theorem fn_init2 {f1 f2 qual msg : Str} {st : Stmt} {fI : Addr} {fd : FuncData} {k : Nat} (F : Fun K "__init__" qual st fI fd) (S : FnScope ["self", f1, f2] ["self", f1, f2] (defScope st))
    (hok : ∀ cdv A outer s H E, PSs (cxOf (L2.CX P w) P w K mg base ["self", f1, f2] qual (defScope st) fI cdv A outer s H E) (defBody st) (tSeq (tDrop (tVeI K (tCons (tVar 0) (tCons (tC (.str msg)) tNil)))) (tSeq (tOst K f1 (tVar 0) (tVar 1)) (tOst K f2 (tVar 0) (tVar 2))))) :
    FnOk P w K mg base (L2.CX P w) (k + 1) fI fd ["self", f1, f2] (spI K [f1, f2]) := by
  refine F.okX S (fun vs H Q E h => ?_) (fun cdv A outer s H vs Q E hr h => ⟨_, hok cdv A outer s H E, ?_⟩)
  · obtain ⟨a, C, ys, rfl, hl, _⟩ := h
    rw [List.length_cons, hl]; rfl
  · obtain ⟨a, C, ys, rfl, hl, ea, T, hno, q⟩ := h
    match ys, hl with
    | [y, z], _ =>
      refine ⟨.ref a, rfl, a, C, [.str msg], rfl, by rw [List.length_singleton]; omega, T, ea, ?_⟩
      refine ⟨y, rfl, .ref a, rfl, a, C, rfl, T, hno f1 (by simp), .inl ⟨ea, fun dx n ne => ?_⟩⟩
      refine ⟨z, rfl, .ref a, rfl, a, C, rfl, T, hno f2 (by simp), .inr ⟨dx, [(f1, y)], upd_same, by rw [upd_ne ne, upd_same], by rw [List.length_singleton]; omega, q dx _ n ne ?_ ?_ fun b h1 h2 => ?_⟩⟩
      · rw [upd_ne (Ne.symm ne), upd_same]
      · rw [upd_same]; rfl
      · rw [upd_ne h2, upd_ne h1, upd_ne h2]
end
end GS
namespace GS
open PySem L2
abbrev spFv (K : PySem.W.Frag) (n : Nat) (F : FF) : Sp := spF K (cvK K) n F
/-- the __init__ as a row of the table: it says only that there is room for it -/
def iniF (k : Nat) : FF := fun _ => if k < 2 then .stuck else .ok (.sh .none) []
/-- .. and what stands behind the row -/
def IniOk (P : Program) (w : World) (K : PySem.W.Frag) (mg : Str → Option Value) (base : Heap) (k : Nat) (fI : Addr) (fd : FuncData) (fns : List Str) (F : FF) : Prop := F [] = .stuck ∨ ∃ k', k = k' + 1 ∧ FnOk P w K mg base (L2.CX P w) k' fI fd ("self" :: fns) (spI K fns)
/-- what the written part says of a class C with its own __init__ at fI -/
def oeB (K : PySem.W.Frag) (C fI : Addr) (fns : List Str) : Bool := decide (PySem.W.findIn K (.ref C) "__setattr__" = some (some (.builtin "object.__setattr__"))) && (decide (PySem.W.subIn K (.ref C) (.type "BaseException") = some true) && (decide (PySem.W.typeIn K (.ref C) = some (.type "type")) &&
  (PySem.W.keepIn K (.ref C) && (decide (PySem.W.findIn K (.ref C) "__init__" = some (some (.ref fI))) && (decide (PySem.W.typeIn K (.ref fI) = some (.type "function")) && fns.all fun f => decide (PySem.W.findIn K (.ref C) f = some none))))))
theorem oeB_ok {K : PySem.W.Frag} {C fI : Addr} {fns : List Str} (h : oeB K C fI fns = true) : PySem.W.findIn K (.ref C) "__setattr__" = some (some (.builtin "object.__setattr__")) ∧ PySem.W.subIn K (.ref C) (.type "BaseException") = some true ∧ PySem.W.typeIn K (.ref C) = some (.type "type") ∧
    PySem.W.keepIn K (.ref C) = true ∧ PySem.W.findIn K (.ref C) "__init__" = some (some (.ref fI)) ∧ PySem.W.typeIn K (.ref fI) = some (.type "function") ∧ ∀ f ∈ fns, PySem.W.findIn K (.ref C) f = some none := by
  unfold oeB at h
  simp only [Bool.and_eq_true, decide_eq_true_eq] at h
  obtain ⟨h1, h2, h3, h4, h5, h6, h7⟩ := h
  exact ⟨h1, h2, h3, h4, h5, h6, fun f hf => of_decide_eq_true (List.all_eq_true.mp h7 f hf)⟩
theorem zip_fst {α β : Type} : ∀ (l : List α) (m : List β), l.length = m.length → (l.zip m).map (·.1) = l
  | [], [], _ => rfl
  | [], _ :: _, h => by cases h
  | _ :: _, [], h => by cases h
  | a :: l, b :: m, h => by
    rw [List.zip_cons_cons, List.map_cons, zip_fst l m (by simpa using h)]
theorem zip_snd {α β : Type} : ∀ (l : List α) (m : List β), l.length = m.length → (l.zip m).map (·.2) = m
  | [], [], _ => rfl
  | [], _ :: _, h => by cases h
  | _ :: _, [], h => by cases h
  | a :: l, b :: m, h => by
    rw [List.zip_cons_cons, List.map_cons, zip_snd l m (by simpa using h)]
section
variable {X : Cx} {C : Ct} {e : Expr} {es : List Expr} {ta : TA} {fa : AF} {p pos pos' : Pos} {x : Str} {fns : List Str}
end
end GS
namespace GS
open PySem L2 PySem.Spec PyProof.Rows
end GS
namespace GS
open PySem L2
section
variable {ρ ρ1 : Rho} {c : Prop} [Decidable c]
@[simp] theorem bindBS_ok' (d : D) (b : Bool) (k : Bool → Rho → RS) (h : d = .bool b) : bindBS (.ok (.sh d) ρ) k = k b ρ := by subst h; rfl
@[simp] theorem bindI_ex (x : Xc) (k : List D → Rho → RS) : bindI (.exc x ρ) k = .exc x ρ := rfl
/-- a class of exceptions that is raised -/
def Raises (F : FF) : Prop := F [] ≠ .stuck
theorem raises_ini {k : Nat} (h : 2 ≤ k) : Raises (iniF k) := by
  unfold Raises iniF
  rw [if_neg (by omega)]
  exact RE.noConfusion
def xfR (ns : List Str) (f : Str) (d : Option D) (ρ : Rho) : RE := match d with
  | some d => match clsX d, fldX f d with
    | some c, some y => if ns.contains c then .ok (.sh y) ρ else .stuck
    | _, _ => .stuck
  | none => .stuck
@[simp] theorem eXf_eq (ns : List Str) (f : Str) (fe : EF) : eXf ns f fe ρ = bindE (eSet fe ρ) fun h ρ1 => xfR ns f (getH ρ1 h) ρ1 := by unfold eXf xfR; rfl
theorem xfR_x (ns : List Str) (f : Str) (x : Xc) (y : D) (h1 : ns.contains x.cls = true) (h2 : fldX f (xD x) = some y) : xfR ns f (some (xD x)) ρ = .ok (.sh y) ρ := by
  unfold xfR
  have e : clsX (xD x) = some x.cls := rfl
  simp only [e, h2, h1, if_true]
def isR (ns cs : List Str) (d : Option D) (ρ : Rho) : RE := match d with
  | some d => match isoX ns cs d with
    | some b => .ok (.sh (.bool b)) ρ
    | none => .stuck
  | none => .stuck
@[simp] theorem eIsC_eq (ns cs : List Str) (f : EF) : eIsC ns cs f ρ = bindE (eSet f ρ) fun h ρ1 => isR ns cs (getH ρ1 h) ρ1 := by unfold eIsC isR; rfl
theorem isR_x (ns cs : List Str) (x : Xc) (h1 : ns.contains x.cls = true) : isR ns cs (some (xD x)) ρ = .ok (.sh (.bool (cs.contains x.cls))) ρ := by
  unfold isR
  have e : isoX ns cs (xD x) = some (cs.contains x.cls) := by
    show (if ns.contains x.cls then some (cs.contains x.cls) else none) = _
    rw [if_pos h1]
  dsimp only
  rw [e]
end
end GS
namespace GM
open PySem L2 GS
end GM
namespace GM
open PySem L2 GS
end GM
namespace GM
open PySem L2 GS
end GM
namespace GM
open PySem L2 GS
def Tr.kids : Tr → List Tr
  | .knot _ _ ks => ks
  | _ => []
mutual
def Tr.pieces : Tr → List Tr
  | .knot n tk ks => .knot n tk ks :: Tr.piecesL ks
  | t => [t]
def Tr.piecesL : List Tr → List Tr
  | [] => []
  | t :: ts => t.pieces ++ Tr.piecesL ts
end
def Tr.at : Tr → List Nat → Option Tr
  | t, [] => some t
  | t, k :: p => (t.kids[k]?).bind fun u => u.at p
def Tr.footN : Tr → Option Str
  | .foot n => some n
  | _ => none
def Tr.feet (t : Tr) : List Str := t.pieces.filterMap Tr.footN
def Tr.word : Tr → Str
  | .knot n _ _ => n
  | .foot n => n
  | .hole n => n
  | .sign s => s
  | .void => default
/-- the name of a start or a graft -/
def Tr.name (t : Tr) : Str := match t.feet with
  | [n] => n
  | _ => t.word
end GM
namespace GM
open PySem L2 GS
end GM
namespace GM
open PySem L2 GS
mutual
theorem eqv_refl : ∀ d : D, cleanB d = true → PyData.eqv d d = true
  | .none, _ => rfl
  | .bool b, _ => by simp [PyData.eqv]
  | .int i, _ => by simp [PyData.eqv]
  | .str x, _ => by simp [PyData.eqv]
  | .list ds, h => by rw [PyData.eqv]; exact eqvAll_refl ds (by rw [cleanB] at h; exact h)
  | .tuple ds, h => by rw [PyData.eqv]; exact eqvAll_refl ds (by rw [cleanB] at h; exact h)
  | .dict _, h => by cases h
theorem eqvAll_refl : ∀ ds : List D, cleanL ds = true → PyData.eqvAll ds ds = true
  | [], _ => rfl
  | d :: ds, h => by
    rw [cleanL, Bool.and_eq_true] at h
    rw [PyData.eqvAll, eqv_refl d h.1, eqvAll_refl ds h.2]; rfl
end
theorem eqB_same {d : D} (neg : Bool) (h : cleanB d = true) (hd : d.depth ≤ 190) : eqB neg d d = some (.sh (.bool (!neg))) := by
  rw [eqB_of neg (okW_of h hd) (okW_of h hd), eqv_refl d h]
  cases neg <;> rfl
end GM
namespace GM
open PySem L2 GS
end GM
namespace GM
open PySem L2 GS
theorem l1 (w : String) (h : w.toList.length = 1) (n : Str) (hn : n.length ≤ 100000) : (Str.ofString w).length + n.length ≤ sizeLine := fits (by rw [ofS_len, h]; omega)
end GM
namespace GM
open PySem L2 GS
end GM
namespace GM
open PySem L2 GS
theorem sum_le {ws : List Str} {b : Nat} (h : ∀ w ∈ ws, w.length ≤ b) : (ws.map (·.length)).sum ≤ b * ws.length := by
  induction ws with
  | nil => simp
  | cons w ws ih =>
    have h1 := h w (by simp)
    have h2 := ih fun w m => h w (by simp [m])
    rw [List.map_cons, List.sum_cons, List.length_cons, Nat.mul_succ]
    omega
theorem joinL_len (S : List Nat) : ∀ ps : List (List Nat), (TL.joinL S ps).length ≤ (ps.map List.length).sum + ps.length * S.length
  | [] => by simp [TL.joinL]
  | [p] => by simp [TL.joinL]
  | p :: q :: r => by
    have ih := joinL_len S (q :: r)
    rw [TL.joinL, List.length_append, List.length_append, List.map_cons, List.sum_cons, List.length_cons, Nat.succ_mul]
    omega
end GM
namespace GS
open PySem L2 GM
theorem kill_of {vs : List Nat} {f : SF} {ρ ρ' : Rho} (ρ1 : Rho) (hio : vs.all (fun i => !ioAt ρ i) = true) (h : f ρ = .nx ρ1) (hw : wipeR ρ1 vs = ρ') : sKill vs f ρ = .nx ρ' := by
  rw [sKill_eq, if_pos hio, h]
  show RS.nx (wipeR ρ1 vs) = _
  rw [hw]
theorem fin_seq {n : Nat} {f g : SF} {ρ : Rho} {q : RE} (ρ' : Rho) (h : f ρ = .nx ρ') (h2 : finR n (g ρ') = q) : finR n (sSeq f g ρ) = q := by rw [sSeq_eq, h]; exact h2
theorem joinL_mem (S : List Nat) (x : Nat) : ∀ ps : List (List Nat), x ∈ TL.joinL S ps → x ∈ S ∨ ∃ p ∈ ps, x ∈ p
  | [], h => by simp [TL.joinL] at h
  | [p], h => .inr ⟨p, by simp, by simpa [TL.joinL] using h⟩
  | p :: q :: r, h => by
    rw [TL.joinL, List.mem_append, List.mem_append] at h
    rcases h with h | h | h
    · exact .inr ⟨p, by simp, h⟩
    · exact .inl h
    · rcases joinL_mem S x (q :: r) h with h | ⟨z, m, h⟩
      · exact .inl h
      · exact .inr ⟨z, by simp at m ⊢; exact .inr m, h⟩
theorem join_cps (y : Str) (ws : List Str) : (Txt.join y ws).cps.toList = TL.joinL y.cps.toList (ws.map fun w => w.cps.toList) := by
  rw [TL.join_eq]; exact TL.tl_join y ws
theorem join_mem {y : Str} {ws : List Str} {c : Nat} (h : c ∈ (Txt.join y ws).cps.toList) : c ∈ y.cps.toList ∨ ∃ w ∈ ws, c ∈ w.cps.toList := by
  rw [join_cps] at h
  rcases joinL_mem _ _ _ h with h | ⟨p, m, h⟩
  · exact .inl h
  · obtain ⟨w, mw, rfl⟩ := List.mem_map.mp m
    exact .inr ⟨w, mw, h⟩
theorem join_len (y : Str) (ws : List Str) : (Txt.join y ws).length ≤ (ws.map (·.length)).sum + ws.length * y.length := by
  rw [len_eq, join_cps]
  have h1 := joinL_len y.cps.toList (ws.map fun w => w.cps.toList)
  rw [List.map_map, List.length_map] at h1
  have h3 : (ws.map (List.length ∘ fun w : Str => w.cps.toList)).sum = (ws.map (·.length)).sum := by
    rw [show (List.length ∘ fun w : Str => w.cps.toList) = fun w : Str => w.length from funext fun w => (len_eq w).symm]
  rw [h3, ← len_eq] at h1
  exact h1
theorem joinOk_of {y : Str} {ws : List Str} {b n : Nat} (h : ∀ w ∈ ws, w.length ≤ b) (hn : ws.length ≤ n) (hz : b * n + n * y.length ≤ 16000000) : joinOk y ws = true := by
  unfold joinOk
  have h1 := sum_le h
  have h2 : b * ws.length ≤ b * n := Nat.mul_le_mul_left _ hn
  have h3 : ws.length * y.length ≤ n * y.length := Nat.mul_le_mul_right _ hn
  exact Nat.ble_eq_true_of_le (by omega)
end GS
namespace GS
open PySem L2 PySem.Spec PyProof.Rows
section
variable {κ : Type} [DecidableEq κ]
end
local instance (priority := high) keyBEq : BEq Key := instBEqOfDecidableEq
local instance keyLaw : LawfulBEq Key := inferInstanceAs (@LawfulBEq Key instBEqOfDecidableEq)
section
variable {prog : Program} {w : World} {A : Around} {R : Result → Shared → Prop} {I : Addr} {fp wr : List Addr} {G : Array GenState → Array GenState → Prop} {n : Nat} {P : Nat → Value → Prop} {St : Nat → Shared → Prop}
end
section
variable {prog : Program} {w : World} {A : Around} {E : Value → Shared → Prop} {s : Shared}
end
end GS
namespace GS
open PySem L2 PySem.Spec PyProof.Rows
section
variable {X : Cx} {C : Ct} {a b : Expr} {ta tb : TE} {fa fb : EF} {p p2 q pos apos : Pos}
end
section
variable {X : Cx} {C : Ct} {x : Str} {c : Value} {body suite : List Stmt} {b₀ : Stmt} {np pos pos' : Pos} {ts : TS} {fb fh : SF} {ns cs : List Str}
end
end GS
namespace GS
open PySem L2
section
variable {X : Cx} {C : Ct} {o e f : Expr} {td tk tx : TE} {fd fk fx : EF} {apos pos : Pos}
end
end GS
namespace GS
open PySem L2
section
variable {ρ ρ1 : Rho} {c : Prop} [Decidable c]
end
end GS
namespace GS
open PySem L2 PySem.Spec PyProof.Rows
def tMkV (t : L2.St → Hp → XK → Prop) : TE := fun σ H Q => t σ H fun cls d H' => ∀ a, H' a = none → Q (.ref a) (upd H' a (exV a cls d))
section
variable {X : Cx} {C : Ct} {e : Expr} {es : List Expr} {ta : TA} {fa : AF} {te : TE} {fe : EF} {p pos : Pos} {x : Str} {fns : List Str}
theorem pe_of_mk {t : L2.St → Hp → XK → Prop} (h : PMk X e t) : PE X e (tMkV t) := by
  refine ⟨fun pins s σ H Q I q => ?_⟩
  refine wpAny_mono (h pins s σ H _ I q) (fun u s1 hu => ?_) fun _ _ x => x
  obtain ⟨a, oe, vs, sI, H', cls, d, rfl, J, kG, ge, hoe, hz, hd, h1, na, ho, hb, hr, q⟩ := hu
  have J2 := J.laidN (t' := s1.toks) (h' := s1.heap) kG ge na (exV_ok (H := upd H' a (exV a cls d)) hoe hz hd)
  exact ⟨.ref a, _, ⟨J2.ok, by rw [ho]; exact J2.os, hb, J2.base, J2.loc, J2.cell, J2.free, J2.freeC, J2.pin, J2.hok, J2.len⟩, rfl, q a na⟩
/-- C(..), C with its own __init__ -/
def eMk (F : FF) (c : Str) (fns : List Str) (fa : AF) : EF := fun ρ => match F [] with
  | .stuck => .stuck
  | _ => match fa ρ with
    | .stuck => .stuck
    | .exc x ρ1 => .exc x ρ1
    | .ok hs ρ1 => match shs hs with
      | some ds => if ds.length = fns.length ∧ ds.length ≤ 1000 then .ok (.sh (xD ⟨c, (fns.zip ds).reverse⟩)) ρ1 else .stuck
      | none => .stuck
theorem lk_mk {F : FF} {A fI : Addr} (T : OexC C.K A) (hob : oeB C.K A fI fns = true) (hcx : cvK C.K x = .ref A) (hxc : xcB C.K (cvK C.K x) = true) (hF : F [] ≠ .stuck) (l : LkA C ta fa) : LkE C (tMkV (tMkO A (spI C.K fns) [] ta)) (eMk F x fns fa) := fun ρ σ B H Q S g => by
  obtain ⟨_, _, _, _, _, _, hno⟩ := oeB_ok hob
  unfold eMk at g
  have g : GoodE C ρ σ B H Q (match fa ρ with
    | .stuck => .stuck
    | .exc x ρ1 => .exc x ρ1
    | .ok hs ρ1 => match shs hs with
      | some ds => if ds.length = fns.length ∧ ds.length ≤ 1000 then .ok (.sh (xD ⟨x, (fns.zip ds).reverse⟩)) ρ1 else .stuck
      | none => .stuck) := by
    cases eF : F [] with
    | stuck => exact absurd eF hF
    | ok h r => rw [eF] at g; exact g
    | exc y r => rw [eF] at g; exact g
  refine l ρ σ B H _ S ?_
  cases ea : fa ρ with
  | stuck => rw [ea] at g; exact g
  | exc y ρ1 => rw [ea] at g; exact g
  | ok hs ρ1 =>
    rw [ea] at g
    dsimp only at g
    intro vs B1 H1 S1 x1 y1
    split at g
    · rename_i ds eds
      split at g
      · rename_i hl
        have r := shs_ok y1 eds
        have hvl : vs.length = fns.length := by rw [r.length]; exact hl.1
        refine ⟨by rw [r.length]; exact hl.2, fun a na => ⟨a, A, vs, by rw [List.append_nil], hvl, upd_same, T, hno, fun dx H' ndx ne e1 e2 e3 => ⟨rfl, dx, _, e1, e2, ?_, fun a2 na2 => ?_⟩⟩⟩
        · rw [upd_ne ne] at ndx; exact ndx
        · rw [upd_ne ne] at ndx
          have eH : upd (del H' a) dx (.xd (fns.zip vs).reverse) = upd H1 dx (.xd (fns.zip vs).reverse) := by
            funext b
            by_cases hb : b = dx
            · rw [hb, upd_same, upd_same]
            · rw [upd_ne hb, upd_ne hb]
              by_cases hb2 : b = a
              · rw [hb2, del_same, na]
              · rw [del_ne hb2, e3 b hb2 hb, upd_ne hb2]
          rw [eH] at na2 ⊢
          obtain ⟨S2, x2⟩ := S1.newB ndx (.xd (fns.zip vs).reverse)
          obtain ⟨S3, x3⟩ := S2.newB na2 (exV a2 (.ref A) (some dx))
          have hne : dx ≠ a2 := fun z => by rw [z, upd_same] at na2; cases na2
          refine g (.ref a2) _ _ S3 ((x1.trans x2).trans x3) ?_
          have e4 : ((fns.zip vs).reverse).map (·.1) = ((fns.zip ds).reverse).map (·.1) := by
            rw [List.map_reverse, List.map_reverse, zip_fst _ _ hvl.symm, zip_fst _ _ hl.1.symm]
          show Rp _ _ _ (xnD x (((fns.zip ds).reverse).map (·.1)) (((fns.zip ds).reverse).map (·.2)))
          rw [← e4]
          refine .exn (d := some dx) (by rw [hcx]; exact upd_same) hxc (.inr ⟨dx, rfl, by rw [upd_ne hne]; exact upd_same⟩) ?_
          rw [List.map_reverse, List.map_reverse, zip_snd _ _ hvl.symm, zip_snd _ _ hl.1.symm]
          exact (r.mono (x2.trans x3).bb).reverse
      · exact g.elim
    · exact g.elim
theorem se_sem {f : EF} (h : ∃ t, SE X C e t f) : SE X C e (fun σ H Q => ∃ ρ B, Sim C.K ρ σ B H ∧ GoodE C ρ σ B H Q (f ρ)) f := by
  obtain ⟨t, ht⟩ := h
  refine ⟨⟨fun pins s σ H Q I q => ?_⟩, fun ρ σ B H Q S g => ⟨ρ, B, S, g⟩⟩
  obtain ⟨ρ, B, S, g⟩ := q
  exact ht.pe.run pins s σ H Q I (ht.lk ρ σ B H Q S g)
def tSem (C : Ct) (f : EF) : TE := fun σ H Q => ∃ ρ B, Sim C.K ρ σ B H ∧ GoodE C ρ σ B H Q (f ρ)
theorem se_mk {F : FF} {A fI : Addr} {fd : FuncData} {k : Nat} (hi : IniOk X.prog X.w X.K X.mg X.base k fI fd fns F) (T : OexC C.K A) (hob : oeB C.K A fI fns = true) (hcx : cvK C.K x = .ref A) (hxc : xcB C.K (cvK C.K x) = true) (hm : X.mg x = some (.ref A)) (hb : Binds X.K fd ("self" :: fns) []) (hr : Room k X.A) (tk : Takes X C.W) (l : SA X C (e :: es) ta fa)
    (hk : X.K = C.K := by rfl) (hg : Gl X x := by rfl) (hdb : (x == ("__debug__" : Str)) = false := by decide) (he : starEach (e :: es) X.env = (false, eval e X.env) :: starEach es X.env := by rfl) (hpl : (backTo pos (starEach es X.env)).any (·.1) = false := by rfl) :
    SE X C (.Call (.Name x p) (e :: es) [] pos) (tSem C (eMk F x fns fa)) (eMk F x fns fa) := se_sem (by
  rcases hi with hi | ⟨k', rfl, FO⟩
  · refine ⟨fun _ _ _ => False, ⟨fun pins s σ H Q I h => h.elim⟩, fun ρ σ B H Q S g => ?_⟩
    unfold eMk at g
    rw [hi] at g
    exact g
  · by_cases hF : F [] = .stuck
    · refine ⟨fun _ _ _ => False, ⟨fun pins s σ H Q I h => h.elim⟩, fun ρ σ B H Q S g => ?_⟩
      unfold eMk at g
      rw [hF] at g
      exact g
    · obtain ⟨h1, h2, h3, h4, h5, h6, h7⟩ := oeB_ok hob
      exact ⟨_, pe_of_mk (pmk_oex (sp := spI C.K fns) (dvs := []) (ds := []) (by rw [hk]; exact T) (by rw [hk]; exact h5) (by rw [hk]; exact h6) (by rw [← hk]; exact FO) hr hb .nil (passes_call tk fun _ _ _ _ z => z.elim) hg hm l.pa hdb he hpl), lk_mk T hob hcx hxc hF l.lk⟩)
/-- C(e), C without own __init__ -/
def eMk0 (c : Str) (fe : EF) : EF := fun ρ => bindE (fe ρ) fun _ ρ1 => .ok (.sh (xD ⟨c, []⟩)) ρ1
/-- what the written part says of an own class without own __init__ -/
def ocB (K : PySem.W.Frag) (A : Addr) : Bool := PySem.W.excIn K A [.type "ValueError", .type "Exception", .type "BaseException", .type "object"] "ValueError.__new__" && (PySem.W.keepIn K (.ref A) && (decide (PySem.W.subIn K (.ref A) (.type "BaseException") = some true) && decide (PySem.W.typeIn K (.ref A) = some (.type "type"))))
theorem se_mk0 {A : Addr} (hoc : ocB C.K A = true) (hcx : cvK C.K x = .ref A) (hxc : xcB C.K (cvK C.K x) = true) (hm : X.mg x = some (.ref A)) (l : SE X C e te fe)
    (hk : X.K = C.K := by rfl) (hg : Gl X x := by rfl) (hdb : (x == ("__debug__" : Str)) = false := by decide) (hs : starEach [e] X.env = (false, eval e X.env) :: starEach [] X.env := by rfl) :
    SE X C (.Call (.Name x p) [e] [] pos) (tMkV fun σ H Q => te σ H fun _ H1 => Q (.ref A) none H1) (eMk0 x fe) := by
  unfold ocB at hoc
  simp only [Bool.and_eq_true, decide_eq_true_eq] at hoc
  obtain ⟨h1, h2, h3, h4⟩ := hoc
  refine ⟨pe_of_mk (SkE.pmk_own1 F.excBase_ValueError (by rw [hk]; exact h1) hm (by rw [hk]; exact h2) (raises_own (by rw [hk]; exact h3) (by rw [hk]; exact h4)) hg l.pe hs hdb), fun ρ σ B H Q S g => ?_⟩
  refine l.lk ρ σ B H _ S ?_
  unfold eMk0 at g
  cases ea : fe ρ with
  | stuck => rw [ea] at g; exact g
  | exc y ρ1 => rw [ea] at g; exact g
  | ok h ρ1 =>
    rw [ea] at g
    intro v B1 H1 S1 x1 y1 a na
    obtain ⟨S2, x2⟩ := S1.newB na (exV a (.ref A) none)
    refine g (.ref a) _ _ S2 (x1.trans x2) ?_
    show Rp _ _ _ (xnD x (([] : List (Str × V)).map (·.1)) [])
    exact .exn (d := none) (by rw [hcx]; exact upd_same) hxc (.inl ⟨rfl, rfl⟩) .nil
end
end GS
namespace GS
open PySem L2
section
variable {ρ : Rho}
def mkD (x : Str) (fns : List Str) (d : Option (List D)) (ρ : Rho) : RE := match d with
  | some ds => if ds.length = fns.length ∧ ds.length ≤ 1000 then .ok (.sh (xD ⟨x, (fns.zip ds).reverse⟩)) ρ else .stuck
  | none => .stuck
def mkA (x : Str) (fns : List Str) (r : RA) : RE := match r with
  | .stuck => .stuck
  | .exc y ρ1 => .exc y ρ1
  | .ok hs ρ1 => mkD x fns (shs hs) ρ1
@[simp] theorem mkA_ok (x : Str) (fns : List Str) (hs : List Hd) : mkA x fns (.ok hs ρ) = mkD x fns (shs hs) ρ := rfl
@[simp] theorem mkD_s (x : Str) (fns : List Str) (ds : List D) : mkD x fns (some ds) ρ = if ds.length = fns.length ∧ ds.length ≤ 1000 then .ok (.sh (xD ⟨x, (fns.zip ds).reverse⟩)) ρ else .stuck := rfl
theorem eMk_eq {F : FF} (h : GS.Raises F) (x : Str) (fns : List Str) (fa : AF) : eMk F x fns fa ρ = mkA x fns (fa ρ) := by
  unfold eMk
  cases e : F [] with
  | stuck => exact absurd e h
  | ok _ _ => dsimp only; unfold mkA mkD; rfl
  | exc _ _ => dsimp only; unfold mkA mkD; rfl
@[simp] theorem eMk0_eq (x : Str) (fe : EF) : eMk0 x fe ρ = bindE (fe ρ) fun _ ρ1 => .ok (.sh (xD ⟨x, []⟩)) ρ1 := rfl
end
end GS
namespace GM
open PySem L2 GS
/-- _law_sorts(one); slots 0:one 1:found -/
def m_law_sorts : SF := (sSeq (sSet 1 (eLst (aCons (eIsC ["NoPlace", "NoText", "NoKey", "Twice", "NoTree", "NoRow", "TooMany", "TwoSided", "NoPlan", "NoLine"] ["NoPlace"] (eVb 0)) (aCons (eIsC ["NoPlace", "NoText", "NoKey", "Twice", "NoTree", "NoRow", "TooMany", "TwoSided", "NoPlan", "NoLine"] ["NoText"] (eVb 0)) (aCons (eIsC ["NoPlace", "NoText", "NoKey", "Twice", "NoTree", "NoRow", "TooMany", "TwoSided", "NoPlan", "NoLine"] ["NoKey"] (eVb 0)) (aCons (eIsC ["NoPlace", "NoText", "NoKey", "Twice", "NoTree", "NoRow", "TooMany", "TwoSided", "NoPlan", "NoLine"] ["Twice"] (eVb 0)) aNil)))))) (sSeq (sSet 1 (eBin addD (eVb 1) (eLst (aCons (eIsC ["NoPlace", "NoText", "NoKey", "Twice", "NoTree", "NoRow", "TooMany", "TwoSided", "NoPlan", "NoLine"] ["NoTree"] (eVb 0)) (aCons (eIsC ["NoPlace", "NoText", "NoKey", "Twice", "NoTree", "NoRow", "TooMany", "TwoSided", "NoPlan", "NoLine"] ["NoRow"] (eVb 0)) (aCons (eIsC ["NoPlace", "NoText", "NoKey", "Twice", "NoTree", "NoRow", "TooMany", "TwoSided", "NoPlan", "NoLine"] ["TooMany"] (eVb 0)) aNil)))))) (sEnd (sRet (eBin addD (eVb 1) (eLst (aCons (eIsC ["NoPlace", "NoText", "NoKey", "Twice", "NoTree", "NoRow", "TooMany", "TwoSided", "NoPlan", "NoLine"] ["TwoSided"] (eVb 0)) (aCons (eIsC ["NoPlace", "NoText", "NoKey", "Twice", "NoTree", "NoRow", "TooMany", "TwoSided", "NoPlan", "NoLine"] ["NoPlan"] (eVb 0)) (aCons (eIsC ["NoPlace", "NoText", "NoKey", "Twice", "NoTree", "NoRow", "TooMany", "TwoSided", "NoPlan", "NoLine"] ["NoLine"] (eVb 0)) aNil)))))))))
theorem m_law_sorts_eq (ρ : Rho) : fnF 2 1 (m_law_sorts) ρ = finR 1 (m_law_sorts (ρ ++ [none])) := fnF_eq 2 1 _
/-- law(script); slots 0:script 1:number 2:place 3:text 4:word 5:made 6:k 7:cell 8:j -/
def m_law_k18_ce1 (F__law_sorts F_TwoSided F_TooMany F_NoRow F_NoTree F_Twice F_NoKey F_NoText F_NoPlace : FF) : EF := (eBin (eqB false) (eVb 8) (eVb 6))
def m_law_k18_b2 (F__law_sorts F_TwoSided F_TooMany F_NoRow F_NoTree F_Twice F_NoKey F_NoText F_NoPlace : FF) : SF := (sKill [6] (sSeq (sIf (eB (eBin (eqB true) (eCall 1 none F__law_sorts (aCons (eBin ixA (eVb 5) (eVb 6)) aNil)) (eLc [8] (iR1 (eC (.int 10))) (gN 8) (eNox eYes) (eNox (m_law_k18_ce1 F__law_sorts F_TwoSided F_TooMany F_NoRow F_NoTree F_Twice F_NoKey F_NoText F_NoPlace))))) (sEnd (sRet (eC (.bool false)))) sNil) (sIf (eOr (eNot (eB (eIsC ["NoPlace", "NoText", "NoKey", "Twice", "NoTree", "NoRow", "TooMany", "TwoSided", "NoPlan", "NoLine"] ["NoPlace", "NoText", "NoKey", "Twice", "NoTree", "NoRow", "TooMany", "TwoSided", "NoPlan", "NoLine"] (eBin ixA (eVb 5) (eVb 6))))) (eNot (eB (eIsC ["NoPlace", "NoText", "NoKey", "Twice", "NoTree", "NoRow", "TooMany", "TwoSided", "NoPlan", "NoLine"] ["NoPlace", "NoText", "NoKey", "Twice", "NoTree", "NoRow", "TooMany", "TwoSided", "NoPlan", "NoLine"] (eBin ixA (eVb 5) (eVb 6)))))) (sEnd (sRet (eC (.bool false)))) sNil)))
def m_law_k18_ce3 (F__law_sorts F_TwoSided F_TooMany F_NoRow F_NoTree F_Twice F_NoKey F_NoText F_NoPlace : FF) : EF := (eBin ixA (eC (.str (Str.ofString "abcxyz"))) (eBin modD (eVb 7) (eC (.int 6))))
def m_law_k18_ce4 (F__law_sorts F_TwoSided F_TooMany F_NoRow F_NoTree F_Twice F_NoKey F_NoText F_NoPlace : FF) : EF := (eBin modD (eVb 7) (eC (.int 8)))
def m_law_k18 (F__law_sorts F_TwoSided F_TooMany F_NoRow F_NoTree F_Twice F_NoKey F_NoText F_NoPlace : FF) : SF := (sSeq (sSet 1 (eIf (eB (eBin (ltI fun i j => decide (j < i)) (eCB (un1 lenD) (aCons (eVb 0) aNil)) (eC (.int 0)))) (eBin modD (eBin ixA (eVb 0) (eC (.int 0))) (eC (.int 1001))) (eC (.int 0)))) (sSeq (sSet 2 (eCB (un1 tupleD) (aCons (eLc [7] (iSq (eSl (eVb 0) none (some (eC (.int 12))))) (gN 7) (eNox eYes) (eNox (m_law_k18_ce4 F__law_sorts F_TwoSided F_TooMany F_NoRow F_NoTree F_Twice F_NoKey F_NoText F_NoPlace))) aNil))) (sSeq (sSet 3 (eBin addD (eC (.str (Str.ofString "k"))) (eM1 joinD (eC (.str (Str.ofString ""))) (eLc [7] (iSq (eSl (eVb 0) none (some (eC (.int 8))))) (gN 7) (eNox eYes) (eNox (m_law_k18_ce3 F__law_sorts F_TwoSided F_TooMany F_NoRow F_NoTree F_Twice F_NoKey F_NoText F_NoPlace)))))) (sSeq (sSet 4 (eBin ixA (eLst (aCons (eC (.str (Str.ofString "knot"))) (aCons (eC (.str (Str.ofString "feet"))) (aCons (eC (.str (Str.ofString "sign"))) (aCons (eC (.str (Str.ofString "great"))) aNil))))) (eBin modD (eVb 1) (eC (.int 4))))) (sSeq (sSet 5 (eLst (aCons (eMk F_NoPlace "NoPlace" ["place"] (aCons (eMv 2) aNil)) (aCons (eMk F_NoText "NoText" ["at"] (aCons (eMv 1) aNil)) (aCons (eMk F_NoKey "NoKey" ["number"] (aCons (eMv 1) aNil)) (aCons (eMk F_Twice "Twice" ["key"] (aCons (eMv 3) aNil)) (aCons (eMk F_NoTree "NoTree" ["key", "word"] (aCons (eMv 3) (aCons (eMv 4) aNil))) (aCons (eMk F_NoRow "NoRow" ["row"] (aCons (eMv 1) aNil)) aNil)))))))) (sSeq (sSet 5 (eBin addD (eVb 5) (eLst (aCons (eMk F_TooMany "TooMany" ["most"] (aCons (eMv 1) aNil)) (aCons (eMk F_TwoSided "TwoSided" ["key"] (aCons (eMv 3) aNil)) (aCons (eMk0 "NoPlan" (eVb 3)) (aCons (eMk0 "NoLine" (eVb 3)) aNil))))))) (sSeq (sFor (iR1 (eC (.int 10))) (gN 6) (m_law_k18_b2 F__law_sorts F_TwoSided F_TooMany F_NoRow F_NoTree F_Twice F_NoKey F_NoText F_NoPlace)) (sSeq (sIf (eB (eBin (eqB true) (eLst (aCons (eXf ["NoPlace", "NoText", "NoKey", "Twice", "NoTree", "NoRow", "TooMany", "TwoSided", "NoPlan", "NoLine"] "place" (eBin ixA (eVb 5) (eC (.int 0)))) (aCons (eXf ["NoPlace", "NoText", "NoKey", "Twice", "NoTree", "NoRow", "TooMany", "TwoSided", "NoPlan", "NoLine"] "at" (eBin ixA (eVb 5) (eC (.int 1)))) (aCons (eXf ["NoPlace", "NoText", "NoKey", "Twice", "NoTree", "NoRow", "TooMany", "TwoSided", "NoPlan", "NoLine"] "number" (eBin ixA (eVb 5) (eC (.int 2)))) (aCons (eXf ["NoPlace", "NoText", "NoKey", "Twice", "NoTree", "NoRow", "TooMany", "TwoSided", "NoPlan", "NoLine"] "key" (eBin ixA (eVb 5) (eC (.int 3)))) aNil))))) (eLst (aCons (eMv 2) (aCons (eMv 1) (aCons (eMv 1) (aCons (eMv 3) aNil))))))) (sEnd (sRet (eC (.bool false)))) sNil) (sEnd (sRet (eBin (eqB false) (eLst (aCons (eXf ["NoPlace", "NoText", "NoKey", "Twice", "NoTree", "NoRow", "TooMany", "TwoSided", "NoPlan", "NoLine"] "key" (eBin ixA (eVb 5) (eC (.int 4)))) (aCons (eXf ["NoPlace", "NoText", "NoKey", "Twice", "NoTree", "NoRow", "TooMany", "TwoSided", "NoPlan", "NoLine"] "word" (eBin ixA (eVb 5) (eC (.int 4)))) (aCons (eXf ["NoPlace", "NoText", "NoKey", "Twice", "NoTree", "NoRow", "TooMany", "TwoSided", "NoPlan", "NoLine"] "row" (eBin ixA (eVb 5) (eC (.int 5)))) (aCons (eXf ["NoPlace", "NoText", "NoKey", "Twice", "NoTree", "NoRow", "TooMany", "TwoSided", "NoPlan", "NoLine"] "most" (eBin ixA (eVb 5) (eC (.int 6)))) (aCons (eXf ["NoPlace", "NoText", "NoKey", "Twice", "NoTree", "NoRow", "TooMany", "TwoSided", "NoPlan", "NoLine"] "key" (eBin ixA (eVb 5) (eC (.int 7)))) aNil)))))) (eLst (aCons (eMv 3) (aCons (eMv 4) (aCons (eMv 1) (aCons (eMv 1) (aCons (eMv 3) aNil)))))))))))))))))
theorem m_law_k18_eq (F__law_sorts F_TwoSided F_TooMany F_NoRow F_NoTree F_Twice F_NoKey F_NoText F_NoPlace : FF) (ρ : Rho) : fnF 9 1 (m_law_k18 F__law_sorts F_TwoSided F_TooMany F_NoRow F_NoTree F_Twice F_NoKey F_NoText F_NoPlace) ρ = finR 1 (m_law_k18 F__law_sorts F_TwoSided F_TooMany F_NoRow F_NoTree F_Twice F_NoKey F_NoText F_NoPlace (ρ ++ [none, none, none, none, none, none, none, none])) := fnF_eq 9 1 _
end GM
namespace GM
open PySem L2 GS
abbrev ten : List Str := ["NoPlace", "NoText", "NoKey", "Twice", "NoTree", "NoRow", "TooMany", "TwoSided", "NoPlan", "NoLine"]
def srt (c : Str) : D := .list (ten.map fun n => .bool ([n].contains c))
def SortsSp (F : FF) : Prop := ∀ x : Xc, ten.contains x.cls = true → F [some ⟨xD x, .sh⟩] = .ok (.fr (srt x.cls)) [none]
theorem law_sorts_ok : SortsSp (fnF 2 1 m_law_sorts) := fun x h => by
  rw [m_law_sorts_eq]
  have X : ∀ cs, isR ten cs (some (xD x)) = fun ρ => .ok (.sh (.bool (cs.contains x.cls))) ρ := fun cs => funext fun ρ => isR_x _ _ _ h
  have z1 : 7 ≤ sizeLine := by decide
  have z2 : 10 ≤ sizeLine := by decide
  unfold srt
  simp [m_law_sorts, X, z1, z2, -List.contains_cons, -List.contains_nil]
section
variable {Fs F1 F2 F3 F4 F5 F6 F7 F8 : FF}
theorem k18_body (hs : SortsSp Fs) (c0 c1 c2 c3 c4 : Cel) (M : List D) (k : Nat) (hk : k < 10) (x : Xc) (hat : L2.atI M (k : Int) = some (xD x)) (hin : ten.contains x.cls = true) (hsame : srt x.cls = .list ((List.range 10).map fun j => .bool (decide (j = k)))) (fl : Fl) (hfl : fl ≠ .io) :
    m_law_k18_b2 Fs F1 F2 F3 F4 F5 F6 F7 F8 [some c0, some c1, some c2, some c3, some c4, some ⟨.list M, fl⟩, some ⟨.int (k : Int), .sh⟩, none, none] = .nx [some c0, some c1, some c2, some c3, some c4, some ⟨.list M, fl⟩, none, none, none] := by
  have e := hs x hin
  have hl := lcL_all (vs := [8]) (g := gN 8) (fe := eNox (m_law_k18_ce1 Fs F1 F2 F3 F4 F5 F6 F7 F8)) [some c0, some c1, some c2, some c3, some c4, some ⟨.list M, fl⟩, some ⟨.int (k : Int), .sh⟩, none, none] (fun j : Nat => .int (j : Int)) (fun j => [some c0, some c1, some c2, some c3, some c4, some ⟨.list M, fl⟩, some ⟨.int (k : Int), .sh⟩, none, some ⟨.int (j : Int), .sh⟩]) (fun j => .bool (decide (j = k))) (List.range 10) [] (by decide) (fun j m => by
    by_cases q : j = k
    · subst q; simp [m_law_k18_ce1]
    · have q' : ¬ (j : Int) = (k : Int) := by omega
      simp [m_law_k18_ce1, q, q'])
  have hr : (List.range 10).map (fun j : Nat => PyData.int (j : Int)) = rgD 0 10 := by rfl
  rw [hr, List.nil_append] at hl
  have X : isR ten ten (some (xD x)) = fun ρ => .ok (.sh (.bool true)) ρ := funext fun ρ => by rw [isR_x _ _ _ hin, hin]
  rw [hsame] at e
  have cl : cleanB (.list ((List.range 10).map fun j => PyData.bool (decide (j = k)))) = true ∧ (PyData.list ((List.range 10).map fun j => PyData.bool (decide (j = k)))).depth ≤ 190 := by
    have : ∀ k : Fin 10, cleanB (.list ((List.range 10).map fun j => PyData.bool (decide (j = k.val)))) = true ∧ (PyData.list ((List.range 10).map fun j => PyData.bool (decide (j = k.val)))).depth ≤ 190 := by decide +kernel
    exact this ⟨k, hk⟩
  have s1 := eqB_same true cl.1 cl.2
  have hok : okR 10 = true := by decide +kernel
  generalize (List.range 10).map (fun j => PyData.bool (decide (j = k))) = LL at hl e s1
  unfold m_law_k18_b2
  refine kill_of [some c0, some c1, some c2, some c3, some c4, some ⟨.list M, fl⟩, some ⟨.int (k : Int), .sh⟩, none, none] (by simp [ioAt]) ?_ (by simp [wipeR])
  simp [hat, e, hl, s1, hok, X, -List.contains_cons, -List.contains_nil]
theorem law_k18_ok (hs : SortsSp Fs) (h1 : GS.Raises F1) (h2 : GS.Raises F2) (h3 : GS.Raises F3) (h4 : GS.Raises F4) (h5 : GS.Raises F5) (h6 : GS.Raises F6) (h7 : GS.Raises F7) (h8 : GS.Raises F8) (ns : List Int) (hns : ns.length ≤ 63) :
    fnF 9 1 (m_law_k18 Fs F1 F2 F3 F4 F5 F6 F7 F8) [some ⟨.list (ns.map .int), .sh⟩] = .ok (.sh (.bool true)) [none] := by
  rw [m_law_k18_eq]
  unfold m_law_k18
  -- the number
  obtain ⟨num, hnum⟩ : ∃ num : Int, (sSet 1 (eIf (eB (eBin (ltI fun i j => decide (j < i)) (eCB (un1 lenD) (aCons (eVb 0) aNil)) (eC (.int 0)))) (eBin modD (eBin ixA (eVb 0) (eC (.int 0))) (eC (.int 1001))) (eC (.int 0)))) [some ⟨.list (ns.map .int), .sh⟩, none, none, none, none, none, none, none, none] = .nx [some ⟨.list (ns.map .int), .sh⟩, some ⟨.int num, .sh⟩, none, none, none, none, none, none, none] := by
    cases ns with
    | nil => exact ⟨0, by simp⟩
    | cons a r =>
      have q : (0 : Int) < (r.length : Int) + 1 := by omega
      exact ⟨a % 1001, by simp [q]⟩
  refine fin_seq _ hnum ?_
  -- the place
  have l1 := lcL_all (vs := [7]) (g := gN 7) (fe := eNox (m_law_k18_ce4 Fs F1 F2 F3 F4 F5 F6 F7 F8)) [some ⟨.list (ns.map .int), .sh⟩, some ⟨.int num, .sh⟩, none, none, none, none, none, none, none] PyData.int (fun c => [some ⟨.list (ns.map .int), .sh⟩, some ⟨.int num, .sh⟩, none, none, none, none, none, some ⟨.int c, .sh⟩, none]) (fun c => .int (c % 8)) (ns.take 12) [] (fits (by simp; omega)) (fun c _ => by simp [m_law_k18_ce4])
  rw [List.nil_append] at l1
  have cc : ∀ k : Nat, cutD (ns.map PyData.int) none (some (k : Int)) = (ns.take k).map .int := fun k => by rw [cutD_to, List.map_take]
  have c12 := cc 12
  have c8 := cc 8
  rw [show ((12 : Nat) : Int) = 12 from rfl] at c12
  rw [show ((8 : Nat) : Int) = 8 from rfl] at c8
  have pl : ((ns.take 12).map fun c => PyData.int (c % 8)).length < sizeLine := fitsl (by simp; omega)
  have pc : cleanB (.tuple ((ns.take 12).map fun c => PyData.int (c % 8))) = true ∧ (PyData.tuple ((ns.take 12).map fun c => PyData.int (c % 8))).depth ≤ 1 := by
    refine ⟨?_, ?_⟩
    · rw [cleanB]
      refine cleanL_of fun d m => ?_
      obtain ⟨c, _, rfl⟩ := List.mem_map.mp m
      rfl
    · have := depthAll_of (ds := (ns.take 12).map fun c => PyData.int (c % 8)) (n := 0) fun d m => by
        obtain ⟨c, _, rfl⟩ := List.mem_map.mp m
        exact Nat.le_refl _
      simp only [PyData.depth]
      omega
  generalize (ns.take 12).map (fun c => PyData.int (c % 8)) = pls at l1 pl pc
  refine fin_seq [some ⟨.list (ns.map .int), .sh⟩, some ⟨.int num, .sh⟩, some ⟨.tuple pls, .sh⟩, none, none, none, none, none, none] (by simp [c12, l1, pl, -List.map_take]) ?_
  -- the text
  have g6 : (6 : Int) = (Str.ofString "abcxyz").cps.toList.length := by decide +kernel
  have l6 : (Str.ofString "abcxyz").length ≤ sizeLine := by decide +kernel
  have e6 : ∀ c : Int, L2.atI (Str.ofString "abcxyz").cps.toList (c % 6) = some (pick (Str.ofString "abcxyz").cps.toList (c % 6)) := fun c => atI_mod (by decide) g6
  have m6 : ∀ c : Int, pick (Str.ofString "abcxyz").cps.toList (c % 6) ∈ (Str.ofString "abcxyz").cps.toList := fun c => pick_mem (by decide) g6
  have l2 := lcL_all (vs := [7]) (g := gN 7) (fe := eNox (m_law_k18_ce3 Fs F1 F2 F3 F4 F5 F6 F7 F8)) [some ⟨.list (ns.map .int), .sh⟩, some ⟨.int num, .sh⟩, some ⟨.tuple pls, .sh⟩, none, none, none, none, none, none] PyData.int (fun c => [some ⟨.list (ns.map .int), .sh⟩, some ⟨.int num, .sh⟩, some ⟨.tuple pls, .sh⟩, none, none, none, none, some ⟨.int c, .sh⟩, none]) (fun c => .str ⟨#[pick (Str.ofString "abcxyz").cps.toList (c % 6)]⟩) (ns.take 8) [] (fits (by simp; omega)) (fun c _ => by simp [m_law_k18_ce3, e6, l6])
  rw [List.nil_append, show (ns.take 8).map (fun c => PyData.str ⟨#[pick (Str.ofString "abcxyz").cps.toList (c % 6)]⟩) = ((ns.take 8).map fun c => (⟨#[pick (Str.ofString "abcxyz").cps.toList (c % 6)]⟩ : Str)).map .str by rw [List.map_map]; rfl] at l2
  obtain ⟨txt, ht, tok⟩ : ∃ txt : Str, (sSet 3 (eBin addD (eC (.str (Str.ofString "k"))) (eM1 joinD (eC (.str (Str.ofString ""))) (eLc [7] (iSq (eSl (eVb 0) none (some (eC (.int 8))))) (gN 7) (eNox eYes) (eNox (m_law_k18_ce3 Fs F1 F2 F3 F4 F5 F6 F7 F8)))))) [some ⟨.list (ns.map .int), .sh⟩, some ⟨.int num, .sh⟩, some ⟨.tuple pls, .sh⟩, none, none, none, none, none, none] = .nx [some ⟨.list (ns.map .int), .sh⟩, some ⟨.int num, .sh⟩, some ⟨.tuple pls, .sh⟩, some ⟨.str txt, .sh⟩, none, none, none, none, none] ∧ PyData.strOk txt = true := by
    have hw : ∀ w ∈ (ns.take 8).map fun c => (⟨#[pick (Str.ofString "abcxyz").cps.toList (c % 6)]⟩ : Str), w.length ≤ 1 ∧ ∀ ch ∈ w.cps.toList, ch < 128 := fun w m => by
      obtain ⟨c, _, rfl⟩ := List.mem_map.mp m
      refine ⟨Nat.le_refl _, fun ch mc => ?_⟩
      have := m6 c
      simp at mc
      subst mc
      revert this
      generalize pick (Str.ofString "abcxyz").cps.toList (c % 6) = y
      have : ∀ y ∈ (Str.ofString "abcxyz").cps.toList, y < 128 := by decide +kernel
      exact this y
    have wl : ((ns.take 8).map fun c => (⟨#[pick (Str.ofString "abcxyz").cps.toList (c % 6)]⟩ : Str)).length ≤ 8 := by simp; omega
    generalize (ns.take 8).map (fun c => (⟨#[pick (Str.ofString "abcxyz").cps.toList (c % 6)]⟩ : Str)) = ws at l2 hw wl
    have j := joinD_l (Str.ofString "") ws (joinOk_of (b := 1) (n := 8) (fun w m => (hw w m).1) wl (by decide +kernel))
    have jl := join_len (Str.ofString "") ws
    have l0 : (Str.ofString "").length = 0 := by decide +kernel
    have lk : (Str.ofString "k").length = 1 := by decide +kernel
    have sl := sum_le (b := 1) fun w m => (hw w m).1
    have z : (Str.ofString "k").length + (Txt.join (Str.ofString "") ws).length ≤ sizeLine := fits (by rw [l0] at jl; omega)
    refine ⟨Str.ofString "k" ++ Txt.join (Str.ofString "") ws, by simp [c8, l2, j, z, -List.map_take], strOk_of fun ch mc => ?_⟩
    rw [app_cps] at mc
    rcases List.mem_append.mp mc with q | q
    · have : ∀ y ∈ (Str.ofString "k").cps.toList, y < 0x110000 := by decide +kernel
      exact this ch q
    · rcases join_mem q with q | ⟨w, mw, q⟩
      · rw [show (Str.ofString "").cps.toList = [] by decide +kernel] at q; cases q
      · have := (hw w mw).2 ch q; omega
  refine fin_seq _ ht ?_
  -- the word
  obtain ⟨wd, ew, wok⟩ : ∃ w : Str, pick [PyData.str (Str.ofString "knot"), .str (Str.ofString "feet"), .str (Str.ofString "sign"), .str (Str.ofString "great")] (num % 4) = .str w ∧ PyData.strOk w = true := by
    have := pick_mem (xs := [PyData.str (Str.ofString "knot"), .str (Str.ofString "feet"), .str (Str.ofString "sign"), .str (Str.ofString "great")]) (c := num) (n := 4) (by decide) (by decide)
    simp only [List.mem_cons, List.not_mem_nil, or_false] at this
    rcases this with h | h | h | h <;> exact ⟨_, h, strOk_ofS _⟩
  refine fin_seq [some ⟨.list (ns.map .int), .sh⟩, some ⟨.int num, .sh⟩, some ⟨.tuple pls, .sh⟩, some ⟨.str txt, .sh⟩, some ⟨.str wd, .sh⟩, none, none, none, none] (by simp [ew]) ?_
  have z10 : 10 ≤ sizeLine := by decide
  refine fin_seq [some ⟨.list (ns.map .int), .sh⟩, some ⟨.int num, .sh⟩, some ⟨.tuple pls, .sh⟩, some ⟨.str txt, .sh⟩, some ⟨.str wd, .sh⟩, some ⟨.list [xD ⟨"NoPlace", [("place", .tuple pls)]⟩, xD ⟨"NoText", [("at", .int num)]⟩, xD ⟨"NoKey", [("number", .int num)]⟩, xD ⟨"Twice", [("key", .str txt)]⟩, xD ⟨"NoTree", [("word", .str wd), ("key", .str txt)]⟩, xD ⟨"NoRow", [("row", .int num)]⟩], .ow⟩, none, none, none] (by
    simp [eMk_eq h1, eMk_eq h2, eMk_eq h3, eMk_eq h4, eMk_eq h5, eMk_eq h6, eMk_eq h7, eMk_eq h8]) ?_
  refine fin_seq [some ⟨.list (ns.map .int), .sh⟩, some ⟨.int num, .sh⟩, some ⟨.tuple pls, .sh⟩, some ⟨.str txt, .sh⟩, some ⟨.str wd, .sh⟩, some ⟨.list [xD ⟨"NoPlace", [("place", .tuple pls)]⟩, xD ⟨"NoText", [("at", .int num)]⟩, xD ⟨"NoKey", [("number", .int num)]⟩, xD ⟨"Twice", [("key", .str txt)]⟩, xD ⟨"NoTree", [("word", .str wd), ("key", .str txt)]⟩, xD ⟨"NoRow", [("row", .int num)]⟩, xD ⟨"TooMany", [("most", .int num)]⟩, xD ⟨"TwoSided", [("key", .str txt)]⟩, xD ⟨"NoPlan", []⟩, xD ⟨"NoLine", []⟩], .ow⟩, none, none, none] (by
    simp [eMk_eq h1, eMk_eq h2, eMk_eq h3, eMk_eq h4, eMk_eq h5, eMk_eq h6, eMk_eq h7, eMk_eq h8, z10]) ?_
  generalize hM : [xD ⟨"NoPlace", [("place", .tuple pls)]⟩, xD ⟨"NoText", [("at", .int num)]⟩, xD ⟨"NoKey", [("number", .int num)]⟩, xD ⟨"Twice", [("key", .str txt)]⟩, xD ⟨"NoTree", [("word", .str wd), ("key", .str txt)]⟩, xD ⟨"NoRow", [("row", .int num)]⟩, xD ⟨"TooMany", [("most", .int num)]⟩, xD ⟨"TwoSided", [("key", .str txt)]⟩, xD ⟨"NoPlan", []⟩, xD ⟨"NoLine", []⟩] = MM
  have lp := forL_lookD (g := gN 6) (b := m_law_k18_b2 Fs F1 F2 F3 F4 F5 F6 F7 F8) [some ⟨.list (ns.map .int), .sh⟩, some ⟨.int num, .sh⟩, some ⟨.tuple pls, .sh⟩, some ⟨.str txt, .sh⟩, some ⟨.str wd, .sh⟩, some ⟨.list MM, .ow⟩, none, none, none] [] (fun _ => true) (.sh .none) (rgD 0 10) (fun a m => by
    rw [if_pos rfl]
    obtain ⟨k, hk, rfl⟩ : ∃ k : Nat, k < 10 ∧ a = .int (k : Int) := by
      unfold rgD at m
      obtain ⟨k, mk, rfl⟩ := List.mem_map.mp m
      exact ⟨k, List.mem_range.mp mk, by simp⟩
    have hc : k = 0 ∨ k = 1 ∨ k = 2 ∨ k = 3 ∨ k = 4 ∨ k = 5 ∨ k = 6 ∨ k = 7 ∨ k = 8 ∨ k = 9 := by omega
    rcases hc with e | e | e | e | e | e | e | e | e | e
    · rw [e, show ((0 : Nat) : Int) = ((0 : Nat) : Int) from rfl]
      have B := k18_body (F1 := F1) (F2 := F2) (F3 := F3) (F4 := F4) (F5 := F5) (F6 := F6) (F7 := F7) (F8 := F8) hs ⟨.list (ns.map .int), .sh⟩ ⟨.int num, .sh⟩ ⟨.tuple pls, .sh⟩ ⟨.str txt, .sh⟩ ⟨.str wd, .sh⟩ MM 0 (by decide) ⟨"NoPlace", [("place", .tuple pls)]⟩ (by rw [← hM]; rfl) (show ten.contains (Str.ofString "NoPlace") = true by decide +kernel) (by rfl) .ow (by decide)
      show optR (some _) _ = _
      exact B
    · rw [e, show ((1 : Nat) : Int) = ((1 : Nat) : Int) from rfl]
      have B := k18_body (F1 := F1) (F2 := F2) (F3 := F3) (F4 := F4) (F5 := F5) (F6 := F6) (F7 := F7) (F8 := F8) hs ⟨.list (ns.map .int), .sh⟩ ⟨.int num, .sh⟩ ⟨.tuple pls, .sh⟩ ⟨.str txt, .sh⟩ ⟨.str wd, .sh⟩ MM 1 (by decide) ⟨"NoText", [("at", .int num)]⟩ (by rw [← hM]; rfl) (show ten.contains (Str.ofString "NoText") = true by decide +kernel) (by rfl) .ow (by decide)
      show optR (some _) _ = _
      exact B
    · rw [e, show ((2 : Nat) : Int) = ((2 : Nat) : Int) from rfl]
      have B := k18_body (F1 := F1) (F2 := F2) (F3 := F3) (F4 := F4) (F5 := F5) (F6 := F6) (F7 := F7) (F8 := F8) hs ⟨.list (ns.map .int), .sh⟩ ⟨.int num, .sh⟩ ⟨.tuple pls, .sh⟩ ⟨.str txt, .sh⟩ ⟨.str wd, .sh⟩ MM 2 (by decide) ⟨"NoKey", [("number", .int num)]⟩ (by rw [← hM]; rfl) (show ten.contains (Str.ofString "NoKey") = true by decide +kernel) (by rfl) .ow (by decide)
      show optR (some _) _ = _
      exact B
    · rw [e, show ((3 : Nat) : Int) = ((3 : Nat) : Int) from rfl]
      have B := k18_body (F1 := F1) (F2 := F2) (F3 := F3) (F4 := F4) (F5 := F5) (F6 := F6) (F7 := F7) (F8 := F8) hs ⟨.list (ns.map .int), .sh⟩ ⟨.int num, .sh⟩ ⟨.tuple pls, .sh⟩ ⟨.str txt, .sh⟩ ⟨.str wd, .sh⟩ MM 3 (by decide) ⟨"Twice", [("key", .str txt)]⟩ (by rw [← hM]; rfl) (show ten.contains (Str.ofString "Twice") = true by decide +kernel) (by rfl) .ow (by decide)
      show optR (some _) _ = _
      exact B
    · rw [e, show ((4 : Nat) : Int) = ((4 : Nat) : Int) from rfl]
      have B := k18_body (F1 := F1) (F2 := F2) (F3 := F3) (F4 := F4) (F5 := F5) (F6 := F6) (F7 := F7) (F8 := F8) hs ⟨.list (ns.map .int), .sh⟩ ⟨.int num, .sh⟩ ⟨.tuple pls, .sh⟩ ⟨.str txt, .sh⟩ ⟨.str wd, .sh⟩ MM 4 (by decide) ⟨"NoTree", [("word", .str wd), ("key", .str txt)]⟩ (by rw [← hM]; rfl) (show ten.contains (Str.ofString "NoTree") = true by decide +kernel) (by rfl) .ow (by decide)
      show optR (some _) _ = _
      exact B
    · rw [e, show ((5 : Nat) : Int) = ((5 : Nat) : Int) from rfl]
      have B := k18_body (F1 := F1) (F2 := F2) (F3 := F3) (F4 := F4) (F5 := F5) (F6 := F6) (F7 := F7) (F8 := F8) hs ⟨.list (ns.map .int), .sh⟩ ⟨.int num, .sh⟩ ⟨.tuple pls, .sh⟩ ⟨.str txt, .sh⟩ ⟨.str wd, .sh⟩ MM 5 (by decide) ⟨"NoRow", [("row", .int num)]⟩ (by rw [← hM]; rfl) (show ten.contains (Str.ofString "NoRow") = true by decide +kernel) (by rfl) .ow (by decide)
      show optR (some _) _ = _
      exact B
    · rw [e, show ((6 : Nat) : Int) = ((6 : Nat) : Int) from rfl]
      have B := k18_body (F1 := F1) (F2 := F2) (F3 := F3) (F4 := F4) (F5 := F5) (F6 := F6) (F7 := F7) (F8 := F8) hs ⟨.list (ns.map .int), .sh⟩ ⟨.int num, .sh⟩ ⟨.tuple pls, .sh⟩ ⟨.str txt, .sh⟩ ⟨.str wd, .sh⟩ MM 6 (by decide) ⟨"TooMany", [("most", .int num)]⟩ (by rw [← hM]; rfl) (show ten.contains (Str.ofString "TooMany") = true by decide +kernel) (by rfl) .ow (by decide)
      show optR (some _) _ = _
      exact B
    · rw [e, show ((7 : Nat) : Int) = ((7 : Nat) : Int) from rfl]
      have B := k18_body (F1 := F1) (F2 := F2) (F3 := F3) (F4 := F4) (F5 := F5) (F6 := F6) (F7 := F7) (F8 := F8) hs ⟨.list (ns.map .int), .sh⟩ ⟨.int num, .sh⟩ ⟨.tuple pls, .sh⟩ ⟨.str txt, .sh⟩ ⟨.str wd, .sh⟩ MM 7 (by decide) ⟨"TwoSided", [("key", .str txt)]⟩ (by rw [← hM]; rfl) (show ten.contains (Str.ofString "TwoSided") = true by decide +kernel) (by rfl) .ow (by decide)
      show optR (some _) _ = _
      exact B
    · rw [e, show ((8 : Nat) : Int) = ((8 : Nat) : Int) from rfl]
      have B := k18_body (F1 := F1) (F2 := F2) (F3 := F3) (F4 := F4) (F5 := F5) (F6 := F6) (F7 := F7) (F8 := F8) hs ⟨.list (ns.map .int), .sh⟩ ⟨.int num, .sh⟩ ⟨.tuple pls, .sh⟩ ⟨.str txt, .sh⟩ ⟨.str wd, .sh⟩ MM 8 (by decide) ⟨"NoPlan", []⟩ (by rw [← hM]; rfl) (show ten.contains (Str.ofString "NoPlan") = true by decide +kernel) (by rfl) .ow (by decide)
      show optR (some _) _ = _
      exact B
    · rw [e, show ((9 : Nat) : Int) = ((9 : Nat) : Int) from rfl]
      have B := k18_body (F1 := F1) (F2 := F2) (F3 := F3) (F4 := F4) (F5 := F5) (F6 := F6) (F7 := F7) (F8 := F8) hs ⟨.list (ns.map .int), .sh⟩ ⟨.int num, .sh⟩ ⟨.tuple pls, .sh⟩ ⟨.str txt, .sh⟩ ⟨.str wd, .sh⟩ MM 9 (by decide) ⟨"NoLine", []⟩ (by rw [← hM]; rfl) (show ten.contains (Str.ofString "NoLine") = true by decide +kernel) (by rfl) .ow (by decide)
      show optR (some _) _ = _
      exact B
    )
  rw [if_pos (List.all_eq_true.mpr fun _ _ => rfl)] at lp
  have hok : okR 10 = true := by decide +kernel
  refine fin_seq _ (by simp [hok, lp]; rfl) ?_
  subst hM
  have F0 : xfR ten "place" (some (xD ⟨"NoPlace", [("place", .tuple pls)]⟩)) = fun ρ => .ok (.sh (.tuple pls)) ρ := funext fun ρ => xfR_x _ _ _ _ (show ten.contains (Str.ofString "NoPlace") = true by decide +kernel) (by rfl)
  have G0 : xfR ten "at" (some (xD ⟨"NoText", [("at", .int num)]⟩)) = fun ρ => .ok (.sh (.int num)) ρ := funext fun ρ => xfR_x _ _ _ _ (show ten.contains (Str.ofString "NoText") = true by decide +kernel) (by rfl)
  have G1 : xfR ten "number" (some (xD ⟨"NoKey", [("number", .int num)]⟩)) = fun ρ => .ok (.sh (.int num)) ρ := funext fun ρ => xfR_x _ _ _ _ (show ten.contains (Str.ofString "NoKey") = true by decide +kernel) (by rfl)
  have G2 : xfR ten "key" (some (xD ⟨"Twice", [("key", .str txt)]⟩)) = fun ρ => .ok (.sh (.str txt)) ρ := funext fun ρ => xfR_x _ _ _ _ (show ten.contains (Str.ofString "Twice") = true by decide +kernel) (by rfl)
  have G3 : xfR ten "key" (some (xD ⟨"NoTree", [("word", .str wd), ("key", .str txt)]⟩)) = fun ρ => .ok (.sh (.str txt)) ρ := funext fun ρ => xfR_x _ _ _ _ (show ten.contains (Str.ofString "NoTree") = true by decide +kernel) (by rfl)
  have G4 : xfR ten "word" (some (xD ⟨"NoTree", [("word", .str wd), ("key", .str txt)]⟩)) = fun ρ => .ok (.sh (.str wd)) ρ := funext fun ρ => xfR_x _ _ _ _ (show ten.contains (Str.ofString "NoTree") = true by decide +kernel) (by rfl)
  have G5 : xfR ten "row" (some (xD ⟨"NoRow", [("row", .int num)]⟩)) = fun ρ => .ok (.sh (.int num)) ρ := funext fun ρ => xfR_x _ _ _ _ (show ten.contains (Str.ofString "NoRow") = true by decide +kernel) (by rfl)
  have G6 : xfR ten "most" (some (xD ⟨"TooMany", [("most", .int num)]⟩)) = fun ρ => .ok (.sh (.int num)) ρ := funext fun ρ => xfR_x _ _ _ _ (show ten.contains (Str.ofString "TooMany") = true by decide +kernel) (by rfl)
  have G7 : xfR ten "key" (some (xD ⟨"TwoSided", [("key", .str txt)]⟩)) = fun ρ => .ok (.sh (.str txt)) ρ := funext fun ρ => xfR_x _ _ _ _ (show ten.contains (Str.ofString "TwoSided") = true by decide +kernel) (by rfl)
  have s1 := eqB_same (d := .list [.tuple pls, .int num, .int num, .str txt]) true (by rw [cleanB]; refine cleanL_of fun d m => ?_; simp only [List.mem_cons, List.not_mem_nil, or_false] at m; rcases m with rfl | rfl | rfl | rfl; exact pc.1; rfl; rfl; exact tok) (by have := pc.2; simp only [PyData.depth, PyData.depthAll] at this ⊢; omega)
  have s2 := eqB_same (d := .list [.str txt, .str wd, .int num, .int num, .str txt]) false (by rw [cleanB]; refine cleanL_of fun d m => ?_; simp only [List.mem_cons, List.not_mem_nil, or_false] at m; rcases m with rfl | rfl | rfl | rfl | rfl; exact tok; exact wok; rfl; rfl; exact tok) (by simp [PyData.depth, PyData.depthAll])
  have a0 : ∀ (x0 x1 x2 x3 x4 x5 x6 x7 x8 x9 : D), L2.atI [x0, x1, x2, x3, x4, x5, x6, x7, x8, x9] 0 = some x0 ∧ L2.atI [x0, x1, x2, x3, x4, x5, x6, x7, x8, x9] 1 = some x1 ∧ L2.atI [x0, x1, x2, x3, x4, x5, x6, x7, x8, x9] 2 = some x2 ∧ L2.atI [x0, x1, x2, x3, x4, x5, x6, x7, x8, x9] 3 = some x3 ∧ L2.atI [x0, x1, x2, x3, x4, x5, x6, x7, x8, x9] 4 = some x4 ∧ L2.atI [x0, x1, x2, x3, x4, x5, x6, x7, x8, x9] 5 = some x5 ∧ L2.atI [x0, x1, x2, x3, x4, x5, x6, x7, x8, x9] 6 = some x6 ∧ L2.atI [x0, x1, x2, x3, x4, x5, x6, x7, x8, x9] 7 = some x7 := fun _ _ _ _ _ _ _ _ _ _ => ⟨rfl, rfl, rfl, rfl, rfl, rfl, rfl, rfl⟩
  obtain ⟨a0, a1, a2, a3, a4, a5, a6, a7⟩ := a0 (xD ⟨"NoPlace", [("place", .tuple pls)]⟩) (xD ⟨"NoText", [("at", .int num)]⟩) (xD ⟨"NoKey", [("number", .int num)]⟩) (xD ⟨"Twice", [("key", .str txt)]⟩) (xD ⟨"NoTree", [("word", .str wd), ("key", .str txt)]⟩) (xD ⟨"NoRow", [("row", .int num)]⟩) (xD ⟨"TooMany", [("most", .int num)]⟩) (xD ⟨"TwoSided", [("key", .str txt)]⟩) (xD ⟨"NoPlan", []⟩) (xD ⟨"NoLine", []⟩)
  simp [a0, a1, a2, a3, a4, a5, a6, a7, F0, G0, G1, G2, G3, G4, G5, G6, G7, s1, s2, -List.contains_cons, -List.contains_nil]
end
end GM
namespace GM
open PySem L2 GS
end GM
namespace Wk18
open PySem L2 GS GM
def fs : Nat → Nat → FF
  | 0, _ => stuckF
  | k + 1, 0 => fnF 2 1 (m_law_sorts)
  | k + 1, 1 => fnF 9 1 (m_law_k18 (fs k 0) (fs k 9) (fs k 8) (fs k 7) (fs k 6) (fs k 5) (fs k 4) (fs k 3) (fs k 2))
  | k + 1, 2 => iniF (k + 1)
  | k + 1, 3 => iniF (k + 1)
  | k + 1, 4 => iniF (k + 1)
  | k + 1, 5 => iniF (k + 1)
  | k + 1, 6 => iniF (k + 1)
  | k + 1, 7 => iniF (k + 1)
  | k + 1, 8 => iniF (k + 1)
  | k + 1, 9 => iniF (k + 1)
  | _ + 1, _ => stuckF
end Wk18
namespace Wk18
open PySem L2 GS GM
theorem hx_NoPlace : ∀ m, 2 ≤ m → Raises (fs m 2)
  | m + 1, h => raises_ini h
theorem hx_NoText : ∀ m, 2 ≤ m → Raises (fs m 3)
  | m + 1, h => raises_ini h
theorem hx_NoKey : ∀ m, 2 ≤ m → Raises (fs m 4)
  | m + 1, h => raises_ini h
theorem hx_Twice : ∀ m, 2 ≤ m → Raises (fs m 5)
  | m + 1, h => raises_ini h
theorem hx_NoTree : ∀ m, 2 ≤ m → Raises (fs m 6)
  | m + 1, h => raises_ini h
theorem hx_NoRow : ∀ m, 2 ≤ m → Raises (fs m 7)
  | m + 1, h => raises_ini h
theorem hx_TooMany : ∀ m, 2 ≤ m → Raises (fs m 8)
  | m + 1, h => raises_ini h
theorem hx_TwoSided : ∀ m, 2 ≤ m → Raises (fs m 9)
  | m + 1, h => raises_ini h
theorem h_m_law_sorts : ∀ m, 1 ≤ m → SortsSp (fs m 0)
  | _ + 1, _ => law_sorts_ok
theorem law_true (ns : List Int) (hl : ns.length ≤ 63) : ∃ outs, fs 200 1 [some ⟨.list (ns.map .int), .sh⟩] = .ok (.sh (.bool true)) outs :=
  ⟨_, law_k18_ok (h_m_law_sorts 199 (by omega)) (hx_TwoSided 199 (by omega)) (hx_TooMany 199 (by omega)) (hx_NoRow 199 (by omega)) (hx_NoTree 199 (by omega)) (hx_Twice 199 (by omega)) (hx_NoKey 199 (by omega)) (hx_NoText 199 (by omega)) (hx_NoPlace 199 (by omega)) ns hl⟩
end Wk18
namespace Wk18
open PySem L2 GS GM
def topS (i : Nat) : Stmt := PySem.Challenge.pw_graftsay_k18_refusals_apart.main.body.getD i (.Pass ⟨0, 0, 0, 0⟩)
def clsS (s : Stmt) (j : Nat) : Stmt := match s with | .ClassDef (body := body) .. => body.getD j (.Pass ⟨0, 0, 0, 0⟩) | _ => s
/-- _law_sorts -/
abbrev s0 : Stmt := topS 13
theorem sc0 : FnScope ["one", "found"] ["one"] (defScope s0) := ⟨rfl, rfl, rfl, by decide +kernel, rfl, by decide +kernel, by decide +kernel⟩
/-- law -/
abbrev s1 : Stmt := topS 14
theorem sc1 : FnScope ["script", "number", "place", "text", "word", "made", "k", "cell", "j"] ["script"] (defScope s1) := ⟨rfl, rfl, rfl, by decide +kernel, rfl, by decide +kernel, by decide +kernel⟩
abbrev si_NoPlace : Stmt := clsS (topS 2) 0
theorem sci_NoPlace : FnScope ["self", "place"] ["self", "place"] (defScope si_NoPlace) := ⟨rfl, rfl, rfl, by decide +kernel, rfl, by decide +kernel, by decide +kernel⟩
abbrev si_NoText : Stmt := clsS (topS 3) 0
theorem sci_NoText : FnScope ["self", "at"] ["self", "at"] (defScope si_NoText) := ⟨rfl, rfl, rfl, by decide +kernel, rfl, by decide +kernel, by decide +kernel⟩
abbrev si_NoKey : Stmt := clsS (topS 4) 0
theorem sci_NoKey : FnScope ["self", "number"] ["self", "number"] (defScope si_NoKey) := ⟨rfl, rfl, rfl, by decide +kernel, rfl, by decide +kernel, by decide +kernel⟩
abbrev si_Twice : Stmt := clsS (topS 5) 0
theorem sci_Twice : FnScope ["self", "key"] ["self", "key"] (defScope si_Twice) := ⟨rfl, rfl, rfl, by decide +kernel, rfl, by decide +kernel, by decide +kernel⟩
abbrev si_NoTree : Stmt := clsS (topS 6) 0
theorem sci_NoTree : FnScope ["self", "key", "word"] ["self", "key", "word"] (defScope si_NoTree) := ⟨rfl, rfl, rfl, by decide +kernel, rfl, by decide +kernel, by decide +kernel⟩
abbrev si_NoRow : Stmt := clsS (topS 7) 0
theorem sci_NoRow : FnScope ["self", "row"] ["self", "row"] (defScope si_NoRow) := ⟨rfl, rfl, rfl, by decide +kernel, rfl, by decide +kernel, by decide +kernel⟩
abbrev si_TooMany : Stmt := clsS (topS 8) 0
theorem sci_TooMany : FnScope ["self", "most"] ["self", "most"] (defScope si_TooMany) := ⟨rfl, rfl, rfl, by decide +kernel, rfl, by decide +kernel, by decide +kernel⟩
abbrev si_TwoSided : Stmt := clsS (topS 9) 0
theorem sci_TwoSided : FnScope ["self", "key"] ["self", "key"] (defScope si_TwoSided) := ⟨rfl, rfl, rfl, by decide +kernel, rfl, by decide +kernel, by decide +kernel⟩
structure Top (K : PySem.W.Frag) (mg : Str → Option Value) where
  a0 : Addr
  d0 : FuncData
  F0 : Fun K "_law_sorts" "_law_sorts" s0 a0 d0
  b0 : Binds K d0 ["one"] []
  g0 : mg "_law_sorts" = some (.ref a0)
  a1 : Addr
  d1 : FuncData
  F1 : Fun K "law" "law" s1 a1 d1
  b1 : Binds K d1 ["script"] []
  g1 : mg "law" = some (.ref a1)
  m_isinstance : mg "isinstance" = none
  m_range : mg "range" = none
  m_ValueError : mg "ValueError" = none
  m_tuple : mg "tuple" = none
  m_len : mg "len" = none
  xA_GraftError : Addr
  xg_GraftError : mg "GraftError" = some (.ref xA_GraftError)
  xA_NoLine : Addr
  xg_NoLine : mg "NoLine" = some (.ref xA_NoLine)
  xA_NoPlan : Addr
  xg_NoPlan : mg "NoPlan" = some (.ref xA_NoPlan)
  xA_TwoSided : Addr
  xg_TwoSided : mg "TwoSided" = some (.ref xA_TwoSided)
  xA_TooMany : Addr
  xg_TooMany : mg "TooMany" = some (.ref xA_TooMany)
  xA_NoRow : Addr
  xg_NoRow : mg "NoRow" = some (.ref xA_NoRow)
  xA_NoTree : Addr
  xg_NoTree : mg "NoTree" = some (.ref xA_NoTree)
  xA_Twice : Addr
  xg_Twice : mg "Twice" = some (.ref xA_Twice)
  xA_NoKey : Addr
  xg_NoKey : mg "NoKey" = some (.ref xA_NoKey)
  xA_NoText : Addr
  xg_NoText : mg "NoText" = some (.ref xA_NoText)
  xA_NoPlace : Addr
  xg_NoPlace : mg "NoPlace" = some (.ref xA_NoPlace)
  gi : giB K xA_GraftError = true
  xI_NoPlace : Addr
  xd_NoPlace : FuncData
  xF_NoPlace : Fun K "__init__" "NoPlace.__init__" si_NoPlace xI_NoPlace xd_NoPlace
  xb_NoPlace : Binds K xd_NoPlace ("self" :: ["place"]) []
  xT_NoPlace : OexC K xA_NoPlace
  xo_NoPlace : oeB K xA_NoPlace xI_NoPlace ["place"] = true
  xv_NoPlace : cvK K "NoPlace" = .ref xA_NoPlace
  xI_NoText : Addr
  xd_NoText : FuncData
  xF_NoText : Fun K "__init__" "NoText.__init__" si_NoText xI_NoText xd_NoText
  xb_NoText : Binds K xd_NoText ("self" :: ["at"]) []
  xT_NoText : OexC K xA_NoText
  xo_NoText : oeB K xA_NoText xI_NoText ["at"] = true
  xv_NoText : cvK K "NoText" = .ref xA_NoText
  xI_NoKey : Addr
  xd_NoKey : FuncData
  xF_NoKey : Fun K "__init__" "NoKey.__init__" si_NoKey xI_NoKey xd_NoKey
  xb_NoKey : Binds K xd_NoKey ("self" :: ["number"]) []
  xT_NoKey : OexC K xA_NoKey
  xo_NoKey : oeB K xA_NoKey xI_NoKey ["number"] = true
  xv_NoKey : cvK K "NoKey" = .ref xA_NoKey
  xI_Twice : Addr
  xd_Twice : FuncData
  xF_Twice : Fun K "__init__" "Twice.__init__" si_Twice xI_Twice xd_Twice
  xb_Twice : Binds K xd_Twice ("self" :: ["key"]) []
  xT_Twice : OexC K xA_Twice
  xo_Twice : oeB K xA_Twice xI_Twice ["key"] = true
  xv_Twice : cvK K "Twice" = .ref xA_Twice
  xI_NoTree : Addr
  xd_NoTree : FuncData
  xF_NoTree : Fun K "__init__" "NoTree.__init__" si_NoTree xI_NoTree xd_NoTree
  xb_NoTree : Binds K xd_NoTree ("self" :: ["key", "word"]) []
  xT_NoTree : OexC K xA_NoTree
  xo_NoTree : oeB K xA_NoTree xI_NoTree ["key", "word"] = true
  xv_NoTree : cvK K "NoTree" = .ref xA_NoTree
  xI_NoRow : Addr
  xd_NoRow : FuncData
  xF_NoRow : Fun K "__init__" "NoRow.__init__" si_NoRow xI_NoRow xd_NoRow
  xb_NoRow : Binds K xd_NoRow ("self" :: ["row"]) []
  xT_NoRow : OexC K xA_NoRow
  xo_NoRow : oeB K xA_NoRow xI_NoRow ["row"] = true
  xv_NoRow : cvK K "NoRow" = .ref xA_NoRow
  xI_TooMany : Addr
  xd_TooMany : FuncData
  xF_TooMany : Fun K "__init__" "TooMany.__init__" si_TooMany xI_TooMany xd_TooMany
  xb_TooMany : Binds K xd_TooMany ("self" :: ["most"]) []
  xT_TooMany : OexC K xA_TooMany
  xo_TooMany : oeB K xA_TooMany xI_TooMany ["most"] = true
  xv_TooMany : cvK K "TooMany" = .ref xA_TooMany
  xI_TwoSided : Addr
  xd_TwoSided : FuncData
  xF_TwoSided : Fun K "__init__" "TwoSided.__init__" si_TwoSided xI_TwoSided xd_TwoSided
  xb_TwoSided : Binds K xd_TwoSided ("self" :: ["key"]) []
  xT_TwoSided : OexC K xA_TwoSided
  xo_TwoSided : oeB K xA_TwoSided xI_TwoSided ["key"] = true
  xv_TwoSided : cvK K "TwoSided" = .ref xA_TwoSided
  y0 : isoB K (.ref xA_NoLine) ["NoPlace", "NoText", "NoKey", "Twice", "NoTree", "NoRow", "TooMany", "TwoSided", "NoPlan", "NoLine"] ["NoLine"] = true
  y1 : isoB K (.ref xA_NoPlan) ["NoPlace", "NoText", "NoKey", "Twice", "NoTree", "NoRow", "TooMany", "TwoSided", "NoPlan", "NoLine"] ["NoPlan"] = true
  y2 : isoB K (.ref xA_TwoSided) ["NoPlace", "NoText", "NoKey", "Twice", "NoTree", "NoRow", "TooMany", "TwoSided", "NoPlan", "NoLine"] ["TwoSided"] = true
  y3 : isoB K (.ref xA_TooMany) ["NoPlace", "NoText", "NoKey", "Twice", "NoTree", "NoRow", "TooMany", "TwoSided", "NoPlan", "NoLine"] ["TooMany"] = true
  y4 : isoB K (.ref xA_NoRow) ["NoPlace", "NoText", "NoKey", "Twice", "NoTree", "NoRow", "TooMany", "TwoSided", "NoPlan", "NoLine"] ["NoRow"] = true
  y5 : isoB K (.ref xA_NoTree) ["NoPlace", "NoText", "NoKey", "Twice", "NoTree", "NoRow", "TooMany", "TwoSided", "NoPlan", "NoLine"] ["NoTree"] = true
  y6 : isoB K (.ref xA_Twice) ["NoPlace", "NoText", "NoKey", "Twice", "NoTree", "NoRow", "TooMany", "TwoSided", "NoPlan", "NoLine"] ["Twice"] = true
  y7 : isoB K (.ref xA_NoKey) ["NoPlace", "NoText", "NoKey", "Twice", "NoTree", "NoRow", "TooMany", "TwoSided", "NoPlan", "NoLine"] ["NoKey"] = true
  y8 : isoB K (.ref xA_NoText) ["NoPlace", "NoText", "NoKey", "Twice", "NoTree", "NoRow", "TooMany", "TwoSided", "NoPlan", "NoLine"] ["NoText"] = true
  y9 : isoB K (.ref xA_NoPlace) ["NoPlace", "NoText", "NoKey", "Twice", "NoTree", "NoRow", "TooMany", "TwoSided", "NoPlan", "NoLine"] ["NoPlace"] = true
  y10 : fldB K "key" ["NoPlace", "NoText", "NoKey", "Twice", "NoTree", "NoRow", "TooMany", "TwoSided", "NoPlan", "NoLine"] = true
  y11 : fldB K "most" ["NoPlace", "NoText", "NoKey", "Twice", "NoTree", "NoRow", "TooMany", "TwoSided", "NoPlan", "NoLine"] = true
  y12 : fldB K "row" ["NoPlace", "NoText", "NoKey", "Twice", "NoTree", "NoRow", "TooMany", "TwoSided", "NoPlan", "NoLine"] = true
  y13 : fldB K "word" ["NoPlace", "NoText", "NoKey", "Twice", "NoTree", "NoRow", "TooMany", "TwoSided", "NoPlan", "NoLine"] = true
  y14 : fldB K "number" ["NoPlace", "NoText", "NoKey", "Twice", "NoTree", "NoRow", "TooMany", "TwoSided", "NoPlan", "NoLine"] = true
  y15 : fldB K "at" ["NoPlace", "NoText", "NoKey", "Twice", "NoTree", "NoRow", "TooMany", "TwoSided", "NoPlan", "NoLine"] = true
  y16 : fldB K "place" ["NoPlace", "NoText", "NoKey", "Twice", "NoTree", "NoRow", "TooMany", "TwoSided", "NoPlan", "NoLine"] = true
  y17 : isoB K (.type "ValueError") ["NoPlace", "NoText", "NoKey", "Twice", "NoTree", "NoRow", "TooMany", "TwoSided", "NoPlan", "NoLine"] ["NoPlace", "NoText", "NoKey", "Twice", "NoTree", "NoRow", "TooMany", "TwoSided", "NoPlan", "NoLine"] = true
  y18 : isoB K (.ref xA_GraftError) ["NoPlace", "NoText", "NoKey", "Twice", "NoTree", "NoRow", "TooMany", "TwoSided", "NoPlan", "NoLine"] ["NoPlace", "NoText", "NoKey", "Twice", "NoTree", "NoRow", "TooMany", "TwoSided", "NoPlan", "NoLine"] = true
  y19 : xcB K (cvK K "NoLine") = true
  y20 : ocB K xA_NoLine = true
  y21 : cvK K "NoLine" = .ref xA_NoLine
  y22 : xcB K (cvK K "NoPlan") = true
  y23 : ocB K xA_NoPlan = true
  y24 : cvK K "NoPlan" = .ref xA_NoPlan
  y25 : xcB K (cvK K "TwoSided") = true
  y26 : xcB K (cvK K "TooMany") = true
  y27 : xcB K (cvK K "NoRow") = true
  y28 : xcB K (cvK K "NoTree") = true
  y29 : xcB K (cvK K "Twice") = true
  y30 : xcB K (cvK K "NoKey") = true
  y31 : xcB K (cvK K "NoText") = true
  y32 : xcB K (cvK K "NoPlace") = true
structure Lv (P : Program) (w : World) (K : PySem.W.Frag) (mg : Str → Option Value) (base : Heap) (T : Top K mg) (k : Nat) : Prop where
  h0 : FnOk P w K mg base (L2.CX P w) k T.a0 T.d0 ["one"] (spF K (cvK K) 1 (fs k 0))
  h1 : FnOk P w K mg base (L2.CX P w) k T.a1 T.d1 ["script"] (spF K (cvK K) 1 (fs k 1))
  x_NoPlace : IniOk P w K mg base k T.xI_NoPlace T.xd_NoPlace ["place"] (fs k 2)
  x_NoText : IniOk P w K mg base k T.xI_NoText T.xd_NoText ["at"] (fs k 3)
  x_NoKey : IniOk P w K mg base k T.xI_NoKey T.xd_NoKey ["number"] (fs k 4)
  x_Twice : IniOk P w K mg base k T.xI_Twice T.xd_Twice ["key"] (fs k 5)
  x_NoTree : IniOk P w K mg base k T.xI_NoTree T.xd_NoTree ["key", "word"] (fs k 6)
  x_NoRow : IniOk P w K mg base k T.xI_NoRow T.xd_NoRow ["row"] (fs k 7)
  x_TooMany : IniOk P w K mg base k T.xI_TooMany T.xd_TooMany ["most"] (fs k 8)
  x_TwoSided : IniOk P w K mg base k T.xI_TwoSided T.xd_TwoSided ["key"] (fs k 9)
section
variable {P : Program} {w : World} {K : PySem.W.Frag} {mg : Str → Option Value} {base : Heap}
/-- _law_sorts -/
theorem e0 (k : Nat) : fs (k + 1) 0 = fnF 2 1 (m_law_sorts) := rfl
theorem w0 {T : Top K mg} {k : Nat} (L : Lv P w K mg base T k) : FnOk P w K mg base (L2.CX P w) (k + 1) T.a0 T.d0 ["one"] (spF K (cvK K) 1 (fs (k + 1) 0)) := by
  rw [e0]
  refine fn_of' ["one", "found"] rfl rfl T.F0 sc0 fun cdv A outer s H E hr tk po => ?_
  have nd := sc0.nd
  have hu := hr.units
  have hu2 : _ + 199 < cLine := Nat.lt_of_le_of_lt (Nat.add_le_add_left (by decide : 199 ≤ 200) _) (Nat.lt_of_le_of_lt (Nat.add_le_add_right (Nat.le_add_right _ _) _) hr.un)
  have hu5 : _ + 65 < cLine := Nat.lt_of_le_of_lt (Nat.add_le_add_left (by decide : 65 ≤ 200) _) (Nat.lt_of_le_of_lt (Nat.add_le_add_right (Nat.le_add_right _ _) _) hr.un)
  unfold m_law_sorts
  exact ⟨_, (sss_cons (ss_set (i := 1) nd (se_lst (sa_cons (se_isc T.m_isinstance T.xg_NoPlace T.y9 (se_vb 0)) (sa_cons (se_isc T.m_isinstance T.xg_NoText T.y8 (se_vb 0)) (sa_cons (se_isc T.m_isinstance T.xg_NoKey T.y7 (se_vb 0)) (sa_cons (se_isc T.m_isinstance T.xg_Twice T.y6 (se_vb 0)) sa_nil)))))) (sss_cons (ss_set (i := 1) nd (se_bin ol_add op_addA (se_vb 1) (se_lst (sa_cons (se_isc T.m_isinstance T.xg_NoTree T.y5 (se_vb 0)) (sa_cons (se_isc T.m_isinstance T.xg_NoRow T.y4 (se_vb 0)) (sa_cons (se_isc T.m_isinstance T.xg_TooMany T.y3 (se_vb 0)) sa_nil)))))) (sss_one (ss_end (ss_ret (se_bin ol_add op_addA (se_vb 1) (se_lst (sa_cons (se_isc T.m_isinstance T.xg_TwoSided T.y2 (se_vb 0)) (sa_cons (se_isc T.m_isinstance T.xg_NoPlan T.y1 (se_vb 0)) (sa_cons (se_isc T.m_isinstance T.xg_NoLine T.y0 (se_vb 0)) sa_nil))))))))))⟩
/-- law -/
theorem e1 (k : Nat) : fs (k + 1) 1 = fnF 9 1 (m_law_k18 (fs k 0) (fs k 9) (fs k 8) (fs k 7) (fs k 6) (fs k 5) (fs k 4) (fs k 3) (fs k 2)) := rfl
theorem w1 {T : Top K mg} {k : Nat} (L : Lv P w K mg base T k) : FnOk P w K mg base (L2.CX P w) (k + 1) T.a1 T.d1 ["script"] (spF K (cvK K) 1 (fs (k + 1) 1)) := by
  rw [e1]
  refine fn_of' ["script", "number", "place", "text", "word", "made", "k", "cell", "j"] rfl rfl T.F1 sc1 fun cdv A outer s H E hr tk po => ?_
  have nd := sc1.nd
  have hu := hr.units
  have hu2 : _ + 199 < cLine := Nat.lt_of_le_of_lt (Nat.add_le_add_left (by decide : 199 ≤ 200) _) (Nat.lt_of_le_of_lt (Nat.add_le_add_right (Nat.le_add_right _ _) _) hr.un)
  have hu5 : _ + 65 < cLine := Nat.lt_of_le_of_lt (Nat.add_le_add_left (by decide : 65 ≤ 200) _) (Nat.lt_of_le_of_lt (Nat.add_le_add_right (Nat.le_add_right _ _) _) hr.un)
  unfold m_law_k18 m_law_k18_ce4 m_law_k18_ce3 m_law_k18_b2 m_law_k18_ce1
  exact ⟨_, (sss_cons (ss_set (i := 1) nd (se_if (st_cmp ol_cmp op_gt (se_cb cl_len call_len T.m_len (sa_cons (se_vb 0) sa_nil)) se_int) (se_bin ol_mod op_mod (se_ixA (by exact hu5) (se_vb 0) se_int) se_int) se_int)) (sss_cons (ss_set (i := 2) nd (se_ct cl_tuple call_tuple_of T.m_tuple (sa_cons (se_comp (own := [(("cell" : Str), 7)]) rfl nd (blkOk_by (N := ["script", "number", "place", "text", "word", "made", "k", "cell", "j"]) (sc := defScope s1) (by decide +kernel)) (si_sq (se_slice (se_vb 0) .non (.some se_int))) (fun _ _ _ _ _ => (sgw_name nd)) (fun _ _ _ _ _ => sp_nil) (fun _ _ _ _ _ => (se_bin ol_mod op_mod (se_vb 7) se_int))) sa_nil))) (sss_cons (ss_set (i := 3) nd (se_bin ol_add op_addA se_str (se_join se_str (se_comp (own := [(("cell" : Str), 7)]) rfl nd (blkOk_by (N := ["script", "number", "place", "text", "word", "made", "k", "cell", "j"]) (sc := defScope s1) (by decide +kernel)) (si_sq (se_slice (se_vb 0) .non (.some se_int))) (fun _ _ _ _ _ => (sgw_name nd)) (fun _ _ _ _ _ => sp_nil) (fun _ _ _ _ _ => (se_ixA (by exact hu5) se_str (se_bin ol_mod op_mod (se_vb 7) se_int))))))) (sss_cons (ss_set (i := 4) nd (se_ixA (by exact hu5) (se_lst (sa_cons se_str (sa_cons se_str (sa_cons se_str (sa_cons se_str sa_nil))))) (se_bin ol_mod op_mod (se_vb 1) se_int))) (sss_cons (ss_set (i := 5) nd (se_lst (sa_cons (se_mk L.x_NoPlace T.xT_NoPlace T.xo_NoPlace T.xv_NoPlace T.y32 T.xg_NoPlace T.xb_NoPlace hr tk (sa_cons (se_mv 2) sa_nil)) (sa_cons (se_mk L.x_NoText T.xT_NoText T.xo_NoText T.xv_NoText T.y31 T.xg_NoText T.xb_NoText hr tk (sa_cons (se_mv 1) sa_nil)) (sa_cons (se_mk L.x_NoKey T.xT_NoKey T.xo_NoKey T.xv_NoKey T.y30 T.xg_NoKey T.xb_NoKey hr tk (sa_cons (se_mv 1) sa_nil)) (sa_cons (se_mk L.x_Twice T.xT_Twice T.xo_Twice T.xv_Twice T.y29 T.xg_Twice T.xb_Twice hr tk (sa_cons (se_mv 3) sa_nil)) (sa_cons (se_mk L.x_NoTree T.xT_NoTree T.xo_NoTree T.xv_NoTree T.y28 T.xg_NoTree T.xb_NoTree hr tk (sa_cons (se_mv 3) (sa_cons (se_mv 4) sa_nil))) (sa_cons (se_mk L.x_NoRow T.xT_NoRow T.xo_NoRow T.xv_NoRow T.y27 T.xg_NoRow T.xb_NoRow hr tk (sa_cons (se_mv 1) sa_nil)) sa_nil)))))))) (sss_cons (ss_set (i := 5) nd (se_bin ol_add op_addA (se_vb 5) (se_lst (sa_cons (se_mk L.x_TooMany T.xT_TooMany T.xo_TooMany T.xv_TooMany T.y26 T.xg_TooMany T.xb_TooMany hr tk (sa_cons (se_mv 1) sa_nil)) (sa_cons (se_mk L.x_TwoSided T.xT_TwoSided T.xo_TwoSided T.xv_TwoSided T.y25 T.xg_TwoSided T.xb_TwoSided hr tk (sa_cons (se_mv 3) sa_nil)) (sa_cons (se_mk0 T.y23 T.y24 T.y22 T.xg_NoPlan (se_vb 3)) (sa_cons (se_mk0 T.y20 T.y21 T.y19 T.xg_NoLine (se_vb 3)) sa_nil))))))) (sss_cons (ss_for po rfl (si_r1 se_int T.m_range) (sg_name nd) (sss_kill (vs := [6]) (sss_cons (ss_if (st_cmp ol_neB (op_neB (by exact hu2)) (se_call L.h0 hr T.g0 T.F0.kp T.b0 tk (sa_cons (se_ixA (by exact hu5) (se_vb 5) (se_vb 6)) sa_nil) none) (se_comp (own := [(("j" : Str), 8)]) rfl nd (blkOk_by (N := ["script", "number", "place", "text", "word", "made", "k", "cell", "j"]) (sc := defScope s1) (by decide +kernel)) (si_r1 se_int T.m_range) (fun _ _ _ _ _ => (sgw_name nd)) (fun _ _ _ _ _ => sp_nil) (fun _ _ _ _ _ => (se_cmp ol_eqB (op_eqB (by exact hu2)) (se_vb 8) (se_vb 6))))) (sss_one (ss_end (ss_ret se_bl))) sss_nil) (sss_one (ss_if (sw_or (st_not (st_val (se_isc T.m_isinstance T.xg_GraftError T.y18 (se_ixA (by exact hu5) (se_vb 5) (se_vb 6))))) (sw_one (st_not (st_val (se_ist (T := "ValueError") T.m_isinstance T.m_ValueError T.y17 (se_ixA (by exact hu5) (se_vb 5) (se_vb 6))))))).st (sss_one (ss_end (ss_ret se_bl))) sss_nil))))) (sss_cons (ss_if (st_cmp ol_neB (op_neB (by exact hu2)) (se_lst (sa_cons (se_xf T.y16 (se_ixA (by exact hu5) (se_vb 5) se_int)) (sa_cons (se_xf T.y15 (se_ixA (by exact hu5) (se_vb 5) se_int)) (sa_cons (se_xf T.y14 (se_ixA (by exact hu5) (se_vb 5) se_int)) (sa_cons (se_xf T.y10 (se_ixA (by exact hu5) (se_vb 5) se_int)) sa_nil))))) (se_lst (sa_cons (se_mv 2) (sa_cons (se_mv 1) (sa_cons (se_mv 1) (sa_cons (se_mv 3) sa_nil)))))) (sss_one (ss_end (ss_ret se_bl))) sss_nil) (sss_one (ss_end (ss_ret (se_cmp ol_eqB (op_eqB (by exact hu2)) (se_lst (sa_cons (se_xf T.y10 (se_ixA (by exact hu5) (se_vb 5) se_int)) (sa_cons (se_xf T.y13 (se_ixA (by exact hu5) (se_vb 5) se_int)) (sa_cons (se_xf T.y12 (se_ixA (by exact hu5) (se_vb 5) se_int)) (sa_cons (se_xf T.y11 (se_ixA (by exact hu5) (se_vb 5) se_int)) (sa_cons (se_xf T.y10 (se_ixA (by exact hu5) (se_vb 5) se_int)) sa_nil)))))) (se_lst (sa_cons (se_mv 3) (sa_cons (se_mv 4) (sa_cons (se_mv 1) (sa_cons (se_mv 1) (sa_cons (se_mv 3) sa_nil))))))))))))))))))⟩
theorem xw_NoPlace {T : Top K mg} : ∀ k, IniOk P w K mg base k T.xI_NoPlace T.xd_NoPlace ["place"] (fs k 2)
  | 0 => .inl rfl
  | 1 => .inl rfl
  | k + 2 => .inr ⟨k + 1, rfl, fn_init1 T.xF_NoPlace sci_NoPlace fun cdv A outer s H E => pss_cons (ps_expr (pe_ginit T.gi T.xg_GraftError (pa_cons (pe_var (i := 0) rfl (.inl rfl)) (pa_cons pe_str pa_nil)))) (pss_one (ps_ost (pe_var (i := 0) rfl (.inl rfl)) (pe_var (i := 1) rfl (.inl rfl))))⟩
theorem xw_NoText {T : Top K mg} : ∀ k, IniOk P w K mg base k T.xI_NoText T.xd_NoText ["at"] (fs k 3)
  | 0 => .inl rfl
  | 1 => .inl rfl
  | k + 2 => .inr ⟨k + 1, rfl, fn_init1 T.xF_NoText sci_NoText fun cdv A outer s H E => pss_cons (ps_expr (pe_ginit T.gi T.xg_GraftError (pa_cons (pe_var (i := 0) rfl (.inl rfl)) (pa_cons pe_str pa_nil)))) (pss_one (ps_ost (pe_var (i := 0) rfl (.inl rfl)) (pe_var (i := 1) rfl (.inl rfl))))⟩
theorem xw_NoKey {T : Top K mg} : ∀ k, IniOk P w K mg base k T.xI_NoKey T.xd_NoKey ["number"] (fs k 4)
  | 0 => .inl rfl
  | 1 => .inl rfl
  | k + 2 => .inr ⟨k + 1, rfl, fn_init1 T.xF_NoKey sci_NoKey fun cdv A outer s H E => pss_cons (ps_expr (pe_ginit T.gi T.xg_GraftError (pa_cons (pe_var (i := 0) rfl (.inl rfl)) (pa_cons pe_str pa_nil)))) (pss_one (ps_ost (pe_var (i := 0) rfl (.inl rfl)) (pe_var (i := 1) rfl (.inl rfl))))⟩
theorem xw_Twice {T : Top K mg} : ∀ k, IniOk P w K mg base k T.xI_Twice T.xd_Twice ["key"] (fs k 5)
  | 0 => .inl rfl
  | 1 => .inl rfl
  | k + 2 => .inr ⟨k + 1, rfl, fn_init1 T.xF_Twice sci_Twice fun cdv A outer s H E => pss_cons (ps_expr (pe_ginit T.gi T.xg_GraftError (pa_cons (pe_var (i := 0) rfl (.inl rfl)) (pa_cons pe_str pa_nil)))) (pss_one (ps_ost (pe_var (i := 0) rfl (.inl rfl)) (pe_var (i := 1) rfl (.inl rfl))))⟩
theorem xw_NoTree {T : Top K mg} : ∀ k, IniOk P w K mg base k T.xI_NoTree T.xd_NoTree ["key", "word"] (fs k 6)
  | 0 => .inl rfl
  | 1 => .inl rfl
  | k + 2 => .inr ⟨k + 1, rfl, fn_init2 T.xF_NoTree sci_NoTree fun cdv A outer s H E => pss_cons (ps_expr (pe_ginit T.gi T.xg_GraftError (pa_cons (pe_var (i := 0) rfl (.inl rfl)) (pa_cons pe_str pa_nil)))) (pss_cons (ps_ost (pe_var (i := 0) rfl (.inl rfl)) (pe_var (i := 1) rfl (.inl rfl))) (pss_one (ps_ost (pe_var (i := 0) rfl (.inl rfl)) (pe_var (i := 2) rfl (.inl rfl)))))⟩
theorem xw_NoRow {T : Top K mg} : ∀ k, IniOk P w K mg base k T.xI_NoRow T.xd_NoRow ["row"] (fs k 7)
  | 0 => .inl rfl
  | 1 => .inl rfl
  | k + 2 => .inr ⟨k + 1, rfl, fn_init1 T.xF_NoRow sci_NoRow fun cdv A outer s H E => pss_cons (ps_expr (pe_ginit T.gi T.xg_GraftError (pa_cons (pe_var (i := 0) rfl (.inl rfl)) (pa_cons pe_str pa_nil)))) (pss_one (ps_ost (pe_var (i := 0) rfl (.inl rfl)) (pe_var (i := 1) rfl (.inl rfl))))⟩
theorem xw_TooMany {T : Top K mg} : ∀ k, IniOk P w K mg base k T.xI_TooMany T.xd_TooMany ["most"] (fs k 8)
  | 0 => .inl rfl
  | 1 => .inl rfl
  | k + 2 => .inr ⟨k + 1, rfl, fn_init1 T.xF_TooMany sci_TooMany fun cdv A outer s H E => pss_cons (ps_expr (pe_ginit T.gi T.xg_GraftError (pa_cons (pe_var (i := 0) rfl (.inl rfl)) (pa_cons pe_str pa_nil)))) (pss_one (ps_ost (pe_var (i := 0) rfl (.inl rfl)) (pe_var (i := 1) rfl (.inl rfl))))⟩
theorem xw_TwoSided {T : Top K mg} : ∀ k, IniOk P w K mg base k T.xI_TwoSided T.xd_TwoSided ["key"] (fs k 9)
  | 0 => .inl rfl
  | 1 => .inl rfl
  | k + 2 => .inr ⟨k + 1, rfl, fn_init1 T.xF_TwoSided sci_TwoSided fun cdv A outer s H E => pss_cons (ps_expr (pe_ginit T.gi T.xg_GraftError (pa_cons (pe_var (i := 0) rfl (.inl rfl)) (pa_cons pe_str pa_nil)))) (pss_one (ps_ost (pe_var (i := 0) rfl (.inl rfl)) (pe_var (i := 1) rfl (.inl rfl))))⟩
theorem lv (T : Top K mg) : ∀ k, Lv P w K mg base T k
  | 0 => ⟨fn_zero rfl, fn_zero rfl, xw_NoPlace 0, xw_NoText 0, xw_NoKey 0, xw_Twice 0, xw_NoTree 0, xw_NoRow 0, xw_TooMany 0, xw_TwoSided 0⟩
  | k + 1 => have L := lv T k; ⟨w0 L, w1 L, xw_NoPlace (k + 1), xw_NoText (k + 1), xw_NoKey (k + 1), xw_Twice (k + 1), xw_NoTree (k + 1), xw_NoRow (k + 1), xw_TooMany (k + 1), xw_TwoSided (k + 1)⟩
end
end Wk18
namespace Wk18
open PySem L2 GS GM
/-! ### the end -/
theorem top_mk {K : PySem.W.Frag} {h : Heap} {mg : Str → Option Value} {fa f0 f1 : Addr} (X : K.In h) (G : h.Ns mainGlobals mg) (hfa : mg "law" = some (.ref fa))
    {od0 an0 od1 an1 : Option Addr} {sl0 sl1 : Array (Option Value)} {oc0 kV0 dc0 pm0 cd0 ct0 oc1 kV1 dc1 pm1 cd1 ct1 : Value}
    (a0 : PySem.W.nsIn K mainGlobals "_law_sorts" = some (some (.ref f0))) (l0 : K.lookup f0 = some ⟨oc0, od0, .func (PySem.W.fnOf "_law_sorts" "_law_sorts" (defArgs s0) (defBody s0) (defScope s0) .none kV0 dc0 pm0 an0 cd0 ct0), sl0⟩) (c0 : PySem.W.codeIn K cd0 "_law_sorts" = true) (k0 : PySem.W.keepIn K (.ref f0) = true)
    (a1 : PySem.W.nsIn K mainGlobals "law" = some (some (.ref f1))) (l1 : K.lookup f1 = some ⟨oc1, od1, .func (PySem.W.fnOf "law" "law" (defArgs s1) (defBody s1) (defScope s1) .none kV1 dc1 pm1 an1 cd1 ct1), sl1⟩) (c1 : PySem.W.codeIn K cd1 "law" = true) (k1 : PySem.W.keepIn K (.ref f1) = true)
    (z_isinstance : PySem.W.nsIn K mainGlobals "isinstance" = some none)
    (z_range : PySem.W.nsIn K mainGlobals "range" = some none)
    (z_ValueError : PySem.W.nsIn K mainGlobals "ValueError" = some none)
    (z_tuple : PySem.W.nsIn K mainGlobals "tuple" = some none)
    (z_len : PySem.W.nsIn K mainGlobals "len" = some none)
    {fx_GraftError : Addr} (xa_GraftError : PySem.W.nsIn K mainGlobals "GraftError" = some (some (.ref fx_GraftError)))
    {fx_NoLine : Addr} (xa_NoLine : PySem.W.nsIn K mainGlobals "NoLine" = some (some (.ref fx_NoLine)))
    {fx_NoPlan : Addr} (xa_NoPlan : PySem.W.nsIn K mainGlobals "NoPlan" = some (some (.ref fx_NoPlan)))
    {fx_TwoSided : Addr} (xa_TwoSided : PySem.W.nsIn K mainGlobals "TwoSided" = some (some (.ref fx_TwoSided)))
    {fx_TooMany : Addr} (xa_TooMany : PySem.W.nsIn K mainGlobals "TooMany" = some (some (.ref fx_TooMany)))
    {fx_NoRow : Addr} (xa_NoRow : PySem.W.nsIn K mainGlobals "NoRow" = some (some (.ref fx_NoRow)))
    {fx_NoTree : Addr} (xa_NoTree : PySem.W.nsIn K mainGlobals "NoTree" = some (some (.ref fx_NoTree)))
    {fx_Twice : Addr} (xa_Twice : PySem.W.nsIn K mainGlobals "Twice" = some (some (.ref fx_Twice)))
    {fx_NoKey : Addr} (xa_NoKey : PySem.W.nsIn K mainGlobals "NoKey" = some (some (.ref fx_NoKey)))
    {fx_NoText : Addr} (xa_NoText : PySem.W.nsIn K mainGlobals "NoText" = some (some (.ref fx_NoText)))
    {fx_NoPlace : Addr} (xa_NoPlace : PySem.W.nsIn K mainGlobals "NoPlace" = some (some (.ref fx_NoPlace)))
    (gi : giB K fx_GraftError = true)
    {fi_NoPlace : Addr} {xod_NoPlace xan_NoPlace : Option Addr} {xsl_NoPlace : Array (Option Value)} {xoc_NoPlace xkV_NoPlace xdc_NoPlace xpm_NoPlace xcd_NoPlace xct_NoPlace : Value}
    (xi_NoPlace : PySem.W.findIn K (.ref fx_NoPlace) "__init__" = some (some (.ref fi_NoPlace))) (xl_NoPlace : K.lookup fi_NoPlace = some ⟨xoc_NoPlace, xod_NoPlace, .func (PySem.W.fnOf "__init__" "NoPlace.__init__" (defArgs si_NoPlace) (defBody si_NoPlace) (defScope si_NoPlace) .none xkV_NoPlace xdc_NoPlace xpm_NoPlace xan_NoPlace xcd_NoPlace xct_NoPlace), xsl_NoPlace⟩) (xc_NoPlace : PySem.W.codeIn K xcd_NoPlace "NoPlace.__init__" = true) (xk_NoPlace : PySem.W.keepIn K (.ref fi_NoPlace) = true)
    {xn_NoPlace xq_NoPlace : Str} {xN_NoPlace : Addr} {xbs_NoPlace xbm_NoPlace : List Value} {xsn_NoPlace : List Str} {xsu_NoPlace : List Value} {xab_NoPlace : Bool} {xco_NoPlace : Option Bool} {xdd_NoPlace : Option Addr} {x0_NoPlace x1_NoPlace x2_NoPlace x3_NoPlace x5_NoPlace : Option Value}
    (xe_NoPlace : K.lookup fx_NoPlace = some (excClassObj xn_NoPlace xq_NoPlace fx_NoPlace xN_NoPlace xbs_NoPlace xbm_NoPlace true xsn_NoPlace xsu_NoPlace xab_NoPlace xco_NoPlace xdd_NoPlace x0_NoPlace x1_NoPlace x2_NoPlace x3_NoPlace x5_NoPlace "ValueError.__new__")) (xr_NoPlace : PySem.HandSPX.refsVE xbm_NoPlace = true) (xo_NoPlace : oeB K fx_NoPlace fi_NoPlace ["place"] = true) (xv_NoPlace : cvK K "NoPlace" = .ref fx_NoPlace)
    {fi_NoText : Addr} {xod_NoText xan_NoText : Option Addr} {xsl_NoText : Array (Option Value)} {xoc_NoText xkV_NoText xdc_NoText xpm_NoText xcd_NoText xct_NoText : Value}
    (xi_NoText : PySem.W.findIn K (.ref fx_NoText) "__init__" = some (some (.ref fi_NoText))) (xl_NoText : K.lookup fi_NoText = some ⟨xoc_NoText, xod_NoText, .func (PySem.W.fnOf "__init__" "NoText.__init__" (defArgs si_NoText) (defBody si_NoText) (defScope si_NoText) .none xkV_NoText xdc_NoText xpm_NoText xan_NoText xcd_NoText xct_NoText), xsl_NoText⟩) (xc_NoText : PySem.W.codeIn K xcd_NoText "NoText.__init__" = true) (xk_NoText : PySem.W.keepIn K (.ref fi_NoText) = true)
    {xn_NoText xq_NoText : Str} {xN_NoText : Addr} {xbs_NoText xbm_NoText : List Value} {xsn_NoText : List Str} {xsu_NoText : List Value} {xab_NoText : Bool} {xco_NoText : Option Bool} {xdd_NoText : Option Addr} {x0_NoText x1_NoText x2_NoText x3_NoText x5_NoText : Option Value}
    (xe_NoText : K.lookup fx_NoText = some (excClassObj xn_NoText xq_NoText fx_NoText xN_NoText xbs_NoText xbm_NoText true xsn_NoText xsu_NoText xab_NoText xco_NoText xdd_NoText x0_NoText x1_NoText x2_NoText x3_NoText x5_NoText "ValueError.__new__")) (xr_NoText : PySem.HandSPX.refsVE xbm_NoText = true) (xo_NoText : oeB K fx_NoText fi_NoText ["at"] = true) (xv_NoText : cvK K "NoText" = .ref fx_NoText)
    {fi_NoKey : Addr} {xod_NoKey xan_NoKey : Option Addr} {xsl_NoKey : Array (Option Value)} {xoc_NoKey xkV_NoKey xdc_NoKey xpm_NoKey xcd_NoKey xct_NoKey : Value}
    (xi_NoKey : PySem.W.findIn K (.ref fx_NoKey) "__init__" = some (some (.ref fi_NoKey))) (xl_NoKey : K.lookup fi_NoKey = some ⟨xoc_NoKey, xod_NoKey, .func (PySem.W.fnOf "__init__" "NoKey.__init__" (defArgs si_NoKey) (defBody si_NoKey) (defScope si_NoKey) .none xkV_NoKey xdc_NoKey xpm_NoKey xan_NoKey xcd_NoKey xct_NoKey), xsl_NoKey⟩) (xc_NoKey : PySem.W.codeIn K xcd_NoKey "NoKey.__init__" = true) (xk_NoKey : PySem.W.keepIn K (.ref fi_NoKey) = true)
    {xn_NoKey xq_NoKey : Str} {xN_NoKey : Addr} {xbs_NoKey xbm_NoKey : List Value} {xsn_NoKey : List Str} {xsu_NoKey : List Value} {xab_NoKey : Bool} {xco_NoKey : Option Bool} {xdd_NoKey : Option Addr} {x0_NoKey x1_NoKey x2_NoKey x3_NoKey x5_NoKey : Option Value}
    (xe_NoKey : K.lookup fx_NoKey = some (excClassObj xn_NoKey xq_NoKey fx_NoKey xN_NoKey xbs_NoKey xbm_NoKey true xsn_NoKey xsu_NoKey xab_NoKey xco_NoKey xdd_NoKey x0_NoKey x1_NoKey x2_NoKey x3_NoKey x5_NoKey "ValueError.__new__")) (xr_NoKey : PySem.HandSPX.refsVE xbm_NoKey = true) (xo_NoKey : oeB K fx_NoKey fi_NoKey ["number"] = true) (xv_NoKey : cvK K "NoKey" = .ref fx_NoKey)
    {fi_Twice : Addr} {xod_Twice xan_Twice : Option Addr} {xsl_Twice : Array (Option Value)} {xoc_Twice xkV_Twice xdc_Twice xpm_Twice xcd_Twice xct_Twice : Value}
    (xi_Twice : PySem.W.findIn K (.ref fx_Twice) "__init__" = some (some (.ref fi_Twice))) (xl_Twice : K.lookup fi_Twice = some ⟨xoc_Twice, xod_Twice, .func (PySem.W.fnOf "__init__" "Twice.__init__" (defArgs si_Twice) (defBody si_Twice) (defScope si_Twice) .none xkV_Twice xdc_Twice xpm_Twice xan_Twice xcd_Twice xct_Twice), xsl_Twice⟩) (xc_Twice : PySem.W.codeIn K xcd_Twice "Twice.__init__" = true) (xk_Twice : PySem.W.keepIn K (.ref fi_Twice) = true)
    {xn_Twice xq_Twice : Str} {xN_Twice : Addr} {xbs_Twice xbm_Twice : List Value} {xsn_Twice : List Str} {xsu_Twice : List Value} {xab_Twice : Bool} {xco_Twice : Option Bool} {xdd_Twice : Option Addr} {x0_Twice x1_Twice x2_Twice x3_Twice x5_Twice : Option Value}
    (xe_Twice : K.lookup fx_Twice = some (excClassObj xn_Twice xq_Twice fx_Twice xN_Twice xbs_Twice xbm_Twice true xsn_Twice xsu_Twice xab_Twice xco_Twice xdd_Twice x0_Twice x1_Twice x2_Twice x3_Twice x5_Twice "ValueError.__new__")) (xr_Twice : PySem.HandSPX.refsVE xbm_Twice = true) (xo_Twice : oeB K fx_Twice fi_Twice ["key"] = true) (xv_Twice : cvK K "Twice" = .ref fx_Twice)
    {fi_NoTree : Addr} {xod_NoTree xan_NoTree : Option Addr} {xsl_NoTree : Array (Option Value)} {xoc_NoTree xkV_NoTree xdc_NoTree xpm_NoTree xcd_NoTree xct_NoTree : Value}
    (xi_NoTree : PySem.W.findIn K (.ref fx_NoTree) "__init__" = some (some (.ref fi_NoTree))) (xl_NoTree : K.lookup fi_NoTree = some ⟨xoc_NoTree, xod_NoTree, .func (PySem.W.fnOf "__init__" "NoTree.__init__" (defArgs si_NoTree) (defBody si_NoTree) (defScope si_NoTree) .none xkV_NoTree xdc_NoTree xpm_NoTree xan_NoTree xcd_NoTree xct_NoTree), xsl_NoTree⟩) (xc_NoTree : PySem.W.codeIn K xcd_NoTree "NoTree.__init__" = true) (xk_NoTree : PySem.W.keepIn K (.ref fi_NoTree) = true)
    {xn_NoTree xq_NoTree : Str} {xN_NoTree : Addr} {xbs_NoTree xbm_NoTree : List Value} {xsn_NoTree : List Str} {xsu_NoTree : List Value} {xab_NoTree : Bool} {xco_NoTree : Option Bool} {xdd_NoTree : Option Addr} {x0_NoTree x1_NoTree x2_NoTree x3_NoTree x5_NoTree : Option Value}
    (xe_NoTree : K.lookup fx_NoTree = some (excClassObj xn_NoTree xq_NoTree fx_NoTree xN_NoTree xbs_NoTree xbm_NoTree true xsn_NoTree xsu_NoTree xab_NoTree xco_NoTree xdd_NoTree x0_NoTree x1_NoTree x2_NoTree x3_NoTree x5_NoTree "ValueError.__new__")) (xr_NoTree : PySem.HandSPX.refsVE xbm_NoTree = true) (xo_NoTree : oeB K fx_NoTree fi_NoTree ["key", "word"] = true) (xv_NoTree : cvK K "NoTree" = .ref fx_NoTree)
    {fi_NoRow : Addr} {xod_NoRow xan_NoRow : Option Addr} {xsl_NoRow : Array (Option Value)} {xoc_NoRow xkV_NoRow xdc_NoRow xpm_NoRow xcd_NoRow xct_NoRow : Value}
    (xi_NoRow : PySem.W.findIn K (.ref fx_NoRow) "__init__" = some (some (.ref fi_NoRow))) (xl_NoRow : K.lookup fi_NoRow = some ⟨xoc_NoRow, xod_NoRow, .func (PySem.W.fnOf "__init__" "NoRow.__init__" (defArgs si_NoRow) (defBody si_NoRow) (defScope si_NoRow) .none xkV_NoRow xdc_NoRow xpm_NoRow xan_NoRow xcd_NoRow xct_NoRow), xsl_NoRow⟩) (xc_NoRow : PySem.W.codeIn K xcd_NoRow "NoRow.__init__" = true) (xk_NoRow : PySem.W.keepIn K (.ref fi_NoRow) = true)
    {xn_NoRow xq_NoRow : Str} {xN_NoRow : Addr} {xbs_NoRow xbm_NoRow : List Value} {xsn_NoRow : List Str} {xsu_NoRow : List Value} {xab_NoRow : Bool} {xco_NoRow : Option Bool} {xdd_NoRow : Option Addr} {x0_NoRow x1_NoRow x2_NoRow x3_NoRow x5_NoRow : Option Value}
    (xe_NoRow : K.lookup fx_NoRow = some (excClassObj xn_NoRow xq_NoRow fx_NoRow xN_NoRow xbs_NoRow xbm_NoRow true xsn_NoRow xsu_NoRow xab_NoRow xco_NoRow xdd_NoRow x0_NoRow x1_NoRow x2_NoRow x3_NoRow x5_NoRow "ValueError.__new__")) (xr_NoRow : PySem.HandSPX.refsVE xbm_NoRow = true) (xo_NoRow : oeB K fx_NoRow fi_NoRow ["row"] = true) (xv_NoRow : cvK K "NoRow" = .ref fx_NoRow)
    {fi_TooMany : Addr} {xod_TooMany xan_TooMany : Option Addr} {xsl_TooMany : Array (Option Value)} {xoc_TooMany xkV_TooMany xdc_TooMany xpm_TooMany xcd_TooMany xct_TooMany : Value}
    (xi_TooMany : PySem.W.findIn K (.ref fx_TooMany) "__init__" = some (some (.ref fi_TooMany))) (xl_TooMany : K.lookup fi_TooMany = some ⟨xoc_TooMany, xod_TooMany, .func (PySem.W.fnOf "__init__" "TooMany.__init__" (defArgs si_TooMany) (defBody si_TooMany) (defScope si_TooMany) .none xkV_TooMany xdc_TooMany xpm_TooMany xan_TooMany xcd_TooMany xct_TooMany), xsl_TooMany⟩) (xc_TooMany : PySem.W.codeIn K xcd_TooMany "TooMany.__init__" = true) (xk_TooMany : PySem.W.keepIn K (.ref fi_TooMany) = true)
    {xn_TooMany xq_TooMany : Str} {xN_TooMany : Addr} {xbs_TooMany xbm_TooMany : List Value} {xsn_TooMany : List Str} {xsu_TooMany : List Value} {xab_TooMany : Bool} {xco_TooMany : Option Bool} {xdd_TooMany : Option Addr} {x0_TooMany x1_TooMany x2_TooMany x3_TooMany x5_TooMany : Option Value}
    (xe_TooMany : K.lookup fx_TooMany = some (excClassObj xn_TooMany xq_TooMany fx_TooMany xN_TooMany xbs_TooMany xbm_TooMany true xsn_TooMany xsu_TooMany xab_TooMany xco_TooMany xdd_TooMany x0_TooMany x1_TooMany x2_TooMany x3_TooMany x5_TooMany "ValueError.__new__")) (xr_TooMany : PySem.HandSPX.refsVE xbm_TooMany = true) (xo_TooMany : oeB K fx_TooMany fi_TooMany ["most"] = true) (xv_TooMany : cvK K "TooMany" = .ref fx_TooMany)
    {fi_TwoSided : Addr} {xod_TwoSided xan_TwoSided : Option Addr} {xsl_TwoSided : Array (Option Value)} {xoc_TwoSided xkV_TwoSided xdc_TwoSided xpm_TwoSided xcd_TwoSided xct_TwoSided : Value}
    (xi_TwoSided : PySem.W.findIn K (.ref fx_TwoSided) "__init__" = some (some (.ref fi_TwoSided))) (xl_TwoSided : K.lookup fi_TwoSided = some ⟨xoc_TwoSided, xod_TwoSided, .func (PySem.W.fnOf "__init__" "TwoSided.__init__" (defArgs si_TwoSided) (defBody si_TwoSided) (defScope si_TwoSided) .none xkV_TwoSided xdc_TwoSided xpm_TwoSided xan_TwoSided xcd_TwoSided xct_TwoSided), xsl_TwoSided⟩) (xc_TwoSided : PySem.W.codeIn K xcd_TwoSided "TwoSided.__init__" = true) (xk_TwoSided : PySem.W.keepIn K (.ref fi_TwoSided) = true)
    {xn_TwoSided xq_TwoSided : Str} {xN_TwoSided : Addr} {xbs_TwoSided xbm_TwoSided : List Value} {xsn_TwoSided : List Str} {xsu_TwoSided : List Value} {xab_TwoSided : Bool} {xco_TwoSided : Option Bool} {xdd_TwoSided : Option Addr} {x0_TwoSided x1_TwoSided x2_TwoSided x3_TwoSided x5_TwoSided : Option Value}
    (xe_TwoSided : K.lookup fx_TwoSided = some (excClassObj xn_TwoSided xq_TwoSided fx_TwoSided xN_TwoSided xbs_TwoSided xbm_TwoSided true xsn_TwoSided xsu_TwoSided xab_TwoSided xco_TwoSided xdd_TwoSided x0_TwoSided x1_TwoSided x2_TwoSided x3_TwoSided x5_TwoSided "ValueError.__new__")) (xr_TwoSided : PySem.HandSPX.refsVE xbm_TwoSided = true) (xo_TwoSided : oeB K fx_TwoSided fi_TwoSided ["key"] = true) (xv_TwoSided : cvK K "TwoSided" = .ref fx_TwoSided)
    (y0 : isoB K (.ref fx_NoLine) ["NoPlace", "NoText", "NoKey", "Twice", "NoTree", "NoRow", "TooMany", "TwoSided", "NoPlan", "NoLine"] ["NoLine"] = true)
    (y1 : isoB K (.ref fx_NoPlan) ["NoPlace", "NoText", "NoKey", "Twice", "NoTree", "NoRow", "TooMany", "TwoSided", "NoPlan", "NoLine"] ["NoPlan"] = true)
    (y2 : isoB K (.ref fx_TwoSided) ["NoPlace", "NoText", "NoKey", "Twice", "NoTree", "NoRow", "TooMany", "TwoSided", "NoPlan", "NoLine"] ["TwoSided"] = true)
    (y3 : isoB K (.ref fx_TooMany) ["NoPlace", "NoText", "NoKey", "Twice", "NoTree", "NoRow", "TooMany", "TwoSided", "NoPlan", "NoLine"] ["TooMany"] = true)
    (y4 : isoB K (.ref fx_NoRow) ["NoPlace", "NoText", "NoKey", "Twice", "NoTree", "NoRow", "TooMany", "TwoSided", "NoPlan", "NoLine"] ["NoRow"] = true)
    (y5 : isoB K (.ref fx_NoTree) ["NoPlace", "NoText", "NoKey", "Twice", "NoTree", "NoRow", "TooMany", "TwoSided", "NoPlan", "NoLine"] ["NoTree"] = true)
    (y6 : isoB K (.ref fx_Twice) ["NoPlace", "NoText", "NoKey", "Twice", "NoTree", "NoRow", "TooMany", "TwoSided", "NoPlan", "NoLine"] ["Twice"] = true)
    (y7 : isoB K (.ref fx_NoKey) ["NoPlace", "NoText", "NoKey", "Twice", "NoTree", "NoRow", "TooMany", "TwoSided", "NoPlan", "NoLine"] ["NoKey"] = true)
    (y8 : isoB K (.ref fx_NoText) ["NoPlace", "NoText", "NoKey", "Twice", "NoTree", "NoRow", "TooMany", "TwoSided", "NoPlan", "NoLine"] ["NoText"] = true)
    (y9 : isoB K (.ref fx_NoPlace) ["NoPlace", "NoText", "NoKey", "Twice", "NoTree", "NoRow", "TooMany", "TwoSided", "NoPlan", "NoLine"] ["NoPlace"] = true)
    (y10 : fldB K "key" ["NoPlace", "NoText", "NoKey", "Twice", "NoTree", "NoRow", "TooMany", "TwoSided", "NoPlan", "NoLine"] = true)
    (y11 : fldB K "most" ["NoPlace", "NoText", "NoKey", "Twice", "NoTree", "NoRow", "TooMany", "TwoSided", "NoPlan", "NoLine"] = true)
    (y12 : fldB K "row" ["NoPlace", "NoText", "NoKey", "Twice", "NoTree", "NoRow", "TooMany", "TwoSided", "NoPlan", "NoLine"] = true)
    (y13 : fldB K "word" ["NoPlace", "NoText", "NoKey", "Twice", "NoTree", "NoRow", "TooMany", "TwoSided", "NoPlan", "NoLine"] = true)
    (y14 : fldB K "number" ["NoPlace", "NoText", "NoKey", "Twice", "NoTree", "NoRow", "TooMany", "TwoSided", "NoPlan", "NoLine"] = true)
    (y15 : fldB K "at" ["NoPlace", "NoText", "NoKey", "Twice", "NoTree", "NoRow", "TooMany", "TwoSided", "NoPlan", "NoLine"] = true)
    (y16 : fldB K "place" ["NoPlace", "NoText", "NoKey", "Twice", "NoTree", "NoRow", "TooMany", "TwoSided", "NoPlan", "NoLine"] = true)
    (y17 : isoB K (.type "ValueError") ["NoPlace", "NoText", "NoKey", "Twice", "NoTree", "NoRow", "TooMany", "TwoSided", "NoPlan", "NoLine"] ["NoPlace", "NoText", "NoKey", "Twice", "NoTree", "NoRow", "TooMany", "TwoSided", "NoPlan", "NoLine"] = true)
    (y18 : isoB K (.ref fx_GraftError) ["NoPlace", "NoText", "NoKey", "Twice", "NoTree", "NoRow", "TooMany", "TwoSided", "NoPlan", "NoLine"] ["NoPlace", "NoText", "NoKey", "Twice", "NoTree", "NoRow", "TooMany", "TwoSided", "NoPlan", "NoLine"] = true)
    (y19 : xcB K (cvK K "NoLine") = true)
    (y20 : ocB K fx_NoLine = true)
    (y21 : cvK K "NoLine" = .ref fx_NoLine)
    (y22 : xcB K (cvK K "NoPlan") = true)
    (y23 : ocB K fx_NoPlan = true)
    (y24 : cvK K "NoPlan" = .ref fx_NoPlan)
    (y25 : xcB K (cvK K "TwoSided") = true)
    (y26 : xcB K (cvK K "TooMany") = true)
    (y27 : xcB K (cvK K "NoRow") = true)
    (y28 : xcB K (cvK K "NoTree") = true)
    (y29 : xcB K (cvK K "Twice") = true)
    (y30 : xcB K (cvK K "NoKey") = true)
    (y31 : xcB K (cvK K "NoText") = true)
    (y32 : xcB K (cvK K "NoPlace") = true)
    : ∃ T : Top K mg, T.a1 = fa ∧ ∀ (s : Shared) (v : Value), BindsTo s T.d1 ⟨[v], []⟩ [("script", v)] := by
  have e := hfa.symm.trans (PySem.W.mg_of X G a1)
  have e' : f1 = fa := by cases e; rfl
  have F0 := fun_mk (st := s0) l0 c0 k0
  have b0 := F0.binds (ps := ["one"]) fun _ _ _ _ _ _ us hl => match us, hl with | [_], _ => rfl
  have F1 := fun_mk (st := s1) l1 c1 k1
  have b1 := F1.binds (ps := ["script"]) fun _ _ _ _ _ _ us hl => match us, hl with | [_], _ => rfl
  have xF_NoPlace := fun_mk (st := si_NoPlace) xl_NoPlace xc_NoPlace xk_NoPlace
  have xb_NoPlace := xF_NoPlace.binds (ps := ["self", "place"]) fun _ _ _ _ _ _ us hl => match us, hl with | [_, _], _ => rfl
  obtain ⟨xs1_NoPlace, xs2_NoPlace, xs3_NoPlace, xs4_NoPlace, _⟩ := oeB_ok xo_NoPlace
  have xF_NoText := fun_mk (st := si_NoText) xl_NoText xc_NoText xk_NoText
  have xb_NoText := xF_NoText.binds (ps := ["self", "at"]) fun _ _ _ _ _ _ us hl => match us, hl with | [_, _], _ => rfl
  obtain ⟨xs1_NoText, xs2_NoText, xs3_NoText, xs4_NoText, _⟩ := oeB_ok xo_NoText
  have xF_NoKey := fun_mk (st := si_NoKey) xl_NoKey xc_NoKey xk_NoKey
  have xb_NoKey := xF_NoKey.binds (ps := ["self", "number"]) fun _ _ _ _ _ _ us hl => match us, hl with | [_, _], _ => rfl
  obtain ⟨xs1_NoKey, xs2_NoKey, xs3_NoKey, xs4_NoKey, _⟩ := oeB_ok xo_NoKey
  have xF_Twice := fun_mk (st := si_Twice) xl_Twice xc_Twice xk_Twice
  have xb_Twice := xF_Twice.binds (ps := ["self", "key"]) fun _ _ _ _ _ _ us hl => match us, hl with | [_, _], _ => rfl
  obtain ⟨xs1_Twice, xs2_Twice, xs3_Twice, xs4_Twice, _⟩ := oeB_ok xo_Twice
  have xF_NoTree := fun_mk (st := si_NoTree) xl_NoTree xc_NoTree xk_NoTree
  have xb_NoTree := xF_NoTree.binds (ps := ["self", "key", "word"]) fun _ _ _ _ _ _ us hl => match us, hl with | [_, _, _], _ => rfl
  obtain ⟨xs1_NoTree, xs2_NoTree, xs3_NoTree, xs4_NoTree, _⟩ := oeB_ok xo_NoTree
  have xF_NoRow := fun_mk (st := si_NoRow) xl_NoRow xc_NoRow xk_NoRow
  have xb_NoRow := xF_NoRow.binds (ps := ["self", "row"]) fun _ _ _ _ _ _ us hl => match us, hl with | [_, _], _ => rfl
  obtain ⟨xs1_NoRow, xs2_NoRow, xs3_NoRow, xs4_NoRow, _⟩ := oeB_ok xo_NoRow
  have xF_TooMany := fun_mk (st := si_TooMany) xl_TooMany xc_TooMany xk_TooMany
  have xb_TooMany := xF_TooMany.binds (ps := ["self", "most"]) fun _ _ _ _ _ _ us hl => match us, hl with | [_, _], _ => rfl
  obtain ⟨xs1_TooMany, xs2_TooMany, xs3_TooMany, xs4_TooMany, _⟩ := oeB_ok xo_TooMany
  have xF_TwoSided := fun_mk (st := si_TwoSided) xl_TwoSided xc_TwoSided xk_TwoSided
  have xb_TwoSided := xF_TwoSided.binds (ps := ["self", "key"]) fun _ _ _ _ _ _ us hl => match us, hl with | [_, _], _ => rfl
  obtain ⟨xs1_TwoSided, xs2_TwoSided, xs3_TwoSided, xs4_TwoSided, _⟩ := oeB_ok xo_TwoSided
  exact ⟨{ a0 := f0, d0 := _, F0 := F0, b0 := b0, g0 := PySem.W.mg_of X G a0, a1 := f1, d1 := _, F1 := F1, b1 := b1, g1 := PySem.W.mg_of X G a1, m_isinstance := PySem.W.mg_none_of X G z_isinstance, m_range := PySem.W.mg_none_of X G z_range, m_ValueError := PySem.W.mg_none_of X G z_ValueError, m_tuple := PySem.W.mg_none_of X G z_tuple, m_len := PySem.W.mg_none_of X G z_len, xA_GraftError := fx_GraftError, xg_GraftError := PySem.W.mg_of X G xa_GraftError, xA_NoLine := fx_NoLine, xg_NoLine := PySem.W.mg_of X G xa_NoLine, xA_NoPlan := fx_NoPlan, xg_NoPlan := PySem.W.mg_of X G xa_NoPlan, xA_TwoSided := fx_TwoSided, xg_TwoSided := PySem.W.mg_of X G xa_TwoSided, xA_TooMany := fx_TooMany, xg_TooMany := PySem.W.mg_of X G xa_TooMany, xA_NoRow := fx_NoRow, xg_NoRow := PySem.W.mg_of X G xa_NoRow, xA_NoTree := fx_NoTree, xg_NoTree := PySem.W.mg_of X G xa_NoTree, xA_Twice := fx_Twice, xg_Twice := PySem.W.mg_of X G xa_Twice, xA_NoKey := fx_NoKey, xg_NoKey := PySem.W.mg_of X G xa_NoKey, xA_NoText := fx_NoText, xg_NoText := PySem.W.mg_of X G xa_NoText, xA_NoPlace := fx_NoPlace, xg_NoPlace := PySem.W.mg_of X G xa_NoPlace, gi := gi, xI_NoPlace := fi_NoPlace, xd_NoPlace := _, xF_NoPlace := xF_NoPlace, xb_NoPlace := xb_NoPlace, xo_NoPlace := xo_NoPlace, xv_NoPlace := xv_NoPlace, xT_NoPlace := ⟨⟨_, _, _, _, _, _, _, _, _, _, _, _, _, _, _, xe_NoPlace, xr_NoPlace⟩, xs1_NoPlace, xs2_NoPlace, xs3_NoPlace, xs4_NoPlace⟩, xI_NoText := fi_NoText, xd_NoText := _, xF_NoText := xF_NoText, xb_NoText := xb_NoText, xo_NoText := xo_NoText, xv_NoText := xv_NoText, xT_NoText := ⟨⟨_, _, _, _, _, _, _, _, _, _, _, _, _, _, _, xe_NoText, xr_NoText⟩, xs1_NoText, xs2_NoText, xs3_NoText, xs4_NoText⟩, xI_NoKey := fi_NoKey, xd_NoKey := _, xF_NoKey := xF_NoKey, xb_NoKey := xb_NoKey, xo_NoKey := xo_NoKey, xv_NoKey := xv_NoKey, xT_NoKey := ⟨⟨_, _, _, _, _, _, _, _, _, _, _, _, _, _, _, xe_NoKey, xr_NoKey⟩, xs1_NoKey, xs2_NoKey, xs3_NoKey, xs4_NoKey⟩, xI_Twice := fi_Twice, xd_Twice := _, xF_Twice := xF_Twice, xb_Twice := xb_Twice, xo_Twice := xo_Twice, xv_Twice := xv_Twice, xT_Twice := ⟨⟨_, _, _, _, _, _, _, _, _, _, _, _, _, _, _, xe_Twice, xr_Twice⟩, xs1_Twice, xs2_Twice, xs3_Twice, xs4_Twice⟩, xI_NoTree := fi_NoTree, xd_NoTree := _, xF_NoTree := xF_NoTree, xb_NoTree := xb_NoTree, xo_NoTree := xo_NoTree, xv_NoTree := xv_NoTree, xT_NoTree := ⟨⟨_, _, _, _, _, _, _, _, _, _, _, _, _, _, _, xe_NoTree, xr_NoTree⟩, xs1_NoTree, xs2_NoTree, xs3_NoTree, xs4_NoTree⟩, xI_NoRow := fi_NoRow, xd_NoRow := _, xF_NoRow := xF_NoRow, xb_NoRow := xb_NoRow, xo_NoRow := xo_NoRow, xv_NoRow := xv_NoRow, xT_NoRow := ⟨⟨_, _, _, _, _, _, _, _, _, _, _, _, _, _, _, xe_NoRow, xr_NoRow⟩, xs1_NoRow, xs2_NoRow, xs3_NoRow, xs4_NoRow⟩, xI_TooMany := fi_TooMany, xd_TooMany := _, xF_TooMany := xF_TooMany, xb_TooMany := xb_TooMany, xo_TooMany := xo_TooMany, xv_TooMany := xv_TooMany, xT_TooMany := ⟨⟨_, _, _, _, _, _, _, _, _, _, _, _, _, _, _, xe_TooMany, xr_TooMany⟩, xs1_TooMany, xs2_TooMany, xs3_TooMany, xs4_TooMany⟩, xI_TwoSided := fi_TwoSided, xd_TwoSided := _, xF_TwoSided := xF_TwoSided, xb_TwoSided := xb_TwoSided, xo_TwoSided := xo_TwoSided, xv_TwoSided := xv_TwoSided, xT_TwoSided := ⟨⟨_, _, _, _, _, _, _, _, _, _, _, _, _, _, _, xe_TwoSided, xr_TwoSided⟩, xs1_TwoSided, xs2_TwoSided, xs3_TwoSided, xs4_TwoSided⟩, y0 := y0, y1 := y1, y2 := y2, y3 := y3, y4 := y4, y5 := y5, y6 := y6, y7 := y7, y8 := y8, y9 := y9, y10 := y10, y11 := y11, y12 := y12, y13 := y13, y14 := y14, y15 := y15, y16 := y16, y17 := y17, y18 := y18, y19 := y19, y20 := y20, y21 := y21, y22 := y22, y23 := y23, y24 := y24, y25 := y25, y26 := y26, y27 := y27, y28 := y28, y29 := y29, y30 := y30, y31 := y31, y32 := y32 }, e', fun s v => .of_eq rfl⟩
end Wk18
open PySem PySem.W PyProof.Rows
set_option maxRecDepth 100000 in
set_option maxHeartbeats 0 in
theorem PySem.Challenge.cw_graftsay_k18_refusals_apart_holds : PySem.Challenge.rw_graftsay_k18_refusals_apart.Holds := by
  w_on; o_law; k_head; (case hw => w_witness2)
  k_fill
  refine L2.walk_of (l := PySem.Challenge.rw_graftsay_k18_refusals_apart) (n := 63) (k := 200) (x := "script") (CX := fun w => L2.CX PySem.Challenge.rw_graftsay_k18_refusals_apart.prog w) (sp := fun w => GS.spFv _ 1 (Wk18.fs 200 1)) rfl (by decide) rfl ⟨rfl, by decide, by decide⟩ (fun w h Y => PySem.W.kIn_of Y) ?F (fun _ _ a ns hl _ hS => (Wk18.law_true ns hl).elim fun outs e => GS.law_sp hS e) (fun _ _ _ _ _ h => by obtain ⟨_, _, _, _, _, _, _, _, _, _, _, _, z⟩ := h; exact z)
  case F =>
    intro w mg fa h KX G hmg
    refine' (Wk18.top_mk KX G hmg ?a0 ?l0 ?c0 ?k0 ?a1 ?l1 ?c1 ?k1 ?z_isinstance ?z_range ?z_ValueError ?z_tuple ?z_len ?xa_GraftError ?xa_NoLine ?xa_NoPlan ?xa_TwoSided ?xa_TooMany ?xa_NoRow ?xa_NoTree ?xa_Twice ?xa_NoKey ?xa_NoText ?xa_NoPlace ?gi ?xi_NoPlace ?xl_NoPlace ?xc_NoPlace ?xk_NoPlace ?xe_NoPlace ?xr_NoPlace ?xo_NoPlace ?xv_NoPlace ?xi_NoText ?xl_NoText ?xc_NoText ?xk_NoText ?xe_NoText ?xr_NoText ?xo_NoText ?xv_NoText ?xi_NoKey ?xl_NoKey ?xc_NoKey ?xk_NoKey ?xe_NoKey ?xr_NoKey ?xo_NoKey ?xv_NoKey ?xi_Twice ?xl_Twice ?xc_Twice ?xk_Twice ?xe_Twice ?xr_Twice ?xo_Twice ?xv_Twice ?xi_NoTree ?xl_NoTree ?xc_NoTree ?xk_NoTree ?xe_NoTree ?xr_NoTree ?xo_NoTree ?xv_NoTree ?xi_NoRow ?xl_NoRow ?xc_NoRow ?xk_NoRow ?xe_NoRow ?xr_NoRow ?xo_NoRow ?xv_NoRow ?xi_TooMany ?xl_TooMany ?xc_TooMany ?xk_TooMany ?xe_TooMany ?xr_TooMany ?xo_TooMany ?xv_TooMany ?xi_TwoSided ?xl_TwoSided ?xc_TwoSided ?xk_TwoSided ?xe_TwoSided ?xr_TwoSided ?xo_TwoSided ?xv_TwoSided ?y0 ?y1 ?y2 ?y3 ?y4 ?y5 ?y6 ?y7 ?y8 ?y9 ?y10 ?y11 ?y12 ?y13 ?y14 ?y15 ?y16 ?y17 ?y18 ?y19 ?y20 ?y21 ?y22 ?y23 ?y24 ?y25 ?y26 ?y27 ?y28 ?y29 ?y30 ?y31 ?y32).elim fun T R => ?fin
    (case a0 => k_is)
    (case l0 => k_is)
    (case c0 => k_is)
    (case k0 => k_is)
    (case a1 => k_is)
    (case l1 => k_is)
    (case c1 => k_is)
    (case k1 => k_is)
    (case z_isinstance => k_is)
    (case z_range => k_is)
    (case z_ValueError => k_is)
    (case z_tuple => k_is)
    (case z_len => k_is)
    (case xa_GraftError => k_is)
    (case xa_NoLine => k_is)
    (case xa_NoPlan => k_is)
    (case xa_TwoSided => k_is)
    (case xa_TooMany => k_is)
    (case xa_NoRow => k_is)
    (case xa_NoTree => k_is)
    (case xa_Twice => k_is)
    (case xa_NoKey => k_is)
    (case xa_NoText => k_is)
    (case xa_NoPlace => k_is)
    (case gi => kernel_rfl)
    (case xi_NoPlace => k_is)
    (case xl_NoPlace => k_is)
    (case xc_NoPlace => k_is)
    (case xk_NoPlace => k_is)
    (case xe_NoPlace => k_is)
    (case xr_NoPlace => kernel_rfl)
    (case xo_NoPlace => kernel_rfl)
    (case xv_NoPlace => kernel_rfl)
    (case xi_NoText => k_is)
    (case xl_NoText => k_is)
    (case xc_NoText => k_is)
    (case xk_NoText => k_is)
    (case xe_NoText => k_is)
    (case xr_NoText => kernel_rfl)
    (case xo_NoText => kernel_rfl)
    (case xv_NoText => kernel_rfl)
    (case xi_NoKey => k_is)
    (case xl_NoKey => k_is)
    (case xc_NoKey => k_is)
    (case xk_NoKey => k_is)
    (case xe_NoKey => k_is)
    (case xr_NoKey => kernel_rfl)
    (case xo_NoKey => kernel_rfl)
    (case xv_NoKey => kernel_rfl)
    (case xi_Twice => k_is)
    (case xl_Twice => k_is)
    (case xc_Twice => k_is)
    (case xk_Twice => k_is)
    (case xe_Twice => k_is)
    (case xr_Twice => kernel_rfl)
    (case xo_Twice => kernel_rfl)
    (case xv_Twice => kernel_rfl)
    (case xi_NoTree => k_is)
    (case xl_NoTree => k_is)
    (case xc_NoTree => k_is)
    (case xk_NoTree => k_is)
    (case xe_NoTree => k_is)
    (case xr_NoTree => kernel_rfl)
    (case xo_NoTree => kernel_rfl)
    (case xv_NoTree => kernel_rfl)
    (case xi_NoRow => k_is)
    (case xl_NoRow => k_is)
    (case xc_NoRow => k_is)
    (case xk_NoRow => k_is)
    (case xe_NoRow => k_is)
    (case xr_NoRow => kernel_rfl)
    (case xo_NoRow => kernel_rfl)
    (case xv_NoRow => kernel_rfl)
    (case xi_TooMany => k_is)
    (case xl_TooMany => k_is)
    (case xc_TooMany => k_is)
    (case xk_TooMany => k_is)
    (case xe_TooMany => k_is)
    (case xr_TooMany => kernel_rfl)
    (case xo_TooMany => kernel_rfl)
    (case xv_TooMany => kernel_rfl)
    (case xi_TwoSided => k_is)
    (case xl_TwoSided => k_is)
    (case xc_TwoSided => k_is)
    (case xk_TwoSided => k_is)
    (case xe_TwoSided => k_is)
    (case xr_TwoSided => kernel_rfl)
    (case xo_TwoSided => kernel_rfl)
    (case xv_TwoSided => kernel_rfl)
    (case y0 => kernel_rfl)
    (case y1 => kernel_rfl)
    (case y2 => kernel_rfl)
    (case y3 => kernel_rfl)
    (case y4 => kernel_rfl)
    (case y5 => kernel_rfl)
    (case y6 => kernel_rfl)
    (case y7 => kernel_rfl)
    (case y8 => kernel_rfl)
    (case y9 => kernel_rfl)
    (case y10 => kernel_rfl)
    (case y11 => kernel_rfl)
    (case y12 => kernel_rfl)
    (case y13 => kernel_rfl)
    (case y14 => kernel_rfl)
    (case y15 => kernel_rfl)
    (case y16 => kernel_rfl)
    (case y17 => kernel_rfl)
    (case y18 => kernel_rfl)
    (case y19 => kernel_rfl)
    (case y20 => kernel_rfl)
    (case y21 => kernel_rfl)
    (case y22 => kernel_rfl)
    (case y23 => kernel_rfl)
    (case y24 => kernel_rfl)
    (case y25 => kernel_rfl)
    (case y26 => kernel_rfl)
    (case y27 => kernel_rfl)
    (case y28 => kernel_rfl)
    (case y29 => kernel_rfl)
    (case y30 => kernel_rfl)
    (case y31 => kernel_rfl)
    (case y32 => kernel_rfl)
    case fin =>
      obtain ⟨e, hb⟩ := R
      subst e
      exact ⟨T.d1, hb, fun base _ _ => (Wk18.lv (P := PySem.Challenge.rw_graftsay_k18_refusals_apart.prog) (w := w) (base := base) T 200).h1⟩
