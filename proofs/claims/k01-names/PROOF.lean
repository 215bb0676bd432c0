import PyProof.Rows.All
import Wide.All
import OpenK.AllK
import Wide.FinOn
import HandS.ForMost
import HandS.Exc
import HandS.ExcOwn
import HandS.WordsExc
import HandS.Deep
import HandS.TupAny
import HandS.Conv
import HandS.IsInst
import HandS.Flow
import HandS.Style
import HandS.Walk
import PySem.Challenge.RW_graftsay_k01_names_signs_keys
set_option Elab.async false
set_option linter.all false
set_option maxRecDepth 100000
set_option maxHeartbeats 4000000
/-! ### data, environments, their standing in the heap -/
namespace GS
open PySem L2

abbrev D := PyData
/-- how a slot holds its datum: shared (never changed any more), owned (the slot's own list or dict), lent by the caller -/
inductive Fl where | sh | ow | io
  deriving DecidableEq
structure Cel where
  d : D
  fl : Fl
abbrev Rho := List (Option Cel)
/-- what an expression gives: a shared datum, a new list or dict that nobody else holds, what stands in a slot -/
inductive Hd where | sh (d : D) | fr (d : D) | bw (i : Nat)
/-- an exception: its class's name, its fields -/
structure Xc where
  cls : Str
  fs : List (Str × D)
inductive RE where | stuck | ok (h : Hd) (ρ : Rho) | exc (x : Xc) (ρ : Rho)
inductive RS where | stuck | nx (ρ : Rho) | rt (h : Hd) (ρ : Rho) | bk (ρ : Rho) | ct (ρ : Rho) | exc (x : Xc) (ρ : Rho)
abbrev EF := Rho → RE
abbrev SF := Rho → RS

def kD : Key → D
  | .inl i => .int i
  | .inr x => .str x
mutual
inductive Rp (K : PySem.W.Frag) (B : Hp) : V → D → Prop
  | non : Rp K B .non .none
  | bl (b : Bool) : Rp K B (.bl b) (.bool b)
  | int (i : Int) : Rp K B (.int i) (.int i)
  | str (x : Str) : Rp K B (.str x) (.str x)
  | lst {a : Addr} {xs : List V} {ds : List D} : SqL K B a xs → RpL K B xs ds → Rp K B (.ref a) (.list ds)
  | tup {a : Addr} {xs : List V} {ds : List D} : SqT K B a xs → RpL K B xs ds → Rp K B (.ref a) (.tuple ds)
  | dct {a : Addr} {kvs : List (Key × V)} {ps : List (D × D)} : B a = some (.dK kvs) → RpK K B kvs ps → Rp K B (.ref a) (.dict ps)
inductive RpL (K : PySem.W.Frag) (B : Hp) : List V → List D → Prop
  | nil : RpL K B [] []
  | cons {v : V} {vs : List V} {d : D} {ds : List D} : Rp K B v d → RpL K B vs ds → RpL K B (v :: vs) (d :: ds)
inductive RpK (K : PySem.W.Frag) (B : Hp) : List (Key × V) → List (D × D) → Prop
  | nil : RpK K B [] []
  | cons {k : Key} {v : V} {kvs : List (Key × V)} {d : D} {ps : List (D × D)} : Rp K B v d → RpK K B kvs ps → RpK K B ((k, v) :: kvs) ((kD k, d) :: ps)
end

theorem same_rd {H H' : Hp} {a : Addr} {u : HO} (e : Same H H') (h : Rd H a u) : Rd H' a u := by
  rcases h with h | ⟨o, h⟩
  · exact .inl (e _ _ h)
  · exact .inr ⟨o, e _ _ h⟩
theorem same_l {K : PySem.W.Frag} {H H' : Hp} {a : Addr} {xs : List V} (e : Same H H') (h : SqL K H a xs) : SqL K H' a xs := h.elim (fun h => .inl (same_rd e h)) .inr
theorem same_t {K : PySem.W.Frag} {H H' : Hp} {a : Addr} {xs : List V} (e : Same H H') (h : SqT K H a xs) : SqT K H' a xs := h.elim (fun h => .inl (same_rd e h)) .inr

section
variable {K : PySem.W.Frag} {B B' : Hp}
mutual
theorem Rp.mono (e : Same B B') : ∀ {v : V} {d : D}, Rp K B v d → Rp K B' v d
  | _, _, .non => .non
  | _, _, .bl b => .bl b
  | _, _, .int i => .int i
  | _, _, .str x => .str x
  | _, _, .lst h t => .lst (same_l e h) (RpL.mono e t)
  | _, _, .tup h t => .tup (same_t e h) (RpL.mono e t)
  | _, _, .dct h t => .dct (e _ _ h) (RpK.mono e t)
theorem RpL.mono (e : Same B B') : ∀ {v : List V} {d : List D}, RpL K B v d → RpL K B' v d
  | _, _, .nil => .nil
  | _, _, .cons h t => .cons (Rp.mono e h) (RpL.mono e t)
theorem RpK.mono (e : Same B B') : ∀ {v : List (Key × V)} {d : List (D × D)}, RpK K B v d → RpK K B' v d
  | _, _, .nil => .nil
  | _, _, .cons h t => .cons (Rp.mono e h) (RpK.mono e t)
end
theorem RpL.length : ∀ {vs : List V} {ds : List D}, RpL K B vs ds → vs.length = ds.length
  | _, _, .nil => rfl
  | _, _, .cons _ t => by rw [List.length_cons, List.length_cons, RpL.length t]
theorem RpL.get : ∀ {vs : List V} {ds : List D} {i : Nat} {d : D}, RpL K B vs ds → ds[i]? = some d → ∃ v, vs[i]? = some v ∧ Rp K B v d
  | _, _, _, _, .nil, e => by simp at e
  | _, _, 0, _, .cons h _, e => by simp at e; subst e; exact ⟨_, rfl, h⟩
  | _, _, i + 1, d, .cons _ t, e => by
    obtain ⟨v, h1, h2⟩ := RpL.get (i := i) (d := d) t (by simpa using e)
    exact ⟨v, by simpa using h1, h2⟩
theorem RpL.getV : ∀ {vs : List V} {ds : List D} {i : Nat} {v : V}, RpL K B vs ds → vs[i]? = some v → ∃ d, ds[i]? = some d ∧ Rp K B v d
  | _, _, _, _, .nil, e => by simp at e
  | _, _, 0, _, .cons h _, e => by simp at e; subst e; exact ⟨_, rfl, h⟩
  | _, _, i + 1, d, .cons _ t, e => by
    obtain ⟨v, h1, h2⟩ := RpL.getV (i := i) (v := d) t (by simpa using e)
    exact ⟨v, by simpa using h1, h2⟩
theorem RpL.append : ∀ {vs ws : List V} {ds es : List D}, RpL K B vs ds → RpL K B ws es → RpL K B (vs ++ ws) (ds ++ es)
  | _, _, _, _, .nil, s => s
  | _, _, _, _, .cons h t, s => .cons h (RpL.append t s)
theorem RpL.take : ∀ {vs : List V} {ds : List D} (n : Nat), RpL K B vs ds → RpL K B (vs.take n) (ds.take n)
  | _, _, 0, _ => .nil
  | _, _, _ + 1, .nil => .nil
  | _, _, n + 1, .cons h t => .cons h (RpL.take n t)
theorem RpL.drop : ∀ {vs : List V} {ds : List D} (n : Nat), RpL K B vs ds → RpL K B (vs.drop n) (ds.drop n)
  | _, _, 0, r => r
  | _, _, _ + 1, .nil => .nil
  | _, _, n + 1, .cons _ t => RpL.drop n t
theorem RpL.set {x : V} {e : D} (r : Rp K B x e) : ∀ {vs : List V} {ds : List D} (i : Nat), RpL K B vs ds → RpL K B (vs.set i x) (ds.set i e)
  | _, _, _, .nil => .nil
  | _, _, 0, .cons _ t => .cons r t
  | _, _, i + 1, .cons q t => .cons q (RpL.set r i t)
theorem RpL.reverse {vs : List V} {ds : List D} (h : RpL K B vs ds) : RpL K B vs.reverse ds.reverse := by
  induction vs generalizing ds with
  | nil => cases h; exact .nil
  | cons v vs ih =>
    cases h with
    | cons h1 h2 =>
      rw [List.reverse_cons, List.reverse_cons]
      exact (ih h2).append (.cons h1 .nil)
theorem RpL.dropLast {vs : List V} {ds : List D} (h : RpL K B vs ds) : RpL K B vs.dropLast ds.dropLast := by
  rw [List.dropLast_eq_take, List.dropLast_eq_take, h.length]
  exact h.take _

/-! data without dicts is the layer's own -/
mutual
def plain : D → Bool
  | .none => true
  | .bool _ => true
  | .int _ => true
  | .str _ => true
  | .list ds => plainL ds
  | .tuple ds => plainL ds
  | .dict _ => false
def plainL : List D → Bool
  | [] => true
  | d :: ds => plain d && plainL ds
end
mutual
theorem Rp.dp : ∀ {v : V} (d : D), Rp K B v d → plain d = true → Dp K B v d
  | _, .none, .non, _ => .non
  | _, .bool _, .bl b, _ => .bl b
  | _, .int _, .int i, _ => .int i
  | _, .str _, .str x, _ => .str x
  | _, .list ds, .lst h t, e => .lst h (RpL.dp ds t (by unfold plain at e; exact e))
  | _, .tuple ds, .tup h t, e => .tup h (RpL.dp ds t (by unfold plain at e; exact e))
  | _, .dict _, .dct h t, e => by unfold plain at e; cases e
theorem RpL.dp : ∀ {vs : List V} (ds : List D), RpL K B vs ds → plainL ds = true → DpAll K B vs ds
  | _, [], .nil, _ => .nil
  | _, d :: ds, .cons h t, e => by
    unfold plainL at e
    rw [Bool.and_eq_true] at e
    exact .cons (Rp.dp d h e.1) (RpL.dp ds t e.2)
end
end

/-- the object of an owned slot -/
def Ow (K : PySem.W.Frag) (B : Hp) (o : Option HO) : D → Prop
  | .list ds => ∃ vs, o = some (.lst vs) ∧ RpL K B vs ds
  | .dict ps => ∃ kvs, o = some (.dK kvs) ∧ RpK K B kvs ps
  | _ => False
theorem Ow.mono {K : PySem.W.Frag} {B B' : Hp} {o : Option HO} (e : Same B B') : ∀ {d : D}, Ow K B o d → Ow K B' o d
  | .list _, ⟨vs, h1, h2⟩ => ⟨vs, h1, h2.mono e⟩
  | .dict _, ⟨vs, h1, h2⟩ => ⟨vs, h1, h2.mono e⟩
theorem Ow.some {K : PySem.W.Frag} {B : Hp} {o : Option HO} : ∀ {d : D}, Ow K B o d → ∃ u, o = Option.some u
  | .list _, ⟨vs, h1, _⟩ => ⟨_, h1⟩
  | .dict _, ⟨vs, h1, _⟩ => ⟨_, h1⟩

/-- slot i holds v by c -/
def COk (K : PySem.W.Frag) (B H : Hp) (c : Cel) (v : V) : Prop :=
  (c.fl = .sh ∧ Rp K B v c.d) ∨ (c.fl ≠ .sh ∧ ∃ a, v = .ref a ∧ B a = none ∧ Ow K B (H a) c.d)
def OwnA (ρ : Rho) (σ : St) (a : Addr) : Prop := ∃ (i : Nat) (c : Cel), ρ[i]? = some (some c) ∧ c.fl ≠ .sh ∧ σ[i]? = some (some (.ref a))

structure Sim (K : PySem.W.Frag) (ρ : Rho) (σ : St) (B H : Hp) : Prop where
  bh : Same B H
  len : ρ.length = σ.length
  sl : ∀ (i : Nat) (c : Cel), ρ[i]? = some (some c) → ∃ v, σ[i]? = some (some v) ∧ COk K B H c v
  dj : ∀ (i j : Nat) (ci cj : Cel) (a : Addr), ρ[i]? = some (some ci) → ρ[j]? = some (some cj) → ci.fl ≠ .sh → cj.fl ≠ .sh → σ[i]? = some (some (.ref a)) → σ[j]? = some (some (.ref a)) → i = j

/-- what may become shared or owned: a new address, or an owned one -/
def New (ρ : Rho) (σ : St) (H : Hp) (a : Addr) : Prop := H a = none ∨ OwnA ρ σ a
/-- from one state to a later one: what is shared stays and grows by new objects (and owned ones that are given up); what was neither shared nor owned stays -/
structure Ext (ρ : Rho) (σ : St) (B H : Hp) (ρ' : Rho) (σ' : St) (B' H' : Hp) : Prop where
  bb : Same B B'
  nw : ∀ a o, B' a = some o → B a = some o ∨ New ρ σ H a
  kp : ∀ a o, H a = some o → ¬ OwnA ρ σ a → H' a = some o
  sub : ∀ a, OwnA ρ' σ' a → New ρ σ H a
  io : ∀ (i : Nat) (c : Cel), ρ[i]? = some (some c) → c.fl = .io → σ'[i]? = σ[i]? ∧ ∃ c', ρ'[i]? = some (some c') ∧ c'.fl = .io
  oi : ∀ (i : Nat) (c : Cel), ρ'[i]? = some (some c) → c.fl = .io → ∃ c', ρ[i]? = some (some c') ∧ c'.fl = .io

section
variable {K : PySem.W.Frag} {ρ ρ1 ρ2 : Rho} {σ σ1 σ2 : St} {B B1 B2 H H1 H2 : Hp}
theorem Ext.refl : Ext ρ σ B H ρ σ B H :=
  ⟨Same.refl B, fun _ _ h => .inl h, fun _ _ h _ => h, fun _ h => .inr h, fun i c h1 h2 => ⟨rfl, c, h1, h2⟩, fun i c h1 h2 => ⟨c, h1, h2⟩⟩
/-- what is new later is new from the start -/
theorem Ext.back (a : Ext ρ σ B H ρ1 σ1 B1 H1) {x : Addr} (h : New ρ1 σ1 H1 x) : New ρ σ H x := by
  rcases h with h | h
  · by_cases ho : OwnA ρ σ x
    · exact .inr ho
    · cases e : H x with
      | none => exact .inl e
      | some u =>
        rw [a.kp x u e ho] at h
        cases h
  · exact a.sub x h
theorem Ext.trans (a : Ext ρ σ B H ρ1 σ1 B1 H1) (b : Ext ρ1 σ1 B1 H1 ρ2 σ2 B2 H2) : Ext ρ σ B H ρ2 σ2 B2 H2 where
  bb := a.bb.trans b.bb
  nw := fun x o h => (b.nw x o h).elim (fun h => a.nw x o h) fun h => .inr (a.back h)
  kp := fun x o h n => b.kp x o (a.kp x o h n) fun q => (a.sub x q).elim (fun z => by rw [h] at z; cases z) n
  sub := fun x h => a.back (b.sub x h)
  io := fun i c h1 h2 => by
    obtain ⟨e1, c1, q1, q2⟩ := a.io i c h1 h2
    obtain ⟨e2, c2, q3, q4⟩ := b.io i c1 q1 q2
    exact ⟨e2.trans e1, c2, q3, q4⟩
  oi := fun i c h1 h2 => by
    obtain ⟨c1, q1, q2⟩ := b.oi i c h1 h2
    exact a.oi i c1 q1 q2
/-- an address that is tracked, not shared and nobody's stays so -/
theorem Ext.keepN (a : Ext ρ σ B H ρ1 σ1 B1 H1) {x : Addr} {o : HO} (h : H x = some o) (hb : B x = none) (n : ¬ OwnA ρ σ x) : H1 x = some o ∧ B1 x = none ∧ ¬ OwnA ρ1 σ1 x := by
  have nn : ¬ New ρ σ H x := fun q => q.elim (fun z => by rw [h] at z; cases z) n
  refine ⟨a.kp x o h n, ?_, fun q => nn (a.sub x q)⟩
  cases e : B1 x with
  | none => rfl
  | some u =>
    rcases a.nw x u e with q | q
    · rw [hb] at q; cases q
    · exact absurd q nn
theorem Sim.ownH (S : Sim K ρ σ B H) {a : Addr} (h : OwnA ρ σ a) : B a = none ∧ ∃ o, H a = some o := by
  obtain ⟨i, c, h1, h2, h3⟩ := h
  obtain ⟨v, e, q⟩ := S.sl i c h1
  rw [h3] at e
  cases e
  rcases q with ⟨z, _⟩ | ⟨_, b, e, q1, q2⟩
  · exact absurd z h2
  · cases e
    exact ⟨q1, q2.some⟩
theorem Sim.free (S : Sim K ρ σ B H) {p : Addr} (h : H p = none) : B p = none ∧ ¬ OwnA ρ σ p :=
  ⟨S.bh.free h, fun q => by obtain ⟨_, o, e⟩ := S.ownH q; rw [h] at e; cases e⟩
theorem COk.mono {c : Cel} {v : V} (h : COk K B H c v) (e : Same B B1) (hf : ∀ a, v = .ref a → B a = none → (∃ o, H a = some o) → c.fl ≠ .sh → B1 a = none ∧ H1 a = H a) : COk K B1 H1 c v := by
  rcases h with ⟨h1, h2⟩ | ⟨h1, a, rfl, h2, h3⟩
  · exact .inl ⟨h1, h2.mono e⟩
  · obtain ⟨q1, q2⟩ := hf a rfl h2 h3.some h1
    exact .inr ⟨h1, a, rfl, q1, by rw [q2]; exact h3.mono e⟩
/-- a new object, shared -/
theorem Sim.newB (S : Sim K ρ σ B H) {p : Addr} (hp : H p = none) (o : HO) : Sim K ρ σ (upd B p o) (upd H p o) ∧ Ext ρ σ B H ρ σ (upd B p o) (upd H p o) := by
  obtain ⟨bp, np⟩ := S.free hp
  have sB : Same B (upd B p o) := fun b u e => by rw [upd_ne (ne_of_none e bp)]; exact e
  have sH : Same H (upd H p o) := fun b u e => by rw [upd_ne (ne_of_none e hp)]; exact e
  refine ⟨⟨fun b u e => ?_, S.len, fun i c h => ?_, S.dj⟩, ⟨sB, fun a u e => ?_, fun a u e _ => sH a u e, fun _ h => .inr h, fun i c h1 h2 => ⟨rfl, c, h1, h2⟩, fun i c h1 h2 => ⟨c, h1, h2⟩⟩⟩
  · by_cases hb : b = p
    · subst hb; rw [upd_same] at e ⊢; exact e
    · rw [upd_ne hb] at e ⊢; exact S.bh _ _ e
  · obtain ⟨v, e, q⟩ := S.sl i c h
    refine ⟨v, e, q.mono sB fun a hv ha ho hf => ?_⟩
    have ne : a ≠ p := fun z => by subst z; obtain ⟨_, w⟩ := ho; rw [hp] at w; cases w
    exact ⟨by rw [upd_ne ne]; exact ha, by rw [upd_ne ne]⟩
  · by_cases hb : a = p
    · subst hb; exact .inr (.inl hp)
    · rw [upd_ne hb] at e; exact .inl e
/-- a new object that nobody holds yet -/
theorem Sim.newH (S : Sim K ρ σ B H) {p : Addr} (hp : H p = none) (o : HO) : Sim K ρ σ B (upd H p o) ∧ Ext ρ σ B H ρ σ B (upd H p o) := by
  obtain ⟨bp, np⟩ := S.free hp
  have sH : Same H (upd H p o) := fun b u e => by rw [upd_ne (ne_of_none e hp)]; exact e
  refine ⟨⟨S.bh.trans sH, S.len, fun i c h => ?_, S.dj⟩, ⟨Same.refl B, fun a u e => .inl e, fun a u e _ => sH a u e, fun _ h => .inr h, fun i c h1 h2 => ⟨rfl, c, h1, h2⟩, fun i c h1 h2 => ⟨c, h1, h2⟩⟩⟩
  obtain ⟨v, e, q⟩ := S.sl i c h
  refine ⟨v, e, q.mono (Same.refl B) fun a hv ha ho hf => ?_⟩
  have ne : a ≠ p := fun z => by subst z; obtain ⟨_, w⟩ := ho; rw [hp] at w; cases w
  exact ⟨ha, by rw [upd_ne ne]⟩
/-- an object that nobody holds becomes shared -/
theorem Sim.share (S : Sim K ρ σ B H) {p : Addr} {o : HO} (hb : B p = none) (hp : H p = some o) (n : ¬ OwnA ρ σ p) : Sim K ρ σ (upd B p o) H := by
  have sB : Same B (upd B p o) := fun b u e => by rw [upd_ne (ne_of_none e hb)]; exact e
  refine ⟨fun b u e => ?_, S.len, fun i c h => ?_, S.dj⟩
  · by_cases h : b = p
    · subst h; rw [upd_same] at e; cases e; exact hp
    · rw [upd_ne h] at e; exact S.bh _ _ e
  · obtain ⟨v, e, q⟩ := S.sl i c h
    refine ⟨v, e, q.mono sB fun a hv ha ho hf => ⟨?_, rfl⟩⟩
    have ne : a ≠ p := fun z => by subst z; subst hv; exact n ⟨i, c, h, hf, e⟩
    rw [upd_ne ne]; exact ha
end
end GS

/-! ### what an expression gives, tied to its reading -/
namespace GS
open PySem L2

def HdOk (K : PySem.W.Frag) (N : Addr → Prop) (ρ : Rho) (σ : St) (B H : Hp) (v : V) : Hd → Prop
  | .sh d => Rp K B v d
  | .fr d => ∃ a, v = .ref a ∧ B a = none ∧ Ow K B (H a) d ∧ ¬ OwnA ρ σ a ∧ N a
  | .bw i => σ[i]? = some (some v)
/-- the context of a reading: the written part, the classes' values by name, what is wanted of an exception -/
structure Ct where
  K : PySem.W.Frag
  cv : Str → Value
  W : WX
def XcOk (C : Ct) (B : Hp) (x : Xc) (cls : Value) (dct : Option Addr) : Prop :=
  cls = C.cv x.cls ∧ ((x.fs = [] ∧ dct = none) ∨ ∃ a fs, dct = some a ∧ B a = some (.xd fs) ∧ fs.map (·.1) = x.fs.map (·.1) ∧ RpL C.K B (fs.map (·.2)) (x.fs.map (·.2)))
def GoodE (C : Ct) (ρ : Rho) (σ : St) (B H : Hp) (Q : VK) : RE → Prop
  | .stuck => False
  | .ok h ρ' => ∀ v B' H', Sim C.K ρ' σ B' H' → Ext ρ σ B H ρ' σ B' H' → HdOk C.K (New ρ σ H) ρ' σ B' H' v h → Q v H'
  | .exc x ρ' => ∀ cls dct B' H', Sim C.K ρ' σ B' H' → Ext ρ σ B H ρ' σ B' H' → XcOk C B' x cls dct → C.W cls dct σ H'
def LkE (C : Ct) (t : TE) (f : EF) : Prop := ∀ ρ σ B H Q, Sim C.K ρ σ B H → GoodE C ρ σ B H Q (f ρ) → t σ H Q
structure SE (X : Cx) (C : Ct) (e : Expr) (t : TE) (f : EF) : Prop where
  pe : PE X e t
  lk : LkE C t f

def bindE (r : RE) (k : Hd → Rho → RE) : RE := match r with
  | .stuck => .stuck
  | .ok h ρ => k h ρ
  | .exc x ρ => .exc x ρ
/-- what a slot holds -/
def slot (ρ : Rho) (i : Nat) : Option Cel := match ρ[i]? with
  | some (some c) => some c
  | _ => none
theorem slot_some {ρ : Rho} {i : Nat} {c : Cel} (h : slot ρ i = some c) : ρ[i]? = some (some c) := by
  unfold slot at h
  split at h
  · rename_i c' e; cases h; exact e
  · cases h
def getH (ρ : Rho) : Hd → Option D
  | .sh d => some d
  | .fr d => some d
  | .bw i => (slot ρ i).map (·.d)
def capH (ρ : Rho) : Hd → Option D
  | .sh d => some d
  | .fr d => some d
  | .bw i => match slot ρ i with
    | some ⟨d, .sh⟩ => some d
    | _ => none
def setl : Hd → Hd
  | .fr d => .sh d
  | h => h
/-- captured: a shared datum -/
def eCap (f : EF) : EF := fun ρ => bindE (f ρ) fun h ρ' => match capH ρ' h with
  | some d => .ok (.sh d) ρ'
  | none => .stuck
/-- looked at: what is new is shared -/
def eSet (f : EF) : EF := fun ρ => bindE (f ρ) fun h ρ' => .ok (setl h) ρ'

section
variable {C : Ct} {ρ ρ' ρ1 : Rho} {σ : St} {B B' H H' B1 H1 : Hp} {Q : VK} {t ta tb : TE} {f fa fb : EF} {N N' : Addr → Prop} {v : V}
theorem HdOk.mono {K : PySem.W.Frag} (k : ∀ a, N a → N' a) : ∀ {h : Hd}, HdOk K N ρ σ B H v h → HdOk K N' ρ σ B H v h
  | .sh _, q => q
  | .fr _, ⟨a, h1, h2, h3, h4, h5⟩ => ⟨a, h1, h2, h3, h4, k a h5⟩
  | .bw _, q => q
/-- a step in the middle: what is good behind is good ahead -/
theorem GoodE.ext (e : Ext ρ σ B H ρ1 σ B1 H1) : ∀ {r : RE}, GoodE C ρ σ B H Q r → GoodE C ρ1 σ B1 H1 Q r
  | .stuck, h => h
  | .ok _ _, h => fun v B' H' s x y => h v B' H' s (e.trans x) (y.mono fun _ z => e.back z)
  | .exc _ _, h => fun c d B' H' s x => h c d B' H' s (e.trans x)
theorem GoodE.imp {Q' : VK} (k : ∀ v H, Q v H → Q' v H) : ∀ {r : RE}, GoodE C ρ σ B H Q r → GoodE C ρ σ B H Q' r
  | .stuck, h => h
  | .ok _ _, h => fun v B' H' s x y => k _ _ (h v B' H' s x y)
  | .exc _ _, h => h
/-- THE RULE: an expression, then what follows -/
theorem LkE.bind (l : LkE C t f) (S : Sim C.K ρ σ B H) {k : Hd → Rho → RE} {Q' : VK} (g : GoodE C ρ σ B H Q (bindE (f ρ) k))
    (h : ∀ hd ρ1 v B1 H1, Sim C.K ρ1 σ B1 H1 → Ext ρ σ B H ρ1 σ B1 H1 → HdOk C.K (New ρ σ H) ρ1 σ B1 H1 v hd → GoodE C ρ σ B H Q (k hd ρ1) → Q' v H1) : t σ H Q' := by
  refine l ρ σ B H Q' S ?_
  cases e : f ρ with
  | stuck => rw [e] at g; exact g
  | ok hd ρ1 =>
    rw [e] at g
    exact fun v B1 H1 s x y => h hd ρ1 v B1 H1 s x y g
  | exc x ρ1 =>
    rw [e] at g
    exact g
/-- a new datum that nobody holds is shared from here on -/
theorem Sim.cap (S : Sim C.K ρ1 σ B1 H1) (x : Ext ρ σ B H ρ1 σ B1 H1) {d : D} (h : HdOk C.K (New ρ σ H) ρ1 σ B1 H1 v (.fr d)) : ∃ B2, Sim C.K ρ1 σ B2 H1 ∧ Ext ρ σ B H ρ1 σ B2 H1 ∧ Rp C.K B2 v d := by
  obtain ⟨a, rfl, hb, ho, hn, hN⟩ := h
  obtain ⟨o, e⟩ := ho.some
  have sB : Same B1 (upd B1 a o) := fun b u e => by rw [upd_ne (ne_of_none e hb)]; exact e
  refine ⟨upd B1 a o, S.share hb e hn, ⟨x.bb.trans sB, fun b u e => ?_, x.kp, x.sub, x.io, x.oi⟩, ?_⟩
  · by_cases hb : b = a
    · subst hb; exact .inr hN
    · rw [upd_ne hb] at e; exact x.nw b u e
  · rw [e] at ho
    have ho := ho.mono sB
    cases d with
    | list ds =>
      obtain ⟨vs, e1, e2⟩ := ho
      cases e1
      exact .lst (.inl (.inl upd_same)) e2
    | dict ps =>
      obtain ⟨vs, e1, e2⟩ := ho
      cases e1
      exact .dct upd_same e2
    | _ => exact ho.elim
theorem LkE.cap (l : LkE C t f) : LkE C t (eCap f) := fun ρ σ B H Q S g => by
  refine l.bind S g fun hd ρ1 v B1 H1 S1 x y g => ?_
  cases hd with
  | sh d => exact g v B1 H1 S1 x y
  | fr d =>
    obtain ⟨B2, S2, x2, r⟩ := S1.cap x y
    exact g v B2 H1 S2 x2 r
  | bw i =>
    unfold capH at g
    dsimp only at g
    split at g
    · rename_i d e
      split at e
      · rename_i d' e'
        cases e
        have e' := slot_some e'
        obtain ⟨v', q1, q2⟩ := S1.sl i _ e'
        have y' : σ[i]? = some (some v) := y
        rw [y'] at q1
        cases q1
        rcases q2 with ⟨_, q2⟩ | ⟨q, _⟩
        · exact g v B1 H1 S1 x q2
        · exact absurd rfl q
      · cases e
    · exact g.elim
theorem LkE.set (l : LkE C t f) : LkE C t (eSet f) := fun ρ σ B H Q S g => by
  refine l.bind S g fun hd ρ1 v B1 H1 S1 x y g => ?_
  cases hd with
  | sh d => exact g v B1 H1 S1 x y
  | fr d =>
    obtain ⟨B2, S2, x2, r⟩ := S1.cap x y
    exact g v B2 H1 S2 x2 r
  | bw i => exact g v B1 H1 S1 x y
theorem SE.cap {X : Cx} {e : Expr} (h : SE X C e t f) : SE X C e t (eCap f) := ⟨h.pe, h.lk.cap⟩
theorem SE.set {X : Cx} {e : Expr} (h : SE X C e t f) : SE X C e t (eSet f) := ⟨h.pe, h.lk.set⟩

/-! ### a datum at the top: a list may be owned, its items are shared -/
def Tp (K : PySem.W.Frag) (B H : Hp) (v : V) : D → Prop
  | .list ds => ∃ a vs, v = .ref a ∧ SqL K H a vs ∧ RpL K B vs ds
  | .dict ps => ∃ a kvs, v = .ref a ∧ H a = some (.dK kvs) ∧ RpK K B kvs ps
  | d => Rp K B v d
theorem Tp.of {K : PySem.W.Frag} (s : Same B H) : ∀ {d : D}, Rp K B v d → Tp K B H v d
  | .list _, .lst h t => ⟨_, _, rfl, same_l s h, t⟩
  | .dict _, .dct h t => ⟨_, _, rfl, s _ _ h, t⟩
  | .none, h => h
  | .bool _, h => h
  | .int _, h => h
  | .str _, h => h
  | .tuple _, h => h
theorem Tp.rp {K : PySem.W.Frag} (s : Same B H) : ∀ {d : D}, Tp K B H v d → Rp K H v d
  | .list _, ⟨_, _, e, h, t⟩ => by subst e; exact .lst h (t.mono s)
  | .dict _, ⟨_, _, e, h, t⟩ => by subst e; exact .dct h (t.mono s)
  | .none, h => Rp.mono s h
  | .bool _, h => Rp.mono s h
  | .int _, h => Rp.mono s h
  | .str _, h => Rp.mono s h
  | .tuple _, h => Rp.mono s h
theorem Sim.tp (S : Sim C.K ρ σ B H) {h : Hd} {d : D} (y : HdOk C.K N ρ σ B H v h) (g : getH ρ h = some d) : Tp C.K B H v d := by
  cases h with
  | sh e =>
    cases g
    exact Tp.of S.bh y
  | fr e =>
    cases g
    obtain ⟨a, rfl, hb, ho, _⟩ := y
    cases d with
    | list ds =>
      obtain ⟨vs, e1, e2⟩ := ho
      exact ⟨a, vs, rfl, .inl (.inl e1), e2⟩
    | dict ds =>
      obtain ⟨vs, e1, e2⟩ := ho
      exact ⟨a, vs, rfl, e1, e2⟩
    | _ => exact ho.elim
  | bw i =>
    replace g : (slot ρ i).map (·.d) = some d := g
    cases e : slot ρ i with
    | none => rw [e] at g; cases g
    | some c =>
      rw [e] at g
      cases g
      obtain ⟨v', q1, q2⟩ := S.sl i c (slot_some e)
      have y' : σ[i]? = some (some v) := y
      rw [y'] at q1
      cases q1
      rcases q2 with ⟨_, q2⟩ | ⟨_, a, rfl, hb, ho⟩
      · exact Tp.of S.bh q2
      · obtain ⟨d, fl⟩ := c
        cases d with
        | list ds =>
          obtain ⟨vs, e1, e2⟩ := ho
          exact ⟨a, vs, rfl, .inl (.inl e1), e2⟩
        | dict ds =>
          obtain ⟨vs, e1, e2⟩ := ho
          exact ⟨a, vs, rfl, e1, e2⟩
        | _ => exact ho.elim
/-- a looked-at operand stays good -/
theorem HdOk.ext (x : Ext ρ σ B H ρ1 σ B1 H1) {h : Hd} (y : HdOk C.K N ρ σ B H v (setl h)) : HdOk C.K N' ρ1 σ B1 H1 v (setl h) := by
  cases h with
  | sh d => exact Rp.mono x.bb y
  | fr d => exact Rp.mono x.bb y
  | bw i => exact y

/-! ### two operands -/
def OpL (K : PySem.W.Frag) (r : R2) (o : D → D → Option Hd) : Prop := ∀ ρ σ B H x y dx dy h Q, Sim K ρ σ B H → Tp K B H x dx → Tp K B H y dy → o dx dy = some h →
  (∀ v B' H', Sim K ρ σ B' H' → Ext ρ σ B H ρ σ B' H' → HdOk K (New ρ σ H) ρ σ B' H' v h → Q v H') → r x y H Q
def eBin (o : D → D → Option Hd) (fa fb : EF) : EF := fun ρ => bindE (eSet fa ρ) fun ha ρ1 => bindE (eSet fb ρ1) fun hb ρ2 => match getH ρ2 ha, getH ρ2 hb with
  | some da, some db => match o da db with
    | some h => .ok h ρ2
    | none => .stuck
  | _, _ => .stuck
theorem LkE.setBind (l : LkE C t f) (S : Sim C.K ρ σ B H) {k : Hd → Rho → RE} {Q' : VK} (g : GoodE C ρ σ B H Q (bindE (eSet f ρ) k))
    (h : ∀ hd ρ1 v B1 H1, Sim C.K ρ1 σ B1 H1 → Ext ρ σ B H ρ1 σ B1 H1 → HdOk C.K (New ρ σ H) ρ1 σ B1 H1 v (setl hd) → GoodE C ρ1 σ B1 H1 Q (k (setl hd) ρ1) → Q' v H1) : t σ H Q' := by
  refine l.set ρ σ B H Q' S ?_
  unfold eSet at g ⊢
  cases e : f ρ with
  | stuck => rw [e] at g; exact g
  | ok hd ρ1 =>
    rw [e] at g
    exact fun v B1 H1 s x y => h hd ρ1 v B1 H1 s x y (GoodE.ext x g)
  | exc x ρ1 =>
    rw [e] at g
    exact g
theorem lk_op {r : R2} {o : D → D → Option Hd} (hr : OpL C.K r o) (la : LkE C ta fa) (lb : LkE C tb fb) : LkE C (tOp r ta tb) (eBin o fa fb) := fun ρ σ B H Q S g => by
  refine la.setBind S g fun ha ρ1 x B1 H1 S1 e1 y1 g1 => ?_
  refine lb.setBind S1 g1 fun hb ρ2 y B2 H2 S2 e2 y2 g2 => ?_
  split at g2
  · rename_i da db ea eb
    split at g2
    · rename_i h eh
      exact hr ρ2 σ B2 H2 x y da db h Q S2 (S2.tp (N := fun _ => True) (HdOk.ext e2 y1) ea) (S2.tp y2 eb) eh g2
    · exact g2.elim
  · exact g2.elim
theorem se_bin {X : Cx} {r : R2} {o : D → D → Option Hd} {op : Operator} {a b : Expr} {pos : Pos} (hr : OpL C.K r o) (ho : OpR X (binaryOp op) r) (la : SE X C a ta fa) (lb : SE X C b tb fb) : SE X C (.BinOp a op b pos) (tOp r ta tb) (eBin o fa fb) :=
  ⟨pe_op ho la.pe lb.pe, lk_op hr la.lk lb.lk⟩
/-- two ways of one operator -/
def orO (o o' : D → D → Option Hd) : D → D → Option Hd := fun x y => match o x y with
  | some h => some h
  | none => o' x y
theorem OpL.or {K : PySem.W.Frag} {r r' : R2} {o o' : D → D → Option Hd} (a : OpL K r o) (b : OpL K r' o') : OpL K (fun x y H Q => r x y H Q ∨ r' x y H Q) (orO o o') := fun ρ σ B H x y dx dy h Q S tx ty e k => by
  unfold orO at e
  cases q : o dx dy with
  | some h' =>
    rw [q] at e
    cases e
    exact .inl (a ρ σ B H x y dx dy _ Q S tx ty q k)
  | none =>
    rw [q] at e
    exact .inr (b ρ σ B H x y dx dy _ Q S tx ty e k)
end
end GS

/-! ### operators on data -/
namespace GS
open PySem L2 PySem.Calls
section
variable {K : PySem.W.Frag} {ρ : Rho} {σ : St} {B H : Hp} {v x y : V} {Q : VK}
theorem Tp.int {i : Int} (h : Tp K B H v (.int i)) : v = .int i := by cases h; rfl
theorem Tp.str {i : Str} (h : Tp K B H v (.str i)) : v = .str i := by cases h; rfl
theorem Tp.bl {i : Bool} (h : Tp K B H v (.bool i)) : v = .bl i := by cases h; rfl
theorem Tp.non (h : Tp K B H v .none) : v = .non := by cases h; rfl
theorem Rp.tupE {ds : List D} (h : Rp K B v (.tuple ds)) : ∃ a vs, v = .ref a ∧ SqT K B a vs ∧ RpL K B vs ds := by
  cases h with
  | tup h t => exact ⟨_, _, rfl, h, t⟩
theorem Rp.lstE {ds : List D} (h : Rp K B v (.list ds)) : ∃ a vs, v = .ref a ∧ SqL K B a vs ∧ RpL K B vs ds := by
  cases h with
  | lst h t => exact ⟨_, _, rfl, h, t⟩
theorem Tp.tup {ds : List D} (h : Tp K B H v (.tuple ds)) : ∃ a vs, v = .ref a ∧ SqT K B a vs ∧ RpL K B vs ds := Rp.tupE h
/-- the state as it is, a shared value -/
theorem now (S : Sim K ρ σ B H) {d : D} (h : Rp K B v d) (k : ∀ v B' H', Sim K ρ σ B' H' → Ext ρ σ B H ρ σ B' H' → HdOk K (New ρ σ H) ρ σ B' H' v (.sh d) → Q v H') : Q v H := k v B H S Ext.refl h
/-- a new tuple, shared -/
theorem newT (S : Sim K ρ σ B H) {vs : List V} {ds : List D} (h : RpL K B vs ds) (k : ∀ v B' H', Sim K ρ σ B' H' → Ext ρ σ B H ρ σ B' H' → HdOk K (New ρ σ H) ρ σ B' H' v (.sh (.tuple ds)) → Q v H') :
    ∀ p, H p = none → Q (.ref p) (upd H p (.tup vs)) := fun p hp => by
  obtain ⟨S', x⟩ := S.newB hp (.tup vs)
  exact k _ _ _ S' x (.tup (.inl (.inl upd_same)) (h.mono x.bb))
/-- a new list that nobody holds -/
theorem newL (S : Sim K ρ σ B H) {vs : List V} {ds : List D} (h : RpL K B vs ds) (k : ∀ v B' H', Sim K ρ σ B' H' → Ext ρ σ B H ρ σ B' H' → HdOk K (New ρ σ H) ρ σ B' H' v (.fr (.list ds)) → Q v H') :
    ∀ p, H p = none → Q (.ref p) (upd H p (.lst vs)) := fun p hp => by
  obtain ⟨S', x⟩ := S.newH hp (.lst vs)
  obtain ⟨b, n⟩ := S.free hp
  exact k _ _ _ S' x ⟨p, rfl, b, ⟨vs, upd_same, h⟩, n, .inl hp⟩
end

/-! lists from anywhere (the script too) added -/
section
variable {X : Cx}
def rCatL (K : PySem.W.Frag) : R2 := fun x y H Q => ∃ l b xs zs, x = .ref l ∧ y = .ref b ∧ SqL K H l xs ∧ SqL K H b zs ∧ xs.length + zs.length ≤ sizeLine ∧ ∀ p, H p = none → Q (.ref p) (upd H p (.lst (xs ++ zs)))
theorem op_catL : OpR X (binaryOp .Add) (rCatL X.K) := by
  intro pins s σ H x y v u Q I rx ry h
  obtain ⟨l, b, xs, zs, rfl, rfl, hH, hB, hz, q⟩ := h
  cases rx
  cases ry
  obtain ⟨its, r, p1, _⟩ := I.list hH
  obtain ⟨its2, r2, p2, _⟩ := I.list hB
  have l1 := r.length
  have l2 := r2.length
  obtain ⟨⟨cls, dd, data, sl⟩, ho, hc, n, hd⟩ := p1.isList
  obtain ⟨⟨cls2, dd2, data2, sl2⟩, ho2, hc2, n2, hd2⟩ := p2.isList
  simp only at hc hd hc2 hd2
  subst hc hd hc2 hd2
  refine concat_meets ⟨_, ho, rfl⟩ ⟨_, ho2, rfl⟩ noFill_list_add seq_list_add PySem.F.slot_list_add PySem.F.entry_list_add (PySem.F.args_list_add_2 _ _) (PyProof.Rows.list_addW l b its.toArray its2.toArray n n2 dd dd2 sl sl2 (by simp; omega)) ⟨ho, ho2, ?_⟩
  have e : its.toArray ++ its2.toArray = (its ++ its2).toArray := by simp
  rw [e]
  exact ⟨.ref _, _, I.lnew (t' := s.toks) (r.append r2) (by rw [List.length_append]; omega), rfl, q _ I.fresh⟩
end

theorem if_some {c : Prop} [Decidable c] {α : Type} {a h : α} (e : (if c then some a else none) = some h) : c ∧ a = h := by
  split at e
  · cases e; exact ⟨by assumption, rfl⟩
  · cases e
/-- + -/
def addD : D → D → Option Hd
  | .int i, .int j => some (.sh (.int (i + j)))
  | .str i, .str j => if i.length + j.length ≤ sizeLine then some (.sh (.str (i ++ j))) else none
  | .tuple xs, .tuple ys => if xs.length + ys.length ≤ sizeLine then some (.sh (.tuple (xs ++ ys))) else none
  | .list xs, .list ys => if xs.length + ys.length ≤ sizeLine then some (.fr (.list (xs ++ ys))) else none
  | _, _ => none
def rAddA (K : PySem.W.Frag) : R2 := fun x y H Q => (rI0 fun i j => .int (i + j)) x y H Q ∨ ((∃ i j, x = .str i ∧ y = .str j ∧ i.length + j.length ≤ sizeLine ∧ Q (.str (i ++ j)) H) ∨ (rCatA K x y H Q ∨ rCatL K x y H Q))
theorem op_addA {X : Cx} : OpR X (binaryOp .Add) (rAddA X.K) := OpR.or op_add (OpR.or op_add_str (OpR.or op_catA op_catL))
theorem ol_add {K : PySem.W.Frag} : OpL K (rAddA K) addD := fun ρ σ B H x y dx dy h Q S tx ty e k => by
  cases dx <;> cases dy <;> first | (cases (show none = some h from e); done) | skip
  · cases e
    rw [tx.int, ty.int]
    exact .inl ⟨_, _, rfl, rfl, now S (.int _) k⟩
  · obtain ⟨c, rfl⟩ := if_some e
    rw [tx.str, ty.str]
    exact .inr (.inl ⟨_, _, rfl, rfl, c, now S (.str _) k⟩)
  · obtain ⟨c, rfl⟩ := if_some e
    obtain ⟨a, vs, rfl, ha, ra⟩ := tx
    obtain ⟨b, ws, rfl, hb, rb⟩ := ty
    exact .inr (.inr (.inr ⟨a, b, vs, ws, rfl, rfl, ha, hb, by rw [ra.length, rb.length]; exact c, newL S (ra.append rb) k⟩))
  · obtain ⟨c, rfl⟩ := if_some e
    obtain ⟨a, vs, rfl, ha, ra⟩ := tx.tup
    obtain ⟨b, ws, rfl, hb, rb⟩ := ty.tup
    have l1 := ra.length
    have l2 := rb.length
    refine .inr (.inr (.inl ⟨a, b, vs, ws, rfl, rfl, same_t S.bh ha, same_t S.bh hb, by omega, fun e => ?_, fun _ e => ?_, fun _ _ => newT S (ra.append rb) k⟩))
    · subst e
      cases ra
      exact now S (.tup hb rb) k
    · subst e
      cases rb
      rw [List.append_nil] at k
      exact now S (.tup ha ra) k
/-- int operators -/
def intD (c : Int → Int → Bool) (f : Int → Int → D) : D → D → Option Hd
  | .int i, .int j => if c i j then some (.sh (f i j)) else none
  | _, _ => none
theorem ol_int {K : PySem.W.Frag} {c : Int → Int → Bool} {P : Int → Int → Prop} {f : Int → Int → D} {g : Int → Int → V} (hc : ∀ i j, c i j = true → P i j) (hg : ∀ B i j, Rp K B (g i j) (f i j)) : OpL K (rI P g) (intD c f) := fun ρ σ B H x y dx dy h Q S tx ty e k => by
  cases dx <;> cases dy <;> first | (cases (show none = some h from e); done) | skip
  obtain ⟨c, rfl⟩ := if_some e
  rw [tx.int, ty.int]
  exact ⟨_, _, rfl, rfl, hc _ _ c, now S (hg B _ _) k⟩
theorem ol_int0 {K : PySem.W.Frag} {f : Int → Int → D} {g : Int → Int → V} (hg : ∀ B i j, Rp K B (g i j) (f i j)) : OpL K (rI0 g) (intD (fun _ _ => true) f) := fun ρ σ B H x y dx dy h Q S tx ty e k => by
  cases dx <;> cases dy <;> first | (cases (show none = some h from e); done) | skip
  cases e
  rw [tx.int, ty.int]
  exact ⟨_, _, rfl, rfl, now S (hg B _ _) k⟩
def subD : D → D → Option Hd := intD (fun _ _ => true) fun i j => .int (i - j)
theorem e64 : (2 : Int) ^ 64 = 18446744073709551616 := by decide +kernel
theorem e64n : (2 : Nat) ^ 64 = 18446744073709551616 := by decide +kernel
def cMul (i j : Int) : Bool := Nat.ble i.natAbs 18446744073709551615 || Nat.ble j.natAbs 18446744073709551615
def mulD : D → D → Option Hd := intD cMul fun i j => .int (i * j)
def divD : D → D → Option Hd := intD (fun _ j => decide (0 < j) && Nat.ble j.natAbs 1073741823) fun i j => .int (i / j)
def modD : D → D → Option Hd := intD (fun _ j => decide (0 < j)) fun i j => .int (i % j)
def powD : D → D → Option Hd := intD (fun i j => decide (0 ≤ j) && Nat.ble j.natAbs 1000000 && Nat.ble i.natAbs 18446744073709551615) fun i j => .int (i ^ j.toNat)
theorem ol_sub {K : PySem.W.Frag} : OpL K (rI0 fun i j => .int (i - j)) subD := ol_int0 fun _ _ _ => .int _
theorem ol_mul {K : PySem.W.Frag} : OpL K (rI CMul fun i j => .int (i * j)) mulD := ol_int (fun i j h => by
  unfold CMul
  rw [e64]
  unfold cMul at h
  rw [Bool.or_eq_true] at h
  rcases h with h | h
  · have := Nat.le_of_ble_eq_true h; exact .inl ⟨by omega, by omega⟩
  · have := Nat.le_of_ble_eq_true h; exact .inr ⟨by omega, by omega⟩) fun _ _ _ => .int _
theorem ol_div {K : PySem.W.Frag} : OpL K (rI CDiv fun i j => .int (i / j)) divD := ol_int (fun i j h => by
  simp only [Bool.and_eq_true, decide_eq_true_eq] at h
  have := Nat.le_of_ble_eq_true h.2
  exact ⟨h.1, by omega⟩) fun _ _ _ => .int _
theorem ol_mod {K : PySem.W.Frag} : OpL K (rI (fun _ j => 0 < j) fun i j => .int (i % j)) modD := ol_int (fun i j h => by simpa using h) fun _ _ _ => .int _
theorem ol_pow {K : PySem.W.Frag} : OpL K (rI CPow fun i j => .int (i ^ j.toNat)) powD := ol_int (fun i j h => by
  unfold CPow
  rw [e64n]
  simp only [Bool.and_eq_true, decide_eq_true_eq] at h
  have h1 := Nat.le_of_ble_eq_true h.1.2
  have h2 := Nat.le_of_ble_eq_true h.2
  exact ⟨h.1.1, by omega, by omega⟩) fun _ _ _ => .int _

/-! comparisons -/
def ltI (f : Int → Int → Bool) : D → D → Option Hd := intD (fun _ _ => true) fun i j => .bool (f i j)
theorem ol_cmp {K : PySem.W.Frag} {f : Int → Int → Bool} : OpL K (rI0 fun i j => .bl (f i j)) (ltI f) := ol_int0 fun _ _ _ => .bl _
/-- == of data without dicts, at most 64 deep -/
def okEq (d : D) : Bool := plain d && SeqAt.shaped d
def eqD (neg : Bool) : D → D → Option Hd := fun x y => if okEq x && okEq y then some (.sh (.bool (neg ^^ PyData.eqv x y))) else none
theorem ol_eq {K : PySem.W.Frag} : OpL K (rEqD K) (eqD false) := fun ρ σ B H x y dx dy h Q S tx ty e k => by
  unfold eqD okEq at e
  split at e
  · rename_i c
    cases e
    simp only [Bool.and_eq_true] at c
    refine ⟨dx, dy, (tx.rp S.bh).dp _ c.1.1, (ty.rp S.bh).dp _ c.2.1, c.1.2, c.2.2, ?_⟩
    have := now (v := .bl (false ^^ PyData.eqv dx dy)) S (.bl _) k
    rwa [Bool.false_xor] at this
  · cases e
theorem ol_ne {K : PySem.W.Frag} : OpL K (rNeD K) (eqD true) := fun ρ σ B H x y dx dy h Q S tx ty e k => by
  unfold eqD okEq at e
  split at e
  · rename_i c
    cases e
    simp only [Bool.and_eq_true] at c
    refine ⟨dx, dy, (tx.rp S.bh).dp _ c.1.1, (ty.rp S.bh).dp _ c.2.1, c.1.2, c.2.2, ?_⟩
    have := now (v := .bl (true ^^ PyData.eqv dx dy)) S (.bl _) k
    rwa [Bool.true_xor] at this
  · cases e
/-- is None, is True -/
def isD (neg : Bool) : D → D → Option Hd
  | .none, .none => some (.sh (.bool (!neg)))
  | .bool a, .bool b => some (.sh (.bool (neg ^^ decide (a = b))))
  | _, .none => some (.sh (.bool neg))
  | _, _ => none
def rIsA : R2 := fun x y H Q => (y = .non ∧ Q (.bl (decide (x = .non))) H) ∨ (∃ a b, x = .bl a ∧ y = .bl b ∧ Q (.bl (decide (a = b))) H)
def rNotA : R2 := fun x y H Q => (y = .non ∧ Q (.bl (!decide (x = .non))) H) ∨ (∃ a b, x = .bl a ∧ y = .bl b ∧ Q (.bl (!decide (a = b))) H)
theorem op_isA {X : Cx} : OpR X (compareOp .Is) rIsA := OpR.or op_isN op_isBl
theorem op_notA {X : Cx} : OpR X (compareOp .IsNot) rNotA := OpR.or op_notN op_notBl
theorem Tp.ne_non {K : PySem.W.Frag} {B H : Hp} {v : V} {d : D} (h : Tp K B H v d) (hd : d ≠ .none) : v ≠ .non := by
  intro e
  subst e
  cases d with
  | none => exact hd rfl
  | bool _ => cases h
  | int _ => cases h
  | str _ => cases h
  | list _ => obtain ⟨_, _, e, _⟩ := h; cases e
  | tuple _ => cases h
  | dict _ => obtain ⟨_, _, e, _⟩ := h; cases e
theorem ol_is {K : PySem.W.Frag} : OpL K rIsA (isD false) := fun ρ σ B H x y dx dy h Q S tx ty e k => by
  cases dy with
  | none =>
    rw [ty.non]
    refine .inl ⟨rfl, ?_⟩
    by_cases hn : dx = .none
    · subst hn
      cases e
      rw [tx.non]
      exact now S (.bl _) k
    · have q := tx.ne_non hn
      have e' : h = .sh (.bool false) := by cases dx <;> simp [isD] at e hn ⊢ <;> exact e.symm
      subst e'
      rw [decide_eq_false q]
      exact now S (.bl _) k
  | bool b =>
    cases dx with
    | bool a =>
      cases e
      rw [tx.bl, ty.bl]
      refine .inr ⟨a, b, rfl, rfl, ?_⟩
      have := now (v := .bl (false ^^ decide (a = b))) S (.bl _) k
      rwa [Bool.false_xor] at this
    | _ => simp [isD] at e
  | _ => cases dx <;> simp [isD] at e
theorem ol_not {K : PySem.W.Frag} : OpL K rNotA (isD true) := fun ρ σ B H x y dx dy h Q S tx ty e k => by
  cases dy with
  | none =>
    rw [ty.non]
    refine .inl ⟨rfl, ?_⟩
    by_cases hn : dx = .none
    · subst hn
      cases e
      rw [tx.non]
      exact now S (.bl _) k
    · have q := tx.ne_non hn
      have e' : h = .sh (.bool true) := by cases dx <;> simp [isD] at e hn ⊢ <;> exact e.symm
      subst e'
      rw [decide_eq_false q]
      exact now S (.bl _) k
  | bool b =>
    cases dx with
    | bool a =>
      cases e
      rw [tx.bl, ty.bl]
      refine .inr ⟨a, b, rfl, rfl, ?_⟩
      have := now (v := .bl (true ^^ decide (a = b))) S (.bl _) k
      rwa [Bool.true_xor] at this
    | _ => simp [isD] at e
  | _ => cases dx <;> simp [isD] at e
/-! in: a sign in a text, a flat datum in a tuple, any datum in a list -/
def flatD : D → Bool
  | .none => true
  | .bool _ => true
  | .int _ => true
  | .str _ => true
  | _ => false
def inD (neg : Bool) : D → D → Option Hd
  | .str x, .str z => match x.cps.toList with
    | [c] => some (.sh (.bool (neg ^^ decide (c ∈ z.cps.toList))))
    | _ => none
  | d, .tuple ds => if flatD d && ds.all flatD then some (.sh (.bool (neg ^^ ds.any fun z => PyData.eqv z d))) else none
  | d, .list ds => if okEq d && okEq (.list ds) then some (.sh (.bool (neg ^^ ds.any fun z => PyData.eqv z d))) else none
  | _, _ => none
end GS

/-! ### in, subscripts, slices, tests -/
namespace GS
open PySem L2
/-! in -/
def rInA (K : PySem.W.Frag) : R2 := fun x y H Q => (∃ (c : Nat) (z : Str), x = .str ⟨#[c]⟩ ∧ y = .str z ∧ Q (.bl (decide (c ∈ z.cps.toList))) H) ∨ (rIn K false x y H Q ∨ rInD K x y H Q)
def rNotInA (K : PySem.W.Frag) : R2 := fun x y H Q => (∃ (c : Nat) (z : Str), x = .str ⟨#[c]⟩ ∧ y = .str z ∧ Q (.bl (!decide (c ∈ z.cps.toList))) H) ∨ (rIn K true x y H Q ∨ rNotInD K x y H Q)
theorem op_inA {X : Cx} (hu : X.A.units + 65 < cLine) : OpR X (compareOp .In) (rInA X.K) := OpR.or op_in_sign (OpR.or op_in_seq (op_inD hu))
theorem op_notInA {X : Cx} (hu : X.A.units + 65 < cLine) : OpR X (compareOp .NotIn) (rNotInA X.K) := OpR.or op_notIn_sign (OpR.or op_notIn_seq (op_notInD hu))
section
variable {K : PySem.W.Frag} {ρ : Rho} {σ : St} {B H : Hp} {v x y : V} {Q : VK}
theorem flat_of {d : D} (h : Rp K B v d) (f : flatD d = true) : flatV v = true := by
  cases h <;> first | rfl | cases f
theorem eqV_of {d e : D} (h : Rp K B x d) (g : Rp K B y e) (f : flatD d = true) (k : flatD e = true) : eqV x y = PyData.eqv d e := by
  cases h <;> first | (cases f; done) | (cases g <;> first | (cases k; done) | rfl | (simp [eqV, PyData.eqv]))
theorem any_of {e : D} (g : Rp K B y e) (k : flatD e = true) : ∀ {vs : List V} {ds : List D}, RpL K B vs ds → ds.all flatD = true → vs.all flatV = true ∧ inV y vs = ds.any fun z => PyData.eqv z e
  | _, _, .nil, _ => ⟨rfl, rfl⟩
  | _, _, .cons h t, a => by
    rw [List.all_cons, Bool.and_eq_true] at a
    obtain ⟨q1, q2⟩ := any_of g k t a.2
    refine ⟨by rw [List.all_cons, Bool.and_eq_true]; exact ⟨flat_of h a.1, q1⟩, ?_⟩
    show ((eqV _ y) || inV y _) = _
    rw [q2, eqV_of h g a.1 k, List.any_cons]
theorem str1 {x : Str} {c : Nat} (h : x.cps.toList = [c]) : x = ⟨#[c]⟩ := by
  obtain ⟨a⟩ := x
  congr
  exact Array.ext' (by simpa using h)
theorem ol_in : OpL K (rInA K) (inD false) := fun ρ σ B H x y dx dy h Q S tx ty e k => by
  cases dy with
  | str z =>
    cases dx with
    | str w =>
      replace e : (match w.cps.toList with | [c] => some (Hd.sh (.bool (false ^^ decide (c ∈ z.cps.toList)))) | _ => none) = some h := e
      split at e
      · rename_i c ec
        cases e
        rw [tx.str, ty.str, str1 ec]
        refine .inl ⟨c, z, rfl, rfl, ?_⟩
        have := now (v := .bl (false ^^ decide (c ∈ z.cps.toList))) S (.bl _) k
        rwa [Bool.false_xor] at this
      · cases e
    | _ => cases e
  | tuple ds =>
    have e' : (if flatD dx && ds.all flatD then some (.sh (.bool (false ^^ ds.any fun z => PyData.eqv z dx))) else none) = some h := by cases dx <;> exact e
    obtain ⟨c, rfl⟩ := if_some e'
    rw [Bool.and_eq_true] at c
    obtain ⟨a, vs, rfl, ha, ra⟩ := ty.tup
    have tx' : Rp K B x dx := by cases dx <;> first | exact tx | (cases c.1; done)
    obtain ⟨q1, q2⟩ := any_of tx' c.1 ra c.2
    refine .inr (.inl ⟨a, vs, rfl, .inr (same_t S.bh ha), flat_of tx' c.1, q1, ?_⟩)
    rw [if_neg Bool.false_ne_true, q2]
    have := now (v := .bl (false ^^ ds.any fun z => PyData.eqv z dx)) S (.bl _) k
    rwa [Bool.false_xor] at this
  | list ds =>
    have e' : (if okEq dx && okEq (.list ds) then some (.sh (.bool (false ^^ ds.any fun z => PyData.eqv z dx))) else none) = some h := by cases dx <;> exact e
    obtain ⟨c, rfl⟩ := if_some e'
    unfold okEq at c
    simp only [Bool.and_eq_true] at c
    refine .inr (.inr ⟨dx, ds, (tx.rp S.bh).dp _ c.1.1, (ty.rp S.bh).dp _ c.2.1, c.1.2, c.2.2, ?_⟩)
    have := now (v := .bl (false ^^ ds.any fun z => PyData.eqv z dx)) S (.bl _) k
    rwa [Bool.false_xor] at this
  | _ => cases dx <;> cases (show none = some h from e)
theorem ol_notIn : OpL K (rNotInA K) (inD true) := fun ρ σ B H x y dx dy h Q S tx ty e k => by
  cases dy with
  | str z =>
    cases dx with
    | str w =>
      replace e : (match w.cps.toList with | [c] => some (Hd.sh (.bool (true ^^ decide (c ∈ z.cps.toList)))) | _ => none) = some h := e
      split at e
      · rename_i c ec
        cases e
        rw [tx.str, ty.str, str1 ec]
        refine .inl ⟨c, z, rfl, rfl, ?_⟩
        have := now (v := .bl (true ^^ decide (c ∈ z.cps.toList))) S (.bl _) k
        rwa [Bool.true_xor] at this
      · cases e
    | _ => cases e
  | tuple ds =>
    have e' : (if flatD dx && ds.all flatD then some (.sh (.bool (true ^^ ds.any fun z => PyData.eqv z dx))) else none) = some h := by cases dx <;> exact e
    obtain ⟨c, rfl⟩ := if_some e'
    rw [Bool.and_eq_true] at c
    obtain ⟨a, vs, rfl, ha, ra⟩ := ty.tup
    have tx' : Rp K B x dx := by cases dx <;> first | exact tx | (cases c.1; done)
    obtain ⟨q1, q2⟩ := any_of tx' c.1 ra c.2
    refine .inr (.inl ⟨a, vs, rfl, .inr (same_t S.bh ha), flat_of tx' c.1, q1, ?_⟩)
    rw [if_pos rfl, q2]
    have := now (v := .bl (true ^^ ds.any fun z => PyData.eqv z dx)) S (.bl _) k
    rwa [Bool.true_xor] at this
  | list ds =>
    have e' : (if okEq dx && okEq (.list ds) then some (.sh (.bool (true ^^ ds.any fun z => PyData.eqv z dx))) else none) = some h := by cases dx <;> exact e
    obtain ⟨c, rfl⟩ := if_some e'
    unfold okEq at c
    simp only [Bool.and_eq_true] at c
    refine .inr (.inr ⟨dx, ds, (tx.rp S.bh).dp _ c.1.1, (ty.rp S.bh).dp _ c.2.1, c.1.2, c.2.2, ?_⟩)
    have := now (v := .bl (true ^^ ds.any fun z => PyData.eqv z dx)) S (.bl _) k
    rwa [Bool.true_xor] at this
  | _ => cases dx <;> cases (show none = some h from e)
/-! subscripts -/
def ixD : D → D → Option Hd
  | .list ds, .int i => (atI ds i).map Hd.sh
  | .tuple ds, .int i => (atI ds i).map Hd.sh
  | .str z, .int i => if z.length ≤ sizeLine then (atI z.cps.toList i).map fun c => Hd.sh (.str ⟨#[c]⟩) else none
  | _, _ => none
theorem RpL.atI {vs : List V} {ds : List D} (h : RpL K B vs ds) {i : Int} {d : D} (e : atI ds i = some d) : ∃ v, atI vs i = some v ∧ Rp K B v d := by
  unfold L2.atI at e ⊢
  rw [h.length]
  cases q : ixN ds.length i with
  | none => rw [q] at e; cases e
  | some j =>
    rw [q] at e
    exact h.get e
theorem ol_ix : OpL K (rIx K) ixD := fun ρ σ B H x y dx dy h Q S tx ty e k => by
  cases dy with
  | int i =>
    rw [ty.int]
    cases dx with
    | list ds =>
      obtain ⟨d, e1, rfl⟩ := Option.map_eq_some_iff.mp e
      obtain ⟨a, vs, rfl, ha, ra⟩ := tx
      obtain ⟨v, q1, q2⟩ := ra.atI e1
      exact .inl ⟨a, vs, i, v, rfl, rfl, ha, q1, now S q2 k⟩
    | tuple ds =>
      obtain ⟨d, e1, rfl⟩ := Option.map_eq_some_iff.mp e
      obtain ⟨a, vs, rfl, ha, ra⟩ := tx.tup
      obtain ⟨v, q1, q2⟩ := ra.atI e1
      exact .inr (.inl ⟨a, vs, i, v, rfl, rfl, same_t S.bh ha, q1, now S q2 k⟩)
    | str z =>
      have e' : (if z.length ≤ sizeLine then (L2.atI z.cps.toList i).map fun c => Hd.sh (.str ⟨#[c]⟩) else none) = some h := e
      split at e'
      · obtain ⟨c, e1, rfl⟩ := Option.map_eq_some_iff.mp e'
        rw [tx.str]
        exact .inr (.inr ⟨z, i, c, rfl, rfl, by assumption, e1, now S (.str _) k⟩)
      · cases e'
    | _ => cases e
  | _ => cases dx <;> cases (show none = some h from e)
end
section
variable {X : Cx} {C : Ct} {a b c e : Expr} {ta tb tc te : TE} {fa fb fc fe : EF} {pos p2 : Pos}
theorem se_ix (la : SE X C a ta fa) (lb : SE X C b tb fb) (hk : X.K = C.K := by rfl) (hs : PlainIx b := by intro _ _; rfl) : SE X C (.Subscript a b pos) (tOp (rIx C.K) ta tb) (eBin ixD fa fb) :=
  ⟨by rw [← hk]; exact pe_ix ix_seq la.pe lb.pe hs, lk_op ol_ix la.lk lb.lk⟩
/-! slices -/
def cutD (ds : List D) (lo hi : Option Int) : List D := (ds.drop (HT.sIx ds.length 0 lo)).take (HT.sIx ds.length ds.length hi - HT.sIx ds.length 0 lo)
def slD (lo hi : Option Int) : D → Option Hd
  | .list ds => some (.fr (.list (cutD ds lo hi)))
  | .tuple ds => some (.sh (.tuple (cutD ds lo hi)))
  | .str z => if z.length ≤ sizeLine then some (.sh (.str (cutS z lo hi))) else none
  | _ => none
def rSlAll (K : PySem.W.Frag) : V → Option Int → Option Int → Hp → VK → Prop := fun x lo hi H Q => rSlL K x lo hi H Q ∨ (rSlA K x lo hi H Q ∨ rSlS x lo hi H Q)
theorem sl_all : SlR X (rSlAll X.K) := SlR.or sl_list (SlR.or sl_tupA sl_str)
theorem RpL.cut {K : PySem.W.Frag} {B : Hp} {vs : List V} {ds : List D} (h : RpL K B vs ds) (lo hi : Option Int) : RpL K B (cutV vs lo hi) (cutD ds lo hi) := by
  unfold cutV cutD
  rw [h.length]
  exact (h.drop _).take _
theorem ls_all {K : PySem.W.Frag} {ρ : Rho} {σ : St} {B H : Hp} {x : V} {Q : VK} {d : D} {h : Hd} {lo hi : Option Int} (S : Sim K ρ σ B H) (tx : Tp K B H x d) (e : slD lo hi d = some h)
    (k : ∀ v B' H', Sim K ρ σ B' H' → Ext ρ σ B H ρ σ B' H' → HdOk K (New ρ σ H) ρ σ B' H' v h → Q v H') : rSlAll K x lo hi H Q := by
  cases d with
  | list ds =>
    cases e
    obtain ⟨a, vs, rfl, ha, ra⟩ := tx
    exact .inl ⟨a, vs, rfl, ha, newL S (ra.cut lo hi) k⟩
  | tuple ds =>
    cases e
    obtain ⟨a, vs, rfl, ha, ra⟩ := tx.tup
    refine .inr (.inl ⟨a, vs, rfl, same_t S.bh ha, fun w => ?_, fun _ => newT S (ra.cut lo hi) k⟩)
    have ec : cutD ds lo hi = ds := by
      unfold cutD
      rw [← ra.length, w.1, w.2, List.drop_zero, Nat.sub_zero, ra.length, List.take_length]
    rw [ec] at k
    exact now S (.tup ha ra) k
  | str z =>
    obtain ⟨c, rfl⟩ := if_some e
    rw [tx.str]
    exact .inr (.inr ⟨z, rfl, c, now S (.str _) k⟩)
  | _ => cases e
/-- a part of a slice: nothing, or an int -/
inductive PartOk (X : Cx) (C : Ct) : Option Expr → TO → Option EF → Prop
  | non : PartOk X C none tNoPart none
  | some {e : Expr} {t : TE} {f : EF} : SE X C e t f → PartOk X C (some e) (tPart t) (some f)
def ePart (f : Option EF) (ρ : Rho) (k : Option Int → Rho → RE) : RE := match f with
  | none => k none ρ
  | some g => bindE (eSet g ρ) fun h ρ1 => match getH ρ1 h with
    | some (.int i) => k (some i) ρ1
    | _ => .stuck
def eSl (fe : EF) (fl fh : Option EF) : EF := fun ρ => bindE (eSet fe ρ) fun h ρ1 => ePart fl ρ1 fun lo ρ2 => ePart fh ρ2 fun hi ρ3 => match (getH ρ3 h).bind (slD lo hi) with
  | some r => .ok r ρ3
  | none => .stuck
theorem PartOk.pe {o : Option Expr} {t : TO} {f : Option EF} (h : PartOk X C o t f) : PO X o t := by
  cases h with
  | non => exact po_none
  | some s => exact po_some s.pe
theorem PartOk.bind {o : Option Expr} {t : TO} {f : Option EF} (h : PartOk X C o t f) {ρ : Rho} {σ : St} {B H : Hp} {Q : VK} (S : Sim C.K ρ σ B H) {k : Option Int → Rho → RE} {Q' : Option Int → Hp → Prop} (g : GoodE C ρ σ B H Q (ePart f ρ k))
    (q : ∀ i ρ1 B1 H1, Sim C.K ρ1 σ B1 H1 → Ext ρ σ B H ρ1 σ B1 H1 → GoodE C ρ1 σ B1 H1 Q (k i ρ1) → Q' i H1) : t σ H Q' := by
  cases h with
  | non => exact q none ρ B H S Ext.refl g
  | some s =>
    refine s.lk.setBind S g fun hd ρ1 x B1 H1 S1 e1 y1 g1 => ?_
    split at g1
    · rename_i i ei
      exact ⟨i, (S1.tp y1 ei).int, q (Option.some i) ρ1 B1 H1 S1 e1 g1⟩
    · exact g1.elim
theorem se_slice {lo hi : Option Expr} {tl th : TO} {fl fh : Option EF} (le : SE X C e te fe) (hl : PartOk X C lo tl fl) (hh : PartOk X C hi th fh) (hk : X.K = C.K := by rfl) :
    SE X C (.Subscript e (.Slice lo hi none p2) pos) (tSl (rSlAll C.K) te tl th) (eSl fe fl fh) := by
  refine ⟨by rw [← hk]; exact pe_slice sl_all le.pe hl.pe hh.pe, fun ρ σ B H Q S g => ?_⟩
  refine le.lk.setBind S g fun hd ρ1 x B1 H1 S1 e1 y1 g1 => ?_
  refine hl.bind S1 g1 fun i ρ2 B2 H2 S2 e2 g2 => ?_
  refine hh.bind S2 g2 fun j ρ3 B3 H3 S3 e3 g3 => ?_
  split at g3
  · rename_i r er
    obtain ⟨d, ed, es⟩ := Option.bind_eq_some_iff.mp er
    exact ls_all S3 (S3.tp (N := fun _ => True) (HdOk.ext (e2.trans e3) y1) ed) es g3
  · exact g3.elim
/-! tests -/
def GoodT (C : Ct) (ρ : Rho) (σ : St) (B H : Hp) (Q : Bool → Hp → Prop) : RE → Prop
  | .ok (.sh (.bool b)) ρ' => ∀ B' H', Sim C.K ρ' σ B' H' → Ext ρ σ B H ρ' σ B' H' → Q b H'
  | .exc x ρ' => ∀ cls dct B' H', Sim C.K ρ' σ B' H' → Ext ρ σ B H ρ' σ B' H' → XcOk C B' x cls dct → C.W cls dct σ H'
  | _ => False
def LkT (C : Ct) (t : TT) (f : EF) : Prop := ∀ ρ σ B H Q, Sim C.K ρ σ B H → GoodT C ρ σ B H Q (f ρ) → t σ H Q
structure ST (X : Cx) (C : Ct) (e : Expr) (t : TT) (f : EF) : Prop where
  pt : PT X e t
  lk : LkT C t f
structure SW (X : Cx) (C : Ct) (e : Expr) (t : TT) (f : EF) : Prop where
  pw : PW X e t
  lk : LkT C t f
theorem SW.st {t : TT} {f : EF} (h : SW X C e t f) : ST X C e t f := ⟨h.pw.pt, h.lk⟩
theorem GoodT.ext {ρ ρ1 : Rho} {σ : St} {B H B1 H1 : Hp} {Q : Bool → Hp → Prop} (x : Ext ρ σ B H ρ1 σ B1 H1) : ∀ {r : RE}, GoodT C ρ σ B H Q r → GoodT C ρ1 σ B1 H1 Q r := fun {r} g => by
  cases r with
  | stuck => exact g
  | exc c ρ2 => exact fun cls dct B' H' s y => g cls dct B' H' s (x.trans y)
  | ok h ρ2 =>
    cases h with
    | sh d =>
      cases d with
      | bool b => exact fun B' H' s y => g B' H' s (x.trans y)
      | _ => exact g
    | _ => exact g
/-- a bool: looked at -/
def eB (f : EF) : EF := fun ρ => bindE (eSet f ρ) fun h ρ1 => match getH ρ1 h with
  | some (.bool b) => .ok (.sh (.bool b)) ρ1
  | _ => .stuck
theorem lk_B {t : TE} {f : EF} (l : LkE C t f) : LkT C (tB t) (eB f) := fun ρ σ B H Q S g => by
  refine l.set ρ σ B H _ S ?_
  unfold eB at g
  cases e : eSet f ρ with
  | stuck => rw [e] at g; exact g
  | exc c ρ1 => rw [e] at g; exact g
  | ok h ρ1 =>
    rw [e] at g
    replace g : GoodT C ρ σ B H Q (match getH ρ1 h with | some (.bool b) => .ok (.sh (.bool b)) ρ1 | _ => .stuck) := g
    intro v B1 H1 S1 x y
    split at g
    · rename_i b eb
      exact ⟨b, (S1.tp y eb).bl, g B1 H1 S1 x⟩
    · exact g.elim
theorem tTest_eq (t : TE) : tTest t = tB t := rfl
theorem st_val {t : TE} {f : EF} (h : SE X C e t f) (he : ∀ whole, isTrue e X.env whole = (do let v ← whole; standAt e.pos; holding [v] (truthy v)) := by intro _; rfl) : ST X C e (tB t) (eB f) := ⟨pt_val h.pe he, lk_B h.lk⟩
theorem se_cmp {op : CmpOp} {r : R2} {o : D → D → Option Hd} (hr : OpL C.K r o) (ho : OpR X (compareOp op) r) (la : SE X C a ta fa) (lb : SE X C b tb fb) (hm : behindInMarks op b = false := by first | exact nomark _ | rfl) : SE X C (.Compare a [op] [b] pos) (tOp r ta tb) (eBin o fa fb) :=
  ⟨pe_cmpR ho la.pe lb.pe hm, lk_op hr la.lk lb.lk⟩
theorem st_cmp {op : CmpOp} {r : R2} {o : D → D → Option Hd} (hr : OpL C.K r o) (ho : OpR X (compareOp op) r) (la : SE X C a ta fa) (lb : SE X C b tb fb) (hm : behindInMarks op b = false := by first | exact nomark _ | rfl) : ST X C (.Compare a [op] [b] pos) (tTest (tOp r ta tb)) (eB (eBin o fa fb)) :=
  ⟨pt_cmpR ho la.pe lb.pe hm, lk_B (lk_op hr la.lk lb.lk)⟩
/-- a test, then what follows -/
theorem LkT.bind {t : TT} {f : EF} (l : LkT C t f) {ρ : Rho} {σ : St} {B H : Hp} (S : Sim C.K ρ σ B H) {Q' : Bool → Hp → Prop}
    (hx : ∀ x ρ1, f ρ = .exc x ρ1 → ∀ cls dct B' H', Sim C.K ρ1 σ B' H' → Ext ρ σ B H ρ1 σ B' H' → XcOk C B' x cls dct → C.W cls dct σ H')
    (h : ∀ b ρ1, f ρ = .ok (.sh (.bool b)) ρ1 → ∀ B1 H1, Sim C.K ρ1 σ B1 H1 → Ext ρ σ B H ρ1 σ B1 H1 → Q' b H1) (hs : (∃ b ρ1, f ρ = .ok (.sh (.bool b)) ρ1) ∨ ∃ x ρ1, f ρ = .exc x ρ1) : t σ H Q' := by
  refine l ρ σ B H Q' S ?_
  rcases hs with ⟨b, ρ1, e⟩ | ⟨x, ρ1, e⟩
  · rw [e]; exact h b ρ1 e
  · rw [e]; exact hx x ρ1 e
def bindB (r : RE) (k : Bool → Rho → RE) : RE := match r with
  | .ok (.sh (.bool b)) ρ => k b ρ
  | .exc x ρ => .exc x ρ
  | _ => .stuck
theorem LkT.bindE {t : TT} {f : EF} (l : LkT C t f) {ρ : Rho} {σ : St} {B H : Hp} (S : Sim C.K ρ σ B H) {Q : VK} {k : Bool → Rho → RE} {Q' : Bool → Hp → Prop} (g : GoodE C ρ σ B H Q (bindB (f ρ) k))
    (h : ∀ b ρ1 B1 H1, Sim C.K ρ1 σ B1 H1 → Ext ρ σ B H ρ1 σ B1 H1 → GoodE C ρ1 σ B1 H1 Q (k b ρ1) → Q' b H1) : t σ H Q' := by
  refine l ρ σ B H Q' S ?_
  cases e : f ρ with
  | stuck => rw [e] at g; exact g
  | exc x ρ1 => rw [e] at g; exact g
  | ok hd ρ1 =>
    rw [e] at g
    cases hd with
    | sh d =>
      cases d with
      | bool b => exact fun B1 H1 s x => h b ρ1 B1 H1 s x (GoodE.ext x g)
      | _ => exact g
    | _ => exact g
theorem LkT.bindT {t : TT} {f : EF} (l : LkT C t f) {ρ : Rho} {σ : St} {B H : Hp} (S : Sim C.K ρ σ B H) {Q : Bool → Hp → Prop} {k : Bool → Rho → RE} {Q' : Bool → Hp → Prop} (g : GoodT C ρ σ B H Q (bindB (f ρ) k))
    (h : ∀ b ρ1 B1 H1, Sim C.K ρ1 σ B1 H1 → Ext ρ σ B H ρ1 σ B1 H1 → GoodT C ρ1 σ B1 H1 Q (k b ρ1) → Q' b H1) : t σ H Q' := by
  refine l ρ σ B H Q' S ?_
  cases e : f ρ with
  | stuck => rw [e] at g; exact g
  | exc x ρ1 => rw [e] at g; exact g
  | ok hd ρ1 =>
    rw [e] at g
    cases hd with
    | sh d =>
      cases d with
      | bool b => exact fun B1 H1 s x => h b ρ1 B1 H1 s x (GoodT.ext x g)
      | _ => exact g
    | _ => exact g
def eNot (f : EF) : EF := fun ρ => bindB (f ρ) fun b ρ1 => .ok (.sh (.bool (!b))) ρ1
def eAnd (f g : EF) : EF := fun ρ => bindB (f ρ) fun b ρ1 => if b then g ρ1 else .ok (.sh (.bool false)) ρ1
def eOr (f g : EF) : EF := fun ρ => bindB (f ρ) fun b ρ1 => if b then .ok (.sh (.bool true)) ρ1 else g ρ1
def eIf (f g h : EF) : EF := fun ρ => bindB (f ρ) fun b ρ1 => if b then g ρ1 else h ρ1
variable {t u w : TT} {f g h : EF}
theorem st_not (l : ST X C a t f) : ST X C (.UnaryOp .Not a pos) (tNot t) (eNot f) := ⟨pt_not l.pt, fun ρ σ B H Q S g => l.lk.bindT S g fun b ρ1 B1 H1 S1 e1 g1 => g1 B1 H1 S1 Ext.refl⟩
theorem sw_one {op : BoolOp} (l : ST X C a t f) : SW X C (.BoolOp op [a] pos) t f := by
  cases op
  · exact ⟨pw_and1 l.pt, l.lk⟩
  · exact ⟨pw_or1 l.pt, l.lk⟩
theorem sw_and {rest : List Expr} (l : ST X C a t f) (m : SW X C (.BoolOp .And (b :: rest) pos) u g) : SW X C (.BoolOp .And (a :: b :: rest) pos) (tAnd t u) (eAnd f g) :=
  ⟨pw_and l.pt m.pw, fun ρ σ B H Q S gd => l.lk.bindT S gd fun b ρ1 B1 H1 S1 e1 g1 => by
    cases b with
    | true => exact m.lk ρ1 σ B1 H1 Q S1 g1
    | false => exact g1 B1 H1 S1 Ext.refl⟩
theorem sw_or {rest : List Expr} (l : ST X C a t f) (m : SW X C (.BoolOp .Or (b :: rest) pos) u g) : SW X C (.BoolOp .Or (a :: b :: rest) pos) (tOr t u) (eOr f g) :=
  ⟨pw_or l.pt m.pw, fun ρ σ B H Q S gd => l.lk.bindT S gd fun b ρ1 B1 H1 S1 e1 g1 => by
    cases b with
    | false => exact m.lk ρ1 σ B1 H1 Q S1 g1
    | true => exact g1 B1 H1 S1 Ext.refl⟩
theorem se_not (l : SE X C a ta fa) : SE X C (.UnaryOp .Not a pos) (tNotV ta) (eNot (eB fa)) := ⟨pe_not l.pe, fun ρ σ B H Q S g => by
  have q : tB ta σ H fun b H1 => Q (.bl (!b)) H1 := (lk_B l.lk).bindE S g fun b ρ1 B1 H1 S1 e1 g1 => g1 (.bl (!b)) B1 H1 S1 Ext.refl (.bl _)
  exact q⟩
theorem se_one {op : BoolOp} (l : SE X C a ta fa) : SE X C (.BoolOp op [a] pos) ta fa := ⟨pe_one l.pe, l.lk⟩
theorem se_and {rest : List Expr} (l : SE X C a ta fa) (m : SE X C (.BoolOp .And (b :: rest) pos) tb fb) : SE X C (.BoolOp .And (a :: b :: rest) pos) (tAndV ta tb) (eAnd (eB fa) fb) := ⟨pe_and l.pe m.pe, fun ρ σ B H Q S g => by
  have q : tB ta σ H fun b H1 => if b = true then tb σ H1 Q else Q (.bl false) H1 := (lk_B l.lk).bindE S g fun b ρ1 B1 H1 S1 e1 g1 => by
    cases b with
    | true => exact m.lk ρ1 σ B1 H1 Q S1 g1
    | false => exact g1 (.bl false) B1 H1 S1 Ext.refl (.bl _)
  exact q⟩
theorem se_or {rest : List Expr} (l : SE X C a ta fa) (m : SE X C (.BoolOp .Or (b :: rest) pos) tb fb) : SE X C (.BoolOp .Or (a :: b :: rest) pos) (tOrV ta tb) (eOr (eB fa) fb) := ⟨pe_or l.pe m.pe, fun ρ σ B H Q S g => by
  have q : tB ta σ H fun b H1 => if b = true then Q (.bl true) H1 else tb σ H1 Q := (lk_B l.lk).bindE S g fun b ρ1 B1 H1 S1 e1 g1 => by
    cases b with
    | false => exact m.lk ρ1 σ B1 H1 Q S1 g1
    | true => exact g1 (.bl true) B1 H1 S1 Ext.refl (.bl _)
  exact q⟩
theorem se_if (l : ST X C c t f) (la : SE X C a ta fa) (lb : SE X C b tb fb) : SE X C (.IfExp c a b pos) (tIf t ta tb) (eIf f fa fb) := ⟨pe_ifExp l.pt la.pe lb.pe, fun ρ σ B H Q S g => l.lk.bindE S g fun b ρ1 B1 H1 S1 e1 g1 => by
  cases b with
  | true => exact la.lk ρ1 σ B1 H1 Q S1 g1
  | false => exact lb.lk ρ1 σ B1 H1 Q S1 g1⟩
/-! a chain a op b op' c -/
def eChain (o o' : D → D → Option Hd) (fa fb fc : EF) : EF := fun ρ => bindE (eSet fa ρ) fun ha ρ1 => bindE (eSet fb ρ1) fun hb ρ2 => match getH ρ2 ha, getH ρ2 hb with
  | some da, some db => match o da db with
    | some (.sh (.bool b)) => if b then bindE (eSet fc ρ2) (fun hc ρ3 => match getH ρ3 hb, getH ρ3 hc with
      | some db', some dc => match o' db' dc with
        | some h => .ok h ρ3
        | none => .stuck
      | _, _ => .stuck) else .ok (.sh (.bool false)) ρ2
    | _ => .stuck
  | _, _ => .stuck
theorem lk_chain {r r' : R2} {o o' : D → D → Option Hd} (hr : OpL C.K r o) (hr' : OpL C.K r' o') (la : LkE C ta fa) (lb : LkE C tb fb) (lc : LkE C tc fc) : LkE C (tChain r r' ta tb tc) (eChain o o' fa fb fc) := fun ρ σ B H Q S g => by
  refine la.setBind S g fun ha ρ1 x B1 H1 S1 e1 y1 g1 => ?_
  refine lb.setBind S1 g1 fun hb ρ2 y B2 H2 S2 e2 y2 g2 => ?_
  split at g2
  · rename_i da db ea eb
    split at g2
    · rename_i b eh
      refine hr ρ2 σ B2 H2 x y da db _ _ S2 (S2.tp (N := fun _ => True) (HdOk.ext e2 y1) ea) (S2.tp y2 eb) eh fun v B3 H3 S3 e3 y3 => ?_
      cases (show Rp C.K B3 v (.bool b) from y3)
      refine ⟨b, rfl, ?_⟩
      cases b with
      | true =>
        rw [if_pos rfl] at g2 ⊢
        refine lc.setBind S3 (GoodE.ext e3 g2) fun hc ρ4 z B4 H4 S4 e4 y4 g4 => ?_
        split at g4
        · rename_i db' dc eb' ec
          split at g4
          · rename_i h eh'
            exact hr' ρ4 σ B4 H4 y z db' dc h Q S4 (S4.tp (N := fun _ => True) (HdOk.ext (e3.trans e4) y2) eb') (S4.tp y4 ec) eh' g4
          · exact g4.elim
        · exact g4.elim
      | false =>
        rw [if_neg Bool.false_ne_true] at g2 ⊢
        exact g2 (.bl false) B3 H3 S3 e3 (.bl _)
    · exact g2.elim
  · exact g2.elim
theorem se_chain {op op' : CmpOp} {r r' : R2} {o o' : D → D → Option Hd} (hr : OpL C.K r o) (ho : OpR X (compareOp op) r) (hr' : OpL C.K r' o') (ho' : OpR X (compareOp op') r') (la : SE X C a ta fa) (lb : SE X C b tb fb) (lc : SE X C c tc fc)
    (hm : lastMarks [op, op'] [b, c] = false := by with_unfolding_all rfl) : SE X C (.Compare a [op, op'] [b, c] pos) (tChain r r' ta tb tc) (eChain o o' fa fb fc) := ⟨pe_chain ho ho' la.pe lb.pe lc.pe hm, lk_chain hr hr' la.lk lb.lk lc.lk⟩
theorem st_chain {op op' : CmpOp} {r r' : R2} {o o' : D → D → Option Hd} (hr : OpL C.K r o) (ho : OpR X (compareOp op) r) (hr' : OpL C.K r' o') (ho' : OpR X (compareOp op') r') (la : SE X C a ta fa) (lb : SE X C b tb fb) (lc : SE X C c tc fc)
    (hm : lastMarks [op, op'] [b, c] = false := by with_unfolding_all rfl) : ST X C (.Compare a [op, op'] [b, c] pos) (tTest (tChain r r' ta tb tc)) (eB (eChain o o' fa fb fc)) := ⟨pt_chain ho ho' la.pe lb.pe lc.pe hm, lk_B (lk_chain hr hr' la.lk lb.lk lc.lk)⟩
end
end GS

/-! ### names, constants, displays, calls of built-ins -/
namespace GS
open PySem L2
section
variable {X : Cx} {C : Ct} {e : Expr} {es : List Expr} {te : TE} {fe : EF} {pos : Pos}
/-- a name, looked at -/
def eVb (i : Nat) : EF := fun ρ => match slot ρ i with
  | some _ => .ok (.bw i) ρ
  | none => .stuck
/-- a name whose datum is shared from here on -/
def eMv (i : Nat) : EF := fun ρ => match slot ρ i with
  | some ⟨d, .sh⟩ => .ok (.sh d) ρ
  | some ⟨d, .ow⟩ => .ok (.sh d) (ρ.set i (some ⟨d, .sh⟩))
  | _ => .stuck
/-- a name that gives its datum away -/
def eGv (i : Nat) : EF := fun ρ => match slot ρ i with
  | some ⟨d, .ow⟩ => .ok (.fr d) (ρ.set i none)
  | _ => .stuck
def eC (d : D) : EF := fun ρ => .ok (.sh d) ρ
theorem lk_vb {i : Nat} : LkE C (tVar i) (eVb i) := fun ρ σ B H Q S g => by
  unfold eVb at g
  cases h : slot ρ i with
  | none => rw [h] at g; exact g.elim
  | some c =>
    rw [h] at g
    obtain ⟨v, e, q⟩ := S.sl i c (slot_some h)
    exact ⟨v, e, g v B H S Ext.refl e⟩
theorem set_get {ρ : Rho} {i j : Nat} {c : Option Cel} {x : Option Cel} (h : (ρ.set i c)[j]? = some x) : (i = j ∧ x = c) ∨ (i ≠ j ∧ ρ[j]? = some x) := by
  rw [List.getElem?_set] at h
  by_cases e : i = j
  · rw [if_pos e] at h
    split at h
    · cases h; exact .inl ⟨e, rfl⟩
    · cases h
  · rw [if_neg e] at h
    exact .inr ⟨e, h⟩
theorem set_at {ρ : Rho} {i : Nat} {c : Option Cel} (h : i < ρ.length) : (ρ.set i c)[i]? = some c := by
  rw [List.getElem?_set, if_pos rfl, if_pos h]
theorem set_other {ρ : Rho} {i j : Nat} {c : Option Cel} (h : i ≠ j) : (ρ.set i c)[j]? = ρ[j]? := by
  rw [List.getElem?_set, if_neg h]
theorem lt_of {ρ : Rho} {i : Nat} {x : Option Cel} (h : ρ[i]? = some x) : i < ρ.length := (List.getElem?_eq_some_iff.mp h).1
/-- an owned slot is given up: the datum is shared from here on -/
theorem Sim.freeze {K : PySem.W.Frag} {ρ : Rho} {σ : St} {B H : Hp} (S : Sim K ρ σ B H) {i : Nat} {d : D} (hi : ρ[i]? = some (some ⟨d, .ow⟩)) :
    ∃ v B1, σ[i]? = some (some v) ∧ Sim K (ρ.set i (some ⟨d, .sh⟩)) σ B1 H ∧ Ext ρ σ B H (ρ.set i (some ⟨d, .sh⟩)) σ B1 H ∧ Rp K B1 v d := by
  obtain ⟨v, e, q⟩ := S.sl i _ hi
  rcases q with ⟨q, _⟩ | ⟨_, a, rfl, hb, ho⟩
  · cases q
  obtain ⟨o, eo⟩ := ho.some
  have own : OwnA ρ σ a := ⟨i, _, hi, by simp, e⟩
  have sB : Same B (upd B a o) := fun b u e => by rw [upd_ne (ne_of_none e hb)]; exact e
  have rp : Rp K (upd B a o) (.ref a) d := by
    rw [eo] at ho
    have ho := ho.mono sB
    cases d with
    | list ds =>
      obtain ⟨vs, e1, e2⟩ := ho
      cases e1
      exact .lst (.inl (.inl upd_same)) e2
    | dict ps =>
      obtain ⟨vs, e1, e2⟩ := ho
      cases e1
      exact .dct upd_same e2
    | _ => exact ho.elim
  refine ⟨.ref a, upd B a o, e, ⟨fun b u z => ?_, by rw [List.length_set]; exact S.len, fun j c hj => ?_, fun j k cj ck b hj hk nj nk ej ek => ?_⟩, ⟨sB, fun b u z => ?_, fun b u z _ => z, fun b z => ?_, fun j c hj hc => ?_, fun j c hj hc => ?_⟩, rp⟩
  · by_cases h : b = a
    · subst h; rw [upd_same] at z; cases z; exact eo
    · rw [upd_ne h] at z; exact S.bh _ _ z
  · rcases set_get hj with ⟨rfl, ec⟩ | ⟨ne, hj⟩
    · cases ec
      exact ⟨.ref a, e, .inl ⟨rfl, rp⟩⟩
    · obtain ⟨v, ev, q⟩ := S.sl j c hj
      refine ⟨v, ev, q.mono sB fun b hv hb' ho' hf => ⟨?_, rfl⟩⟩
      have nb : b ≠ a := fun z => by
        subst z hv
        exact ne (S.dj i j _ c b hi hj (by simp) hf e ev)
      rw [upd_ne nb]; exact hb'
  · rcases set_get hj with ⟨rfl, ec⟩ | ⟨_, hj⟩
    · cases ec; exact absurd rfl nj
    · rcases set_get hk with ⟨rfl, ec⟩ | ⟨_, hk⟩
      · cases ec; exact absurd rfl nk
      · exact S.dj j k cj ck b hj hk nj nk ej ek
  · by_cases h : b = a
    · subst h; exact .inr (.inr own)
    · rw [upd_ne h] at z; exact .inl z
  · obtain ⟨j, c, hj, hc, ej⟩ := z
    rcases set_get hj with ⟨rfl, ec⟩ | ⟨_, hj⟩
    · cases ec; exact absurd rfl hc
    · exact .inr ⟨j, c, hj, hc, ej⟩
  · have ne : i ≠ j := fun z => by
      subst z
      rw [hi] at hj
      cases hj
      cases hc
    exact ⟨rfl, c, by rw [set_other ne]; exact hj, hc⟩
  · rcases set_get hj with ⟨rfl, ec⟩ | ⟨_, hj⟩
    · cases ec; cases hc
    · exact ⟨c, hj, hc⟩
/-- .. it is nobody's from here on -/
theorem Sim.give {K : PySem.W.Frag} {ρ : Rho} {σ : St} {B H : Hp} (S : Sim K ρ σ B H) {i : Nat} {d : D} (hi : ρ[i]? = some (some ⟨d, .ow⟩)) :
    ∃ a, σ[i]? = some (some (.ref a)) ∧ Sim K (ρ.set i none) σ B H ∧ Ext ρ σ B H (ρ.set i none) σ B H ∧ HdOk K (New ρ σ H) (ρ.set i none) σ B H (.ref a) (.fr d) := by
  obtain ⟨v, e, q⟩ := S.sl i _ hi
  rcases q with ⟨q, _⟩ | ⟨_, a, rfl, hb, ho⟩
  · cases q
  have own : OwnA ρ σ a := ⟨i, _, hi, by simp, e⟩
  refine ⟨a, e, ⟨S.bh, by rw [List.length_set]; exact S.len, fun j c hj => ?_, fun j k cj ck b hj hk nj nk ej ek => ?_⟩, ⟨Same.refl B, fun b u z => .inl z, fun b u z _ => z, fun b z => ?_, fun j c hj hc => ?_, fun j c hj hc => ?_⟩, a, rfl, hb, ho, fun z => ?_, .inr own⟩
  · rcases set_get hj with ⟨rfl, ec⟩ | ⟨ne, hj⟩
    · cases ec
    · exact S.sl j c hj
  · rcases set_get hj with ⟨rfl, ec⟩ | ⟨_, hj⟩
    · cases ec
    · rcases set_get hk with ⟨rfl, ec⟩ | ⟨_, hk⟩
      · cases ec
      · exact S.dj j k cj ck b hj hk nj nk ej ek
  · obtain ⟨j, c, hj, hc, ej⟩ := z
    rcases set_get hj with ⟨rfl, ec⟩ | ⟨_, hj⟩
    · cases ec
    · exact .inr ⟨j, c, hj, hc, ej⟩
  · have ne : i ≠ j := fun z => by
      subst z
      rw [hi] at hj
      cases hj
      cases hc
    exact ⟨rfl, c, by rw [set_other ne]; exact hj, hc⟩
  · rcases set_get hj with ⟨rfl, ec⟩ | ⟨_, hj⟩
    · cases ec
    · exact ⟨c, hj, hc⟩
  · obtain ⟨j, c, hj, hc, ej⟩ := z
    rcases set_get hj with ⟨rfl, ec⟩ | ⟨ne, hj⟩
    · cases ec
    · exact ne (S.dj i j _ c a hi hj (by simp) hc e ej)
theorem lk_mv {i : Nat} : LkE C (tVar i) (eMv i) := fun ρ σ B H Q S g => by
  unfold eMv at g
  cases h : slot ρ i with
  | none => rw [h] at g; exact g.elim
  | some c =>
    rw [h] at g
    obtain ⟨d, fl⟩ := c
    have hi := slot_some h
    cases fl with
    | sh =>
      obtain ⟨v, e, q⟩ := S.sl i _ hi
      rcases q with ⟨_, q⟩ | ⟨q, _⟩
      · exact ⟨v, e, g v B H S Ext.refl q⟩
      · exact absurd rfl q
    | ow =>
      obtain ⟨v, B1, e, S1, x1, r⟩ := S.freeze hi
      exact ⟨v, e, g v B1 H S1 x1 r⟩
    | io => exact g.elim
theorem lk_gv {i : Nat} : LkE C (tVar i) (eGv i) := fun ρ σ B H Q S g => by
  unfold eGv at g
  cases h : slot ρ i with
  | none => rw [h] at g; exact g.elim
  | some c =>
    rw [h] at g
    obtain ⟨d, fl⟩ := c
    have hi := slot_some h
    cases fl with
    | sh => exact g.elim
    | ow =>
      obtain ⟨a, e, S1, x1, r⟩ := S.give hi
      exact ⟨.ref a, e, g _ B H S1 x1 r⟩
    | io => exact g.elim
theorem se_vb (i : Nat) {x : Str} (hN : X.N[i]? = some x := by rfl) (hv : Vis X.env.scope x := by first | exact Or.inl rfl | exact Or.inr (Or.inl rfl) | exact Or.inr (Or.inr rfl)) (hd : (x == ("__debug__" : Str)) = false := by decide)
    (hcd : (x == ("__classdict__" : Str)) = false := by decide) : SE X C (.Name x pos) (tVar i) (eVb i) := ⟨pe_var hN hv hd hcd, lk_vb⟩
theorem se_mv (i : Nat) {x : Str} (hN : X.N[i]? = some x := by rfl) (hv : Vis X.env.scope x := by first | exact Or.inl rfl | exact Or.inr (Or.inl rfl) | exact Or.inr (Or.inr rfl)) (hd : (x == ("__debug__" : Str)) = false := by decide)
    (hcd : (x == ("__classdict__" : Str)) = false := by decide) : SE X C (.Name x pos) (tVar i) (eMv i) := ⟨pe_var hN hv hd hcd, lk_mv⟩
theorem se_gv (i : Nat) {x : Str} (hN : X.N[i]? = some x := by rfl) (hv : Vis X.env.scope x := by first | exact Or.inl rfl | exact Or.inr (Or.inl rfl) | exact Or.inr (Or.inr rfl)) (hd : (x == ("__debug__" : Str)) = false := by decide)
    (hcd : (x == ("__classdict__" : Str)) = false := by decide) : SE X C (.Name x pos) (tVar i) (eGv i) := ⟨pe_var hN hv hd hcd, lk_gv⟩
theorem lk_c {v : V} {d : D} (h : ∀ B, Rp C.K B v d) : LkE C (tC v) (eC d) := fun ρ σ B H Q S g => g v B H S Ext.refl (h B)
theorem se_int {i : Int} {j : Nat} : SE X C (.Constant (.int i) j pos) (tC (.int i)) (eC (.int i)) := ⟨pe_int, lk_c fun _ => .int i⟩
theorem se_str {i : Str} {j : Nat} : SE X C (.Constant (.str i) j pos) (tC (.str i)) (eC (.str i)) := ⟨pe_str, lk_c fun _ => .str i⟩
theorem se_bl {i : Bool} {j : Nat} : SE X C (.Constant (.bool i) j pos) (tC (.bl i)) (eC (.bool i)) := ⟨pe_bl, lk_c fun _ => .bl i⟩
theorem se_non {j : Nat} : SE X C (.Constant .none j pos) (tC .non) (eC .none) := ⟨pe_non, lk_c fun _ => .non⟩
/-- a module's constant -/
theorem se_glob {x : Str} {v : V} {u : Value} {d : D} (hm : X.mg x = some u) (r : RelV v u) (h : ∀ B, Rp C.K B v d) (hg : Gl X x := by rfl) (hd : (x == ("__debug__" : Str)) = false := by decide) : SE X C (.Name x pos) (tC v) (eC d) := ⟨pe_glob hg hm r hd, lk_c h⟩
def eNeg (f : EF) : EF := fun ρ => bindE (eSet f ρ) fun h ρ1 => match getH ρ1 h with
  | some (.int i) => .ok (.sh (.int (-i))) ρ1
  | _ => .stuck
theorem se_neg (l : SE X C e te fe) : SE X C (.UnaryOp .USub e pos) (tUn (rU fun i => .int (-i)) te) (eNeg fe) := ⟨pe_un un_neg l.pe, fun ρ σ B H Q S g => by
  refine l.lk.setBind S g fun hd ρ1 x B1 H1 S1 e1 y1 g1 => ?_
  split at g1
  · rename_i i ei
    exact ⟨i, (S1.tp y1 ei).int, g1 _ B1 H1 S1 Ext.refl (.int _)⟩
  · exact g1.elim⟩
/-! arguments -/
inductive RA where | stuck | ok (hs : List Hd) (ρ : Rho) | exc (x : Xc) (ρ : Rho)
abbrev AF := Rho → RA
def HsOk (K : PySem.W.Frag) (σ : St) (B : Hp) (v : V) : Hd → Prop
  | .sh d => Rp K B v d
  | .fr _ => False
  | .bw i => σ[i]? = some (some v)
inductive HdL (K : PySem.W.Frag) (σ : St) (B : Hp) : List V → List Hd → Prop
  | nil : HdL K σ B [] []
  | cons {v : V} {vs : List V} {h : Hd} {hs : List Hd} : HsOk K σ B v h → HdL K σ B vs hs → HdL K σ B (v :: vs) (h :: hs)
theorem HsOk.mono {K : PySem.W.Frag} {σ : St} {B B1 : Hp} (e : Same B B1) {v : V} : ∀ {h : Hd}, HsOk K σ B v h → HsOk K σ B1 v h
  | .sh _, q => Rp.mono e q
  | .fr _, q => q
  | .bw _, q => q
theorem HdL.mono {K : PySem.W.Frag} {σ : St} {B B1 : Hp} (e : Same B B1) : ∀ {vs : List V} {hs : List Hd}, HdL K σ B vs hs → HdL K σ B1 vs hs
  | _, _, .nil => .nil
  | _, _, .cons h t => .cons (h.mono e) (HdL.mono e t)
theorem HdL.length {K : PySem.W.Frag} {σ : St} {B : Hp} : ∀ {vs : List V} {hs : List Hd}, HdL K σ B vs hs → vs.length = hs.length
  | _, _, .nil => rfl
  | _, _, .cons h t => by rw [List.length_cons, List.length_cons, HdL.length t]
def GoodA (C : Ct) (ρ : Rho) (σ : St) (B H : Hp) (Q : List V → Hp → Prop) : RA → Prop
  | .stuck => False
  | .ok hs ρ' => ∀ vs B' H', Sim C.K ρ' σ B' H' → Ext ρ σ B H ρ' σ B' H' → HdL C.K σ B' vs hs → Q vs H'
  | .exc x ρ' => ∀ cls dct B' H', Sim C.K ρ' σ B' H' → Ext ρ σ B H ρ' σ B' H' → XcOk C B' x cls dct → C.W cls dct σ H'
def LkA (C : Ct) (t : TA) (f : AF) : Prop := ∀ ρ σ B H Q, Sim C.K ρ σ B H → GoodA C ρ σ B H Q (f ρ) → t σ H Q
structure SA (X : Cx) (C : Ct) (es : List Expr) (t : TA) (f : AF) : Prop where
  pa : PA X es t
  lk : LkA C t f
def aNil : AF := fun ρ => .ok [] ρ
def aCons (f : EF) (g : AF) : AF := fun ρ => match eSet f ρ with
  | .stuck => .stuck
  | .exc x ρ1 => .exc x ρ1
  | .ok h ρ1 => match g ρ1 with
    | .stuck => .stuck
    | .exc x ρ2 => .exc x ρ2
    | .ok hs ρ2 => .ok (h :: hs) ρ2
theorem GoodA.ext {ρ ρ1 : Rho} {σ : St} {B H B1 H1 : Hp} {Q : List V → Hp → Prop} (x : Ext ρ σ B H ρ1 σ B1 H1) : ∀ {r : RA}, GoodA C ρ σ B H Q r → GoodA C ρ1 σ B1 H1 Q r
  | .stuck, g => g
  | .ok _ _, g => fun vs B' H' s y z => g vs B' H' s (x.trans y) z
  | .exc _ _, g => fun c d B' H' s y z => g c d B' H' s (x.trans y) z
theorem hs_of {K : PySem.W.Frag} {N : Addr → Prop} {ρ : Rho} {σ : St} {B H : Hp} {v : V} {h : Hd} (y : HdOk K N ρ σ B H v (setl h)) : HsOk K σ B v (setl h) := by
  cases h <;> exact y
theorem sa_nil : SA X C [] tNil aNil := ⟨pa_nil, fun ρ σ B H Q S g => g [] B H S Ext.refl .nil⟩
theorem sa_cons {t : TA} {g : AF} (l : SE X C e te fe) (m : SA X C es t g) (hs : starEach (e :: es) X.env = (false, eval e X.env) :: starEach es X.env := by rfl) : SA X C (e :: es) (tCons te t) (aCons fe g) := ⟨pa_cons l.pe m.pa hs, fun ρ σ B H Q S gd => by
  refine l.lk.set ρ σ B H _ S ?_
  unfold aCons at gd
  cases e : eSet fe ρ with
  | stuck => rw [e] at gd; exact gd
  | exc x ρ1 => rw [e] at gd; exact gd
  | ok h ρ1 =>
    rw [e] at gd
    intro v B1 H1 S1 x1 y1
    have y2 : HsOk C.K σ B1 v h := by
      unfold eSet bindE at e
      split at e
      · cases e
      · rename_i h' ρ' e'
        cases e
        exact hs_of y1
      · cases e
    refine m.lk ρ1 σ B1 H1 _ S1 ?_
    cases e2 : g ρ1 with
    | stuck => simp only [e2] at gd; exact gd
    | exc x ρ2 => simp only [e2] at gd; exact GoodA.ext x1 (r := .exc x ρ2) gd
    | ok hs ρ2 =>
      simp only [e2] at gd
      exact fun vs B2 H2 S2 x2 y3 => gd (v :: vs) B2 H2 S2 (x1.trans x2) (.cons (y2.mono x2.bb) y3)⟩
def bindA (r : RA) (k : List Hd → Rho → RE) : RE := match r with
  | .stuck => .stuck
  | .ok hs ρ => k hs ρ
  | .exc x ρ => .exc x ρ
theorem LkA.bind {t : TA} {f : AF} (l : LkA C t f) {ρ : Rho} {σ : St} {B H : Hp} (S : Sim C.K ρ σ B H) {Q : VK} {k : List Hd → Rho → RE} {Q' : List V → Hp → Prop} (g : GoodE C ρ σ B H Q (bindA (f ρ) k))
    (h : ∀ hs ρ1 vs B1 H1, Sim C.K ρ1 σ B1 H1 → Ext ρ σ B H ρ1 σ B1 H1 → HdL C.K σ B1 vs hs → GoodE C ρ1 σ B1 H1 Q (k hs ρ1) → Q' vs H1) : t σ H Q' := by
  refine l ρ σ B H Q' S ?_
  cases e : f ρ with
  | stuck => rw [e] at g; exact g
  | exc x ρ1 => rw [e] at g; exact g
  | ok hs ρ1 =>
    rw [e] at g
    exact fun vs B1 H1 s x y => h hs ρ1 vs B1 H1 s x y (GoodE.ext x g)
/-- all are data of their own -/
def shs : List Hd → Option (List D)
  | [] => some []
  | .sh d :: hs => (shs hs).map (d :: ·)
  | _ :: _ => none
theorem shs_ok {K : PySem.W.Frag} {σ : St} {B : Hp} : ∀ {vs : List V} {hs : List Hd} {ds : List D}, HdL K σ B vs hs → shs hs = some ds → RpL K B vs ds
  | _, _, _, .nil, e => by cases e; exact .nil
  | _, .sh d :: hs, _, .cons h t, e => by
    obtain ⟨r, er, rfl⟩ := Option.map_eq_some_iff.mp (show (shs hs).map (d :: ·) = some _ from e)
    exact .cons h (shs_ok t er)
/-- what they are, looked at -/
def gets (ρ : Rho) : List Hd → Option (List D)
  | [] => some []
  | h :: hs => match getH ρ h, gets ρ hs with
    | some d, some ds => some (d :: ds)
    | _, _ => none
inductive TpL (K : PySem.W.Frag) (B H : Hp) : List V → List D → Prop
  | nil : TpL K B H [] []
  | cons {v : V} {vs : List V} {d : D} {ds : List D} : Tp K B H v d → TpL K B H vs ds → TpL K B H (v :: vs) (d :: ds)
theorem hd_hs {K : PySem.W.Frag} {N : Addr → Prop} {ρ : Rho} {σ : St} {B H : Hp} {v : V} : ∀ {h : Hd}, HsOk K σ B v h → HdOk K N ρ σ B H v h
  | .sh _, q => q
  | .bw _, q => q
theorem gets_ok {ρ : Rho} {σ : St} {B H : Hp} (S : Sim C.K ρ σ B H) : ∀ {vs : List V} {hs : List Hd} {ds : List D}, HdL C.K σ B vs hs → gets ρ hs = some ds → TpL C.K B H vs ds
  | _, _, _, .nil, e => by cases e; exact .nil
  | _, h :: hs, _, .cons y t, e => by
    unfold gets at e
    split at e
    · rename_i d ds e1 e2
      cases e
      exact .cons (S.tp (N := fun _ => True) (hd_hs y) e1) (gets_ok S t e2)
    · cases e
/-! displays -/
def eTup (f : AF) : EF := fun ρ => bindA (f ρ) fun hs ρ1 => match shs hs with
  | some ds => if ds.length ≤ 1000 then .ok (.sh (.tuple ds)) ρ1 else .stuck
  | none => .stuck
def eLst (f : AF) : EF := fun ρ => bindA (f ρ) fun hs ρ1 => match shs hs with
  | some ds => if ds.length ≤ 1000 then .ok (.fr (.list ds)) ρ1 else .stuck
  | none => .stuck
theorem small {n : Nat} (h : n ≤ 1000) : n ≤ sizeLine := Nat.le_of_lt (small1000 h)
theorem se_tup {t : TA} {f : AF} {k : Nat} (l : SA X C es t f) : SE X C (.Tuple es k pos) (tTup t) (eTup f) := ⟨pe_tup l.pa, fun ρ σ B H Q S g => by
  refine l.lk.bind S g fun hs ρ1 vs B1 H1 S1 x1 y1 g1 => ?_
  split at g1
  · rename_i ds e
    split at g1
    · have r := shs_ok y1 e
      exact ⟨by rw [r.length]; exact small (by assumption), newT S1 r g1⟩
    · exact g1.elim
  · exact g1.elim⟩
theorem se_lst {t : TA} {f : AF} (l : SA X C es t f) : SE X C (.List es pos) (tLst t) (eLst f) := ⟨pe_lst l.pa, fun ρ σ B H Q S g => by
  refine l.lk.bind S g fun hs ρ1 vs B1 H1 S1 x1 y1 g1 => ?_
  split at g1
  · rename_i ds e
    split at g1
    · have r := shs_ok y1 e
      exact ⟨by rw [r.length]; exact small (by assumption), newL S1 r g1⟩
    · exact g1.elim
  · exact g1.elim⟩
/-! built-ins -/
def CalL (K : PySem.W.Frag) (r : List V → Hp → VK → Prop) (o : List D → Option Hd) : Prop := ∀ ρ σ B H xs ds h Q, Sim K ρ σ B H → TpL K B H xs ds → o ds = some h →
  (∀ v B' H', Sim K ρ σ B' H' → Ext ρ σ B H ρ σ B' H' → HdOk K (New ρ σ H) ρ σ B' H' v h → Q v H') → r xs H Q
def eCB (o : List D → Option Hd) (f : AF) : EF := fun ρ => bindA (f ρ) fun hs ρ1 => match (gets ρ1 hs).bind o with
  | some h => .ok h ρ1
  | none => .stuck
theorem lk_cb {t : TA} {f : AF} {r : List V → Hp → VK → Prop} {o : List D → Option Hd} (hr : CalL C.K r o) (l : LkA C t f) : LkE C (tCB r t) (eCB o f) := fun ρ σ B H Q S g => by
  refine l.bind S g fun hs ρ1 vs B1 H1 S1 x1 y1 g1 => ?_
  split at g1
  · rename_i h e
    obtain ⟨ds, e1, e2⟩ := Option.bind_eq_some_iff.mp e
    exact hr ρ1 σ B1 H1 vs ds h Q S1 (gets_ok S1 y1 e1) e2 g1
  · exact g1.elim
theorem se_cb {x : Str} {id : String} {p : Pos} {t : TA} {f : AF} {r : List V → Hp → VK → Prop} {o : List D → Option Hd} (hr : CalL C.K r o) (hc : CallR X (.builtin id) r) (hm : X.mg x = none) (l : SA X C (e :: es) t f) (hv : bootBuiltins x = some (.builtin id) := by decide +kernel) (hg : Gl X x := by rfl)
    (hn : x ≠ "__name__" := by decide) (hdb : (x == ("__debug__" : Str)) = false := by decide) (he : starEach (e :: es) X.env = (false, eval e X.env) :: starEach es X.env := by rfl) (hpl : (backTo pos (starEach es X.env)).any (·.1) = false := by rfl) :
    SE X C (.Call (.Name x p) (e :: es) [] pos) (tCB r t) (eCB o f) := ⟨pe_callB hc hg hm hv l.pa hn hdb he hpl, lk_cb hr l.lk⟩
theorem se_ct {x : Str} {T : String} {p : Pos} {t : TA} {f : AF} {r : List V → Hp → VK → Prop} {o : List D → Option Hd} (hr : CalL C.K r o) (hc : CallR X (.type T) r) (hm : X.mg x = none) (l : SA X C (e :: es) t f) (hv : bootBuiltins x = some (.type T) := by decide +kernel) (hg : Gl X x := by rfl)
    (hn : x ≠ "__name__" := by decide) (hdb : (x == ("__debug__" : Str)) = false := by decide) (he : starEach (e :: es) X.env = (false, eval e X.env) :: starEach es X.env := by rfl) (hpl : (backTo pos (starEach es X.env)).any (·.1) = false := by rfl) :
    SE X C (.Call (.Name x p) (e :: es) [] pos) (tCB r t) (eCB o f) := ⟨pe_callTy hc hg hm hv l.pa hn hdb he hpl, lk_cb hr l.lk⟩
end
section
variable {K : PySem.W.Frag}
/-- one argument, two -/
def un1 (o : D → Option Hd) : List D → Option Hd
  | [d] => o d
  | _ => none
def un2 (o : D → D → Option Hd) : List D → Option Hd
  | [d, e] => o d e
  | _ => none
theorem CalL.one {r : List V → Hp → VK → Prop} {o : D → Option Hd} (k : ∀ ρ σ B H x d h Q, Sim K ρ σ B H → Tp K B H x d → o d = some h →
    (∀ v B' H', Sim K ρ σ B' H' → Ext ρ σ B H ρ σ B' H' → HdOk K (New ρ σ H) ρ σ B' H' v h → Q v H') → r [x] H Q) : CalL K r (un1 o) := fun ρ σ B H xs ds h Q S y e q => by
  cases y with
  | nil => cases e
  | cons t u =>
    cases u with
    | nil => exact k ρ σ B H _ _ h Q S t e q
    | cons _ _ => cases e
theorem CalL.two {r : List V → Hp → VK → Prop} {o : D → D → Option Hd} (k : ∀ ρ σ B H x y d d' h Q, Sim K ρ σ B H → Tp K B H x d → Tp K B H y d' → o d d' = some h →
    (∀ v B' H', Sim K ρ σ B' H' → Ext ρ σ B H ρ σ B' H' → HdOk K (New ρ σ H) ρ σ B' H' v h → Q v H') → r [x, y] H Q) : CalL K r (un2 o) := fun ρ σ B H xs ds h Q S y e q => by
  cases y with
  | nil => cases e
  | cons t u =>
    cases u with
    | nil => cases e
    | cons u w =>
      cases w with
      | nil => exact k ρ σ B H _ _ _ _ h Q S t u e q
      | cons _ _ => cases e
def lenD : D → Option Hd
  | .list ds => some (.sh (.int ds.length))
  | .tuple ds => some (.sh (.int ds.length))
  | .str z => if z.length ≤ sizeLine then some (.sh (.int z.length)) else none
  | _ => none
def rLen (K : PySem.W.Frag) : List V → Hp → VK → Prop := fun xs H Q => ∃ x n, xs = [x] ∧ LenV K x H n ∧ Q (.int n) H
theorem cl_len : CalL K (rLen K) (un1 lenD) := CalL.one fun ρ σ B H x d h Q S t e k => by
  cases d with
  | list ds =>
    cases e
    obtain ⟨a, vs, rfl, ha, ra⟩ := t
    refine ⟨_, vs.length, rfl, .inl ⟨vs, ha, rfl⟩, ?_⟩
    rw [ra.length]
    exact now S (.int _) k
  | tuple ds =>
    cases e
    obtain ⟨a, vs, rfl, ha, ra⟩ := Tp.tup t
    refine ⟨_, vs.length, rfl, .inr ⟨vs, same_t S.bh ha, rfl⟩, ?_⟩
    rw [ra.length]
    exact now S (.int _) k
  | str z =>
    obtain ⟨c, rfl⟩ := if_some e
    rw [Tp.str t]
    exact ⟨_, z.length, rfl, ⟨c, rfl⟩, now S (.int _) k⟩
  | _ => cases e
def listD : D → Option Hd
  | .list ds => some (.fr (.list ds))
  | .tuple ds => some (.fr (.list ds))
  | _ => none
def rListA (K : PySem.W.Frag) : List V → Hp → VK → Prop := fun xs H Q => ∃ p ys, xs = [.ref p] ∧ (SqL K H p ys ∨ SqT K H p ys) ∧ ∀ l, H l = none → Q (.ref l) (upd H l (.lst ys))
theorem cl_list : CalL K (rListA K) (un1 listD) := CalL.one fun ρ σ B H x d h Q S t e k => by
  cases d with
  | list ds =>
    cases e
    obtain ⟨a, vs, rfl, ha, ra⟩ := t
    exact ⟨a, vs, rfl, .inl ha, newL S ra k⟩
  | tuple ds =>
    cases e
    obtain ⟨a, vs, rfl, ha, ra⟩ := Tp.tup t
    exact ⟨a, vs, rfl, .inr (same_t S.bh ha), newL S ra k⟩
  | _ => cases e
def tupleD : D → Option Hd
  | .list ds => some (.sh (.tuple ds))
  | .tuple ds => some (.sh (.tuple ds))
  | _ => none
def rTupleA (K : PySem.W.Frag) : List V → Hp → VK → Prop := fun xs H Q => ∃ p ys, xs = [.ref p] ∧ ((SqL K H p ys ∧ ∀ l, H l = none → Q (.ref l) (upd H l (.tup ys))) ∨ (SqT K H p ys ∧ Q (.ref p) H))
theorem cl_tuple : CalL K (rTupleA K) (un1 tupleD) := CalL.one fun ρ σ B H x d h Q S t e k => by
  cases d with
  | list ds =>
    cases e
    obtain ⟨a, vs, rfl, ha, ra⟩ := t
    exact ⟨a, vs, rfl, .inl ⟨ha, newT S ra k⟩⟩
  | tuple ds =>
    cases e
    obtain ⟨a, vs, rfl, ha, ra⟩ := Tp.tup t
    exact ⟨a, vs, rfl, .inr ⟨same_t S.bh ha, now S (.tup ha ra) k⟩⟩
  | _ => cases e
def maxD : D → D → Option Hd
  | .int i, .int j => some (.sh (.int (if j > i then j else i)))
  | _, _ => none
def minD : D → D → Option Hd
  | .int i, .int j => some (.sh (.int (if j < i then j else i)))
  | _, _ => none
theorem cl_max2 : CalL K (fun xs H Q => ∃ i j, xs = [.int i, .int j] ∧ Q (.int (if j > i then j else i)) H) (un2 maxD) := CalL.two fun ρ σ B H x y d d' h Q S t u e k => by
  cases d <;> cases d' <;> first | (cases (show none = some h from e); done) | skip
  cases e
  rw [Tp.int t, Tp.int u]
  exact ⟨_, _, rfl, now S (.int _) k⟩
theorem cl_min2 : CalL K (fun xs H Q => ∃ i j, xs = [.int i, .int j] ∧ Q (.int (if j < i then j else i)) H) (un2 minD) := CalL.two fun ρ σ B H x y d d' h Q S t u e k => by
  cases d <;> cases d' <;> first | (cases (show none = some h from e); done) | skip
  cases e
  rw [Tp.int t, Tp.int u]
  exact ⟨_, _, rfl, now S (.int _) k⟩
def strD : D → Option Hd
  | .int i => if i.natAbs.log2 < 1920 then some (.sh (.str (toString i))) else none
  | _ => none
theorem cl_str : CalL K (fun xs H Q => ∃ i : Int, xs = [.int i] ∧ i.natAbs.log2 < 1920 ∧ Q (.str (toString i)) H) (un1 strD) := CalL.one fun ρ σ B H x d h Q S t e k => by
  cases d with
  | int i =>
    obtain ⟨c, rfl⟩ := if_some e
    rw [Tp.int t]
    exact ⟨i, rfl, c, now S (.str _) k⟩
  | _ => cases e
/-- isinstance of a built-in type -/
def tyOf : D → String
  | .none => "NoneType"
  | .bool _ => "bool"
  | .int _ => "int"
  | .str _ => "str"
  | .list _ => "list"
  | .tuple _ => "tuple"
  | .dict _ => "dict"
theorem tyX {B H : Hp} (s : Same B H) {v : V} {d : D} (h : Tp K B H v d) : TyX K H v (.type (tyOf d)) := by
  cases d with
  | none => rw [h.non]; exact .base .non
  | bool b => rw [h.bl]; exact .base (.bl b)
  | int i => rw [h.int]; exact .base (.int i)
  | str z => rw [h.str]; exact .base (.str z)
  | list ds =>
    obtain ⟨a, vs, rfl, ha, _⟩ := h
    rcases ha with (ha | ⟨o, ha⟩) | ⟨o, its, n, e, c, _⟩
    · exact .base (.lst ha)
    · exact .base (.frz ha)
    · exact .kList e c
  | tuple ds =>
    obtain ⟨a, vs, rfl, ha, _⟩ := h.tup
    rcases same_t s ha with (ha | ⟨o, ha⟩) | ⟨o, its, n, e, c, _⟩
    · exact .base (.tup ha)
    · exact .fTuple ha
    · exact .kTuple e c
  | dict ps =>
    obtain ⟨a, vs, rfl, ha, _⟩ := h
    exact .base (.dK ha)
end
section
variable {X : Cx} {C : Ct} {e : Expr} {te : TE} {fe : EF} {pos : Pos}
def eIsi (p : D → Bool) (f : EF) : EF := fun ρ => bindE (eSet f ρ) fun h ρ1 => match getH ρ1 h with
  | some d => .ok (.sh (.bool (p d))) ρ1
  | none => .stuck
theorem lk_isi {T : String} {p : D → Bool} (hp : ∀ d, kitB (tyOf d) T = some (p d)) (l : LkE C te fe) : LkE C (tCB (rIsi C.K) (tCons te (tCons (tC (.ty T)) tNil))) (eIsi p fe) := fun ρ σ B H Q S g => by
  refine l.setBind S g fun hd ρ1 x B1 H1 S1 e1 y1 g1 => ?_
  split at g1
  · rename_i d ed
    refine ⟨x, .ty T, _, _, _, rfl,   .ty T, tyX S1.bh (S1.tp y1 ed), kit_ty (hp d), ?_⟩
    exact g1 _ B1 H1 S1 Ext.refl (.bl _)
  · exact g1.elim
theorem se_isi {x : Str} {T : String} {p : D → Bool} {q1 q2 : Pos} (hp : ∀ d, kitB (tyOf d) T = some (p d)) (hm : X.mg "isinstance" = none) (hmT : X.mg x = none) (l : SE X C e te fe) (hvT : bootBuiltins x = some (.type T) := by decide +kernel) (hk : X.K = C.K := by rfl) (hg : Gl X "isinstance" := by rfl) (hgT : Gl X x := by rfl)
    (hnT : x ≠ "__name__" := by decide) (hdT : (x == ("__debug__" : Str)) = false := by decide)
    (he : starEach (e :: [.Name x q2]) X.env = (false, eval e X.env) :: starEach [.Name x q2] X.env := by rfl) :
    SE X C (.Call (.Name "isinstance" q1) [e, .Name x q2] [] pos) (tCB (rIsi C.K) (tCons te (tCons (tC (.ty T)) tNil))) (eIsi p fe) :=
  ⟨by rw [← hk]; exact pe_callB call_isi hg hm (by decide +kernel) (pa_cons l.pe (pa_cons (pe_bltn hgT hmT hvT rfl hnT hdT) pa_nil) he) (by decide) (by decide) he, lk_isi hp l.lk⟩
def isTup : D → Bool | .tuple _ => true | _ => false
def isStr : D → Bool | .str _ => true | _ => false
def isBool : D → Bool | .bool _ => true | _ => false
def isInt : D → Bool | .int _ => true | .bool _ => true | _ => false
def isLst : D → Bool | .list _ => true | _ => false
def isDct : D → Bool | .dict _ => true | _ => false
theorem kit_tup : ∀ d, kitB (tyOf d) "tuple" = some (isTup d)
  | .none => by show kitB "NoneType" "tuple" = some false; decide +kernel
  | .tuple _ => by show kitB "tuple" "tuple" = some true; decide +kernel
  | .bool _ => by show kitB "bool" "tuple" = some false; decide +kernel
  | .int _ => by show kitB "int" "tuple" = some false; decide +kernel
  | .str _ => by show kitB "str" "tuple" = some false; decide +kernel
  | .list _ => by show kitB "list" "tuple" = some false; decide +kernel
  | .dict _ => by show kitB "dict" "tuple" = some false; decide +kernel
theorem kit_str : ∀ d, kitB (tyOf d) "str" = some (isStr d)
  | .none => by show kitB "NoneType" "str" = some false; decide +kernel
  | .tuple _ => by show kitB "tuple" "str" = some false; decide +kernel
  | .bool _ => by show kitB "bool" "str" = some false; decide +kernel
  | .int _ => by show kitB "int" "str" = some false; decide +kernel
  | .str _ => by show kitB "str" "str" = some true; decide +kernel
  | .list _ => by show kitB "list" "str" = some false; decide +kernel
  | .dict _ => by show kitB "dict" "str" = some false; decide +kernel
theorem kit_bool : ∀ d, kitB (tyOf d) "bool" = some (isBool d)
  | .none => by show kitB "NoneType" "bool" = some false; decide +kernel
  | .tuple _ => by show kitB "tuple" "bool" = some false; decide +kernel
  | .bool _ => by show kitB "bool" "bool" = some true; decide +kernel
  | .int _ => by show kitB "int" "bool" = some false; decide +kernel
  | .str _ => by show kitB "str" "bool" = some false; decide +kernel
  | .list _ => by show kitB "list" "bool" = some false; decide +kernel
  | .dict _ => by show kitB "dict" "bool" = some false; decide +kernel
theorem kit_int : ∀ d, kitB (tyOf d) "int" = some (isInt d)
  | .none => by show kitB "NoneType" "int" = some false; decide +kernel
  | .tuple _ => by show kitB "tuple" "int" = some false; decide +kernel
  | .bool _ => by show kitB "bool" "int" = some true; decide +kernel
  | .int _ => by show kitB "int" "int" = some true; decide +kernel
  | .str _ => by show kitB "str" "int" = some false; decide +kernel
  | .list _ => by show kitB "list" "int" = some false; decide +kernel
  | .dict _ => by show kitB "dict" "int" = some false; decide +kernel
theorem kit_lst : ∀ d, kitB (tyOf d) "list" = some (isLst d)
  | .none => by show kitB "NoneType" "list" = some false; decide +kernel
  | .tuple _ => by show kitB "tuple" "list" = some false; decide +kernel
  | .bool _ => by show kitB "bool" "list" = some false; decide +kernel
  | .int _ => by show kitB "int" "list" = some false; decide +kernel
  | .str _ => by show kitB "str" "list" = some false; decide +kernel
  | .list _ => by show kitB "list" "list" = some true; decide +kernel
  | .dict _ => by show kitB "dict" "list" = some false; decide +kernel
theorem kit_dct : ∀ d, kitB (tyOf d) "dict" = some (isDct d)
  | .none => by show kitB "NoneType" "dict" = some false; decide +kernel
  | .tuple _ => by show kitB "tuple" "dict" = some false; decide +kernel
  | .bool _ => by show kitB "bool" "dict" = some false; decide +kernel
  | .int _ => by show kitB "int" "dict" = some false; decide +kernel
  | .str _ => by show kitB "str" "dict" = some false; decide +kernel
  | .list _ => by show kitB "list" "dict" = some false; decide +kernel
  | .dict _ => by show kitB "dict" "dict" = some true; decide +kernel
end
end GS

/-! ### calls of the program's own defs -/
namespace GS
open PySem L2
/-- what a def does: of its parameters' cells what comes back, and the lent cell behind -/
abbrev FF := Rho → RE
def spF (K : PySem.W.Frag) (cv : Str → Value) (n : Nat) (F : FF) : Sp := fun vs H Q E => ∃ ρ B, ρ.length = n ∧ Sim K ρ (vs.map some) B H ∧
  GoodE ⟨K, cv, fun cls d _ H' => E cls d H'⟩ ρ (vs.map some) B H Q (F ρ)
def argC (ρ : Rho) (io : Bool) : Hd → Option Cel
  | .sh d => if io then none else some ⟨d, .sh⟩
  | .bw i => if io then (match slot ρ i with
    | some ⟨d, .ow⟩ => some ⟨d, .io⟩
    | some ⟨d, .io⟩ => some ⟨d, .io⟩
    | _ => none) else none
  | .fr _ => none
/-- the callee's cells; io: the place of the lent argument -/
def args (ρ : Rho) (io : Option Nat) : Nat → List Hd → Option Rho
  | _, [] => some []
  | k, h :: hs => match argC ρ (decide (io = some k)) h, args ρ io (k + 1) hs with
    | some c, some r => some (some c :: r)
    | _, _ => none
def putB (ρ : Rho) (io : Option Nat) (hs : List Hd) (outs : Rho) : Option Rho := match io with
  | none => some ρ
  | some j => match hs[j]? with
    | some (.bw i) => match slot ρ i, slot outs j with
      | some c, some c' => some (ρ.set i (some ⟨c'.d, c.fl⟩))
      | _, _ => none
    | _ => none
def eCall (n : Nat) (io : Option Nat) (F : FF) (fs : AF) : EF := fun ρ => bindA (fs ρ) fun hs ρ1 => match args ρ1 io 0 hs with
  | none => .stuck
  | some ρ0 => if ρ0.length ≠ n then .stuck else match F ρ0 with
    | .stuck => .stuck
    | .ok h outs => match h, putB ρ1 io hs outs with
      | .bw _, _ => .stuck
      | _, none => .stuck
      | _, some ρ2 => .ok h ρ2
    | .exc x outs => match putB ρ1 io hs outs with
      | none => .stuck
      | some ρ2 => .exc x ρ2
theorem argC_sh {ρ : Rho} {b : Bool} {d : D} {c : Cel} (h : argC ρ b (.sh d) = some c) : b = false ∧ c = ⟨d, .sh⟩ := by
  cases b
  · cases h; exact ⟨rfl, rfl⟩
  · cases h
theorem argC_bw {ρ : Rho} {b : Bool} {i : Nat} {c : Cel} (h : argC ρ b (.bw i) = some c) : b = true ∧ ∃ d fl, ρ[i]? = some (some ⟨d, fl⟩) ∧ fl ≠ .sh ∧ c = ⟨d, .io⟩ := by
  cases b
  · cases h
  · refine ⟨rfl, ?_⟩
    replace h : (match slot ρ i with | some ⟨d, .ow⟩ => some ⟨d, .io⟩ | some ⟨d, .io⟩ => some ⟨d, .io⟩ | _ => none) = some c := h
    split at h
    · rename_i d es
      cases h
      exact ⟨d, .ow, slot_some es, by simp, rfl⟩
    · rename_i d es
      cases h
      exact ⟨d, .io, slot_some es, by simp, rfl⟩
    · cases h
theorem args_at {ρ : Rho} {io : Option Nat} : ∀ {k : Nat} {hs : List Hd} {r : Rho}, args ρ io k hs = some r → r.length = hs.length ∧ ∀ (j : Nat) (c : Cel), r[j]? = some (some c) → ∃ h, hs[j]? = some h ∧ argC ρ (decide (io = some (k + j))) h = some c
  | _, [], _, e => by cases e; exact ⟨rfl, fun j c h => by simp at h⟩
  | k, h :: hs, r, e => by
    unfold args at e
    split at e
    · rename_i c r' e1 e2
      cases e
      obtain ⟨l, q⟩ := args_at e2
      refine ⟨by rw [List.length_cons, List.length_cons, l], fun j c' hj => ?_⟩
      cases j with
      | zero => simp at hj; subst hj; exact ⟨h, rfl, e1⟩
      | succ j =>
        obtain ⟨h', q1, q2⟩ := q j c' (by simpa using hj)
        exact ⟨h', by simpa using q1, by rw [show k + (j + 1) = k + 1 + j by omega]; exact q2⟩
    · cases e
theorem args_has {ρ : Rho} {io : Option Nat} : ∀ {k : Nat} {hs : List Hd} {r : Rho} {j : Nat} {h : Hd}, args ρ io k hs = some r → hs[j]? = some h → ∃ c, r[j]? = some (some c)
  | _, [], _, _, _, _, h => by simp at h
  | k, h :: hs, r, j, h', e, hj => by
    unfold args at e
    split at e
    · rename_i c r' e1 e2
      cases e
      cases j with
      | zero => exact ⟨c, rfl⟩
      | succ j =>
        obtain ⟨c', q⟩ := args_has (j := j) e2 (by simpa using hj)
        exact ⟨c', by simpa using q⟩
    · cases e
theorem HdL.get {K : PySem.W.Frag} {σ : St} {B : Hp} : ∀ {vs : List V} {hs : List Hd} {j : Nat} {h : Hd}, HdL K σ B vs hs → hs[j]? = some h → ∃ v, vs[j]? = some v ∧ HsOk K σ B v h
  | _, _, _, _, .nil, e => by simp at e
  | _, _, 0, _, .cons h _, e => by simp at e; subst e; exact ⟨_, rfl, h⟩
  | _, _, j + 1, h, .cons _ t, e => by
    obtain ⟨v, q1, q2⟩ := HdL.get (j := j) (h := h) t (by simpa using e)
    exact ⟨v, by simpa using q1, q2⟩
section
variable {K : PySem.W.Frag} {ρ ρ0 ρ0' ρ2 : Rho} {σ : St} {B H B' H' : Hp} {io : Option Nat} {hs : List Hd} {vs : List V}
/-- the callee's cell j that is lent is the caller's slot i -/
theorem args_own (e : args ρ io 0 hs = some ρ0) {j : Nat} {c : Cel} (hc : ρ0[j]? = some (some c)) (nf : c.fl ≠ .sh) : io = some j ∧ ∃ i d fl, hs[j]? = some (.bw i) ∧ ρ[i]? = some (some ⟨d, fl⟩) ∧ fl ≠ .sh ∧ c = ⟨d, .io⟩ := by
  obtain ⟨_, q⟩ := args_at e
  obtain ⟨h, h1, h2⟩ := q j c hc
  rw [Nat.zero_add] at h2
  cases h with
  | sh d =>
    obtain ⟨_, rfl⟩ := argC_sh h2
    exact absurd rfl nf
  | fr d => cases h2
  | bw i =>
    obtain ⟨b, d, fl, q1, q2, q3⟩ := argC_bw h2
    exact ⟨of_decide_eq_true b, i, d, fl, h1, q1, q2, q3⟩
theorem args_sim (S : Sim K ρ σ B H) (y : HdL K σ B vs hs) (e : args ρ io 0 hs = some ρ0) : Sim K ρ0 (vs.map some) B H := by
  obtain ⟨l, q⟩ := args_at e
  refine ⟨S.bh, by rw [l, List.length_map, y.length], fun j c hj => ?_, fun i j ci cj a hi hj ni nj _ _ => ?_⟩
  · obtain ⟨h, h1, h2⟩ := q j c hj
    obtain ⟨v, hv, ok⟩ := y.get h1
    refine ⟨v, by rw [List.getElem?_map, hv]; rfl, ?_⟩
    by_cases nf : c.fl = .sh
    · refine .inl ⟨nf, ?_⟩
      cases h with
      | sh d =>
        obtain ⟨_, rfl⟩ := argC_sh h2
        exact ok
      | fr d => cases h2
      | bw i =>
        obtain ⟨_, d, fl, _, _, rfl⟩ := argC_bw h2
        cases nf
    · obtain ⟨_, i, d, fl, h3, h4, h5, rfl⟩ := args_own e hj nf
      rw [h1] at h3
      cases h3
      obtain ⟨v', e1, cok⟩ := S.sl i _ h4
      have ok' : σ[i]? = some (some v) := ok
      rw [ok'] at e1
      cases e1
      rcases cok with ⟨z, _⟩ | ⟨_, z⟩
      · exact absurd z h5
      · exact .inr ⟨by simp, z⟩
  · obtain ⟨e1, _⟩ := args_own e hi ni
    obtain ⟨e2, _⟩ := args_own e hj nj
    rw [e1] at e2
    cases e2
    rfl
theorem args_ownA (y : HdL K σ B vs hs) (e : args ρ io 0 hs = some ρ0) {a : Addr} (h : OwnA ρ0 (vs.map some) a) : OwnA ρ σ a := by
  obtain ⟨j, c, h1, h2, h3⟩ := h
  obtain ⟨_, i, d, fl, q1, q2, q3, _⟩ := args_own e h1 h2
  obtain ⟨v, hv, ok⟩ := y.get q1
  rw [List.getElem?_map, hv] at h3
  cases h3
  exact ⟨i, _, q2, q3, ok⟩
/-- behind the call -/
theorem back_sim (S : Sim K ρ σ B H) (y : HdL K σ B vs hs) (e : args ρ io 0 hs = some ρ0) (S' : Sim K ρ0' (vs.map some) B' H') (x : Ext ρ0 (vs.map some) B H ρ0' (vs.map some) B' H') (p : putB ρ io hs ρ0' = some ρ2) :
    Sim K ρ2 σ B' H' ∧ Ext ρ σ B H ρ2 σ B' H' ∧ (∀ a, New ρ0 (vs.map some) H a → New ρ σ H a) ∧ ∀ a, ¬ OwnA ρ0' (vs.map some) a → New ρ0 (vs.map some) H a → ¬ OwnA ρ2 σ a := by
  -- a slot of the caller that is not lent
  have sub0 : ∀ a, OwnA ρ0 (vs.map some) a → OwnA ρ σ a := fun a h => args_ownA y e h
  have newN : ∀ a, New ρ0 (vs.map some) H a → New ρ σ H a := fun a h => h.elim .inl fun h => .inr (sub0 a h)
  -- what ρ2 is
  have key : (∀ (k : Nat) (c : Cel), ρ2[k]? = some (some c) → (ρ[k]? = some (some c) ∧ ∀ j, io = some j → hs[j]? ≠ some (.bw k)) ∨ ∃ j c0 c', io = some j ∧ hs[j]? = some (.bw k) ∧ ρ[k]? = some (some c0) ∧ ρ0'[j]? = some (some c') ∧ c = ⟨c'.d, c0.fl⟩) ∧
      ρ2.length = ρ.length ∧ (∀ (k : Nat) (c : Cel), ρ[k]? = some (some c) → ∃ c2, ρ2[k]? = some (some c2) ∧ c2.fl = c.fl) := by
    unfold putB at p
    split at p
    · cases p
      exact ⟨fun k c h => .inl ⟨h, fun j z => nomatch z⟩, rfl, fun k c h => ⟨c, h, rfl⟩⟩
    · rename_i j
      split at p
      · rename_i i hi
        split at p
        · rename_i c0 c' e1 e2
          cases p
          have e1 := slot_some e1
          have e2 := slot_some e2
          refine ⟨fun k c h => ?_, by rw [List.length_set], fun k c h => ?_⟩
          · rcases set_get h with ⟨rfl, ec⟩ | ⟨ne, h⟩
            · cases ec
              exact .inr ⟨j, c0, c', rfl, hi, e1, e2, rfl⟩
            · refine .inl ⟨h, fun j' z w => ?_⟩
              cases z
              rw [hi] at w
              cases w
              exact ne rfl
          · by_cases hk : i = k
            · subst hk
              rw [e1] at h
              cases h
              exact ⟨_, set_at (lt_of e1), rfl⟩
            · exact ⟨c, by rw [set_other hk]; exact h, rfl⟩
        · cases p
      · cases p
  obtain ⟨k1, k2, k3⟩ := key
  -- an owned slot that is not lent keeps its object
  have keep : ∀ (k : Nat) (c : Cel) (a : Addr), ρ[k]? = some (some c) → c.fl ≠ .sh → σ[k]? = some (some (.ref a)) → (∀ j, io = some j → hs[j]? ≠ some (.bw k)) → ¬ OwnA ρ0 (vs.map some) a := fun k c a hk hf hs' hn ho => by
    obtain ⟨j, c0, h1, h2, h3⟩ := ho
    obtain ⟨q0, i, d, fl, q1, q2, q3, _⟩ := args_own e h1 h2
    obtain ⟨v, hv, ok⟩ := y.get q1
    rw [List.getElem?_map, hv] at h3
    cases h3
    have := S.dj i k _ c a q2 hk q3 hf ok hs'
    subst this
    exact hn j q0 q1
  have ownBack : ∀ a, OwnA ρ2 σ a → OwnA ρ σ a := fun a ⟨k, c, h1, h2, h3⟩ => by
    rcases k1 k c h1 with ⟨h, _⟩ | ⟨j, c0, c', _, _, h, _, rfl⟩
    · exact ⟨k, c, h, h2, h3⟩
    · exact ⟨k, c0, h, h2, h3⟩
  refine ⟨⟨S'.bh, by rw [k2]; exact S.len, fun k c hk => ?_, fun i j ci cj a hi hj ni nj ei ej => ?_⟩, ⟨x.bb, fun a o h => (x.nw a o h).imp id (newN a), fun a o h n => x.kp a o h fun z => n (sub0 a z), fun a h => .inr (ownBack a h), fun k c hk hf => ?_, fun k c hk hf => ?_⟩, newN, fun a n1 n2 ho => ?_⟩
  · rcases k1 k c hk with ⟨h, hn⟩ | ⟨j, c0, c', hj, q1, h, q2, rfl⟩
    · obtain ⟨v, ev, ok⟩ := S.sl k c h
      refine ⟨v, ev, ok.mono x.bb fun a hv hb ho hf => ?_⟩
      subst hv
      obtain ⟨o, eo⟩ := ho
      obtain ⟨r1, r2, _⟩ := x.keepN eo hb (keep k c a h hf ev hn)
      exact ⟨r2, by rw [r1, eo]⟩
    · obtain ⟨v, ev, ok⟩ := y.get q1
      have ok' : σ[k]? = some (some v) := ok
      refine ⟨v, ok', ?_⟩
      -- the lent cell is lent at the start, so it is behind
      obtain ⟨cs, hcs⟩ := args_has e q1
      by_cases hsh : cs.fl = .sh
      · exfalso
        obtain ⟨_, qq⟩ := args_at e
        obtain ⟨h', w1, w2⟩ := qq j cs hcs
        rw [q1] at w1
        cases w1
        obtain ⟨_, d, fl, _, _, rfl⟩ := argC_bw w2
        cases hsh
      · obtain ⟨_, i, d, fl, r1, r2, r3, rfl⟩ := args_own e hcs hsh
        rw [q1] at r1
        cases r1
        rw [h] at r2
        cases r2
        obtain ⟨_, c2, w1, w2⟩ := x.io j _ hcs rfl
        rw [q2] at w1
        cases w1
        obtain ⟨v', e1, cok⟩ := S'.sl j c' q2
        rw [List.getElem?_map, ev] at e1
        cases e1
        rcases cok with ⟨z, _⟩ | ⟨_, z⟩
        · rw [w2] at z; cases z
        · exact .inr ⟨r3, z⟩
  · have f1 : ∃ c1, ρ[i]? = some (some c1) ∧ c1.fl ≠ .sh := by
      rcases k1 i ci hi with ⟨h, _⟩ | ⟨_, c0, _, _, _, h, _, rfl⟩
      · exact ⟨ci, h, ni⟩
      · exact ⟨c0, h, ni⟩
    have f2 : ∃ c1, ρ[j]? = some (some c1) ∧ c1.fl ≠ .sh := by
      rcases k1 j cj hj with ⟨h, _⟩ | ⟨_, c0, _, _, _, h, _, rfl⟩
      · exact ⟨cj, h, nj⟩
      · exact ⟨c0, h, nj⟩
    obtain ⟨c1, a1, a2⟩ := f1
    obtain ⟨c2, b1, b2⟩ := f2
    exact S.dj i j c1 c2 a a1 b1 a2 b2 ei ej
  · obtain ⟨c2, h1, h2⟩ := k3 k c hk
    exact ⟨rfl, c2, h1, by rw [h2, hf]⟩
  · rcases k1 k c hk with ⟨h, _⟩ | ⟨_, c0, _, _, _, h, _, rfl⟩
    · exact ⟨c, h, hf⟩
    · exact ⟨c0, h, hf⟩
  · obtain ⟨k, c, h1, h2, h3⟩ := ho
    rcases k1 k c h1 with ⟨h, hn⟩ | ⟨j, c0, c', hj, q1, h, q2, rfl⟩
    · have n0 := keep k c a h h2 h3 hn
      have := S.ownH ⟨k, c, h, h2, h3⟩
      obtain ⟨_, o, eo⟩ := this
      rcases n2 with z | z
      · rw [eo] at z; cases z
      · exact n0 z
    · obtain ⟨v, ev, ok⟩ := y.get q1
      have ok' : σ[k]? = some (some v) := ok
      rw [h3] at ok'
      cases ok'
      obtain ⟨cs, hcs⟩ := args_has e q1
      by_cases hsh : cs.fl = .sh
      · obtain ⟨_, qq⟩ := args_at e
        obtain ⟨h', w1, w2⟩ := qq j cs hcs
        rw [q1] at w1
        cases w1
        obtain ⟨_, d, fl, _, _, rfl⟩ := argC_bw w2
        cases hsh
      · obtain ⟨_, i, d, fl, r1, r2, r3, rfl⟩ := args_own e hcs hsh
        obtain ⟨_, c2, w1, w2⟩ := x.io j _ hcs rfl
        rw [q2] at w1
        cases w1
        exact n1 ⟨j, c', q2, by rw [w2]; simp, by rw [List.getElem?_map, ev]; rfl⟩
end
section
variable {X : Cx} {C : Ct} {e : Expr} {es : List Expr} {pos p : Pos} {x : Str} {k n : Nat} {f : Addr} {fd : FuncData} {ps : List Str} {io : Option Nat} {F : FF} {t : TA} {g : AF}
theorem lk_call (l : LkA C t g) : LkE C (tCallS (spF C.K C.cv n F) (WE C.W) t) (eCall n io F g) := fun ρ σ B H Q S gd => by
  refine l.bind S gd fun hs ρ1 vs B1 H1 S1 x1 y1 g1 => ?_
  split at g1
  · exact g1.elim
  · rename_i ρ0 ea
    split at g1
    · exact g1.elim
    · rename_i hl
      have hl : ρ0.length = n := Classical.not_not.mp hl
      refine ⟨ρ0, B1, hl, args_sim S1 y1 ea, ?_⟩
      cases ef : F ρ0 with
      | stuck => rw [ef] at g1; exact g1
      | exc c outs =>
        rw [ef] at g1
        dsimp only at g1
        split at g1
        · exact g1.elim
        · rename_i ρ2 ep
          intro cls dct B2 H2 S2 x2 ok
          obtain ⟨S3, x3, _, _⟩ := back_sim S1 y1 ea S2 x2 ep
          exact g1 cls dct B2 H2 S3 x3 ok
      | ok h outs =>
        rw [ef] at g1
        dsimp only at g1
        intro v B2 H2 S2 x2 y2
        cases ep : putB ρ1 io hs outs with
        | none => rw [ep] at g1; cases h <;> exact g1.elim
        | some ρ2 =>
          rw [ep] at g1
          obtain ⟨S3, x3, n1, n2⟩ := back_sim S1 y1 ea S2 x2 ep
          cases h with
          | sh d => exact g1 v B2 H2 S3 x3 y2
          | fr d =>
            obtain ⟨a, r1, r2, r3, r4, r5⟩ := y2
            exact g1 v B2 H2 S3 x3 ⟨a, r1, r2, r3, n2 a r4 r5, n1 a r5⟩
          | bw i => exact g1.elim
theorem se_call (FO : FnOk X.prog X.w X.K X.mg X.base (L2.CX X.prog X.w) k f fd ps (spF C.K C.cv n F)) (hr : Room k X.A) (hm : X.mg x = some (.ref f)) (hkp : PySem.W.keepIn X.K (.ref f) = true) (hb : Binds X.K fd ps []) (tk : Takes X C.W)
    (l : SA X C (e :: es) t g) (io : Option Nat) (hg : Gl X x := by rfl) (hdb : (x == ("__debug__" : Str)) = false := by decide) (he : starEach (e :: es) X.env = (false, eval e X.env) :: starEach es X.env := by rfl)
    (hpl : (backTo pos (starEach es X.env)).any (·.1) = false := by rfl) : SE X C (.Call (.Name x p) (e :: es) [] pos) (tCallS (spF C.K C.cv n F) (WE C.W) t) (eCall n io F g) :=
  ⟨pe_callS FO hr hg hm hkp hb (fun σ => passAt tk σ) l.pa hdb he hpl, lk_call l.lk⟩
end
end GS

/-! ### statements -/
namespace GS
open PySem L2
def GoodS (C : Ct) (ρ : Rho) (σ : St) (B H : Hp) (D : Ends) : RS → Prop
  | .stuck => False
  | .nx ρ' => ∀ σ' B' H', Sim C.K ρ' σ' B' H' → Ext ρ σ B H ρ' σ' B' H' → D.nx σ' H'
  | .bk ρ' => ∀ σ' B' H', Sim C.K ρ' σ' B' H' → Ext ρ σ B H ρ' σ' B' H' → D.bk σ' H'
  | .ct ρ' => ∀ σ' B' H', Sim C.K ρ' σ' B' H' → Ext ρ σ B H ρ' σ' B' H' → D.ct σ' H'
  | .rt h ρ' => ∀ v σ' B' H', Sim C.K ρ' σ' B' H' → Ext ρ σ B H ρ' σ' B' H' → HdOk C.K (New ρ σ H) ρ' σ' B' H' v h → D.rt v H'
  | .exc x ρ' => ∀ cls dct σ' B' H', Sim C.K ρ' σ' B' H' → Ext ρ σ B H ρ' σ' B' H' → XcOk C B' x cls dct → C.W cls dct σ' H'
def LkS (C : Ct) (t : TS) (g : SF) : Prop := ∀ ρ σ B H D, Sim C.K ρ σ B H → GoodS C ρ σ B H D (g ρ) → t D σ H
structure SS (X : Cx) (C : Ct) (st : Stmt) (t : TS) (g : SF) : Prop where
  ps : PS X st t
  lk : LkS C t g
structure SSs (X : Cx) (C : Ct) (st : List Stmt) (t : TS) (g : SF) : Prop where
  ps : PSs X st t
  lk : LkS C t g
section
variable {X : Cx} {C : Ct} {ρ ρ1 : Rho} {σ σ1 : St} {B H B1 H1 : Hp} {Ed : Ends} {t u : TS} {f g : SF} {st : Stmt} {rest : List Stmt} {pos : Pos}
theorem GoodS.ext (e : Ext ρ σ B H ρ1 σ1 B1 H1) : ∀ {r : RS}, GoodS C ρ σ B H Ed r → GoodS C ρ1 σ1 B1 H1 Ed r
  | .stuck, h => h
  | .nx _, h => fun σ' B' H' s x => h σ' B' H' s (e.trans x)
  | .bk _, h => fun σ' B' H' s x => h σ' B' H' s (e.trans x)
  | .ct _, h => fun σ' B' H' s x => h σ' B' H' s (e.trans x)
  | .rt _ _, h => fun v σ' B' H' s x y => h v σ' B' H' s (e.trans x) (y.mono fun _ z => e.back z)
  | .exc _ _, h => fun c d σ' B' H' s x => h c d σ' B' H' s (e.trans x)
def sNil : SF := fun ρ => .nx ρ
def bindS (r : RS) (k : Rho → RS) : RS := match r with
  | .nx ρ => k ρ
  | r => r
def sSeq (f g : SF) : SF := fun ρ => bindS (f ρ) g
theorem lk_seq (lf : LkS C t f) (lg : LkS C u g) : LkS C (tSeq t u) (sSeq f g) := fun ρ σ B H D S gd => by
  refine lf ρ σ B H _ S ?_
  unfold sSeq bindS at gd
  cases e : f ρ with
  | nx ρ1 =>
    rw [e] at gd
    exact fun σ' B' H' s x => lg ρ1 σ' B' H' D s (GoodS.ext x gd)
  | stuck => rw [e] at gd; exact gd
  | bk _ => rw [e] at gd; exact gd
  | ct _ => rw [e] at gd; exact gd
  | rt _ _ => rw [e] at gd; exact gd
  | exc _ _ => rw [e] at gd; exact gd
theorem sss_nil : SSs X C [] tNext sNil := ⟨pss_nil, fun ρ σ B H D S g => g σ B H S Ext.refl⟩
theorem sss_cons (a : SS X C st t f) (b : SSs X C rest u g) : SSs X C (st :: rest) (tSeq t u) (sSeq f g) := ⟨pss_cons a.ps b.ps, lk_seq a.lk b.lk⟩
theorem sss_one (a : SS X C st t f) : SSs X C [st] t f := ⟨pss_one a.ps, a.lk⟩
theorem ss_pass : SS X C (.Pass pos) tNext sNil := ⟨ps_pass, fun ρ σ B H D S g => g σ B H S Ext.refl⟩
def sBk : SF := fun ρ => .bk ρ
def sCt : SF := fun ρ => .ct ρ
theorem ss_bk : SS X C (.Break pos) tBreak sBk := ⟨ps_break, fun ρ σ B H D S g => g σ B H S Ext.refl⟩
theorem ss_ct : SS X C (.Continue pos) tCont sCt := ⟨ps_continue, fun ρ σ B H D S g => g σ B H S Ext.refl⟩
theorem ss_doc {x : Str} {j : Nat} {pos' : Pos} : SS X C (.Expr (.Constant (.str x) j pos) pos') tNext sNil := ⟨ps_doc, fun ρ σ B H D S g => g σ B H S Ext.refl⟩
/-! an expression, then a statement's end -/
def bindES (r : RE) (k : Hd → Rho → RS) : RS := match r with
  | .stuck => .stuck
  | .ok h ρ => k h ρ
  | .exc x ρ => .exc x ρ
theorem LkE.bindS {te : TE} {fe : EF} (l : LkE C te fe) (S : Sim C.K ρ σ B H) {k : Hd → Rho → RS} {Q' : VK} (g : GoodS C ρ σ B H Ed (bindES (fe ρ) k))
    (h : ∀ hd ρ1 v B1 H1, Sim C.K ρ1 σ B1 H1 → Ext ρ σ B H ρ1 σ B1 H1 → HdOk C.K (New ρ σ H) ρ1 σ B1 H1 v hd → GoodS C ρ σ B H Ed (k hd ρ1) → Q' v H1) : te σ H Q' := by
  refine l ρ σ B H Q' S ?_
  cases e : fe ρ with
  | stuck => rw [e] at g; exact g
  | ok hd ρ1 => rw [e] at g; exact fun v B1 H1 s x y => h hd ρ1 v B1 H1 s x y g
  | exc x ρ1 => rw [e] at g; exact fun c d B' H' s x => g c d σ B' H' s x
variable {e : Expr} {te : TE} {fe : EF}
def sDrop (fe : EF) : SF := fun ρ => bindES (fe ρ) fun _ ρ1 => .nx ρ1
theorem ss_expr (l : SE X C e te fe) (hs : swapsWith e none pos.line X.env = pure false := by rfl) : SS X C (.Expr e pos) (tDrop te) (sDrop fe) := ⟨ps_expr l.pe hs, fun ρ σ B H D S g =>
  l.lk.bindS S g fun hd ρ1 v B1 H1 S1 x1 y1 g1 => g1 σ B1 H1 S1 x1⟩
def sRet (fe : EF) : SF := fun ρ => bindES (fe ρ) fun h ρ1 => match h with
  | .bw i => match capH ρ1 (.bw i) with
    | some d => .rt (.sh d) ρ1
    | none => .stuck
  | h => .rt h ρ1
theorem cap_bw (S : Sim C.K ρ σ B H) {i : Nat} {d : D} {v : V} (y : σ[i]? = some (some v)) (e : capH ρ (.bw i) = some d) : Rp C.K B v d := by
  replace e : (match slot ρ i with | some ⟨d, .sh⟩ => some d | _ => none) = some d := e
  split at e
  · rename_i d' e'
    cases e
    obtain ⟨v', q1, q2⟩ := S.sl i _ (slot_some e')
    rw [y] at q1
    cases q1
    rcases q2 with ⟨_, q2⟩ | ⟨q, _⟩
    · exact q2
    · exact absurd rfl q
  · cases e
theorem ss_ret (l : SE X C e te fe) : SS X C (.Return (some e) pos) (tRet te) (sRet fe) := ⟨ps_ret l.pe, fun ρ σ B H D S g => by
  refine l.lk.bindS S g fun hd ρ1 v B1 H1 S1 x1 y1 g1 => ?_
  cases hd with
  | sh d => exact g1 v σ B1 H1 S1 x1 y1
  | fr d => exact g1 v σ B1 H1 S1 x1 y1
  | bw i =>
    dsimp only at g1
    split at g1
    · rename_i d ed
      exact g1 v σ B1 H1 S1 x1 (cap_bw S1 y1 ed)
    · exact g1.elim⟩
def sRetN : SF := fun ρ => .rt (.sh .none) ρ
theorem ss_retN : SS X C (.Return none pos) tRetN sRetN := ⟨ps_retN, fun ρ σ B H D S g => g .non σ B H S Ext.refl .non⟩
def bindBS (r : RE) (k : Bool → Rho → RS) : RS := match r with
  | .ok (.sh (.bool b)) ρ => k b ρ
  | .exc x ρ => .exc x ρ
  | _ => .stuck
theorem LkT.bindS {tt : TT} {ft : EF} (l : LkT C tt ft) (S : Sim C.K ρ σ B H) {k : Bool → Rho → RS} {Q' : Bool → Hp → Prop} (g : GoodS C ρ σ B H Ed (bindBS (ft ρ) k))
    (h : ∀ b ρ1 B1 H1, Sim C.K ρ1 σ B1 H1 → Ext ρ σ B H ρ1 σ B1 H1 → GoodS C ρ1 σ B1 H1 Ed (k b ρ1) → Q' b H1) : tt σ H Q' := by
  refine l ρ σ B H Q' S ?_
  cases e : ft ρ with
  | stuck => rw [e] at g; exact g
  | exc x ρ1 => rw [e] at g; exact fun c d B' H' s x => g c d σ B' H' s x
  | ok hd ρ1 =>
    rw [e] at g
    cases hd with
    | sh d =>
      cases d with
      | bool b => exact fun B1 H1 s x => h b ρ1 B1 H1 s x (GoodS.ext x g)
      | _ => exact g
    | _ => exact g
def sIf (ft : EF) (f g : SF) : SF := fun ρ => bindBS (ft ρ) fun b ρ1 => if b then f ρ1 else g ρ1
theorem ss_if {c : Expr} {a b : List Stmt} {tt : TT} {ft : EF} (l : ST X C c tt ft) (la : SSs X C a t f) (lb : SSs X C b u g) : SS X C (.If c a b pos) (tIfS tt t u) (sIf ft f g) := ⟨ps_if l.pt la.ps lb.ps, fun ρ σ B H D S gd =>
  l.lk.bindS S gd fun b ρ1 B1 H1 S1 x1 g1 => by
    cases b with
    | true => exact la.lk ρ1 σ B1 H1 D S1 g1
    | false => exact lb.lk ρ1 σ B1 H1 D S1 g1⟩
/-! storing into a slot -/
def ioAt (ρ : Rho) (i : Nat) : Bool := match slot ρ i with
  | some ⟨_, .io⟩ => true
  | _ => false
theorem not_io {i : Nat} (h : ioAt ρ i = false) {c : Cel} (e : ρ[i]? = some (some c)) : c.fl ≠ .io := fun z => by
  unfold ioAt slot at h
  rw [e] at h
  obtain ⟨d, fl⟩ := c
  cases z
  cases h
theorem st_set_get {σ : St} {i j : Nat} {x : Option V} {y : Option V} (h : (σ.set i x)[j]? = some y) : (i = j ∧ y = x) ∨ (i ≠ j ∧ σ[j]? = some y) := by
  rw [List.getElem?_set] at h
  by_cases e : i = j
  · rw [if_pos e] at h
    split at h
    · cases h; exact .inl ⟨e, rfl⟩
    · cases h
  · rw [if_neg e] at h
    exact .inr ⟨e, h⟩
/-- what may be put into slot i of the state behind -/
theorem store_ok {K : PySem.W.Frag} (S : Sim K ρ1 σ B1 H1) (x : Ext ρ σ B H ρ1 σ B1 H1) {i : Nat} {c : Cel} {v : V} (hi : i < ρ1.length) (hn : ioAt ρ1 i = false) (hf : c.fl ≠ .io) (ok : COk K B1 H1 c v)
    (hnew : c.fl ≠ .sh → ∀ a, v = .ref a → New ρ σ H a ∧ ∀ j cj, i ≠ j → ρ1[j]? = some (some cj) → cj.fl ≠ .sh → σ[j]? ≠ some (some (.ref a))) :
    Sim K (ρ1.set i (some c)) (σ.set i (some v)) B1 H1 ∧ Ext ρ σ B H (ρ1.set i (some c)) (σ.set i (some v)) B1 H1 := by
  have hl := S.len
  have ats : (σ.set i (some v))[i]? = some (some v) := by rw [List.getElem?_set, if_pos rfl, if_pos (by omega)]
  have oth : ∀ j, i ≠ j → (σ.set i (some v))[j]? = σ[j]? := fun j h => by rw [List.getElem?_set, if_neg h]
  refine ⟨⟨S.bh, by rw [List.length_set, List.length_set]; exact hl, fun j cj hj => ?_, fun j k cj ck a hj hk nj nk ej ek => ?_⟩, ⟨x.bb, x.nw, x.kp, fun a ha => ?_, fun j cj hj hjf => ?_, fun j cj hj hjf => ?_⟩⟩
  · rcases set_get hj with ⟨rfl, ec⟩ | ⟨ne, hj⟩
    · cases ec; exact ⟨v, ats, ok⟩
    · rw [oth j ne]; exact S.sl j cj hj
  · rcases set_get hj with ⟨rfl, ec⟩ | ⟨ne, hj⟩
    · rcases set_get hk with ⟨rfl, _⟩ | ⟨ne', hk⟩
      · rfl
      · cases ec
        rw [ats] at ej
        cases ej
        rw [oth k ne'] at ek
        exact absurd ek ((hnew nj a rfl).2 k ck ne' hk nk)
    · rcases set_get hk with ⟨rfl, ec⟩ | ⟨ne', hk⟩
      · cases ec
        rw [ats] at ek
        cases ek
        rw [oth j ne] at ej
        exact absurd ej ((hnew nk a rfl).2 j cj ne hj nj)
      · rw [oth j ne] at ej
        rw [oth k ne'] at ek
        exact S.dj j k cj ck a hj hk nj nk ej ek
  · obtain ⟨j, cj, hj, nj, ej⟩ := ha
    rcases set_get hj with ⟨rfl, ec⟩ | ⟨ne, hj⟩
    · cases ec
      rw [ats] at ej
      cases ej
      exact (hnew nj a rfl).1
    · rw [oth j ne] at ej
      exact x.sub a ⟨j, cj, hj, nj, ej⟩
  · obtain ⟨e1, c1, q1, q2⟩ := x.io j cj hj hjf
    have ne : i ≠ j := fun z => by subst z; exact not_io hn q1 q2
    exact ⟨(oth j ne).trans e1, c1, (set_other ne).trans q1, q2⟩
  · rcases set_get hj with ⟨rfl, ec⟩ | ⟨ne, hj⟩
    · cases ec; exact absurd hjf hf
    · exact x.oi j cj hj hjf
def setR (ρ : Rho) (i : Nat) (c : Cel) : RS := if i < ρ.length && !ioAt ρ i then .nx (ρ.set i (some c)) else .stuck
def setHd (ρ1 : Rho) (i : Nat) : Hd → RS
  | .sh d => setR ρ1 i ⟨d, .sh⟩
  | .fr d => setR ρ1 i ⟨d, .ow⟩
  | .bw j => match capH ρ1 (.bw j) with
    | some d => setR ρ1 i ⟨d, .sh⟩
    | none => .stuck
def sSet (i : Nat) (fe : EF) : SF := fun ρ => bindES (fe ρ) fun h ρ1 => setHd ρ1 i h
theorem setR_ok {i : Nat} {c : Cel} (g : GoodS C ρ σ B H Ed (setR ρ1 i c)) : i < ρ1.length ∧ ioAt ρ1 i = false ∧ ∀ σ' B' H', Sim C.K (ρ1.set i (some c)) σ' B' H' → Ext ρ σ B H (ρ1.set i (some c)) σ' B' H' → Ed.nx σ' H' := by
  unfold setR at g
  split at g
  · rename_i h
    simp only [Bool.and_eq_true, decide_eq_true_eq, Bool.not_eq_true'] at h
    exact ⟨h.1, h.2, g⟩
  · exact g.elim
/-- storing what an expression gave -/
theorem put_hd (S1 : Sim C.K ρ1 σ B1 H1) (x1 : Ext ρ σ B H ρ1 σ B1 H1) {hd : Hd} {v : V} (y1 : HdOk C.K (New ρ σ H) ρ1 σ B1 H1 v hd) {i : Nat} (g : GoodS C ρ σ B H Ed (setHd ρ1 i hd)) : Ed.nx (σ.set i (some v)) H1 := by
  cases hd with
  | sh d =>
    obtain ⟨h1, h2, h3⟩ := setR_ok g
    obtain ⟨S2, x2⟩ := store_ok S1 x1 (c := ⟨d, .sh⟩) h1 h2 (by simp) (.inl ⟨rfl, y1⟩) fun z => absurd rfl z
    exact h3 _ _ _ S2 x2
  | fr d =>
    obtain ⟨h1, h2, h3⟩ := setR_ok g
    obtain ⟨a, rfl, q1, q2, q3, q4⟩ := y1
    obtain ⟨S2, x2⟩ := store_ok S1 x1 (c := ⟨d, .ow⟩) h1 h2 (by simp) (.inr ⟨by simp, a, rfl, q1, q2⟩) fun _ b e => by
      cases e
      exact ⟨q4, fun j cj _ hj nj ej => q3 ⟨j, cj, hj, nj, ej⟩⟩
    exact h3 _ _ _ S2 x2
  | bw j =>
    unfold setHd at g
    dsimp only at g
    split at g
    · rename_i d ed
      obtain ⟨h1, h2, h3⟩ := setR_ok g
      obtain ⟨S2, x2⟩ := store_ok S1 x1 (c := ⟨d, .sh⟩) h1 h2 (by simp) (.inl ⟨rfl, cap_bw S1 y1 ed⟩) fun z => absurd rfl z
      exact h3 _ _ _ S2 x2
    · exact g.elim
theorem lk_set {i : Nat} (l : LkE C te fe) : LkS C (tAsg te (gName i)) (sSet i fe) := fun ρ σ B H D S g =>
  l.bindS S g fun hd ρ1 v B1 H1 S1 x1 y1 g1 => put_hd S1 x1 y1 g1
theorem ss_set {i : Nat} {x : Str} {pos' : Pos} (hN : X.N.Nodup) (l : SE X C e te fe) (hi : X.N[i]? = some x := by rfl) (hx : Loc X.env.scope x := by first | exact Or.inl rfl | exact Or.inr rfl) (hs : swapsWith e (some (.Name x pos')) pos.line X.env = pure false := by rfl)
    (hf : X.fn x = true ∨ X.env.scope.names.lookup x = some .local := by first | exact .inl rfl | exact .inr rfl | assumption) : SS X C (.Assign [.Name x pos'] e pos) (tAsg te (gName i)) (sSet i fe) := ⟨ps_set hN hi hx l.pe hs hf, lk_set l.lk⟩
/-! targets: a name, a tuple of targets; what is stored is shared -/
def LkG (C : Ct) (g : TG) (f : D → Rho → Option Rho) : Prop := ∀ ρ σ B H v d ρ' Q, Sim C.K ρ σ B H → Rp C.K B v d → f d ρ = some ρ' → (∀ σ' B' H', Sim C.K ρ' σ' B' H' → Ext ρ σ B H ρ' σ' B' H' → Q σ' H') → g v σ H Q
def LkGs (C : Ct) (g : TGs) (f : List D → Rho → Option Rho) : Prop := ∀ ρ σ B H vs ds ρ' Q, Sim C.K ρ σ B H → RpL C.K B vs ds → f ds ρ = some ρ' → (∀ σ' B' H', Sim C.K ρ' σ' B' H' → Ext ρ σ B H ρ' σ' B' H' → Q σ' H') → g vs σ H Q
structure SG (X : Cx) (C : Ct) (tg : Expr) (t : TG) (f : D → Rho → Option Rho) : Prop where
  pg : PG X tg t
  lk : LkG C t f
structure SGs (X : Cx) (C : Ct) (tg : List Expr) (t : TGs) (f : List D → Rho → Option Rho) : Prop where
  pg : PGs X tg t
  lk : LkGs C t f
def gN (i : Nat) : D → Rho → Option Rho := fun d ρ => if i < ρ.length && !ioAt ρ i then some (ρ.set i (some ⟨d, .sh⟩)) else none
theorem lk_gN {i : Nat} : LkG C (gName i) (gN i) := fun ρ σ B H v d ρ' Q S r e k => by
  unfold gN at e
  obtain ⟨h, rfl⟩ := if_some e
  simp only [Bool.and_eq_true, decide_eq_true_eq, Bool.not_eq_true'] at h
  obtain ⟨S2, x2⟩ := store_ok S Ext.refl (c := ⟨d, .sh⟩) h.1 h.2 (by simp) (.inl ⟨rfl, r⟩) fun z => absurd rfl z
  exact k _ _ _ S2 x2
def gsN : List D → Rho → Option Rho := fun ds ρ => match ds with
  | [] => some ρ
  | _ => none
def gsC (f : D → Rho → Option Rho) (g : List D → Rho → Option Rho) : List D → Rho → Option Rho := fun ds ρ => match ds with
  | d :: ds => (f d ρ).bind (g ds)
  | [] => none
def gT (n : Nat) (f : List D → Rho → Option Rho) : D → Rho → Option Rho := fun d ρ => match d with
  | .tuple ds => if ds.length = n then f ds ρ else none
  | _ => none
theorem sg_name {i : Nat} {x : Str} (hN : X.N.Nodup) (hi : X.N[i]? = some x := by rfl) (hx : Loc X.env.scope x := by first | exact Or.inl rfl | exact Or.inr rfl)
    (hf : X.fn x = true ∨ X.env.scope.names.lookup x = some .local := by first | exact .inl rfl | exact .inr rfl | assumption) : SG X C (.Name x pos) (gName i) (gN i) := ⟨pg_name hN hi hx hf, lk_gN⟩
theorem sgs_nil : SGs X C [] gNil gsN := ⟨pgs_nil, fun ρ σ B H vs ds ρ' Q S r e k => by
  cases r with
  | nil => cases e; exact ⟨rfl, k _ _ _ S Ext.refl⟩
  | cons _ _ => cases e⟩
theorem lk_gC {tg : TG} {tgs : TGs} {f : D → Rho → Option Rho} {g : List D → Rho → Option Rho} (a : LkG C tg f) (b : LkGs C tgs g) : LkGs C (gCons tg tgs) (gsC f g) := fun ρ σ B H vs ds ρ' Q S r e k => by
  cases r with
  | nil => cases e
  | cons h t =>
    obtain ⟨ρ1, e1, e2⟩ := Option.bind_eq_some_iff.mp (show (f _ ρ).bind (g _) = some ρ' from e)
    refine ⟨_, _, rfl, a ρ σ B H _ _ ρ1 _ S h e1 fun σ1 B1 H1 S1 x1 => ?_⟩
    exact b ρ1 σ1 B1 H1 _ _ ρ' Q S1 (t.mono x1.bb) e2 fun σ2 B2 H2 S2 x2 => k _ _ _ S2 (x1.trans x2)
theorem sgs_cons {a : Expr} {as : List Expr} {tg : TG} {tgs : TGs} {f : D → Rho → Option Rho} {g : List D → Rho → Option Rho} (h : SG X C a tg f) (t : SGs X C as tgs g) (hs : (assignEach (a :: as) X.env).map (·.2) = assign a X.env :: (assignEach as X.env).map (·.2) := by rfl) : SGs X C (a :: as) (gCons tg tgs) (gsC f g) := ⟨pgs_cons h.pg t.pg hs, lk_gC h.lk t.lk⟩
theorem lk_gT {tgs : TGs} {n : Nat} {g : List D → Rho → Option Rho} (b : LkGs C tgs g) : LkG C (gTup C.K n tgs) (gT n g) := fun ρ σ B H v d ρ' Q S r e k => by
  cases d with
  | tuple ds =>
    replace e : (if ds.length = n then g ds ρ else none) = some ρ' := e
    split at e
    · obtain ⟨a, vs, rfl, ha, ra⟩ := r.tupE
      exact ⟨a, vs, rfl, same_t S.bh ha, by rw [ra.length]; assumption, b ρ σ B H vs ds ρ' Q S ra e k⟩
    · cases e
  | _ => cases e
theorem sg_tup {as : List Expr} {tgs : TGs} {n k : Nat} {g : List D → Rho → Option Rho} (hc : X.calm = true) (t : SGs X C as tgs g) (hk : X.K = C.K := by rfl) (hn : (assignEach as X.env).length = n := by rfl) (hst : (assignEach as X.env).findIdx? (·.1) = none := by rfl) : SG X C (.Tuple as k pos) (gTup C.K n tgs) (gT n g) := ⟨by rw [← hk]; exact pg_tup hc t.pg hn hst, lk_gT t.lk⟩
/-- a, b = e -/
def sUnp (f : D → Rho → Option Rho) (fe : EF) : SF := fun ρ => bindES (eCap fe ρ) fun h ρ1 => match h with
  | .sh d => match f d ρ1 with
    | some ρ2 => .nx ρ2
    | none => .stuck
  | _ => .stuck
theorem lk_unp {tg : TG} {f : D → Rho → Option Rho} (l : LkE C te fe) (lg : LkG C tg f) : LkS C (tAsg te tg) (sUnp f fe) := fun ρ σ B H E S g =>
  l.cap.bindS S g fun hd ρ1 v B1 H1 S1 x1 y1 g1 => by
    cases hd with
    | sh d =>
      dsimp only at g1
      split at g1
      · rename_i ρ2 e2
        exact lg ρ1 σ B1 H1 v d ρ2 _ S1 y1 e2 fun σ2 B2 H2 S2 x2 => g1 σ2 B2 H2 S2 (x1.trans x2)
      · exact g1.elim
    | _ => exact g1.elim
theorem ss_unp {tgt : Expr} {tg : TG} {f : D → Rho → Option Rho} (l : SE X C e te fe) (lg : SG X C tgt tg f) (hs : swapsWithSole [tgt] e pos.line X.env = pure false := by rfl) (hw : swappedStores [tgt] e X.env = pure none := by rfl)
    (h1 : (assignEach [tgt] X.env).map (·.2) = [assign tgt X.env] := by rfl) : SS X C (.Assign [tgt] e pos) (tAsg te tg) (sUnp f fe) := ⟨ps_asg l.pe lg.pg hs hw h1, lk_unp l.lk lg.lk⟩
end
end GS

/-! ### loops and comprehensions -/
namespace GS
open PySem L2
/-- a list, a tuple, a text: whichever comes -/
def iSeq (K : PySem.W.Frag) (te : TE) : TI := fun σ H R => te σ H fun x H1 =>
  (∃ a, x = .ref a ∧ (∃ xs, SqL K H1 a xs) ∧ R (Itl K a) H1) ∨ (∃ a, x = .ref a ∧ (∃ xs, SqT K H1 a xs) ∧ R (Itt K a) H1) ∨ ∃ z, x = .str z ∧ R (Its z) H1
theorem pi_seq {X : Cx} {tg e : Expr} {te : TE} (he : PE X e te) : PI X tg e (iSeq X.K te) := by
  refine ⟨fun pins s σ H R I h => ?_⟩
  refine thn (he.run pins s σ H _ I h) fun v s1 ⟨x, H1, I1, r1, q1⟩ => ?_
  rcases q1 with ⟨a, e, ⟨xs, hq⟩, q⟩ | ⟨a, e, ⟨xs, hq⟩, q⟩ | ⟨x, ex, q⟩
  · subst e
    cases r1
    obtain ⟨its, rv, p, hz⟩ := I1.list hq
    refine wpAny_pyIter_list p.isList ?_
    exact pi_one (tk := s1.toks) I1 _ (turn_list a _) ⟨_, Heap.get?_push_size _ rfl, rfl, rfl⟩ q
  · subst e
    cases r1
    obtain ⟨its, rv, p, hz⟩ := I1.tuple hq
    refine wpAny_pyIter_tuple (show s1.heap.IsTuple a its.toArray from p) ?_
    exact pi_one (tk := s1.toks) I1 _ (turn_tuple a _) ⟨_, Heap.get?_push_size _ rfl, rfl, rfl⟩ q
  · subst ex
    obtain ⟨t, rfl⟩ := r1
    cases ha : x.cps.all (· < 128)
    · exact wpAny_pyIter_wide ha (pi_one (tk := s1.toks) I1 _ (turn_str _ x t "str_iterator" (.inr rfl)) ⟨_, Heap.get?_push_size _ rfl, rfl, rfl⟩ q)
    · exact wpAny_pyIter_ascii ha (pi_one (tk := s1.toks) I1 _ (turn_str _ x t "str_ascii_iterator" (.inl rfl)) ⟨_, Heap.get?_push_size _ rfl, rfl, rfl⟩ q)
/-- what the i-th turn gives -/
def YOk (K : PySem.W.Frag) (B : Hp) (ds : List D) : Nat → Hp → V → Hp → Prop := fun i H x H' => ∃ d, ds[i]? = some d ∧
  ((H' = H ∧ Rp K B x d) ∨ ∃ T vs es, x = .ref T ∧ H T = none ∧ H' = upd H T (.tup vs) ∧ d = .tuple es ∧ RpL K B vs es)
def ItOk (K : PySem.W.Frag) (B : Hp) (ds : List D) (J : It) : Prop := Walk J ds.length (fun H => Same B H) (YOk K B ds)
inductive RI where | stuck | ok (ds : List D) (ρ : Rho) | exc (x : Xc) (ρ : Rho)
abbrev IF := Rho → RI
def GoodI (C : Ct) (ρ : Rho) (σ : St) (B H : Hp) (R : It → Hp → Prop) : RI → Prop
  | .stuck => False
  | .ok ds ρ' => ∀ J B' H', Sim C.K ρ' σ B' H' → Ext ρ σ B H ρ' σ B' H' → ItOk C.K B' ds J → R J H'
  | .exc x ρ' => ∀ cls dct B' H', Sim C.K ρ' σ B' H' → Ext ρ σ B H ρ' σ B' H' → XcOk C B' x cls dct → C.W cls dct σ H'
def LkI (C : Ct) (w : TI) (f : IF) : Prop := ∀ ρ σ B H R, Sim C.K ρ σ B H → GoodI C ρ σ B H R (f ρ) → w σ H R
structure SI (X : Cx) (C : Ct) (tg it : Expr) (w : TI) (f : IF) : Prop where
  pi : PI X tg it w
  lk : LkI C w f
def bindEI (r : RE) (k : Hd → Rho → RI) : RI := match r with
  | .stuck => .stuck
  | .ok h ρ => k h ρ
  | .exc x ρ => .exc x ρ
def items : D → Option (List D)
  | .list ds => some ds
  | .tuple ds => some ds
  | .str z => some (z.cps.toList.map fun c => .str ⟨#[c]⟩)
  | _ => none
/-- for over a list, a tuple or a text that is shared -/
def iSq (fe : EF) : IF := fun ρ => bindEI (eCap fe ρ) fun h ρ1 => match h with
  | .sh d => match items d with
    | some ds => .ok ds ρ1
    | none => .stuck
  | _ => .stuck
section
variable {X : Cx} {C : Ct} {ρ ρ1 : Rho} {σ σ1 : St} {B H B1 H1 : Hp} {e tg : Expr} {te : TE} {fe : EF} {pos p : Pos}
theorem LkE.bindI (l : LkE C te fe) (S : Sim C.K ρ σ B H) {k : Hd → Rho → RI} {R : It → Hp → Prop} {Q' : VK} (g : GoodI C ρ σ B H R (bindEI (fe ρ) k))
    (h : ∀ hd ρ1 v B1 H1, Sim C.K ρ1 σ B1 H1 → Ext ρ σ B H ρ1 σ B1 H1 → HdOk C.K (New ρ σ H) ρ1 σ B1 H1 v hd → GoodI C ρ σ B H R (k hd ρ1) → Q' v H1) : te σ H Q' := by
  refine l ρ σ B H Q' S ?_
  cases e : fe ρ with
  | stuck => rw [e] at g; exact g
  | ok hd ρ1 => rw [e] at g; exact fun v B1 H1 s x y => h hd ρ1 v B1 H1 s x y g
  | exc x ρ1 => rw [e] at g; exact g
theorem it_list {K : PySem.W.Frag} {a : Addr} {vs : List V} {ds : List D} (h : SqL K B a vs) (r : RpL K B vs ds) : ItOk K B ds (Itl K a) := by
  unfold ItOk
  rw [← r.length]
  refine (walk_list (K := K) (a := a) (xs := vs)).mono (fun H s => same_l s h) fun i H x H' hi s y => ?_
  obtain ⟨rfl, hv⟩ := y
  obtain ⟨d, q1, q2⟩ := r.getV hv
  exact ⟨d, q1, .inl ⟨rfl, q2⟩⟩
theorem it_tup {K : PySem.W.Frag} {a : Addr} {vs : List V} {ds : List D} (h : SqT K B a vs) (r : RpL K B vs ds) : ItOk K B ds (Itt K a) := by
  unfold ItOk
  rw [← r.length]
  refine (walk_tup (K := K) (a := a) (xs := vs)).mono (fun H s => same_t s h) fun i H x H' hi s y => ?_
  obtain ⟨rfl, hv⟩ := y
  obtain ⟨d, q1, q2⟩ := r.getV hv
  exact ⟨d, q1, .inl ⟨rfl, q2⟩⟩
theorem it_str {K : PySem.W.Frag} {z : Str} : ItOk K B (z.cps.toList.map fun c => .str ⟨#[c]⟩) (Its z) := by
  unfold ItOk
  rw [List.length_map, Array.length_toList]
  refine (walk_str (z := z)).mono (fun H _ => trivial) fun i H x H' hi s y => ?_
  obtain ⟨rfl, c, hc, rfl⟩ := y
  refine ⟨.str ⟨#[c]⟩, ?_, .inl ⟨rfl, .str _⟩⟩
  rw [List.getElem?_map, Array.getElem?_toList, hc]
  rfl
theorem lk_sq (l : LkE C te fe) : LkI C (iSeq C.K te) (iSq fe) := fun ρ σ B H R S g => by
  refine l.cap.bindI S g fun hd ρ1 v B1 H1 S1 x1 y1 g1 => ?_
  cases hd with
  | sh d =>
    dsimp only at g1
    split at g1
    · rename_i ds ed
      cases d with
      | list es =>
        cases ed
        obtain ⟨a, vs, rfl, ha, ra⟩ := Rp.lstE y1
        exact .inl ⟨a, rfl, ⟨vs, same_l S1.bh ha⟩, g1 _ _ _ S1 x1 (it_list ha ra)⟩
      | tuple es =>
        cases ed
        obtain ⟨a, vs, rfl, ha, ra⟩ := Rp.tupE y1
        exact .inr (.inl ⟨a, rfl, ⟨vs, same_t S1.bh ha⟩, g1 _ _ _ S1 x1 (it_tup ha ra)⟩)
      | str z =>
        cases ed
        cases (show Rp C.K B1 v (.str z) from y1)
        exact .inr (.inr ⟨z, rfl, g1 _ _ _ S1 x1 it_str⟩)
      | _ => cases ed
    · exact g1.elim
  | _ => exact g1.elim
theorem si_sq (l : SE X C e te fe) (hk : X.K = C.K := by rfl) : SI X C tg e (iSeq C.K te) (iSq fe) := ⟨by rw [← hk]; exact pi_seq l.pe, lk_sq l.lk⟩
/-! range -/
def rgD (lo : Int) (n : Nat) : List D := (List.range n).map fun (i : Nat) => PyData.int (lo + (i : Int))
theorem it_range {K : PySem.W.Frag} {lo : Int} {n : Nat} : ItOk K B (rgD lo n) (Itr lo n) := by
  unfold ItOk rgD
  rw [List.length_map, List.length_range]
  refine (walk_range (lo := lo) (n := n)).mono (fun H _ => trivial) fun i H x H' hi s y => ?_
  obtain ⟨rfl, rfl⟩ := y
  refine ⟨.int (lo + i), ?_, .inl ⟨rfl, .int _⟩⟩
  rw [List.getElem?_map, List.getElem?_range hi]
  rfl
def okR (i : Int) : Bool := Nat.ble i.natAbs 1000000000
def iR1 (fe : EF) : IF := fun ρ => bindEI (eSet fe ρ) fun h ρ1 => match getH ρ1 h with
  | some (.int j) => if okR j then .ok (rgD 0 j.toNat) ρ1 else .stuck
  | _ => .stuck
theorem e62 : (2 : Int) ^ 62 = 4611686018427387904 := by decide +kernel
theorem okR_ok {i : Int} (h : okR i = true) : -(2 ^ 62) ≤ i ∧ i < 2 ^ 62 := by
  have := Nat.le_of_ble_eq_true h
  rw [e62]
  omega
theorem si_r1 (l : SE X C e te fe) (hm : X.mg "range" = none) (hg : Gl X "range" := by rfl) (hs : starEach [e] X.env = [(false, eval e X.env)] := by rfl) : SI X C tg (.Call (.Name "range" p) [e] [] pos) (iRng1 (tCons te tNil)) (iR1 fe) := ⟨pi_range1 hg hm (pa_cons l.pe pa_nil hs) hs, fun ρ σ B H R S g => by
  refine l.lk.set.bindI S g fun hd ρ1 v B1 H1 S1 x1 y1 g1 => ?_
  split at g1
  · rename_i j ej
    split at g1
    · rename_i ok
      obtain ⟨h1, h2⟩ := okR_ok ok
      exact ⟨j, by rw [(S1.tp y1 ej).int], h1, h2, g1 _ _ _ S1 x1 it_range⟩
    · exact g1.elim
  · exact g1.elim⟩
def iR2 (fa fb : EF) : IF := fun ρ => bindEI (eSet fa ρ) fun ha ρ1 => bindEI (eSet fb ρ1) fun hb ρ2 => match getH ρ2 ha, getH ρ2 hb with
  | some (.int i), some (.int j) => if okR i && okR j then .ok (rgD i (j - i).toNat) ρ2 else .stuck
  | _, _ => .stuck
theorem GoodI.ext (x : Ext ρ σ B H ρ1 σ B1 H1) {R : It → Hp → Prop} : ∀ {r : RI}, GoodI C ρ σ B H R r → GoodI C ρ1 σ B1 H1 R r
  | .stuck, g => g
  | .ok _ _, g => fun J B' H' s y z => g J B' H' s (x.trans y) z
  | .exc _ _, g => fun c d B' H' s y z => g c d B' H' s (x.trans y) z
theorem setl_setl (h : Hd) : setl (setl h) = setl h := by cases h <;> rfl
theorem set_set {fe : EF} {hd : Hd} (e : eSet fe ρ = .ok hd ρ1) : setl hd = hd := by
  unfold eSet bindE at e
  split at e
  · cases e
  · cases e
    exact setl_setl _
  · cases e
theorem LkE.setBindI (l : LkE C te fe) (S : Sim C.K ρ σ B H) {k : Hd → Rho → RI} {R : It → Hp → Prop} {Q' : VK} (g : GoodI C ρ σ B H R (bindEI (eSet fe ρ) k))
    (h : ∀ hd ρ1 v B1 H1, Sim C.K ρ1 σ B1 H1 → Ext ρ σ B H ρ1 σ B1 H1 → HdOk C.K (New ρ σ H) ρ1 σ B1 H1 v (setl hd) → GoodI C ρ1 σ B1 H1 R (k (setl hd) ρ1) → Q' v H1) : te σ H Q' := by
  refine l.set ρ σ B H Q' S ?_
  cases e : eSet fe ρ with
  | stuck => rw [e] at g; exact g
  | ok hd ρ1 =>
    rw [e] at g
    refine fun v B1 H1 s x y => h hd ρ1 v B1 H1 s x ?_ ?_
    · rw [set_set e]; exact y
    · rw [set_set e]; exact GoodI.ext x g
  | exc x ρ1 => rw [e] at g; exact g
theorem si_r2 {a b : Expr} {ta tb : TE} {fa fb : EF} (la : SE X C a ta fa) (lb : SE X C b tb fb) (hm : X.mg "range" = none) (hg : Gl X "range" := by rfl) (hs : starEach [a, b] X.env = [(false, eval a X.env), (false, eval b X.env)] := by rfl) (hs2 : starEach [b] X.env = [(false, eval b X.env)] := by rfl) :
    SI X C tg (.Call (.Name "range" p) [a, b] [] pos) (iRng2 (tCons ta (tCons tb tNil))) (iR2 fa fb) := ⟨pi_range2 hg hm (pa_cons la.pe (pa_cons lb.pe pa_nil hs2) (by rw [hs, hs2])) hs hs2, fun ρ σ B H R S g => by
  refine la.lk.setBindI S g fun ha ρ1 v B1 H1 S1 x1 y1 g1 => ?_
  refine lb.lk.setBindI S1 g1 fun hb ρ2 u B2 H2 S2 x2 y2 g2 => ?_
  split at g2
  · rename_i i j ei ej
    split at g2
    · rename_i ok
      rw [Bool.and_eq_true] at ok
      obtain ⟨h1, h2⟩ := okR_ok ok.1
      obtain ⟨h3, h4⟩ := okR_ok ok.2
      exact ⟨i, j, by rw [(S2.tp (N := fun _ => True) (HdOk.ext x2 y1) ei).int, (S2.tp y2 ej).int], ⟨h1, h2, h3, h4⟩, g2 _ _ _ S2 Ext.refl it_range⟩
    · exact g2.elim
  · exact g2.elim⟩
/-! for -/
def forL (g : D → Rho → Option Rho) (b : SF) : List D → Rho → RS
  | [], ρ => .nx ρ
  | d :: ds, ρ => match g d ρ with
    | none => .stuck
    | some ρ1 => match b ρ1 with
      | .nx ρ2 => forL g b ds ρ2
      | .ct ρ2 => forL g b ds ρ2
      | .bk ρ2 => .nx ρ2
      | r => r
def sFor (fi : IF) (g : D → Rho → Option Rho) (b : SF) : SF := fun ρ => match fi ρ with
  | .stuck => .stuck
  | .exc x ρ1 => .exc x ρ1
  | .ok ds ρ1 => forL g b ds ρ1
theorem lk_for {w : TI} {tgt : TG} {tb : TS} {fi : IF} {g : D → Rho → Option Rho} {b : SF} (li : LkI C w fi) (lg : LkG C tgt g) (lb : LkS C tb b) : LkS C (tFor w tgt tb) (sFor fi g b) := fun ρ σ B H E S gd => by
  refine li ρ σ B H _ S ?_
  unfold sFor at gd
  cases e : fi ρ with
  | stuck => rw [e] at gd; exact gd
  | exc x ρ1 => rw [e] at gd; exact fun c d B' H' s x => gd c d σ B' H' s x
  | ok ds ρ1 =>
    rw [e] at gd
    replace gd : GoodS C ρ σ B H E (forL g b ds ρ1) := gd
    intro J B1 H1 S1 x1 ok
    refine for_it ok (fun i σ' H' => ∃ ρ' B', Sim C.K ρ' σ' B' H' ∧ Ext ρ σ B H ρ' σ' B' H' ∧ Same B1 B' ∧ GoodS C ρ σ B H E (forL g b (ds.drop i) ρ')) ⟨ρ1, B1, S1, x1, Same.refl _, gd⟩ (fun i σ' H' _ ⟨ρ', B', S', _, s', _⟩ => s'.trans S'.bh) ?_ ?_
    · rintro i v σ' H' H2 hi ⟨ρ', B', S', x', s', g'⟩ ⟨d, ed, y⟩
      have hd : ds.drop i = d :: ds.drop (i + 1) := by
        have := List.drop_eq_getElem_cons hi
        rw [this]
        congr 1
        exact Option.some.inj ((List.getElem?_eq_getElem hi).symm.trans ed)
      rw [hd] at g'
      have step : ∃ B2, Sim C.K ρ' σ' B2 H2 ∧ Ext ρ σ B H ρ' σ' B2 H2 ∧ Same B1 B2 ∧ Rp C.K B2 v d := by
        rcases y with ⟨rfl, r⟩ | ⟨T, vs, es, rfl, hT, rfl, rfl, r⟩
        · exact ⟨B', S', x', s', r.mono s'⟩
        · obtain ⟨S2, x2⟩ := S'.newB hT (.tup vs)
          exact ⟨_, S2, x'.trans x2, s'.trans x2.bb, .tup (.inl (.inl upd_same)) (r.mono (s'.trans x2.bb))⟩
      obtain ⟨B2, S2, x2, s2, r2⟩ := step
      unfold forL at g'
      cases eg : g d ρ' with
      | none => rw [eg] at g'; exact g'.elim
      | some ρ3 =>
        rw [eg] at g'
        refine lg ρ' σ' B2 H2 v d ρ3 _ S2 r2 eg fun σ3 B3 H3 S3 x3 => ?_
        refine lb ρ3 σ3 B3 H3 _ S3 ?_
        have x3' := x2.trans x3
        cases eb : b ρ3 with
        | stuck => simp only [eb] at g'; exact g'
        | nx ρ4 => simp only [eb] at g'; exact fun σ4 B4 H4 S4 x4 => ⟨ρ4, B4, S4, x3'.trans x4, (s2.trans x3.bb).trans x4.bb, g'⟩
        | ct ρ4 => simp only [eb] at g'; exact fun σ4 B4 H4 S4 x4 => ⟨ρ4, B4, S4, x3'.trans x4, (s2.trans x3.bb).trans x4.bb, g'⟩
        | bk ρ4 => simp only [eb] at g'; exact fun σ4 B4 H4 S4 x4 => g' σ4 B4 H4 S4 (x3'.trans x4)
        | rt h ρ4 => simp only [eb] at g'; exact GoodS.ext (r := .rt h ρ4) x3' g'
        | exc c ρ4 => simp only [eb] at g'; exact GoodS.ext (r := .exc c ρ4) x3' g'
    · rintro σ' H' ⟨ρ', B', S', x', _, g'⟩
      rw [List.drop_length] at g'
      exact g' σ' B' H' S' x'
theorem ss_for {it : Expr} {body : List Stmt} {w : TI} {tgt : TG} {tb : TS} {fi : IF} {g : D → Rho → Option Rho} {b : SF} (hp : PassesOwn (model X.prog X.w) X.A X.env X.xe) (hc : X.calm = true) (li : SI X C tg it w fi) (lg : SG X C tg tgt g) (lb : SSs X C body tb b)
    (hs : ∀ x, foldedSetIterable it X.env x = pure x := by intro _; rfl) : SS X C (.For tg it body [] pos) (tFor w tgt tb) (sFor fi g b) := ⟨ps_for hp hc li.pi lg.pg lb.ps hs, lk_for li.lk lg.lk lb.lk⟩
/-! while, n turns at most -/
def whileL (ft : EF) (b : SF) : Nat → Rho → RS
  | 0, _ => .stuck
  | n + 1, ρ => bindBS (ft ρ) fun c ρ1 => if c then (match b ρ1 with
      | .nx ρ2 => whileL ft b n ρ2
      | .ct ρ2 => whileL ft b n ρ2
      | .bk ρ2 => .nx ρ2
      | r => r) else .nx ρ1
theorem lk_while {tt : TT} {tb : TS} {ft : EF} {b : SF} (n : Nat) (lt : LkT C tt ft) (lb : LkS C tb b) : LkS C (tWhile tt tb) (whileL ft b n) := fun ρ σ B H E S gd => by
  refine ⟨fun m σ' H' => ∃ ρ' B', Sim C.K ρ' σ' B' H' ∧ GoodS C ρ' σ' B' H' E (whileL ft b m ρ'), ⟨n, ρ, B, S, gd⟩, ?_⟩
  rintro m σ' H' ⟨ρ', B', S', g'⟩
  cases m with
  | zero => exact g'.elim
  | succ m =>
    unfold whileL at g'
    refine lt.bindS S' g' fun c ρ1 B1 H1 S1 x1 g1 => ?_
    cases c with
    | false =>
      rw [if_neg Bool.false_ne_true]
      exact g1 σ' B1 H1 S1 Ext.refl
    | true =>
      rw [if_pos rfl]
      refine ⟨fun σ2 H2 => ∃ ρ2 B2, Sim C.K ρ2 σ2 B2 H2 ∧ GoodS C ρ2 σ2 B2 H2 E (whileL ft b m ρ2), fun σ2 H2 h => ⟨m, Nat.lt_succ_self m, h⟩, ?_⟩
      refine lb ρ1 σ' B1 H1 _ S1 ?_
      replace g1 : GoodS C ρ1 σ' B1 H1 E (match b ρ1 with
        | .nx ρ2 => whileL ft b m ρ2
        | .ct ρ2 => whileL ft b m ρ2
        | .bk ρ2 => .nx ρ2
        | r => r) := g1
      cases eb : b ρ1 with
      | stuck => simp only [eb] at g1; exact g1
      | nx ρ4 => simp only [eb] at g1; exact fun σ4 B4 H4 S4 x4 => ⟨ρ4, B4, S4, GoodS.ext x4 g1⟩
      | ct ρ4 => simp only [eb] at g1; exact fun σ4 B4 H4 S4 x4 => ⟨ρ4, B4, S4, GoodS.ext x4 g1⟩
      | bk ρ4 => simp only [eb] at g1; exact fun σ4 B4 H4 S4 x4 => g1 σ4 B4 H4 S4 x4
      | rt h ρ4 => simp only [eb] at g1; exact g1
      | exc c ρ4 => simp only [eb] at g1; exact g1
theorem ss_while {c : Expr} {body : List Stmt} {tt : TT} {tb : TS} {ft : EF} {b : SF} (n : Nat) (hp : PassesOwn (model X.prog X.w) X.A X.env X.xe) (lt : ST X C c tt ft) (lb : SSs X C body tb b) : SS X C (.While c body [] pos) (tWhile tt tb) (whileL ft b n) := ⟨ps_while hp lt.pt lb.ps, lk_while n lt.lk lb.lk⟩
/-! a list comprehension -/
def wipeR (ρ : Rho) : List Nat → Rho
  | [] => ρ
  | v :: vs => (wipeR ρ vs).set v none
/-- the turns: acc what is made so far -/
def lcL (vs : List Nat) (g : D → Rho → Option Rho) (ft fe : EF) : List D → List D → Rho → RE
  | [], acc, ρ => .ok (.fr (.list acc)) ρ
  | d :: ds, acc, ρ => match g d ρ with
    | none => .stuck
    | some ρ1 => bindB (ft ρ1) fun c ρ2 => if c then bindE (eCap fe ρ2) fun h ρ3 => match h with
        | .sh y => if acc.length < sizeLine then lcL vs g ft fe ds (acc ++ [y]) (wipeR ρ3 vs) else .stuck
        | _ => .stuck
      else lcL vs g ft fe ds acc (wipeR ρ2 vs)
def eLc (vs : List Nat) (fi : IF) (g : D → Rho → Option Rho) (ft fe : EF) : EF := fun ρ => match fi ρ with
  | .stuck => .stuck
  | .exc x ρ1 => .exc x ρ1
  | .ok ds ρ1 => if vs.all fun i => !ioAt ρ1 i then lcL vs g ft fe ds [] (wipeR ρ1 vs) else .stuck
theorem wipeR_len (ρ : Rho) : ∀ vs : List Nat, (wipeR ρ vs).length = ρ.length
  | [] => rfl
  | v :: vs => by unfold wipeR; rw [List.length_set, wipeR_len ρ vs]
theorem wipeR_some {ρ : Rho} {i : Nat} {c : Cel} : ∀ {vs : List Nat}, (wipeR ρ vs)[i]? = some (some c) → ρ[i]? = some (some c) ∧ i ∉ vs
  | [], h => ⟨h, by simp⟩
  | v :: vs, h => by
    unfold wipeR at h
    rcases set_get h with ⟨_, ec⟩ | ⟨ne, h⟩
    · cases ec
    · obtain ⟨h1, h2⟩ := wipeR_some h
      exact ⟨h1, by simp only [List.mem_cons, not_or]; exact ⟨fun e => ne e.symm, h2⟩⟩
theorem wipeR_keep {ρ : Rho} {i : Nat} : ∀ {vs : List Nat}, i ∉ vs → (wipeR ρ vs)[i]? = ρ[i]?
  | [], _ => rfl
  | v :: vs, h => by
    simp only [List.mem_cons, not_or] at h
    unfold wipeR
    rw [set_other (fun e => h.1 e.symm)]
    exact wipeR_keep h.2
theorem wipe_keep {σ : St} {i : Nat} : ∀ {vs : List Nat}, i ∉ vs → (wipe σ vs)[i]? = σ[i]?
  | [], _ => rfl
  | v :: vs, h => by
    simp only [List.mem_cons, not_or] at h
    unfold wipe
    rw [List.getElem?_set, if_neg (fun e => h.1 e.symm)]
    exact wipe_keep h.2
/-- slots are forgotten on both sides -/
theorem Sim.wipe {K : PySem.W.Frag} {σ' : St} (S : Sim K ρ σ B H) (vs : List Nat) (hl : σ'.length = σ.length) (he : ∀ i, i ∉ vs → σ'[i]? = σ[i]?) : Sim K (wipeR ρ vs) σ' B H := by
  refine ⟨S.bh, by rw [wipeR_len, hl]; exact S.len, fun i c h => ?_, fun i j ci cj a hi hj ni nj ei ej => ?_⟩
  · obtain ⟨h1, h2⟩ := wipeR_some h
    rw [he i h2]
    exact S.sl i c h1
  · obtain ⟨h1, h2⟩ := wipeR_some hi
    obtain ⟨h3, h4⟩ := wipeR_some hj
    rw [he i h2] at ei
    rw [he j h4] at ej
    exact S.dj i j ci cj a h1 h3 ni nj ei ej
theorem Ext.wipe {σ' : St} (x : Ext ρ σ B H ρ1 σ1 B1 H1) (vs : List Nat) (hn : ∀ i ∈ vs, ∀ c, ρ[i]? = some (some c) → c.fl ≠ .io) (he : ∀ i, i ∉ vs → σ'[i]? = σ1[i]?) : Ext ρ σ B H (wipeR ρ1 vs) σ' B1 H1 := by
  refine ⟨x.bb, x.nw, x.kp, fun a ⟨i, c, h1, h2, h3⟩ => ?_, fun i c h1 h2 => ?_, fun i c h1 h2 => ?_⟩
  · obtain ⟨q1, q2⟩ := wipeR_some h1
    rw [he i q2] at h3
    exact x.sub a ⟨i, c, q1, h2, h3⟩
  · have ni : i ∉ vs := fun z => hn i z c h1 h2
    obtain ⟨e1, c1, q1, q2⟩ := x.io i c h1 h2
    exact ⟨(he i ni).trans e1, c1, (wipeR_keep ni).trans q1, q2⟩
  · obtain ⟨q1, _⟩ := wipeR_some h1
    exact x.oi i c q1 h2
end
end GS

/-! ### a list comprehension -/
namespace GS
open PySem L2
section
variable {X : Cx} {C : Ct} {ρ ρ1 : Rho} {σ σ1 σ' : St} {B H B1 H1 : Hp} {e tg : Expr} {te : TE} {fe : EF} {pos p : Pos} {vs : List Nat} {K : PySem.W.Frag}
theorem wipe_get (σ : St) (j : Nat) : ∀ vs : List Nat, (wipe σ vs)[j]? = if j ∈ vs then (if j < σ.length then some none else none) else σ[j]?
  | [] => by simp [wipe]
  | v :: vs => by
    unfold wipe
    rw [List.getElem?_set, wipe_get σ j vs, wipe_length]
    by_cases h : v = j
    · subst h; simp
    · have h' : ¬ j = v := fun z => h z.symm
      simp [h, h']
theorem wipe_set {i : Nat} {x : Option V} (h : i ∈ vs) : wipe (σ.set i x) vs = wipe σ vs := by
  apply List.ext_getElem?
  intro j
  rw [wipe_get, wipe_get, List.length_set]
  by_cases hj : j ∈ vs
  · simp [hj]
  · rw [if_neg hj, if_neg hj, List.getElem?_set, if_neg (fun (z : i = j) => hj (z ▸ h))]
theorem of_wipe (h : wipe σ1 vs = wipe σ vs) : σ1.length = σ.length ∧ ∀ i, i ∉ vs → σ1[i]? = σ[i]? := by
  refine ⟨by rw [← wipe_length σ1 vs, h, wipe_length], fun i hi => ?_⟩
  rw [← wipe_keep hi, h, wipe_keep hi]
/-- targets of a comprehension -/
def LkGw (C : Ct) (vs : List Nat) (g : TG) (f : D → Rho → Option Rho) : Prop := ∀ ρ σ B H v d ρ' Q, Sim C.K ρ σ B H → Rp C.K B v d → f d ρ = some ρ' → (∀ σ' B' H', Sim C.K ρ' σ' B' H' → Ext ρ σ B H ρ' σ' B' H' → wipe σ' vs = wipe σ vs → Q σ' H') → g v σ H Q
def LkGws (C : Ct) (vs : List Nat) (g : TGs) (f : List D → Rho → Option Rho) : Prop := ∀ ρ σ B H ws ds ρ' Q, Sim C.K ρ σ B H → RpL C.K B ws ds → f ds ρ = some ρ' → (∀ σ' B' H', Sim C.K ρ' σ' B' H' → Ext ρ σ B H ρ' σ' B' H' → wipe σ' vs = wipe σ vs → Q σ' H') → g ws σ H Q
theorem lkw_N {i : Nat} (hi : i ∈ vs) : LkGw C vs (gName i) (gN i) := fun ρ σ B H v d ρ' Q S r e k => by
  unfold gN at e
  obtain ⟨h, rfl⟩ := if_some e
  simp only [Bool.and_eq_true, decide_eq_true_eq, Bool.not_eq_true'] at h
  obtain ⟨S2, x2⟩ := store_ok S Ext.refl (c := ⟨d, .sh⟩) h.1 h.2 (by simp) (.inl ⟨rfl, r⟩) fun z => absurd rfl z
  exact k _ _ _ S2 x2 (wipe_set hi)
theorem lkw_nil : LkGws C vs gNil gsN := fun ρ σ B H ws ds ρ' Q S r e k => by
  cases r with
  | nil => cases e; exact ⟨rfl, k _ _ _ S Ext.refl rfl⟩
  | cons _ _ => cases e
theorem lkw_C {tg : TG} {tgs : TGs} {f : D → Rho → Option Rho} {g : List D → Rho → Option Rho} (a : LkGw C vs tg f) (b : LkGws C vs tgs g) : LkGws C vs (gCons tg tgs) (gsC f g) := fun ρ σ B H ws ds ρ' Q S r e k => by
  cases r with
  | nil => cases e
  | cons h t =>
    obtain ⟨ρ1, e1, e2⟩ := Option.bind_eq_some_iff.mp (show (f _ ρ).bind (g _) = some ρ' from e)
    refine ⟨_, _, rfl, a ρ σ B H _ _ ρ1 _ S h e1 fun σ1 B1 H1 S1 x1 w1 => ?_⟩
    exact b ρ1 σ1 B1 H1 _ _ ρ' Q S1 (t.mono x1.bb) e2 fun σ2 B2 H2 S2 x2 w2 => k _ _ _ S2 (x1.trans x2) (w2.trans w1)
theorem lkw_T {tgs : TGs} {n : Nat} {g : List D → Rho → Option Rho} (b : LkGws C vs tgs g) : LkGw C vs (gTup C.K n tgs) (gT n g) := fun ρ σ B H v d ρ' Q S r e k => by
  cases d with
  | tuple ds =>
    replace e : (if ds.length = n then g ds ρ else none) = some ρ' := e
    split at e
    · obtain ⟨a, ws, rfl, ha, ra⟩ := r.tupE
      exact ⟨a, ws, rfl, same_t S.bh ha, by rw [ra.length]; assumption, b ρ σ B H ws ds ρ' Q S ra e k⟩
    · cases e
  | _ => cases e
/-- without exceptions -/
def eNox (f : EF) : EF := fun ρ => match f ρ with
  | .exc _ _ => .stuck
  | r => r
abbrev Ct.nox (C : Ct) : Ct := { C with W := fun _ _ _ _ => False }
theorem LkE.ofNox {t : TE} {f : EF} (l : LkE C.nox t f) : LkE C t (eNox f) := fun ρ σ B H Q S g => by
  refine l ρ σ B H Q S ?_
  unfold eNox at g
  cases e : f ρ with
  | stuck => rw [e] at g; exact g
  | ok h ρ1 => rw [e] at g; exact g
  | exc x ρ1 => rw [e] at g; exact g.elim
theorem LkT.ofNox {t : TT} {f : EF} (l : LkT C.nox t f) : LkT C t (eNox f) := fun ρ σ B H Q S g => by
  refine l ρ σ B H Q S ?_
  unfold eNox at g
  cases e : f ρ with
  | stuck => rw [e] at g; exact g
  | ok h ρ1 =>
    rw [e] at g
    cases h with
    | sh d => cases d <;> exact g
    | _ => exact g
  | exc x ρ1 => rw [e] at g; exact g.elim
theorem eNox_ne (f : EF) (ρ : Rho) {x : Xc} {ρ1 : Rho} : eNox f ρ ≠ .exc x ρ1 := fun h => by
  unfold eNox at h
  split at h
  · cases h
  · rename_i z; exact z _ _ h
theorem cap_nox_ne (f : EF) (ρ : Rho) {x : Xc} {ρ1 : Rho} : eCap (eNox f) ρ ≠ .exc x ρ1 := fun h => by
  unfold eCap bindE at h
  split at h
  · cases h
  · dsimp only at h
    split at h <;> cases h
  · rename_i e; exact eNox_ne _ _ e
def NoV (ρ : Rho) (vs : List Nat) : Prop := ∀ (i : Nat) (c : Cel), ρ[i]? = some (some c) → i ∉ vs
theorem noV_wipe : NoV (wipeR ρ vs) vs := fun i c h => (wipeR_some h).2
theorem Sim.swap (S : Sim K ρ σ B H) (n : NoV ρ vs) (hl : σ'.length = σ.length) (he : ∀ i, i ∉ vs → σ'[i]? = σ[i]?) : Sim K ρ σ' B H := by
  refine ⟨S.bh, by rw [hl]; exact S.len, fun i c h => ?_, fun i j ci cj a hi hj ni nj ei ej => ?_⟩
  · rw [he i (n i c h)]; exact S.sl i c h
  · rw [he i (n i ci hi)] at ei
    rw [he j (n j cj hj)] at ej
    exact S.dj i j ci cj a hi hj ni nj ei ej
theorem Sim.tweak (S : Sim K ρ σ B H) {q : Addr} {o : HO} (hb : B q = none) (hn : ¬ OwnA ρ σ q) : Sim K ρ σ B (upd H q o) := by
  refine ⟨fun b u z => ?_, S.len, fun i c h => ?_, S.dj⟩
  · rw [upd_ne (ne_of_none z hb)]; exact S.bh _ _ z
  · obtain ⟨v, ev, ok⟩ := S.sl i c h
    refine ⟨v, ev, ok.mono (Same.refl B) fun a hv ha ho hf => ⟨ha, ?_⟩⟩
    have ne : a ≠ q := fun z => by subst z hv; exact hn ⟨i, c, h, hf, ev⟩
    rw [upd_ne ne]
theorem Ext.tweak (x : Ext ρ σ B H ρ1 σ1 B1 H1) {q : Addr} {o : HO} (hn : New ρ σ H q) : Ext ρ σ B H ρ1 σ1 B1 (upd H1 q o) := by
  refine ⟨x.bb, x.nw, fun a u h n => ?_, x.sub, x.io, x.oi⟩
  have ne : a ≠ q := fun z => by
    subst z
    rcases hn with z | z
    · rw [h] at z; cases z
    · exact n z
  rw [upd_ne ne]
  exact x.kp a u h n
theorem OwnA.swap {a : Addr} (n : NoV ρ vs) (he : ∀ i, i ∉ vs → σ'[i]? = σ[i]?) (h : OwnA ρ σ' a) : OwnA ρ σ a := by
  obtain ⟨i, c, h1, h2, h3⟩ := h
  exact ⟨i, c, h1, h2, (he i (n i c h1)).symm.trans h3⟩
theorem Ext.swapL (x : Ext ρ σ' B H ρ1 σ1 B1 H1) (n : NoV ρ vs) (he : ∀ i, i ∉ vs → σ'[i]? = σ[i]?) (ho : ∀ (i : Nat) c, ρ[i]? = some (some c) → c.fl = .io → σ1[i]? = σ[i]?) : Ext ρ σ B H ρ1 σ1 B1 H1 := by
  have own : ∀ a, OwnA ρ σ' a → OwnA ρ σ a := fun a h => h.swap n he
  have own' : ∀ a, OwnA ρ σ a → OwnA ρ σ' a := fun a h => h.swap n fun i hi => (he i hi).symm
  exact ⟨x.bb, fun a o h => (x.nw a o h).imp id fun z => z.elim .inl fun z => .inr (own a z), fun a o h z => x.kp a o h fun w => z (own a w), fun a h => (x.sub a h).elim .inl fun z => .inr (own a z),
    fun i c h1 h2 => ⟨ho i c h1 h2, (x.io i c h1 h2).2⟩, x.oi⟩
/-! the loop -/
def lcM (vs : List Nat) (g : D → Rho → Option Rho) (ft fe : EF) : List D → List D → Rho → RE := lcL vs g (eNox ft) (eNox fe)
theorem lk_lc {w : TI} {tgt : TG} {tt : TT} {fi : IF} {g : D → Rho → Option Rho} {ft : EF} (li : LkI C w fi) (lg : LkGw C vs tgt g) (lt : LkT C.nox tt ft) (le : LkE C.nox te fe) : LkE C (tLc w tgt tt te vs) (eLc vs fi g (eNox ft) (eNox fe)) := fun ρ σ B H Q S gd => by
  have lt' := lt.ofNox
  have le' := le.ofNox
  refine li ρ σ B H _ S ?_
  unfold eLc at gd
  cases e : fi ρ with
  | stuck => rw [e] at gd; exact gd
  | exc x ρ1 => rw [e] at gd; exact gd
  | ok ds ρ1 =>
    rw [e] at gd
    replace gd : GoodE C ρ σ B H Q (if vs.all fun i => !ioAt ρ1 i then lcL vs g (eNox ft) (eNox fe) ds [] (wipeR ρ1 vs) else .stuck) := gd
    by_cases hio : (vs.all fun i => !ioAt ρ1 i) = true
    case neg => rw [if_neg hio] at gd; exact gd.elim
    rw [if_pos hio] at gd
    intro J B1 H1 S1 x1 ok Dd hD
    have hio' : ∀ i ∈ vs, ∀ c, ρ1[i]? = some (some c) → c.fl ≠ .io := fun i hi c hc => by
      have := List.all_eq_true.mp hio i hi
      exact not_io (by simpa using this) hc
    have hio0 : ∀ i ∈ vs, ∀ c, ρ[i]? = some (some c) → c.fl ≠ .io := fun i hi c hc hf => by
      obtain ⟨_, c', q1, q2⟩ := x1.io i c hc hf
      exact hio' i hi c' q1 q2
    obtain ⟨bD, nD⟩ := S1.free hD
    have newD : New ρ σ H Dd := x1.back (.inl hD)
    have wk : ∀ i, i ∉ vs → (wipe σ vs)[i]? = σ[i]? := fun i hi => wipe_keep hi
    have wl : (wipe σ vs).length = σ.length := wipe_length σ vs
    -- the start
    have S0 : Sim C.K (wipeR ρ1 vs) σ B1 (upd H1 Dd (.lst [])) := (S1.wipe vs rfl fun _ _ => rfl).tweak bD fun ⟨i, c, h1, h2, h3⟩ => nD ⟨i, c, (wipeR_some h1).1, h2, h3⟩
    have x0 : Ext ρ σ B H (wipeR ρ1 vs) σ B1 (upd H1 Dd (.lst [])) := (x1.wipe vs hio0 fun _ _ => rfl).tweak newD
    refine lc_it ok (fun i Hc => ∃ ρ' B' vacc acc, Sim C.K ρ' σ B' Hc ∧ NoV ρ' vs ∧ Ext ρ σ B H ρ' σ B' Hc ∧ Same B1 B' ∧ Hc Dd = some (.lst vacc) ∧ B' Dd = none ∧ ¬ OwnA ρ' σ Dd ∧ RpL C.K B' vacc acc ∧ GoodE C ρ σ B H Q (lcL vs g (eNox ft) (eNox fe) (ds.drop i) acc ρ'))
      ⟨wipeR ρ1 vs, B1, [], [], S0, noV_wipe, x0, Same.refl _, upd_same, bD, fun ⟨i, c, h1, h2, h3⟩ => nD ⟨i, c, (wipeR_some h1).1, h2, h3⟩, .nil, gd⟩ (fun i Hc _ ⟨ρ', B', _, _, S', _, _, s', _⟩ => s'.trans S'.bh) ?_ ?_
    · rintro i v Hc H2 hi ⟨ρ', B', vacc, acc, S', nv, x', s', hacc, bacc, nacc, racc, g'⟩ ⟨d, ed, y⟩
      have hd : ds.drop i = d :: ds.drop (i + 1) := by
        have := List.drop_eq_getElem_cons hi
        rw [this]
        congr 1
        exact Option.some.inj ((List.getElem?_eq_getElem hi).symm.trans ed)
      rw [hd] at g'
      -- the turn's item
      have step : ∃ B2, Sim C.K ρ' σ B2 H2 ∧ Ext ρ σ B H ρ' σ B2 H2 ∧ Same B1 B2 ∧ Rp C.K B2 v d ∧ H2 Dd = some (.lst vacc) ∧ B2 Dd = none ∧ RpL C.K B2 vacc acc := by
        rcases y with ⟨rfl, r⟩ | ⟨T, ws, es, rfl, hT, rfl, rfl, r⟩
        · exact ⟨B', S', x', s', r.mono s', hacc, bacc, racc⟩
        · obtain ⟨S2, x2⟩ := S'.newB hT (.tup ws)
          have ne : Dd ≠ T := ne_of_none hacc hT
          exact ⟨_, S2, x'.trans x2, s'.trans x2.bb, .tup (.inl (.inl upd_same)) (r.mono (s'.trans x2.bb)), by rw [upd_ne ne]; exact hacc, by rw [upd_ne ne]; exact bacc, racc.mono x2.bb⟩
      obtain ⟨B2, S2, x2, s2, r2, hacc2, bacc2, racc2⟩ := step
      unfold lcL at g'
      cases eg : g d ρ' with
      | none => rw [eg] at g'; exact g'.elim
      | some ρ3 =>
        rw [eg] at g'
        have S2w : Sim C.K ρ' (wipe σ vs) B2 H2 := S2.swap nv wl wk
        refine lg ρ' (wipe σ vs) B2 H2 v d ρ3 _ S2w r2 eg fun σ3 B3 H3 S3 x3 w3 => ?_
        have w3' : wipe σ3 vs = wipe σ vs := by
          rw [w3]
          apply List.ext_getElem?
          intro j
          rw [wipe_get, wl, wipe_get]
          by_cases hj : j ∈ vs <;> simp [hj]
        obtain ⟨l3, k3⟩ := of_wipe w3'
        refine ⟨w3', ?_⟩
        have nacc' : ¬ OwnA ρ' (wipe σ vs) Dd := fun z => nacc (z.swap nv wk)
        obtain ⟨hacc3, bacc3, nacc3⟩ := x3.keepN hacc2 bacc2 nacc'
        -- from the start to here, at σ3
        have x3s : Ext ρ σ B H ρ3 σ3 B3 H3 := x2.trans (x3.swapL nv wk fun j c h1 h2 => k3 j (nv j c h1))
        dsimp only at g'
        refine lt' ρ3 σ3 B3 H3 _ S3 ?_
        cases et : eNox ft ρ3 with
        | stuck => rw [et] at g'; exact g'.elim
        | exc c ρ4 => exact absurd et (eNox_ne _ _)
        | ok h ρ4 =>
          rw [et] at g'
          cases h with
          | fr _ => exact g'.elim
          | bw _ => exact g'.elim
          | sh dd =>
            cases dd with
            | bool b =>
              replace g' : GoodE C ρ σ B H Q (if b then bindE (eCap (eNox fe) ρ4) fun h ρ3 => match h with
                | .sh y => if acc.length < sizeLine then lcL vs g (eNox ft) (eNox fe) (ds.drop (i + 1)) (acc ++ [y]) (wipeR ρ3 vs) else .stuck
                | _ => .stuck
                else lcL vs g (eNox ft) (eNox fe) (ds.drop (i + 1)) acc (wipeR ρ4 vs)) := g'
              intro B4 H4 S4 x4
              obtain ⟨hacc4, bacc4, nacc4⟩ := x4.keepN hacc3 bacc3 nacc3
              have x4s : Ext ρ σ B H ρ4 σ3 B4 H4 := x3s.trans x4
              have racc4 := (racc2.mono x3.bb).mono x4.bb
              have s4 : Same B1 B4 := (s2.trans x3.bb).trans x4.bb
              cases b with
              | false =>
                rw [if_neg Bool.false_ne_true] at g' ⊢
                exact ⟨wipeR ρ4 vs, B4, vacc, acc, S4.wipe vs l3.symm fun j hj => (k3 j hj).symm, noV_wipe, x4s.wipe vs hio0 fun j hj => (k3 j hj).symm, s4, hacc4, bacc4,
                  fun ⟨j, c, h1, h2, h3⟩ => nacc4 ⟨j, c, (wipeR_some h1).1, h2, (k3 j (wipeR_some h1).2).trans h3⟩, racc4, g'⟩
              | true =>
                rw [if_pos rfl] at g' ⊢
                refine le'.cap ρ4 σ3 B4 H4 _ S4 ?_
                cases ee : eCap (eNox fe) ρ4 with
                | stuck => rw [ee] at g'; exact g'.elim
                | exc c ρ5 => exact absurd ee (cap_nox_ne _ _)
                | ok h ρ5 =>
                  rw [ee] at g'
                  cases h with
                  | fr _ => exact g'.elim
                  | bw _ => exact g'.elim
                  | sh y =>
                    replace g' : GoodE C ρ σ B H Q (if acc.length < sizeLine then lcL vs g (eNox ft) (eNox fe) (ds.drop (i + 1)) (acc ++ [y]) (wipeR ρ5 vs) else .stuck) := g'
                    intro u B5 H5 S5 x5 y5
                    obtain ⟨hacc5, bacc5, nacc5⟩ := x5.keepN hacc4 bacc4 nacc4
                    by_cases hsz : acc.length < sizeLine
                    case neg => rw [if_neg hsz] at g'; exact g'.elim
                    rw [if_pos hsz] at g'
                    have nown : ¬ OwnA (wipeR ρ5 vs) σ Dd := fun ⟨j, c, h1, h2, h3⟩ => nacc5 ⟨j, c, (wipeR_some h1).1, h2, (k3 j (wipeR_some h1).2).trans h3⟩
                    refine ⟨vacc, hacc5, by rw [racc.length]; exact hsz, wipeR ρ5 vs, B5, vacc ++ [u], acc ++ [y], (S5.wipe vs l3.symm fun j hj => (k3 j hj).symm).tweak bacc5 nown, noV_wipe,
                      ((x4s.trans x5).wipe vs hio0 fun j hj => (k3 j hj).symm).tweak newD, s4.trans x5.bb, upd_same, bacc5, nown, (racc4.mono x5.bb).append (.cons y5 .nil), g'⟩
            | _ => exact g'.elim
    · rintro Hc ⟨ρ', B', vacc, acc, S', nv, x', s', hacc, bacc, nacc, racc, g'⟩
      rw [List.drop_length] at g'
      exact g' _ B' Hc S' x' ⟨Dd, rfl, bacc, ⟨vacc, hacc, racc⟩, nacc, newD⟩
/-- a comprehension with one for -/
theorem se_lc {elt it : Expr} {ifs : List Expr} {scope : Scope} {own : List (Str × Nat)} {w : TI} {tgt : TG} {tt : TT} {fi : IF} {g : D → Rho → Option Rho} {ft : EF} (hc : X.calm = true) (hN : X.N.Nodup) (li : SI X C tg it w fi) (ok : BlkOk X.N X.env.scope scope own)
    (hg : ∀ (s : Shared) (H : Hp) (c : Addr) (cl : List (Str × Addr)) (fp : List Addr), PG (X.blk s H scope (compEnvC scope cl c X.env) fp) tg tgt) (lg : LkGw C (own.map (·.2)) tgt g)
    (ht : ∀ (s : Shared) (H : Hp) (c : Addr) (cl : List (Str × Addr)) (fp : List Addr), PTs (X.blk s H scope (compEnvC scope cl c X.env) fp) ifs tt) (lt : LkT C.nox tt ft)
    (he : ∀ (s : Shared) (H : Hp) (c : Addr) (cl : List (Str × Addr)) (fp : List Addr), PE (X.blk s H scope (compEnvC scope cl c X.env) fp) elt te) (le : LkE C.nox te fe)
    (hs : ∀ x, foldedSetIterable it X.env x = pure x := by intro _; rfl) : SE X C (.ListComp elt [⟨tg, it, ifs, 0⟩] scope pos) (tLc w tgt tt te (own.map (·.2))) (eLc (own.map (·.2)) fi g (eNox ft) (eNox fe)) :=
  ⟨pe_lc hc hN li.pi ok hg ht he hs, lk_lc li.lk lg lt le⟩
end
end GS

/-! ### what changes an owned object; a def's body and its promise; the law -/
namespace GS
open PySem L2
section
variable {X : Cx} {C : Ct} {ρ ρ1 : Rho} {σ σ1 σ' : St} {B H B1 H1 : Hp} {e tg : Expr} {te : TE} {fe : EF} {pos p : Pos} {vs : List Nat} {K : PySem.W.Frag}
theorem Sim.mut (S : Sim K ρ σ B H) {i : Nat} {c : Cel} {a : Addr} {o : HO} {d : D} (hi : ρ[i]? = some (some c)) (hf : c.fl ≠ .sh) (ha : σ[i]? = some (some (.ref a))) (ow : Ow K B (some o) d) :
    Sim K (ρ.set i (some ⟨d, c.fl⟩)) σ B (upd H a o) ∧ Ext ρ σ B H (ρ.set i (some ⟨d, c.fl⟩)) σ B (upd H a o) := by
  obtain ⟨v, ev, ok⟩ := S.sl i c hi
  rw [ha] at ev
  cases ev
  rcases ok with ⟨z, _⟩ | ⟨_, b, eb, hb, _⟩
  · exact absurd z hf
  cases eb
  refine ⟨⟨fun b u z => ?_, by rw [List.length_set]; exact S.len, fun j cj hj => ?_, fun j k cj ck b hj hk nj nk ej ek => ?_⟩, ⟨Same.refl B, fun b u z => .inl z, fun b u z n => ?_, fun b z => ?_, fun j cj hj hjf => ?_, fun j cj hj hjf => ?_⟩⟩
  · rw [upd_ne (ne_of_none z hb)]; exact S.bh _ _ z
  · rcases set_get hj with ⟨rfl, ec⟩ | ⟨ne, hj⟩
    · cases ec
      exact ⟨.ref a, ha, .inr ⟨hf, a, rfl, hb, by rw [upd_same]; exact ow⟩⟩
    · obtain ⟨v, ev, ok⟩ := S.sl j cj hj
      refine ⟨v, ev, ok.mono (Same.refl B) fun b hv hb' ho' hf' => ⟨hb', ?_⟩⟩
      have nb : b ≠ a := fun z => by
        subst z hv
        exact ne (S.dj i j c cj b hi hj hf hf' ha ev)
      rw [upd_ne nb]
  · have f1 : ∃ c1, ρ[j]? = some (some c1) ∧ c1.fl ≠ .sh := by
      rcases set_get hj with ⟨rfl, ec⟩ | ⟨_, hj⟩
      · cases ec; exact ⟨c, hi, hf⟩
      · exact ⟨cj, hj, nj⟩
    have f2 : ∃ c1, ρ[k]? = some (some c1) ∧ c1.fl ≠ .sh := by
      rcases set_get hk with ⟨rfl, ec⟩ | ⟨_, hk⟩
      · cases ec; exact ⟨c, hi, hf⟩
      · exact ⟨ck, hk, nk⟩
    obtain ⟨c1, a1, a2⟩ := f1
    obtain ⟨c2, b1, b2⟩ := f2
    exact S.dj j k c1 c2 b a1 b1 a2 b2 ej ek
  · have nb : b ≠ a := fun q => by subst q; exact n ⟨i, c, hi, hf, ha⟩
    rw [upd_ne nb]; exact z
  · obtain ⟨j, cj, hj, nj, ej⟩ := z
    rcases set_get hj with ⟨rfl, ec⟩ | ⟨_, hj⟩
    · cases ec; exact .inr ⟨i, c, hi, hf, ej⟩
    · exact .inr ⟨j, cj, hj, nj, ej⟩
  · by_cases hij : i = j
    · subst hij
      rw [hi] at hj
      cases hj
      exact ⟨rfl, _, set_at (lt_of hi), hjf⟩
    · exact ⟨rfl, cj, by rw [set_other hij]; exact hj, hjf⟩
  · rcases set_get hj with ⟨rfl, ec⟩ | ⟨_, hj⟩
    · cases ec; exact ⟨c, hi, hjf⟩
    · exact ⟨cj, hj, hjf⟩
/-- the object of an owned slot -/
theorem Sim.own (S : Sim K ρ σ B H) {i : Nat} {c : Cel} (hi : ρ[i]? = some (some c)) (hf : c.fl ≠ .sh) : ∃ a, σ[i]? = some (some (.ref a)) ∧ B a = none ∧ Ow K B (H a) c.d := by
  obtain ⟨v, ev, ok⟩ := S.sl i c hi
  rcases ok with ⟨z, _⟩ | ⟨_, b, rfl, hb, ho⟩
  · exact absurd z hf
  · exact ⟨b, ev, hb, ho⟩
/-- a slot that may be changed -/
def mutS (ρ : Rho) (i : Nat) (k : D → Option D) : RS := match slot ρ i with
  | some ⟨d, .ow⟩ => match k d with
    | some d' => .nx (ρ.set i (some ⟨d', .ow⟩))
    | none => .stuck
  | some ⟨d, .io⟩ => match k d with
    | some d' => .nx (ρ.set i (some ⟨d', .io⟩))
    | none => .stuck
  | _ => .stuck
theorem mutS_ok {E : Ends} {i : Nat} {k : D → Option D} (g : GoodS C ρ σ B H E (mutS ρ1 i k)) : ∃ c d', ρ1[i]? = some (some c) ∧ c.fl ≠ .sh ∧ k c.d = some d' ∧ GoodS C ρ σ B H E (.nx (ρ1.set i (some ⟨d', c.fl⟩))) := by
  unfold mutS at g
  split at g
  · rename_i d es
    split at g
    · rename_i d' ek
      exact ⟨_, d', slot_some es, by simp, ek, g⟩
    · exact g.elim
  · rename_i d es
    split at g
    · rename_i d' ek
      exact ⟨_, d', slot_some es, by simp, ek, g⟩
    · exact g.elim
  · exact g.elim
/-! x.append(e) -/
def appD (y : D) : D → Option D
  | .list ds => if ds.length < sizeLine then some (.list (ds ++ [y])) else none
  | _ => none
def isL (ρ : Rho) (i : Nat) : Bool := match slot ρ i with
  | some ⟨.list _, _⟩ => true
  | _ => false
def sApp (i : Nat) (fe : EF) : SF := fun ρ => if isL ρ i then bindES (eCap fe ρ) fun h ρ1 => match h with
  | .sh y => mutS ρ1 i (appD y)
  | _ => .stuck else .stuck
theorem isL_ok (S : Sim K ρ σ B H) {i : Nat} (h : isL ρ i = true) : ∃ a vs, σ[i]? = some (some (.ref a)) ∧ SqL K H a vs := by
  unfold isL at h
  split at h
  · rename_i ds fl es
    obtain ⟨v, ev, ok⟩ := S.sl i _ (slot_some es)
    rcases ok with ⟨_, q⟩ | ⟨_, a, rfl, _, vs, q, _⟩
    · obtain ⟨a, vs, rfl, ha, _⟩ := Rp.lstE q
      exact ⟨a, vs, ev, same_l S.bh ha⟩
    · exact ⟨a, vs, ev, .inl (.inl q)⟩
  · cases h
theorem tyL {a : Addr} {vs : List V} (h : SqL K H a vs) : tyV K "list" (.ref a) H := .inl ⟨rfl, _, h⟩
theorem ss_app {i : Nat} {x : Str} {q1 q2 q3 : Pos} (l : SE X C e te fe) (hN : X.N[i]? = some x := by rfl) (hv : Vis X.env.scope x := by first | exact Or.inl rfl | exact Or.inr (Or.inl rfl) | exact Or.inr (Or.inr rfl)) (hd : (x == ("__debug__" : Str)) = false := by decide)
    (hcd : (x == ("__classdict__" : Str)) = false := by decide) (hk : X.K = C.K := by rfl) (hs : starEach [e] X.env = (false, eval e X.env) :: starEach [] X.env := by rfl)
    (hfew : ((backTo q3 (starEach [e] X.env)).all (fun x => !x.1) && (backToKw q3 (keywordEach [] X.env)).all (fun x => x.1.isSome) && decide ([e].length + ([] : List Keyword).length + (if ([] : List Keyword).isEmpty then 0 else 1) < 30)) = true := by rfl)
    (hline : (q2.endLine == q3.line) = true := by rfl) :
    SS X C (.Expr (.Call (.Attribute (.Name x q1) "append" q2) [e] [] q3) pos) (tDrop (tBM C.K "list" rAppend (tVar i) (tCons te tNil))) (sApp i fe) := by
  refine ⟨by rw [← hk]; exact ps_expr (pe_bm PySem.F.plainAttrs_list PySem.F.slot_list_append PySem.F.type_list_append mt_append (pe_var hN hv hd hcd) (pa_cons l.pe pa_nil hs) rfl hfew hline hs), fun ρ σ B H E S g => ?_⟩
  unfold sApp at g
  by_cases hl : isL ρ i = true
  case neg => rw [if_neg hl] at g; exact g.elim
  rw [if_pos hl] at g
  obtain ⟨a, vs, ea, sq⟩ := isL_ok S hl
  refine ⟨.ref a, ea, tyL sq, ?_⟩
  refine l.lk.cap.bindS S g fun hd ρ1 v B1 H1 S1 x1 y1 g1 => ?_
  cases hd with
  | sh y =>
    obtain ⟨c, d', h1, h2, h3, h4⟩ := mutS_ok g1
    obtain ⟨a', ea', hb, ow⟩ := S1.own h1 h2
    rw [ea] at ea'
    cases ea'
    obtain ⟨d, fl⟩ := c
    cases d with
    | list ds =>
      obtain ⟨hc, rfl⟩ := if_some (show (if ds.length < sizeLine then some (.list (ds ++ [y])) else none) = some d' from h3)
      obtain ⟨ws, ew, rw'⟩ := ow
      have ow' : Ow C.K B1 (some (.lst (ws ++ [v]))) (.list (ds ++ [y])) := ⟨_, rfl, rw'.append (.cons y1 .nil)⟩
      obtain ⟨S2, x2⟩ := S1.mut h1 h2 ea ow'
      exact ⟨a, ws, v, rfl, rfl, ew, by rw [rw'.length]; exact hc, h4 _ _ _ S2 (x1.trans x2)⟩
    | _ => cases h3
  | _ => exact g1.elim
end
/-! a def -/
def ioC : Option Cel → Option Cel
  | some ⟨d, .io⟩ => some ⟨d, .io⟩
  | _ => none
def outR (ρ : Rho) (n : Nat) : Rho := (List.range n).map fun i => ioC (slot ρ i)
def fnF (m n : Nat) (g : SF) : FF := fun ρ => match g (ρ ++ List.replicate (m - n) none) with
  | .rt (.bw _) _ => .stuck
  | .rt h ρ1 => .ok h (outR ρ1 n)
  | .nx ρ1 => .ok (.sh .none) (outR ρ1 n)
  | .exc x ρ1 => .exc x (outR ρ1 n)
  | _ => .stuck
theorem ioC_some {o : Option Cel} {c : Cel} (h : ioC o = some c) : o = some c ∧ c.fl = .io := by
  unfold ioC at h
  split at h
  · cases h; exact ⟨rfl, rfl⟩
  · cases h
theorem outR_at {ρ : Rho} {n i : Nat} {c : Cel} (h : (outR ρ n)[i]? = some (some c)) : i < n ∧ ρ[i]? = some (some c) ∧ c.fl = .io := by
  unfold outR at h
  rw [List.getElem?_map] at h
  by_cases hi : i < n
  · rw [List.getElem?_range hi] at h
    obtain ⟨q1, q2⟩ := ioC_some (Option.some.inj h)
    exact ⟨hi, slot_some q1, q2⟩
  · rw [List.getElem?_eq_none (by rw [List.length_range]; omega)] at h
    cases h
theorem slot_of {ρ : Rho} {i : Nat} {c : Cel} (h : ρ[i]? = some (some c)) : slot ρ i = some c := by
  unfold slot
  rw [h]
theorem outR_has {ρ : Rho} {n i : Nat} {c : Cel} (hi : i < n) (h : ρ[i]? = some (some c)) (hf : c.fl = .io) : (outR ρ n)[i]? = some (some c) := by
  unfold outR
  rw [List.getElem?_map, List.getElem?_range hi]
  show some (ioC (slot ρ i)) = _
  rw [slot_of h]
  obtain ⟨d, fl⟩ := c
  cases hf
  rfl
section
variable {K : PySem.W.Frag} {ρ ρ1 : Rho} {σ1 : St} {B H B1 H1 : Hp} {N : List Str} {vs : List V} {n : Nat}
theorem start_get {i : Nat} (h : i < vs.length) : (L2.start N vs)[i]? = (vs.map some)[i]? := by
  unfold L2.start
  rw [List.getElem?_append_left (by simpa using h)]
theorem ap_get {m : Nat} {i : Nat} {c : Cel} (h : (ρ ++ List.replicate m none)[i]? = some (some c)) : i < ρ.length ∧ ρ[i]? = some (some c) := by
  by_cases hi : i < ρ.length
  · rw [List.getElem?_append_left hi] at h; exact ⟨hi, h⟩
  · rw [List.getElem?_append_right (by omega), List.getElem?_replicate] at h
    split at h <;> cases h
theorem ap_of {m : Nat} {i : Nat} {c : Cel} (h : ρ[i]? = some (some c)) : (ρ ++ List.replicate m none)[i]? = some (some c) := by
  rw [List.getElem?_append_left (lt_of h)]; exact h
theorem entry_own {m : Nat} (hl : ρ.length = vs.length) {a : Addr} : OwnA (ρ ++ List.replicate m none) (L2.start N vs) a ↔ OwnA ρ (vs.map some) a := by
  constructor
  · rintro ⟨i, c, h1, h2, h3⟩
    obtain ⟨q1, q2⟩ := ap_get h1
    exact ⟨i, c, q2, h2, by rw [← start_get (by omega)]; exact h3⟩
  · rintro ⟨i, c, h1, h2, h3⟩
    exact ⟨i, c, ap_of h1, h2, by rw [start_get (by have := lt_of h1; omega)]; exact h3⟩
theorem entry_sim (S : Sim K ρ (vs.map some) B H) (hN : vs.length ≤ N.length) : Sim K (ρ ++ List.replicate (N.length - vs.length) none) (L2.start N vs) B H := by
  have hl : ρ.length = vs.length := by rw [S.len, List.length_map]
  refine ⟨S.bh, ?_, fun i c h => ?_, fun i j ci cj a hi hj ni nj ei ej => ?_⟩
  · unfold L2.start
    rw [List.length_append, List.length_append, List.length_replicate, List.length_replicate, List.length_map, hl]
  · obtain ⟨q1, q2⟩ := ap_get h
    obtain ⟨v, ev, ok⟩ := S.sl i c q2
    exact ⟨v, by rw [start_get (by omega)]; exact ev, ok⟩
  · obtain ⟨q1, q2⟩ := ap_get hi
    obtain ⟨q3, q4⟩ := ap_get hj
    rw [start_get (by omega)] at ei ej
    exact S.dj i j ci cj a q2 q4 ni nj ei ej
/-- the body's end as the caller sees it -/
theorem exit_sim {m : Nat} (S : Sim K ρ (vs.map some) B H) (hn : ρ.length = n) (S1 : Sim K ρ1 σ1 B1 H1) (x : Ext (ρ ++ List.replicate m none) (L2.start N vs) B H ρ1 σ1 B1 H1) :
    Sim K (outR ρ1 n) (vs.map some) B1 H1 ∧ Ext ρ (vs.map some) B H (outR ρ1 n) (vs.map some) B1 H1 ∧ (∀ a, OwnA (outR ρ1 n) (vs.map some) a → OwnA ρ1 σ1 a) ∧ ∀ a, New (ρ ++ List.replicate m none) (L2.start N vs) H a → New ρ (vs.map some) H a := by
  have hl : ρ.length = vs.length := by rw [S.len, List.length_map]
  have hnew : ∀ a, New (ρ ++ List.replicate m none) (L2.start N vs) H a → New ρ (vs.map some) H a := fun a h => h.imp id (entry_own hl).mp
  -- a lent slot stands as at the entry
  have same : ∀ (i : Nat) (c : Cel), (outR ρ1 n)[i]? = some (some c) → i < vs.length ∧ ρ1[i]? = some (some c) ∧ c.fl = .io ∧ σ1[i]? = (vs.map some)[i]? := fun i c h => by
    obtain ⟨q1, q2, q3⟩ := outR_at h
    obtain ⟨c', r1, r2⟩ := x.oi i c q2 q3
    obtain ⟨w1, _⟩ := ap_get r1
    have e := (x.io i c' r1 r2).1
    rw [start_get (by omega)] at e
    exact ⟨by omega, q2, q3, e⟩
  have own : ∀ a, OwnA (outR ρ1 n) (vs.map some) a → OwnA ρ1 σ1 a := fun a ⟨i, c, h1, h2, h3⟩ => by
    obtain ⟨_, q2, _, q4⟩ := same i c h1
    exact ⟨i, c, q2, h2, q4.trans h3⟩
  refine ⟨⟨S1.bh, ?_, fun i c h => ?_, fun i j ci cj a hi hj ni nj ei ej => ?_⟩, ⟨x.bb, fun a o h => (x.nw a o h).imp id (hnew a), fun a o h z => x.kp a o h fun w => z ((entry_own hl).mp w), fun a h => hnew a (x.sub a (own a h)), fun i c h1 h2 => ?_, fun i c h1 h2 => ?_⟩, own, hnew⟩
  · unfold outR
    rw [List.length_map, List.length_range, List.length_map]
    omega
  · obtain ⟨_, q2, _, q4⟩ := same i c h
    obtain ⟨v, ev, ok⟩ := S1.sl i c q2
    exact ⟨v, q4.symm.trans ev, ok⟩
  · obtain ⟨_, q2, _, q4⟩ := same i ci hi
    obtain ⟨_, r2, _, r4⟩ := same j cj hj
    exact S1.dj i j ci cj a q2 r2 ni nj (q4.trans ei) (r4.trans ej)
  · obtain ⟨_, c', q1, q2⟩ := x.io i c (ap_of h1) h2
    exact ⟨rfl, c', outR_has (by have := lt_of h1; omega) q1 q2, q2⟩
  · obtain ⟨_, q2, q3, _⟩ := same i c h1
    obtain ⟨c', r1, r2⟩ := x.oi i c q2 q3
    exact ⟨c', (ap_get r1).2, r2⟩
end
section
variable {P : Program} {w : World} {K : PySem.W.Frag} {mg : Str → Option Value} {base : Heap} {cv : Str → Value}
abbrev cxF (P : Program) (w : World) (K : PySem.W.Frag) (mg : Str → Option Value) (base : Heap) (N : List Str) (qual : Str) (st : Stmt) (f : Addr) (cdv : Value) (A : Around) (outer : List Env) (s : Shared) (H : Hp) (E : XK) : Cx :=
  cxOf (L2.CX P w) P w K mg base N qual (defScope st) f cdv A outer s H E
abbrev ctF (K : PySem.W.Frag) (cv : Str → Value) (E : XK) : Ct := ⟨K, cv, fun cls d _ H' => E cls d H'⟩
/-- THE RULE for a def: from its body -/
theorem fn_mk {x qual : Str} {st : Stmt} {f : Addr} {fd : FuncData} {N ps : List Str} {k : Nat} {g : SF} (F : Fun K x qual st f fd) (S : FnScope N ps (defScope st))
    (hb : ∀ (cdv : Value) (A : Around) (outer : List Env) (s : Shared) (H : Hp) (E : XK), Room k (cxF P w K mg base N qual st f cdv A outer s H E).A → Takes (cxF P w K mg base N qual st f cdv A outer s H E) (ctF K cv E).W →
      PassesOwn (model P w) (cxF P w K mg base N qual st f cdv A outer s H E).A (cxF P w K mg base N qual st f cdv A outer s H E).env (cxF P w K mg base N qual st f cdv A outer s H E).xe →
      ∃ t, SSs (cxF P w K mg base N qual st f cdv A outer s H E) (ctF K cv E) (defBody st) t g) :
    FnOk P w K mg base (L2.CX P w) (k + 1) f fd ps (spF K cv ps.length (fnF N.length ps.length g)) := by
  have hpl : ps.length ≤ N.length := by have := congrArg List.length S.pre; rw [List.length_take] at this; omega
  refine F.okX S (fun vs H Q E h => ?_) (fun cdv A outer s H vs Q E hr h => ?_)
  · obtain ⟨ρ, B, hl, Sm, _⟩ := h
    have := Sm.len
    rw [List.length_map] at this
    omega
  · obtain ⟨ρ, B, hl, Sm, gd⟩ := h
    have hv : vs.length = ps.length := by
      have := Sm.len
      rw [List.length_map] at this
      omega
    obtain ⟨t, ht⟩ := hb cdv A outer s H E hr (takes_of rfl rfl rfl rfl) (passes_of rfl)
    refine ⟨t, ht.ps, ht.lk (ρ ++ List.replicate (N.length - ps.length) none) _ B H _ (by rw [← hv]; exact entry_sim Sm (by omega)) ?_⟩
    unfold fnF at gd
    cases eg : g (ρ ++ List.replicate (N.length - ps.length) none) with
    | stuck => rw [eg] at gd; exact gd
    | bk _ => rw [eg] at gd; exact gd.elim
    | ct _ => rw [eg] at gd; exact gd.elim
    | nx ρ1 =>
      rw [eg] at gd
      intro σ1 B1 H1 S1 x1
      obtain ⟨S2, x2, _, _⟩ := exit_sim Sm hl S1 x1
      exact gd .non B1 H1 S2 x2 .non
    | exc c ρ1 =>
      rw [eg] at gd
      intro cls dct σ1 B1 H1 S1 x1 ok
      obtain ⟨S2, x2, _, _⟩ := exit_sim Sm hl S1 x1
      exact gd cls dct B1 H1 S2 x2 ok
    | rt h ρ1 =>
      rw [eg] at gd
      intro v σ1 B1 H1 S1 x1 y1
      obtain ⟨S2, x2, n1, n2⟩ := exit_sim Sm hl S1 x1
      cases h with
      | sh d => exact gd v B1 H1 S2 x2 y1
      | fr d =>
        obtain ⟨a, r1, r2, r3, r4, r5⟩ := y1
        exact gd v B1 H1 S2 x2 ⟨a, r1, r2, r3, fun z => r4 (n1 a z), n2 a r5⟩
      | bw i => exact gd.elim
theorem fn_zero {f : Addr} {fd : FuncData} {ps : List Str} {n : Nat} (hn : n = ps.length) : FnOk P w K mg base (L2.CX P w) 0 f fd ps (spF K cv n fun _ => .stuck) :=
  ⟨fun vs H Q E ⟨_, _, _, _, h⟩ => h.elim, fun A outer s H args us vs Q E _ _ _ _ ⟨_, _, _, _, h⟩ => h.elim⟩
theorem rpl_ints {B : Hp} : ∀ ns : List Int, RpL K B (ns.map V.int) (ns.map PyData.int)
  | [] => .nil
  | n :: ns => .cons (.int n) (rpl_ints ns)
/-- the law's promise from what it computes -/
theorem law_sp {F : FF} {H : Hp} {a : Addr} {ns : List Int} {outs : Rho} (h : SqL K H a (ns.map V.int)) (e : F [some ⟨.list (ns.map .int), .sh⟩] = .ok (.sh (.bool true)) outs) {E : XK} :
    spF K cv 1 F [.ref a] H (fun v _ => v = .bl true) E := by
  refine ⟨[some ⟨.list (ns.map .int), .sh⟩], H, rfl, ⟨Same.refl H, rfl, fun i c hi => ?_, fun i j ci cj b hi hj ni nj _ _ => ?_⟩, ?_⟩
  · match i, hi with
    | 0, hi =>
      cases hi
      exact ⟨.ref a, rfl, .inl ⟨rfl, .lst h (rpl_ints ns)⟩⟩
    | i + 1, hi => simp at hi
  · match i, hi with
    | 0, hi =>
      cases hi
      exact absurd rfl ni
    | i + 1, hi => simp at hi
  · rw [e]
    intro v B' H' S x y
    cases (show Rp K B' v (.bool true) from y)
    rfl
end
end GS

/-! ### forms that a printed text uses -/
namespace GS
open PySem L2
section
variable {X : Cx} {C : Ct} {ρ ρ1 : Rho} {σ σ1 σ' : St} {B H B1 H1 : Hp} {e tg : Expr} {te : TE} {fe : EF} {pos p : Pos} {vs : List Nat} {K : PySem.W.Frag}
/-- a name handed back: its own list is given away -/
def eRv (i : Nat) : EF := fun ρ => match slot ρ i with
  | some ⟨d, .sh⟩ => .ok (.sh d) ρ
  | some ⟨d, .ow⟩ => .ok (.fr d) (ρ.set i none)
  | _ => .stuck
theorem lk_rv {i : Nat} : LkE C (tVar i) (eRv i) := fun ρ σ B H Q S g => by
  unfold eRv at g
  cases h : slot ρ i with
  | none => rw [h] at g; exact g.elim
  | some c =>
    rw [h] at g
    obtain ⟨d, fl⟩ := c
    have hi := slot_some h
    cases fl with
    | sh =>
      obtain ⟨v, e, q⟩ := S.sl i _ hi
      rcases q with ⟨_, q⟩ | ⟨q, _⟩
      · exact ⟨v, e, g v B H S Ext.refl q⟩
      · exact absurd rfl q
    | ow =>
      obtain ⟨a, e, S1, x1, r⟩ := S.give hi
      exact ⟨.ref a, e, g _ B H S1 x1 r⟩
    | io => exact g.elim
theorem se_rv (i : Nat) {x : Str} (hN : X.N[i]? = some x := by rfl) (hv : Vis X.env.scope x := by first | exact Or.inl rfl | exact Or.inr (Or.inl rfl) | exact Or.inr (Or.inr rfl)) (hd : (x == ("__debug__" : Str)) = false := by decide)
    (hcd : (x == ("__classdict__" : Str)) = false := by decide) : SE X C (.Name x pos) (tVar i) (eRv i) := ⟨pe_var hN hv hd hcd, lk_rv⟩
/-- targets and tests of a comprehension -/
structure SGw (X : Cx) (C : Ct) (vs : List Nat) (tg : Expr) (t : TG) (f : D → Rho → Option Rho) : Prop where
  pg : PG X tg t
  lk : LkGw C vs t f
structure SGws (X : Cx) (C : Ct) (vs : List Nat) (tg : List Expr) (t : TGs) (f : List D → Rho → Option Rho) : Prop where
  pg : PGs X tg t
  lk : LkGws C vs t f
theorem sgw_name {i : Nat} {x : Str} (hN : X.N.Nodup) (hm : i ∈ vs := by simp) (hi : X.N[i]? = some x := by rfl) (hx : Loc X.env.scope x := by first | exact Or.inl rfl | exact Or.inr rfl)
    (hf : X.fn x = true ∨ X.env.scope.names.lookup x = some .local := by first | exact .inl rfl | exact .inr rfl | assumption) : SGw X C vs (.Name x pos) (gName i) (gN i) := ⟨pg_name hN hi hx hf, lkw_N hm⟩
theorem sgws_nil : SGws X C vs [] gNil gsN := ⟨pgs_nil, lkw_nil⟩
theorem sgws_cons {a : Expr} {as : List Expr} {tg : TG} {tgs : TGs} {f : D → Rho → Option Rho} {g : List D → Rho → Option Rho} (h : SGw X C vs a tg f) (t : SGws X C vs as tgs g) (hs : (assignEach (a :: as) X.env).map (·.2) = assign a X.env :: (assignEach as X.env).map (·.2) := by rfl) : SGws X C vs (a :: as) (gCons tg tgs) (gsC f g) := ⟨pgs_cons h.pg t.pg hs, lkw_C h.lk t.lk⟩
theorem sgw_tup {as : List Expr} {tgs : TGs} {n k : Nat} {g : List D → Rho → Option Rho} (hc : X.calm = true) (t : SGws X C vs as tgs g) (hk : X.K = C.K := by rfl) (hn : (assignEach as X.env).length = n := by rfl) (hst : (assignEach as X.env).findIdx? (·.1) = none := by rfl) : SGw X C vs (.Tuple as k pos) (gTup C.K n tgs) (gT n g) := ⟨by rw [← hk]; exact pg_tup hc t.pg hn hst, lkw_T t.lk⟩
structure SP (X : Cx) (C : Ct) (ifs : List Expr) (t : TT) (f : EF) : Prop where
  pt : PTs X ifs t
  lk : LkT C t f
def eYes : EF := fun ρ => .ok (.sh (.bool true)) ρ
theorem sp_nil : SP X C [] tYes eYes := ⟨pts_nil, fun ρ σ B H Q S g => g B H S Ext.refl⟩
theorem sp_one {t : TT} {f : EF} (h : ST X C e t f) : SP X C [e] t f := ⟨pts_one h.pt, h.lk⟩
abbrev bk (X : Cx) (scope : Scope) (s : Shared) (H : Hp) (c : Addr) (cl : List (Str × Addr)) (fp : List Addr) : Cx := X.blk s H scope (compEnvC scope cl c X.env) fp
theorem se_comp {elt it : Expr} {ifs : List Expr} {scope : Scope} {own : List (Str × Nat)} {w : TI} {tgt : TG} {tt : TT} {fi : IF} {g : D → Rho → Option Rho} {ft : EF} (hc : X.calm = true) (hN : X.N.Nodup) (ok : BlkOk X.N X.env.scope scope own) (li : SI X C tg it w fi)
    (hg : ∀ s H c cl fp, SGw (bk X scope s H c cl fp) C (own.map (·.2)) tg tgt g) (ht : ∀ s H c cl fp, SP (bk X scope s H c cl fp) C.nox ifs tt ft) (he : ∀ s H c cl fp, SE (bk X scope s H c cl fp) C.nox elt te fe)
    (hs : ∀ x, foldedSetIterable it X.env x = pure x := by intro _; rfl) : SE X C (.ListComp elt [⟨tg, it, ifs, 0⟩] scope pos) (tLc w tgt tt te (own.map (·.2))) (eLc (own.map (·.2)) fi g (eNox ft) (eNox fe)) :=
  se_lc hc hN li ok (fun s H c cl fp => (hg s H c cl fp).pg) (hg X.s_0 X.H_0 0 [] []).lk (fun s H c cl fp => (ht s H c cl fp).pt) (ht X.s_0 X.H_0 0 [] []).lk (fun s H c cl fp => (he s H c cl fp).pe) (he X.s_0 X.H_0 0 [] []).lk hs
/-- x = [..] -/
theorem ss_setLc {i : Nat} {y : Str} {py spos : Pos} {elt it : Expr} {ifs : List Expr} {scope : Scope} {own : List (Str × Nat)} {w : TI} {tgt : TG} {tt : TT} {fi : IF} {g : D → Rho → Option Rho} {ft : EF} (hc : X.calm = true) (hN : X.N.Nodup) (ok : BlkOk X.N X.env.scope scope own) (li : SI X C tg it w fi)
    (hg : ∀ s H c cl fp, SGw (bk X scope s H c cl fp) C (own.map (·.2)) tg tgt g) (ht : ∀ s H c cl fp, SP (bk X scope s H c cl fp) C.nox ifs tt ft) (he : ∀ s H c cl fp, SE (bk X scope s H c cl fp) C.nox elt te fe)
    (hsw : swapsWith (.ListComp elt [⟨tg, it, ifs, 0⟩] scope pos) (some (.Name y py)) spos.line X.env = pure true) (hy : X.N[i]? = some y := by rfl) (hyl : X.env.scope.names.lookup y = some .local := by rfl)
    (hs : ∀ x, foldedSetIterable it X.env x = pure x := by intro _; rfl) : SS X C (.Assign [.Name y py] (.ListComp elt [⟨tg, it, ifs, 0⟩] scope pos) spos) (tAsg (tLc w tgt tt te (own.map (·.2))) (gName i)) (sSet i (eLc (own.map (·.2)) fi g (eNox ft) (eNox fe))) :=
  ⟨ps_setLc hc hN hy hyl hsw li.pi ok (fun s H c cl fp => (hg s H c cl fp).pg) (fun s H c cl fp => (ht s H c cl fp).pt) (fun s H c cl fp => (he s H c cl fp).pe) hs,
    lk_set (lk_lc li.lk (hg X.s_0 X.H_0 0 [] []).lk (ht X.s_0 X.H_0 0 [] []).lk (he X.s_0 X.H_0 0 [] []).lk)⟩
theorem se_gstr {x z : Str} (h : ∃ t, X.mg x = some (Value.str z t)) (hg : Gl X x := by rfl) (hd : (x == ("__debug__" : Str)) = false := by decide) : SE X C (.Name x pos) (tC (.str z)) (eC (.str z)) := by
  obtain ⟨t, hm⟩ := h
  exact se_glob hm ⟨t, rfl⟩ (fun _ => .str z) hg hd
theorem se_gint {x : Str} {i : Int} (h : ∃ t, X.mg x = some (Value.int i t)) (hg : Gl X x := by rfl) (hd : (x == ("__debug__" : Str)) = false := by decide) : SE X C (.Name x pos) (tC (.int i)) (eC (.int i)) := by
  obtain ⟨t, hm⟩ := h
  exact se_glob hm ⟨t, rfl⟩ (fun _ => .int i) hg hd
end
theorem fn_of' {P : Program} {w : World} {K : PySem.W.Frag} {mg : Str → Option Value} {base : Heap} {cv : Str → Value} {x qual : Str} {st : Stmt} {f : Addr} {fd : FuncData} (N : List Str) {ps : List Str} {k m n : Nat} {g : SF} (hm : N.length = m) (hn : ps.length = n) (F : Fun K x qual st f fd) (S : FnScope N ps (defScope st))
    (hb : ∀ (cdv : Value) (A : Around) (outer : List Env) (s : Shared) (H : Hp) (E : XK), Room k (cxF P w K mg base N qual st f cdv A outer s H E).A → Takes (cxF P w K mg base N qual st f cdv A outer s H E) (ctF K cv E).W →
      PassesOwn (model P w) (cxF P w K mg base N qual st f cdv A outer s H E).A (cxF P w K mg base N qual st f cdv A outer s H E).env (cxF P w K mg base N qual st f cdv A outer s H E).xe →
      ∃ t, SSs (cxF P w K mg base N qual st f cdv A outer s H E) (ctF K cv E) (defBody st) t g) :
    FnOk P w K mg base (L2.CX P w) (k + 1) f fd ps (spF K cv n (fnF m n g)) := by
  subst hm hn
  exact fn_mk F S hb
end GS

/-! ### reckoning with the combinators -/
namespace GS
open PySem L2
section
variable {ρ ρ1 : Rho} {c : Prop} [Decidable c]
@[simp] theorem bindE_ok (h : Hd) (k : Hd → Rho → RE) : bindE (.ok h ρ) k = k h ρ := rfl
@[simp] theorem bindE_st (k : Hd → Rho → RE) : bindE .stuck k = .stuck := rfl
@[simp] theorem bindE_ex (x : Xc) (k : Hd → Rho → RE) : bindE (.exc x ρ) k = .exc x ρ := rfl
@[simp] theorem bindE_if (a b : RE) (k : Hd → Rho → RE) : bindE (if c then a else b) k = if c then bindE a k else bindE b k := by split <;> rfl
@[simp] theorem bindB_ok (b : Bool) (k : Bool → Rho → RE) : bindB (.ok (.sh (.bool b)) ρ) k = k b ρ := rfl
@[simp] theorem bindB_st (k : Bool → Rho → RE) : bindB .stuck k = .stuck := rfl
@[simp] theorem bindB_ex (x : Xc) (k : Bool → Rho → RE) : bindB (.exc x ρ) k = .exc x ρ := rfl
@[simp] theorem bindB_if (a b : RE) (k : Bool → Rho → RE) : bindB (if c then a else b) k = if c then bindB a k else bindB b k := by split <;> rfl
@[simp] theorem bindA_ok (h : List Hd) (k : List Hd → Rho → RE) : bindA (.ok h ρ) k = k h ρ := rfl
@[simp] theorem bindA_st (k : List Hd → Rho → RE) : bindA .stuck k = .stuck := rfl
@[simp] theorem bindA_ex (x : Xc) (k : List Hd → Rho → RE) : bindA (.exc x ρ) k = .exc x ρ := rfl
@[simp] theorem bindA_if (a b : RA) (k : List Hd → Rho → RE) : bindA (if c then a else b) k = if c then bindA a k else bindA b k := by split <;> rfl
@[simp] theorem bindES_ok (h : Hd) (k : Hd → Rho → RS) : bindES (.ok h ρ) k = k h ρ := rfl
@[simp] theorem bindES_st (k : Hd → Rho → RS) : bindES .stuck k = .stuck := rfl
@[simp] theorem bindES_ex (x : Xc) (k : Hd → Rho → RS) : bindES (.exc x ρ) k = .exc x ρ := rfl
@[simp] theorem bindES_if (a b : RE) (k : Hd → Rho → RS) : bindES (if c then a else b) k = if c then bindES a k else bindES b k := by split <;> rfl
@[simp] theorem bindBS_ok (b : Bool) (k : Bool → Rho → RS) : bindBS (.ok (.sh (.bool b)) ρ) k = k b ρ := rfl
@[simp] theorem bindBS_st (k : Bool → Rho → RS) : bindBS .stuck k = .stuck := rfl
@[simp] theorem bindBS_ex (x : Xc) (k : Bool → Rho → RS) : bindBS (.exc x ρ) k = .exc x ρ := rfl
@[simp] theorem bindBS_if (a b : RE) (k : Bool → Rho → RS) : bindBS (if c then a else b) k = if c then bindBS a k else bindBS b k := by split <;> rfl
@[simp] theorem bindEI_ok (h : Hd) (k : Hd → Rho → RI) : bindEI (.ok h ρ) k = k h ρ := rfl
@[simp] theorem bindEI_st (k : Hd → Rho → RI) : bindEI .stuck k = .stuck := rfl
@[simp] theorem bindEI_ex (x : Xc) (k : Hd → Rho → RI) : bindEI (.exc x ρ) k = .exc x ρ := rfl
@[simp] theorem bindEI_if (a b : RE) (k : Hd → Rho → RI) : bindEI (if c then a else b) k = if c then bindEI a k else bindEI b k := by split <;> rfl
@[simp] theorem bindS_nx (k : Rho → RS) : bindS (.nx ρ) k = k ρ := rfl
@[simp] theorem bindS_st (k : Rho → RS) : bindS .stuck k = .stuck := rfl
@[simp] theorem bindS_rt (h : Hd) (k : Rho → RS) : bindS (.rt h ρ) k = .rt h ρ := rfl
@[simp] theorem bindS_ex (x : Xc) (k : Rho → RS) : bindS (.exc x ρ) k = .exc x ρ := rfl
@[simp] theorem bindS_bk (k : Rho → RS) : bindS (.bk ρ) k = .bk ρ := rfl
@[simp] theorem bindS_ct (k : Rho → RS) : bindS (.ct ρ) k = .ct ρ := rfl
@[simp] theorem bindS_if (a b : RS) (k : Rho → RS) : bindS (if c then a else b) k = if c then bindS a k else bindS b k := by split <;> rfl
@[simp] theorem slot_nil (i : Nat) : slot [] i = none := rfl
@[simp] theorem slot_zero (x : Option Cel) : slot (x :: ρ) 0 = x := by cases x <;> rfl
@[simp] theorem slot_succ (x : Option Cel) (i : Nat) : slot (x :: ρ) (i + 1) = slot ρ i := rfl
@[simp] theorem getH_sh (d : D) : getH ρ (.sh d) = some d := rfl
@[simp] theorem getH_fr (d : D) : getH ρ (.fr d) = some d := rfl
@[simp] theorem getH_bw (i : Nat) : getH ρ (.bw i) = (slot ρ i).map (·.d) := rfl
@[simp] theorem setl_sh (d : D) : setl (.sh d) = .sh d := rfl
@[simp] theorem setl_fr (d : D) : setl (.fr d) = .sh d := rfl
@[simp] theorem setl_bw (i : Nat) : setl (.bw i) = .bw i := rfl
@[simp] theorem capH_sh (d : D) : capH ρ (.sh d) = some d := rfl
@[simp] theorem capH_fr (d : D) : capH ρ (.fr d) = some d := rfl
@[simp] theorem capH_bw (i : Nat) : capH ρ (.bw i) = match slot ρ i with | some ⟨d, .sh⟩ => some d | _ => none := rfl
@[simp] theorem eC_eq (d : D) : eC d ρ = .ok (.sh d) ρ := rfl
@[simp] theorem eVb_eq (i : Nat) : eVb i ρ = match slot ρ i with | some _ => .ok (.bw i) ρ | none => .stuck := rfl
@[simp] theorem eMv_eq (i : Nat) : eMv i ρ = match slot ρ i with | some ⟨d, .sh⟩ => .ok (.sh d) ρ | some ⟨d, .ow⟩ => .ok (.sh d) (ρ.set i (some ⟨d, .sh⟩)) | _ => .stuck := rfl
@[simp] theorem eRv_eq (i : Nat) : eRv i ρ = match slot ρ i with | some ⟨d, .sh⟩ => .ok (.sh d) ρ | some ⟨d, .ow⟩ => .ok (.fr d) (ρ.set i none) | _ => .stuck := rfl
@[simp] theorem eCap_eq (f : EF) : eCap f ρ = bindE (f ρ) fun h ρ' => match capH ρ' h with | some d => .ok (.sh d) ρ' | none => .stuck := rfl
@[simp] theorem eSet_eq (f : EF) : eSet f ρ = bindE (f ρ) fun h ρ' => .ok (setl h) ρ' := rfl
/-- of two data -/
def resO (o : Option Hd) (ρ : Rho) : RE := match o with | some h => .ok h ρ | none => .stuck
@[simp] theorem resO_s (h : Hd) : resO (some h) ρ = .ok h ρ := rfl
@[simp] theorem resO_n : resO none ρ = .stuck := rfl
@[simp] theorem resO_if (a b : Option Hd) : resO (if c then a else b) ρ = if c then resO a ρ else resO b ρ := by split <;> rfl
def bin2 (o : D → D → Option Hd) (a b : Option D) (ρ : Rho) : RE := match a, b with
  | some x, some y => resO (o x y) ρ
  | _, _ => .stuck
@[simp] theorem bin2_s (o : D → D → Option Hd) (x y : D) : bin2 o (some x) (some y) ρ = resO (o x y) ρ := rfl
@[simp] theorem eBin_eq (o : D → D → Option Hd) (f g : EF) : eBin o f g ρ = bindE (eSet f ρ) fun ha ρ1 => bindE (eSet g ρ1) fun hb ρ2 => bin2 o (getH ρ2 ha) (getH ρ2 hb) ρ2 := by
  unfold eBin bin2 resO
  rfl
def chn (o' : D → D → Option Hd) (hb : Hd) (fc : EF) (r : Option Hd) (ρ2 : Rho) : RE := match r with
  | some (.sh (.bool b)) => if b then bindE (eSet fc ρ2) (fun hc ρ3 => bin2 o' (getH ρ3 hb) (getH ρ3 hc) ρ3) else .ok (.sh (.bool false)) ρ2
  | _ => .stuck
@[simp] theorem chn_b (o' : D → D → Option Hd) (hb : Hd) (fc : EF) (b : Bool) : chn o' hb fc (some (.sh (.bool b))) ρ = if b then bindE (eSet fc ρ) (fun hc ρ3 => bin2 o' (getH ρ3 hb) (getH ρ3 hc) ρ3) else .ok (.sh (.bool false)) ρ := rfl
def chn0 (o o' : D → D → Option Hd) (hb : Hd) (fc : EF) (a b : Option D) (ρ2 : Rho) : RE := match a, b with
  | some x, some y => chn o' hb fc (o x y) ρ2
  | _, _ => .stuck
@[simp] theorem chn0_s (o o' : D → D → Option Hd) (hb : Hd) (fc : EF) (x y : D) : chn0 o o' hb fc (some x) (some y) ρ = chn o' hb fc (o x y) ρ := rfl
@[simp] theorem eChain_eq (o o' : D → D → Option Hd) (fa fb fc : EF) : eChain o o' fa fb fc ρ = bindE (eSet fa ρ) fun ha ρ1 => bindE (eSet fb ρ1) fun hb ρ2 => chn0 o o' hb fc (getH ρ2 ha) (getH ρ2 hb) ρ2 := by
  unfold eChain chn0 chn bin2 resO
  rfl
def tst (d : Option D) (ρ : Rho) : RE := match d with
  | some (.bool b) => .ok (.sh (.bool b)) ρ
  | _ => .stuck
@[simp] theorem tst_b (b : Bool) : tst (some (.bool b)) ρ = .ok (.sh (.bool b)) ρ := rfl
@[simp] theorem eB_eq (f : EF) : eB f ρ = bindE (eSet f ρ) fun h ρ1 => tst (getH ρ1 h) ρ1 := by unfold eB tst; rfl
@[simp] theorem eNot_eq (f : EF) : eNot f ρ = bindB (f ρ) fun b ρ1 => .ok (.sh (.bool (!b))) ρ1 := rfl
@[simp] theorem eAnd_eq (f g : EF) : eAnd f g ρ = bindB (f ρ) fun b ρ1 => if b then g ρ1 else .ok (.sh (.bool false)) ρ1 := rfl
@[simp] theorem eOr_eq (f g : EF) : eOr f g ρ = bindB (f ρ) fun b ρ1 => if b then .ok (.sh (.bool true)) ρ1 else g ρ1 := rfl
@[simp] theorem eIf_eq (f g h : EF) : eIf f g h ρ = bindB (f ρ) fun b ρ1 => if b then g ρ1 else h ρ1 := rfl
def negR (d : Option D) (ρ : Rho) : RE := match d with
  | some (.int i) => .ok (.sh (.int (-i))) ρ
  | _ => .stuck
@[simp] theorem negR_i (i : Int) : negR (some (.int i)) ρ = .ok (.sh (.int (-i))) ρ := rfl
@[simp] theorem eNeg_eq (f : EF) : eNeg f ρ = bindE (eSet f ρ) fun h ρ1 => negR (getH ρ1 h) ρ1 := by unfold eNeg negR; rfl
@[simp] theorem ePart_n (k : Option Int → Rho → RE) : ePart none ρ k = k none ρ := rfl
def partR (d : Option D) (ρ : Rho) (k : Option Int → Rho → RE) : RE := match d with
  | some (.int i) => k (some i) ρ
  | _ => .stuck
@[simp] theorem partR_i (i : Int) (k : Option Int → Rho → RE) : partR (some (.int i)) ρ k = k (some i) ρ := rfl
@[simp] theorem ePart_s (f : EF) (k : Option Int → Rho → RE) : ePart (some f) ρ k = bindE (eSet f ρ) fun h ρ1 => partR (getH ρ1 h) ρ1 k := by unfold ePart partR; rfl
@[simp] theorem eSl_eq (fe : EF) (fl fh : Option EF) : eSl fe fl fh ρ = bindE (eSet fe ρ) fun h ρ1 => ePart fl ρ1 fun lo ρ2 => ePart fh ρ2 fun hi ρ3 => resO ((getH ρ3 h).bind (slD lo hi)) ρ3 := by unfold eSl resO; rfl
@[simp] theorem aNil_eq : aNil ρ = .ok [] ρ := rfl
def consA (h : Hd) (r : RA) : RA := match r with
  | .stuck => .stuck
  | .exc x ρ2 => .exc x ρ2
  | .ok hs ρ2 => .ok (h :: hs) ρ2
def bindEA (r : RE) (k : Hd → Rho → RA) : RA := match r with
  | .stuck => .stuck
  | .exc x ρ1 => .exc x ρ1
  | .ok h ρ1 => k h ρ1
@[simp] theorem bindEA_ok (h : Hd) (k : Hd → Rho → RA) : bindEA (.ok h ρ) k = k h ρ := rfl
@[simp] theorem bindEA_st (k : Hd → Rho → RA) : bindEA .stuck k = .stuck := rfl
@[simp] theorem bindEA_ex (x : Xc) (k : Hd → Rho → RA) : bindEA (.exc x ρ) k = .exc x ρ := rfl
@[simp] theorem bindEA_if (a b : RE) (k : Hd → Rho → RA) : bindEA (if c then a else b) k = if c then bindEA a k else bindEA b k := by split <;> rfl
@[simp] theorem consA_ok (h : Hd) (hs : List Hd) : consA h (.ok hs ρ) = .ok (h :: hs) ρ := rfl
@[simp] theorem consA_st (h : Hd) : consA h .stuck = .stuck := rfl
@[simp] theorem consA_if (h : Hd) (a b : RA) : consA h (if c then a else b) = if c then consA h a else consA h b := by split <;> rfl
@[simp] theorem aCons_eq (f : EF) (g : AF) : aCons f g ρ = bindEA (eSet f ρ) fun h ρ1 => consA h (g ρ1) := by unfold aCons bindEA consA; rfl
@[simp] theorem shs_nil : shs [] = some [] := rfl
@[simp] theorem shs_cons (d : D) (hs : List Hd) : shs (.sh d :: hs) = (shs hs).map (d :: ·) := rfl
def tupR (d : Option (List D)) (ρ : Rho) : RE := match d with
  | some ds => if ds.length ≤ 1000 then .ok (.sh (.tuple ds)) ρ else .stuck
  | none => .stuck
def lstR (d : Option (List D)) (ρ : Rho) : RE := match d with
  | some ds => if ds.length ≤ 1000 then .ok (.fr (.list ds)) ρ else .stuck
  | none => .stuck
@[simp] theorem tupR_s (ds : List D) : tupR (some ds) ρ = if ds.length ≤ 1000 then .ok (.sh (.tuple ds)) ρ else .stuck := rfl
@[simp] theorem lstR_s (ds : List D) : lstR (some ds) ρ = if ds.length ≤ 1000 then .ok (.fr (.list ds)) ρ else .stuck := rfl
@[simp] theorem eTup_eq (f : AF) : eTup f ρ = bindA (f ρ) fun hs ρ1 => tupR (shs hs) ρ1 := by unfold eTup tupR; rfl
@[simp] theorem eLst_eq (f : AF) : eLst f ρ = bindA (f ρ) fun hs ρ1 => lstR (shs hs) ρ1 := by unfold eLst lstR; rfl
@[simp] theorem gets_nil : gets ρ [] = some [] := rfl
def cons2 (a : Option D) (b : Option (List D)) : Option (List D) := match a, b with
  | some d, some ds => some (d :: ds)
  | _, _ => none
@[simp] theorem cons2_s (d : D) (ds : List D) : cons2 (some d) (some ds) = some (d :: ds) := rfl
@[simp] theorem gets_cons (h : Hd) (hs : List Hd) : gets ρ (h :: hs) = cons2 (getH ρ h) (gets ρ hs) := by
  unfold cons2
  rw [gets]
  try rfl
@[simp] theorem eCB_eq (o : List D → Option Hd) (f : AF) : eCB o f ρ = bindA (f ρ) fun hs ρ1 => resO ((gets ρ1 hs).bind o) ρ1 := by unfold eCB resO; rfl
@[simp] theorem un1_1 (o : D → Option Hd) (d : D) : un1 o [d] = o d := rfl
@[simp] theorem un2_2 (o : D → D → Option Hd) (d e : D) : un2 o [d, e] = o d e := rfl
def isiR (p : D → Bool) (d : Option D) (ρ : Rho) : RE := match d with
  | some d => .ok (.sh (.bool (p d))) ρ
  | none => .stuck
@[simp] theorem isiR_s (p : D → Bool) (d : D) : isiR p (some d) ρ = .ok (.sh (.bool (p d))) ρ := rfl
@[simp] theorem eIsi_eq (p : D → Bool) (f : EF) : eIsi p f ρ = bindE (eSet f ρ) fun h ρ1 => isiR p (getH ρ1 h) ρ1 := by unfold eIsi isiR; rfl
@[simp] theorem isTup_t (ds : List D) : isTup (.tuple ds) = true := rfl
@[simp] theorem isBool_b (b : Bool) : isBool (.bool b) = true := rfl
@[simp] theorem isStr_s (b : Str) : isStr (.str b) = true := rfl
/-! statements -/
@[simp] theorem sNil_eq : sNil ρ = .nx ρ := rfl
@[simp] theorem sSeq_eq (f g : SF) : sSeq f g ρ = bindS (f ρ) g := rfl
@[simp] theorem sDrop_eq (f : EF) : sDrop f ρ = bindES (f ρ) fun _ ρ1 => .nx ρ1 := rfl
def retR (h : Hd) (ρ : Rho) : RS := match h with
  | .bw i => match capH ρ (.bw i) with
    | some d => .rt (.sh d) ρ
    | none => .stuck
  | h => .rt h ρ
@[simp] theorem retR_sh (d : D) : retR (.sh d) ρ = .rt (.sh d) ρ := rfl
@[simp] theorem retR_fr (d : D) : retR (.fr d) ρ = .rt (.fr d) ρ := rfl
@[simp] theorem sRet_eq (f : EF) : sRet f ρ = bindES (f ρ) retR := by unfold sRet; rfl
@[simp] theorem sIf_eq (ft : EF) (f g : SF) : sIf ft f g ρ = bindBS (ft ρ) fun b ρ1 => if b then f ρ1 else g ρ1 := rfl
@[simp] theorem ioAt_nil (i : Nat) : ioAt [] i = false := rfl
@[simp] theorem ioAt_zn : ioAt (none :: ρ) 0 = false := rfl
@[simp] theorem ioAt_zs (d : D) : ioAt (some ⟨d, .sh⟩ :: ρ) 0 = false := rfl
@[simp] theorem ioAt_zo (d : D) : ioAt (some ⟨d, .ow⟩ :: ρ) 0 = false := rfl
@[simp] theorem ioAt_succ (x : Option Cel) (i : Nat) : ioAt (x :: ρ) (i + 1) = ioAt ρ i := rfl
@[simp] theorem sSet_eq (i : Nat) (f : EF) : sSet i f ρ = bindES (f ρ) fun h ρ1 => setHd ρ1 i h := rfl
@[simp] theorem setHd_sh (i : Nat) (d : D) : setHd ρ i (.sh d) = setR ρ i ⟨d, .sh⟩ := rfl
@[simp] theorem setHd_fr (i : Nat) (d : D) : setHd ρ i (.fr d) = setR ρ i ⟨d, .ow⟩ := rfl
@[simp] theorem sRetN_eq : sRetN ρ = .rt (.sh .none) ρ := rfl
def bindI (r : RI) (k : List D → Rho → RS) : RS := match r with
  | .stuck => .stuck
  | .exc x ρ1 => .exc x ρ1
  | .ok ds ρ1 => k ds ρ1
@[simp] theorem bindI_ok (ds : List D) (k : List D → Rho → RS) : bindI (.ok ds ρ) k = k ds ρ := rfl
@[simp] theorem bindI_st (k : List D → Rho → RS) : bindI .stuck k = .stuck := rfl
@[simp] theorem bindI_if (a b : RI) (k : List D → Rho → RS) : bindI (if c then a else b) k = if c then bindI a k else bindI b k := by split <;> rfl
@[simp] theorem sFor_eq (fi : IF) (g : D → Rho → Option Rho) (b : SF) : sFor fi g b ρ = bindI (fi ρ) fun ds ρ1 => forL g b ds ρ1 := by unfold sFor bindI; rfl
def seqR (h : Hd) (ρ : Rho) : RI := match h with
  | .sh d => match items d with
    | some ds => .ok ds ρ
    | none => .stuck
  | _ => .stuck
@[simp] theorem seqR_l (ds : List D) : seqR (.sh (.list ds)) ρ = .ok ds ρ := rfl
@[simp] theorem seqR_t (ds : List D) : seqR (.sh (.tuple ds)) ρ = .ok ds ρ := rfl
@[simp] theorem seqR_s (z : Str) : seqR (.sh (.str z)) ρ = .ok (z.cps.toList.map fun c => .str ⟨#[c]⟩) ρ := rfl
@[simp] theorem iSq_eq (f : EF) : iSq f ρ = bindEI (eCap f ρ) seqR := by unfold iSq; rfl
def rgR (d : Option D) (ρ : Rho) : RI := match d with
  | some (.int j) => if okR j then .ok (rgD 0 j.toNat) ρ else .stuck
  | _ => .stuck
@[simp] theorem rgR_i (j : Int) : rgR (some (.int j)) ρ = if okR j then .ok (rgD 0 j.toNat) ρ else .stuck := rfl
@[simp] theorem iR1_eq (f : EF) : iR1 f ρ = bindEI (eSet f ρ) fun h ρ1 => rgR (getH ρ1 h) ρ1 := by unfold iR1 rgR; rfl
def bindIE (r : RI) (k : List D → Rho → RE) : RE := match r with
  | .stuck => .stuck
  | .exc x ρ1 => .exc x ρ1
  | .ok ds ρ1 => k ds ρ1
@[simp] theorem bindIE_ok (ds : List D) (k : List D → Rho → RE) : bindIE (.ok ds ρ) k = k ds ρ := rfl
@[simp] theorem bindIE_st (k : List D → Rho → RE) : bindIE .stuck k = .stuck := rfl
@[simp] theorem bindIE_if (a b : RI) (k : List D → Rho → RE) : bindIE (if c then a else b) k = if c then bindIE a k else bindIE b k := by split <;> rfl
@[simp] theorem eLc_eq (vs : List Nat) (fi : IF) (g : D → Rho → Option Rho) (ft fe : EF) : eLc vs fi g ft fe ρ = bindIE (fi ρ) fun ds ρ1 => if vs.all fun i => !ioAt ρ1 i then lcL vs g ft fe ds [] (wipeR ρ1 vs) else .stuck := by unfold eLc bindIE; rfl
@[simp] theorem eNox_eq (f : EF) : eNox f ρ = match f ρ with | .exc _ _ => .stuck | r => r := rfl
@[simp] theorem wipeR_nil : wipeR ρ [] = ρ := rfl
@[simp] theorem wipeR_cons (v : Nat) (vs : List Nat) : wipeR ρ (v :: vs) = (wipeR ρ vs).set v none := rfl
/-! data -/
@[simp] theorem addD_i (i j : Int) : addD (.int i) (.int j) = some (.sh (.int (i + j))) := rfl
@[simp] theorem addD_s (i j : Str) : addD (.str i) (.str j) = if i.length + j.length ≤ sizeLine then some (.sh (.str (i ++ j))) else none := rfl
@[simp] theorem addD_t (i j : List D) : addD (.tuple i) (.tuple j) = if i.length + j.length ≤ sizeLine then some (.sh (.tuple (i ++ j))) else none := rfl
@[simp] theorem addD_l (i j : List D) : addD (.list i) (.list j) = if i.length + j.length ≤ sizeLine then some (.fr (.list (i ++ j))) else none := rfl
@[simp] theorem subD_i (i j : Int) : subD (.int i) (.int j) = some (.sh (.int (i - j))) := rfl
theorem mulD_i (i j : Int) : mulD (.int i) (.int j) = if cMul i j then some (.sh (.int (i * j))) else none := rfl
theorem divD_i (i j : Int) : divD (.int i) (.int j) = if decide (0 < j) && Nat.ble j.natAbs 1073741823 then some (.sh (.int (i / j))) else none := rfl
theorem modD_i (i j : Int) : modD (.int i) (.int j) = if decide (0 < j) then some (.sh (.int (i % j))) else none := rfl
@[simp] theorem resO_div {i j : Int} (h0 : 0 < j) (h1 : j < 1073741824) : resO (divD (.int i) (.int j)) ρ = .ok (.sh (.int (i / j))) ρ := by
  rw [divD_i, decide_eq_true h0, Nat.ble_eq_true_of_le (show j.natAbs ≤ 1073741823 by omega)]; rfl
@[simp] theorem resO_mod {i j : Int} (h0 : 0 < j) : resO (modD (.int i) (.int j)) ρ = .ok (.sh (.int (i % j))) ρ := by
  rw [modD_i, decide_eq_true h0]; rfl
@[simp] theorem resO_mul {i j : Int} (h : cMul i j = true) : resO (mulD (.int i) (.int j)) ρ = .ok (.sh (.int (i * j))) ρ := by
  rw [mulD_i, h]; rfl
theorem cMul_l {i j : Int} (h : i.natAbs < 18446744073709551616) : cMul i j = true := by
  unfold cMul
  rw [Nat.ble_eq_true_of_le (show i.natAbs ≤ 18446744073709551615 by omega), Bool.true_or]
theorem cMul_r {i j : Int} (h : j.natAbs < 18446744073709551616) : cMul i j = true := by
  unfold cMul
  rw [Nat.ble_eq_true_of_le (show j.natAbs ≤ 18446744073709551615 by omega), Bool.or_true]
theorem powD_i (i j : Int) : powD (.int i) (.int j) = if decide (0 ≤ j) && Nat.ble j.natAbs 1000000 && Nat.ble i.natAbs 18446744073709551615 then some (.sh (.int (i ^ j.toNat))) else none := rfl
@[simp] theorem resO_pow {i j : Int} (h0 : 0 ≤ j) (h1 : j ≤ 1000000) (h2 : i.natAbs < 18446744073709551616) : resO (powD (.int i) (.int j)) ρ = .ok (.sh (.int (i ^ j.toNat))) ρ := by
  rw [powD_i, decide_eq_true h0, Nat.ble_eq_true_of_le (show j.natAbs ≤ 1000000 by omega), Nat.ble_eq_true_of_le (show i.natAbs ≤ 18446744073709551615 by omega)]; rfl
@[simp] theorem ltI_i (f : Int → Int → Bool) (i j : Int) : ltI f (.int i) (.int j) = some (.sh (.bool (f i j))) := rfl
@[simp] theorem lenD_l (ds : List D) : lenD (.list ds) = some (.sh (.int ds.length)) := rfl
@[simp] theorem lenD_t (ds : List D) : lenD (.tuple ds) = some (.sh (.int ds.length)) := rfl
@[simp] theorem lenD_s (z : Str) : lenD (.str z) = if z.length ≤ sizeLine then some (.sh (.int z.length)) else none := rfl
@[simp] theorem ixD_l (ds : List D) (i : Int) : ixD (.list ds) (.int i) = (atI ds i).map Hd.sh := rfl
@[simp] theorem ixD_t (ds : List D) (i : Int) : ixD (.tuple ds) (.int i) = (atI ds i).map Hd.sh := rfl
@[simp] theorem ixD_s (z : Str) (i : Int) : ixD (.str z) (.int i) = if z.length ≤ sizeLine then (atI z.cps.toList i).map fun c => Hd.sh (.str ⟨#[c]⟩) else none := rfl
@[simp] theorem slD_l (lo hi : Option Int) (ds : List D) : slD lo hi (.list ds) = some (.fr (.list (cutD ds lo hi))) := rfl
@[simp] theorem slD_t (lo hi : Option Int) (ds : List D) : slD lo hi (.tuple ds) = some (.sh (.tuple (cutD ds lo hi))) := rfl
@[simp] theorem slD_s (lo hi : Option Int) (z : Str) : slD lo hi (.str z) = if z.length ≤ sizeLine then some (.sh (.str (cutS z lo hi))) else none := rfl
@[simp] theorem listD_l (ds : List D) : listD (.list ds) = some (.fr (.list ds)) := rfl
@[simp] theorem listD_t (ds : List D) : listD (.tuple ds) = some (.fr (.list ds)) := rfl
@[simp] theorem tupleD_l (ds : List D) : tupleD (.list ds) = some (.sh (.tuple ds)) := rfl
@[simp] theorem tupleD_t (ds : List D) : tupleD (.tuple ds) = some (.sh (.tuple ds)) := rfl
@[simp] theorem inD_c (neg : Bool) (c : Nat) (z : Str) : inD neg (.str ⟨#[c]⟩) (.str z) = some (.sh (.bool (neg ^^ decide (c ∈ z.cps.toList)))) := rfl
end
end GS

namespace GS
open PySem L2
section
variable {ρ ρ1 : Rho} {c : Prop} [Decidable c]
/-- a def's end -/
def finR (n : Nat) (r : RS) : RE := match r with
  | .rt (.bw _) _ => .stuck
  | .rt h ρ1 => .ok h (outR ρ1 n)
  | .nx ρ1 => .ok (.sh .none) (outR ρ1 n)
  | .exc x ρ1 => .exc x (outR ρ1 n)
  | _ => .stuck
@[simp] theorem finR_sh (n : Nat) (d : D) : finR n (.rt (.sh d) ρ) = .ok (.sh d) (outR ρ n) := rfl
@[simp] theorem finR_fr (n : Nat) (d : D) : finR n (.rt (.fr d) ρ) = .ok (.fr d) (outR ρ n) := rfl
@[simp] theorem finR_nx (n : Nat) : finR n (.nx ρ) = .ok (.sh .none) (outR ρ n) := rfl
@[simp] theorem finR_ex (n : Nat) (x : Xc) : finR n (.exc x ρ) = .exc x (outR ρ n) := rfl
@[simp] theorem finR_if (n : Nat) (a b : RS) : finR n (if c then a else b) = if c then finR n a else finR n b := by split <;> rfl
theorem fnF_eq (m n : Nat) (g : SF) : fnF m n g ρ = finR n (g (ρ ++ List.replicate (m - n) none)) := by unfold fnF finR; rfl
theorem outR_1 (x : Option Cel) : outR (x :: ρ) 1 = [ioC x] := by simp [outR]
theorem outR_2 (x y : Option Cel) : outR (x :: y :: ρ) 2 = [ioC x, ioC y] := by simp [outR, List.range_succ]
theorem outR_3 (x y z : Option Cel) : outR (x :: y :: z :: ρ) 3 = [ioC x, ioC y, ioC z] := by simp [outR, List.range_succ]
theorem outR_4 (x y z w : Option Cel) : outR (x :: y :: z :: w :: ρ) 4 = [ioC x, ioC y, ioC z, ioC w] := by simp [outR, List.range_succ]
@[simp] theorem ioC_sh (d : D) : ioC (some ⟨d, .sh⟩) = none := rfl
@[simp] theorem ioC_ow (d : D) : ioC (some ⟨d, .ow⟩) = none := rfl
@[simp] theorem ioC_io (d : D) : ioC (some ⟨d, .io⟩) = some ⟨d, .io⟩ := rfl
@[simp] theorem ioC_no : ioC none = none := rfl
/-- a call -/
def backR (ρ1 : Rho) (io : Option Nat) (hs : List Hd) (r : RE) : RE := match r with
    | .stuck => .stuck
    | .ok h outs => match h, putB ρ1 io hs outs with
      | .bw _, _ => .stuck
      | _, none => .stuck
      | _, some ρ2 => .ok h ρ2
    | .exc x outs => match putB ρ1 io hs outs with
      | none => .stuck
      | some ρ2 => .exc x ρ2
@[simp] theorem backR_sh (d : D) (hs : List Hd) (outs : Rho) : backR ρ none hs (.ok (.sh d) outs) = .ok (.sh d) ρ := rfl
@[simp] theorem backR_fr (d : D) (hs : List Hd) (outs : Rho) : backR ρ none hs (.ok (.fr d) outs) = .ok (.fr d) ρ := rfl
@[simp] theorem backR_ex (x : Xc) (hs : List Hd) (outs : Rho) : backR ρ none hs (.exc x outs) = .exc x ρ := rfl
@[simp] theorem backR_if (io : Option Nat) (hs : List Hd) (a b : RE) : backR ρ io hs (if c then a else b) = if c then backR ρ io hs a else backR ρ io hs b := by split <;> rfl
def callR (n : Nat) (io : Option Nat) (F : FF) (hs : List Hd) (ρ1 : Rho) (a : Option Rho) : RE := match a with
  | none => .stuck
  | some ρ0 => if ρ0.length ≠ n then .stuck else backR ρ1 io hs (F ρ0)
@[simp] theorem callR_s (n : Nat) (io : Option Nat) (F : FF) (hs : List Hd) (ρ0 : Rho) : callR n io F hs ρ (some ρ0) = if ρ0.length ≠ n then .stuck else backR ρ io hs (F ρ0) := rfl
@[simp] theorem eCall_eq (n : Nat) (io : Option Nat) (F : FF) (fs : AF) : eCall n io F fs ρ = bindA (fs ρ) fun hs ρ1 => callR n io F hs ρ1 (args ρ1 io 0 hs) := by
  unfold eCall callR backR
  rfl
@[simp] theorem args_nil (io : Option Nat) (k : Nat) : args ρ io k [] = some [] := rfl
def consC (a : Option Cel) (b : Option Rho) : Option Rho := match a, b with
  | some c, some r => some (some c :: r)
  | _, _ => none
@[simp] theorem consC_s (c : Cel) (r : Rho) : consC (some c) (some r) = some (some c :: r) := rfl
@[simp] theorem args_cons (io : Option Nat) (k : Nat) (h : Hd) (hs : List Hd) : args ρ io k (h :: hs) = consC (argC ρ (decide (io = some k)) h) (args ρ io (k + 1) hs) := by
  unfold consC
  rw [args]
  try rfl
@[simp] theorem argC_shf (d : D) : argC ρ false (.sh d) = some ⟨d, .sh⟩ := rfl
theorem ioAt_of {x : Option Cel} (h : ioC x = none) : ioAt (x :: ρ) 0 = false := by
  cases x with
  | none => rfl
  | some c => obtain ⟨d, fl⟩ := c; cases fl <;> first | rfl | cases h
theorem okR_nat {m : Nat} (h : m ≤ 1000000000) : okR (m : Int) = true := by
  unfold okR
  rw [Int.natAbs_natCast]
  exact Nat.ble_eq_true_of_le h
/-! loops -/
@[simp] theorem forL_nil (g : D → Rho → Option Rho) (b : SF) : forL g b [] ρ = .nx ρ := rfl
/-- one turn's end -/
def turnR (k : Rho → RS) (r : RS) : RS := match r with
  | .nx ρ2 => k ρ2
  | .ct ρ2 => k ρ2
  | .bk ρ2 => .nx ρ2
  | r => r
@[simp] theorem turnR_nx (k : Rho → RS) : turnR k (.nx ρ) = k ρ := rfl
@[simp] theorem turnR_ct (k : Rho → RS) : turnR k (.ct ρ) = k ρ := rfl
@[simp] theorem turnR_bk (k : Rho → RS) : turnR k (.bk ρ) = .nx ρ := rfl
@[simp] theorem turnR_rt (k : Rho → RS) (h : Hd) : turnR k (.rt h ρ) = .rt h ρ := rfl
@[simp] theorem turnR_ex (k : Rho → RS) (x : Xc) : turnR k (.exc x ρ) = .exc x ρ := rfl
@[simp] theorem turnR_st (k : Rho → RS) : turnR k .stuck = .stuck := rfl
@[simp] theorem turnR_if (k : Rho → RS) (a b : RS) : turnR k (if c then a else b) = if c then turnR k a else turnR k b := by split <;> rfl
def optR (o : Option Rho) (k : Rho → RS) : RS := match o with
  | none => .stuck
  | some ρ1 => k ρ1
@[simp] theorem optR_s (k : Rho → RS) : optR (some ρ) k = k ρ := rfl
theorem forL_cons (g : D → Rho → Option Rho) (b : SF) (d : D) (ds : List D) : forL g b (d :: ds) ρ = optR (g d ρ) fun ρ1 => turnR (forL g b ds) (b ρ1) := by
  unfold optR turnR
  rw [forL]
  try rfl
def optE (o : Option Rho) (k : Rho → RE) : RE := match o with
  | none => .stuck
  | some ρ1 => k ρ1
@[simp] theorem optE_s (k : Rho → RE) : optE (some ρ) k = k ρ := rfl
theorem lcL_nil (vs : List Nat) (g : D → Rho → Option Rho) (ft fe : EF) (acc : List D) : lcL vs g ft fe [] acc ρ = .ok (.fr (.list acc)) ρ := rfl
def lcR (acc : List D) (k : List D → Rho → RE) (h : Hd) (ρ3 : Rho) : RE := match h with
  | .sh y => if acc.length < sizeLine then k (acc ++ [y]) ρ3 else .stuck
  | _ => .stuck
@[simp] theorem lcR_s (acc : List D) (k : List D → Rho → RE) (y : D) : lcR acc k (.sh y) ρ = if acc.length < sizeLine then k (acc ++ [y]) ρ else .stuck := rfl
theorem lcL_cons (vs : List Nat) (g : D → Rho → Option Rho) (ft fe : EF) (d : D) (ds acc : List D) : lcL vs g ft fe (d :: ds) acc ρ = optE (g d ρ) fun ρ1 => bindB (ft ρ1) fun c ρ2 => if c then bindE (eCap fe ρ2) (lcR acc fun acc' ρ3 => lcL vs g ft fe ds acc' (wipeR ρ3 vs)) else lcL vs g ft fe ds acc (wipeR ρ2 vs) := by
  unfold optE lcR
  rw [lcL]
  try rfl
@[simp] theorem gN_eq (i : Nat) (d : D) : gN i d ρ = if i < ρ.length && !ioAt ρ i then some (ρ.set i (some ⟨d, .sh⟩)) else none := rfl
@[simp] theorem optR_if (a b : Option Rho) (k : Rho → RS) : optR (if c then a else b) k = if c then optR a k else optR b k := by split <;> rfl
@[simp] theorem optE_if (a b : Option Rho) (k : Rho → RE) : optE (if c then a else b) k = if c then optE a k else optE b k := by split <;> rfl
@[simp] theorem setR_eq (i : Nat) (c : Cel) : setR ρ i c = if i < ρ.length && !ioAt ρ i then .nx (ρ.set i (some c)) else .stuck := rfl
/-- a for that only looks: it leaves with r at the first item that p does not hold of -/
theorem forL_srch {α : Type} {i : Nat} {b : SF} {f : α → D} {p : α → Bool} {r : Hd} (ρ : Rho) (hi : i < ρ.length) (hb : ∀ a, b (ρ.set i (some ⟨f a, .sh⟩)) = if p a then .nx (ρ.set i (some ⟨f a, .sh⟩)) else .rt r (ρ.set i (some ⟨f a, .sh⟩))) :
    ∀ (as : List α) (x : Option Cel), ioC x = none → ∃ x', ioC x' = none ∧ forL (gN i) b (as.map f) (ρ.set i x) = if as.all p then .nx (ρ.set i x') else .rt r (ρ.set i x')
  | [], x, hx => ⟨x, hx, by simp⟩
  | a :: as, x, hx => by
    have hio : ioAt (ρ.set i x) i = false := by
      unfold ioAt slot
      rw [set_at hi]
      cases x with
      | none => rfl
      | some c => obtain ⟨d, fl⟩ := c; cases fl <;> first | rfl | cases hx
    have hg : gN i (f a) (ρ.set i x) = some (ρ.set i (some ⟨f a, .sh⟩)) := by
      rw [gN_eq, List.length_set, hio, List.set_set]
      simp [hi]
    rw [List.map_cons, forL_cons, hg, optR_s, hb a]
    by_cases hp : p a = true
    · obtain ⟨x', h1, h2⟩ := forL_srch ρ hi hb as (some ⟨f a, .sh⟩) rfl
      refine ⟨x', h1, ?_⟩
      simp [hp, h2]
    · exact ⟨some ⟨f a, .sh⟩, rfl, by simp [hp]⟩
/-- .. from an empty slot -/
theorem forL_srch0 {α : Type} {i : Nat} {b : SF} {f : α → D} {p : α → Bool} {r : Hd} (ρ : Rho) (hi : ρ[i]? = some none) (hb : ∀ a, b (ρ.set i (some ⟨f a, .sh⟩)) = if p a then .nx (ρ.set i (some ⟨f a, .sh⟩)) else .rt r (ρ.set i (some ⟨f a, .sh⟩)))
    (as : List α) : ∃ x', ioC x' = none ∧ forL (gN i) b (as.map f) ρ = if as.all p then .nx (ρ.set i x') else .rt r (ρ.set i x') := by
  have := forL_srch ρ (lt_of hi) hb as none rfl
  rw [show ρ.set i none = ρ from by
    apply List.ext_getElem?
    intro j
    rw [List.getElem?_set]
    split
    · rename_i e; subst e; rw [if_pos (lt_of hi), hi]
    · rfl] at this
  exact this
/-- a for by an invariant -/
theorem forL_inv {g : D → Rho → Option Rho} {b : SF} {all : List D} (I : List D → Rho → Prop) : ∀ (ds pre : List D) (ρ : Rho), pre ++ ds = all → I pre ρ → (∀ pre d post ρ', all = pre ++ d :: post → I pre ρ' → ∃ ρ1 ρ2, g d ρ' = some ρ1 ∧ b ρ1 = .nx ρ2 ∧ I (pre ++ [d]) ρ2) → ∃ ρ', forL g b ds ρ = .nx ρ' ∧ I all ρ'
  | [], pre, ρ, e, h, _ => ⟨ρ, rfl, by rw [← e, List.append_nil]; exact h⟩
  | d :: ds, pre, ρ, e, h, k => by
    obtain ⟨ρ1, ρ2, h1, h2, h3⟩ := k pre d ds ρ e.symm h
    obtain ⟨ρ', q1, q2⟩ := forL_inv I ds (pre ++ [d]) ρ2 (by rw [List.append_assoc]; exact e) h3 k
    refine ⟨ρ', ?_, q2⟩
    rw [forL_cons, h1, optR_s, h2, turnR_nx, q1]
theorem forL_inv0 {g : D → Rho → Option Rho} {b : SF} (I : List D → Rho → Prop) (ds : List D) (ρ : Rho) (h : I [] ρ) (k : ∀ pre d post ρ', ds = pre ++ d :: post → I pre ρ' → ∃ ρ1 ρ2, g d ρ' = some ρ1 ∧ b ρ1 = .nx ρ2 ∧ I (pre ++ [d]) ρ2) : ∃ ρ', forL g b ds ρ = .nx ρ' ∧ I ds ρ' :=
  forL_inv I ds [] ρ rfl h k
theorem rgD_mid {lo : Int} {n : Nat} {pre : List D} {d : D} {post : List D} (h : rgD lo n = pre ++ d :: post) : pre.length < n ∧ d = .int (lo + (pre.length : Int)) := by
  have hl : (rgD lo n).length = n := by unfold rgD; rw [List.length_map, List.length_range]
  have h2 : (rgD lo n)[pre.length]? = some d := by rw [h, List.getElem?_append_right (Nat.le_refl _), Nat.sub_self]; rfl
  have h3 : pre.length < n := by rw [← hl]; exact (List.getElem?_eq_some_iff.mp h2).1
  refine ⟨h3, ?_⟩
  unfold rgD at h2
  rw [List.getElem?_map, List.getElem?_range h3] at h2
  exact (Option.some.inj h2).symm
theorem rgD_len (lo : Int) (n : Nat) : (rgD lo n).length = n := by unfold rgD; rw [List.length_map, List.length_range]
/-- a comprehension that only looks and takes the item itself -/
theorem lcL_filter {α : Type} {i : Nat} {ft fe : EF} {f : α → D} {p : α → Bool} (ρ : Rho) (hi : ρ[i]? = some none) (ht : ∀ a, ft (ρ.set i (some ⟨f a, .sh⟩)) = .ok (.sh (.bool (p a))) (ρ.set i (some ⟨f a, .sh⟩)))
    (he : ∀ a, fe (ρ.set i (some ⟨f a, .sh⟩)) = .ok (.sh (f a)) (ρ.set i (some ⟨f a, .sh⟩))) : ∀ (as : List α) (acc : List D), acc.length + as.length ≤ sizeLine → lcL [i] (gN i) ft fe (as.map f) acc ρ = .ok (.fr (.list (acc ++ (as.filter p).map f))) ρ
  | [], acc, _ => by rw [List.map_nil, lcL_nil, List.filter_nil, List.map_nil, List.append_nil]
  | a :: as, acc, hl => by
    rw [List.length_cons] at hl
    have hw : (ρ.set i (some ⟨f a, .sh⟩)).set i none = ρ := by
      rw [List.set_set]
      apply List.ext_getElem?
      intro j
      rw [List.getElem?_set]
      split
      · rename_i e; subst e; rw [if_pos (lt_of hi), hi]
      · rfl
    have hio : ioAt ρ i = false := by unfold ioAt slot; rw [hi]
    rw [List.map_cons, lcL_cons, gN_eq, hio]
    simp only [lt_of hi, decide_true, Bool.not_false, Bool.and_self, if_true, optE_s, ht, bindB_ok, eCap_eq, he, bindE_ok, capH_sh, lcR_s, wipeR_cons, wipeR_nil, hw]
    cases hp : p a with
    | true =>
      rw [if_pos rfl, if_pos (by omega), lcL_filter ρ hi ht he as (acc ++ [f a]) (by rw [List.length_append, List.length_singleton]; omega), List.filter_cons_of_pos hp, List.map_cons, List.append_assoc]
      rfl
    | false =>
      rw [if_neg Bool.false_ne_true, lcL_filter ρ hi ht he as acc (by omega), List.filter_cons_of_neg (by rw [hp]; exact Bool.false_ne_true)]
/-! items -/
@[simp] theorem atI_zero {α : Type} (x : α) (xs : List α) : atI (x :: xs) 0 = some x := by
  have := atI_nat (xs := x :: xs) (j := 0) (v := x) rfl
  exact this
theorem atI_lt {α : Type} {xs : List α} {i : Int} (h0 : 0 ≤ i) (h1 : i < xs.length) : ∃ x, atI xs i = some x ∧ x ∈ xs := by
  have hk : i.toNat < xs.length := by omega
  have e : i = ((i.toNat : Nat) : Int) := by omega
  have q := atI_nat (xs := xs) (List.getElem?_eq_getElem hk)
  rw [← e] at q
  exact ⟨_, q, List.getElem_mem hk⟩
theorem atI_get {α : Type} {xs : List α} {i : Int} {n : Nat} (e : i = (n : Int)) (h : n < xs.length) : atI xs i = some xs[n] := by
  rw [e]
  exact atI_nat (List.getElem?_eq_getElem h)
end
end GS

namespace Wk01
open PySem L2 GS
/-! ### what the defs do, over plain data -/
/-- is_name(text); slots 0:text 1:letter -/
def b0_1 (fs : Nat → FF) : SF := (sIf (eAnd (eB (eBin (inD true) (eVb 1) (eC (.str (Str.ofString "ABCDEFGHIJKLMNOPQRSTUVWXYZ"))))) (eB (eBin (inD true) (eVb 1) (eC (.str (Str.ofString "0123456789")))))) (sRet (eC (.bool false))) sNil)
def g0 (fs : Nat → FF) : SF := (sSeq (sIf (eOr (eNot (eB (eChain (ltI fun i j => decide (i ≤ j)) (ltI fun i j => decide (i ≤ j)) (eC (.int 1)) (eCB (un1 lenD) (aCons (eVb 0) aNil)) (eC (.int 24))))) (eB (eBin (inD true) (eBin ixD (eVb 0) (eC (.int 0))) (eC (.str (Str.ofString "ABCDEFGHIJKLMNOPQRSTUVWXYZ")))))) (sRet (eC (.bool false))) sNil) (sSeq (sFor (iSq (eMv 0)) (gN 1) (b0_1 fs)) (sRet (eC (.bool true)))))
/-- is_sign(text); slots 0:text 1:letter -/
def b1_1 (fs : Nat → FF) : SF := (sIf (eB (eBin (inD true) (eVb 1) (eC (.str (Str.ofString "abcdefghijklmnopqrstuvwxyz"))))) (sRet (eC (.bool false))) sNil)
def g1 (fs : Nat → FF) : SF := (sSeq (sIf (eNot (eB (eChain (ltI fun i j => decide (i ≤ j)) (ltI fun i j => decide (i ≤ j)) (eC (.int 1)) (eCB (un1 lenD) (aCons (eVb 0) aNil)) (eC (.int 6))))) (sRet (eC (.bool false))) sNil) (sSeq (sFor (iSq (eMv 0)) (gN 1) (b1_1 fs)) (sRet (eC (.bool true)))))
/-- is_key(text); slots 0:text 1:letter -/
def b2_1 (fs : Nat → FF) : SF := (sIf (eAnd (eB (eBin (inD true) (eVb 1) (eC (.str (Str.ofString "abcdefghijklmnopqrstuvwxyz"))))) (eB (eBin (inD true) (eVb 1) (eC (.str (Str.ofString "0123456789")))))) (sRet (eC (.bool false))) sNil)
def g2 (fs : Nat → FF) : SF := (sSeq (sIf (eOr (eNot (eB (eChain (ltI fun i j => decide (i ≤ j)) (ltI fun i j => decide (i ≤ j)) (eC (.int 1)) (eCB (un1 lenD) (aCons (eVb 0) aNil)) (eC (.int 24))))) (eB (eBin (inD true) (eBin ixD (eVb 0) (eC (.int 0))) (eC (.str (Str.ofString "abcdefghijklmnopqrstuvwxyz")))))) (sRet (eC (.bool false))) sNil) (sSeq (sFor (iSq (eMv 0)) (gN 1) (b2_1 fs)) (sRet (eC (.bool true)))))
/-- _law_text(cell); slots 0:cell 1:great 2:small 3:figures 4:odd 5:some 6:found 7:k 8:at -/
def b3_1 (fs : Nat → FF) : SF := (sSeq (sSet 8 (eBin divD (eBin modD (eBin powD (eBin addD (eBin addD (eBin modD (eBin divD (eVb 0) (eC (.int 50))) (eC (.int 1000003))) (eBin mulD (eC (.int 7919)) (eVb 7))) (eC (.int 1))) (eC (.int 5))) (eC (.int 2147483647))) (eC (.int 8)))) (sSet 6 (eBin addD (eVb 6) (eBin ixD (eVb 5) (eBin modD (eVb 8) (eCB (un1 lenD) (aCons (eVb 5) aNil)))))))
def g3 (fs : Nat → FF) : SF := (sSeq (sSet 1 (eC (.str (Str.ofString "ABCDEFGHIJKLMNOPQRSTUVWXYZ")))) (sSeq (sSet 2 (eC (.str (Str.ofString "abcdefghijklmnopqrstuvwxyz")))) (sSeq (sSet 3 (eC (.str (Str.ofString "0123456789")))) (sSeq (sSet 4 (eC (.str (Str.ofString " !\"#$&'()*+,-./:;<=>?@\x5b]^_`{|}~\n\t\\")))) (sSeq (sSet 5 (eBin ixD (eLst (aCons (eBin addD (eBin addD (eBin addD (eVb 1) (eVb 4)) (eVb 2)) (eVb 3)) (aCons (eMv 1) (aCons (eMv 2) (aCons (eBin addD (eVb 1) (eVb 3)) (aCons (eBin addD (eVb 2) (eVb 3)) aNil)))))) (eBin modD (eVb 0) (eC (.int 5))))) (sSeq (sSet 6 (eC (.str (Str.ofString "")))) (sSeq (sFor (iR1 (eBin ixD (eLst (aCons (eC (.int 0)) (aCons (eC (.int 1)) (aCons (eC (.int 2)) (aCons (eC (.int 5)) (aCons (eC (.int 6)) (aCons (eC (.int 7)) (aCons (eC (.int 23)) (aCons (eC (.int 24)) (aCons (eC (.int 25)) (aCons (eC (.int 26)) aNil))))))))))) (eBin modD (eBin divD (eVb 0) (eC (.int 5))) (eC (.int 10))))) (gN 7) (b3_1 fs)) (sRet (eRv 6)))))))))
/-- _law_turned(text, cell); slots 0:text 1:cell 2:at 3:letter -/
def g4 (fs : Nat → FF) : SF := (sSeq (sSet 2 (eBin modD (eVb 1) (eBin addD (eCB (un1 lenD) (aCons (eVb 0) aNil)) (eC (.int 1))))) (sSeq (sSet 3 (eBin ixD (eC (.str (Str.ofString "A0a_ \n+9zZ:@\x5b`{|~"))) (eBin modD (eBin divD (eVb 1) (eC (.int 27))) (eC (.int 17))))) (sRet (eBin addD (eBin addD (eSl (eVb 0) none (some (eVb 2))) (eVb 3)) (eSl (eVb 0) (some (eBin addD (eVb 2) (eBin modD (eBin divD (eVb 1) (eC (.int 7))) (eC (.int 2))))) none)))))
/-- _law_all(text, letters); slots 0:text 1:letters 2:one -/
def ct5_1 (fs : Nat → FF) : EF := (eB (eBin (inD true) (eVb 2) (eVb 1)))
def ce5_2 (fs : Nat → FF) : EF := (eMv 2)
def g5 (fs : Nat → FF) : SF := (sRet (eBin (eqD false) (eCB (un1 lenD) (aCons (eLc [2] (iSq (eMv 0)) (gN 2) (eNox (ct5_1 fs)) (eNox (ce5_2 fs))) aNil)) (eC (.int 0))))
/-- law(script); slots 0:script 1:great 2:small 3:figures 4:cell 5:text 6:one 7:name 8:key 9:sign 10:told -/
def ct6_1 (fs : Nat → FF) : EF := (eNot (eB (eIsi isBool (eVb 10))))
def ce6_2 (fs : Nat → FF) : EF := (eMv 10)
def b6_3 (fs : Nat → FF) : SF := (sSeq (sSet 7 (eAnd (eB (eChain (ltI fun i j => decide (i ≤ j)) (ltI fun i j => decide (i ≤ j)) (eC (.int 1)) (eCB (un1 lenD) (aCons (eVb 6) aNil)) (eC (.int 24)))) (eAnd (eB (eBin (inD false) (eBin ixD (eVb 6) (eC (.int 0))) (eVb 1))) (eCall 2 none (fs 5) (aCons (eMv 6) (aCons (eBin addD (eVb 1) (eVb 3)) aNil)))))) (sSeq (sSet 8 (eAnd (eB (eChain (ltI fun i j => decide (i ≤ j)) (ltI fun i j => decide (i ≤ j)) (eC (.int 1)) (eCB (un1 lenD) (aCons (eVb 6) aNil)) (eC (.int 24)))) (eAnd (eB (eBin (inD false) (eBin ixD (eVb 6) (eC (.int 0))) (eVb 2))) (eCall 2 none (fs 5) (aCons (eMv 6) (aCons (eBin addD (eVb 2) (eVb 3)) aNil)))))) (sSeq (sSet 9 (eAnd (eB (eChain (ltI fun i j => decide (i ≤ j)) (ltI fun i j => decide (i ≤ j)) (eC (.int 1)) (eCB (un1 lenD) (aCons (eVb 6) aNil)) (eC (.int 6)))) (eCall 2 none (fs 5) (aCons (eMv 6) (aCons (eMv 2) aNil))))) (sSeq (sIf (eB (eBin (eqD true) (eLst (aCons (eCall 1 none (fs 0) (aCons (eMv 6) aNil)) (aCons (eCall 1 none (fs 1) (aCons (eMv 6) aNil)) (aCons (eCall 1 none (fs 2) (aCons (eMv 6) aNil)) aNil)))) (eLst (aCons (eMv 7) (aCons (eMv 9) (aCons (eMv 8) aNil)))))) (sRet (eC (.bool false))) sNil) (sIf (eB (eBin (ltI fun i j => decide (j < i)) (eCB (un1 lenD) (aCons (eLc [10] (iSq (eLst (aCons (eCall 1 none (fs 0) (aCons (eMv 6) aNil)) (aCons (eCall 1 none (fs 1) (aCons (eMv 6) aNil)) (aCons (eCall 1 none (fs 2) (aCons (eMv 6) aNil)) aNil))))) (gN 10) (eNox (ct6_1 fs)) (eNox (ce6_2 fs))) aNil)) (eC (.int 0)))) (sRet (eC (.bool false))) sNil)))))
def b6_4 (fs : Nat → FF) : SF := (sSeq (sSet 5 (eCall 1 none (fs 3) (aCons (eMv 4) aNil))) (sFor (iSq (eTup (aCons (eMv 5) (aCons (eCall 2 none (fs 4) (aCons (eMv 5) (aCons (eBin divD (eVb 4) (eC (.int 3))) aNil))) (aCons (eSl (eVb 5) none (some (eC (.int 1)))) (aCons (eSl (eVb 5) none (some (eC (.int 6)))) (aCons (eSl (eVb 5) (some (eC (.int 1))) none) aNil))))))) (gN 6) (b6_3 fs)))
def g6 (fs : Nat → FF) : SF := (sSeq (sSet 1 (eC (.str (Str.ofString "ABCDEFGHIJKLMNOPQRSTUVWXYZ")))) (sSeq (sSet 2 (eC (.str (Str.ofString "abcdefghijklmnopqrstuvwxyz")))) (sSeq (sSet 3 (eC (.str (Str.ofString "0123456789")))) (sSeq (sFor (iSq (eIf (eB (eBin (ltI fun i j => decide (j < i)) (eCB (un1 lenD) (aCons (eVb 0) aNil)) (eC (.int 0)))) (eSl (eVb 0) none (some (eC (.int 20)))) (eLst (aCons (eC (.int 0)) aNil)))) (gN 4) (b6_4 fs)) (sRet (eC (.bool true)))))))
def stuckF : FF := fun _ => .stuck
def fs : Nat → Nat → FF
  | 0, _ => stuckF
  | k + 1, 0 => fnF 2 1 (g0 (fs k))
  | k + 1, 1 => fnF 2 1 (g1 (fs k))
  | k + 1, 2 => fnF 2 1 (g2 (fs k))
  | k + 1, 3 => fnF 9 1 (g3 (fs k))
  | k + 1, 4 => fnF 4 2 (g4 (fs k))
  | k + 1, 5 => fnF 3 2 (g5 (fs k))
  | k + 1, 6 => fnF 11 1 (g6 (fs k))
  | _ + 1, _ => stuckF
theorem u0 (k : Nat) (ρ : Rho) : fs (k + 1) 0 ρ = finR 1 (g0 (fs k) (ρ ++ [none])) := fnF_eq 2 1 _
theorem u1 (k : Nat) (ρ : Rho) : fs (k + 1) 1 ρ = finR 1 (g1 (fs k) (ρ ++ [none])) := fnF_eq 2 1 _
theorem u2 (k : Nat) (ρ : Rho) : fs (k + 1) 2 ρ = finR 1 (g2 (fs k) (ρ ++ [none])) := fnF_eq 2 1 _
theorem u3 (k : Nat) (ρ : Rho) : fs (k + 1) 3 ρ = finR 1 (g3 (fs k) (ρ ++ [none, none, none, none, none, none, none, none])) := fnF_eq 9 1 _
theorem u4 (k : Nat) (ρ : Rho) : fs (k + 1) 4 ρ = finR 2 (g4 (fs k) (ρ ++ [none, none])) := fnF_eq 4 2 _
theorem u5 (k : Nat) (ρ : Rho) : fs (k + 1) 5 ρ = finR 2 (g5 (fs k) (ρ ++ [none])) := fnF_eq 3 2 _
theorem u6 (k : Nat) (ρ : Rho) : fs (k + 1) 6 ρ = finR 1 (g6 (fs k) (ρ ++ [none, none, none, none, none, none, none, none, none, none])) := fnF_eq 11 1 _
end Wk01

namespace Wk01
open PySem L2 GS
/-! ### the text by places -/
def topS (i : Nat) : Stmt := PySem.Challenge.pw_graftsay_k01_names_signs_keys.main.body.getD i (.Pass ⟨0, 0, 0, 0⟩)
def wFuel : Nat := 1000000
/-- is_name -/
abbrev s0 : Stmt := topS 6
theorem sc0 : FnScope ["text", "letter"] ["text"] (defScope s0) := ⟨rfl, rfl, rfl, by decide +kernel, rfl, by decide +kernel, by decide +kernel⟩
/-- is_sign -/
abbrev s1 : Stmt := topS 7
theorem sc1 : FnScope ["text", "letter"] ["text"] (defScope s1) := ⟨rfl, rfl, rfl, by decide +kernel, rfl, by decide +kernel, by decide +kernel⟩
/-- is_key -/
abbrev s2 : Stmt := topS 12
theorem sc2 : FnScope ["text", "letter"] ["text"] (defScope s2) := ⟨rfl, rfl, rfl, by decide +kernel, rfl, by decide +kernel, by decide +kernel⟩
/-- _law_text -/
abbrev s3 : Stmt := topS 14
theorem sc3 : FnScope ["cell", "great", "small", "figures", "odd", "some", "found", "k", "at"] ["cell"] (defScope s3) := ⟨rfl, rfl, rfl, by decide +kernel, rfl, by decide +kernel, by decide +kernel⟩
/-- _law_turned -/
abbrev s4 : Stmt := topS 15
theorem sc4 : FnScope ["text", "cell", "at", "letter"] ["text", "cell"] (defScope s4) := ⟨rfl, rfl, rfl, by decide +kernel, rfl, by decide +kernel, by decide +kernel⟩
/-- _law_all -/
abbrev s5 : Stmt := topS 16
theorem sc5 : FnScope ["text", "letters", "one"] ["text", "letters"] (defScope s5) := ⟨rfl, rfl, rfl, by decide +kernel, rfl, by decide +kernel, by decide +kernel⟩
/-- law -/
abbrev s6 : Stmt := topS 17
theorem sc6 : FnScope ["script", "great", "small", "figures", "cell", "text", "one", "name", "key", "sign", "told"] ["script"] (defScope s6) := ⟨rfl, rfl, rfl, by decide +kernel, rfl, by decide +kernel, by decide +kernel⟩
/-! ### what the top has left -/
structure Top (K : PySem.W.Frag) (mg : Str → Option Value) where
  a0 : Addr
  d0 : FuncData
  F0 : Fun K "is_name" "is_name" s0 a0 d0
  b0 : Binds K d0 ["text"] []
  g0 : mg "is_name" = some (.ref a0)
  a1 : Addr
  d1 : FuncData
  F1 : Fun K "is_sign" "is_sign" s1 a1 d1
  b1 : Binds K d1 ["text"] []
  g1 : mg "is_sign" = some (.ref a1)
  a2 : Addr
  d2 : FuncData
  F2 : Fun K "is_key" "is_key" s2 a2 d2
  b2 : Binds K d2 ["text"] []
  g2 : mg "is_key" = some (.ref a2)
  a3 : Addr
  d3 : FuncData
  F3 : Fun K "_law_text" "_law_text" s3 a3 d3
  b3 : Binds K d3 ["cell"] []
  g3 : mg "_law_text" = some (.ref a3)
  a4 : Addr
  d4 : FuncData
  F4 : Fun K "_law_turned" "_law_turned" s4 a4 d4
  b4 : Binds K d4 ["text", "cell"] []
  g4 : mg "_law_turned" = some (.ref a4)
  a5 : Addr
  d5 : FuncData
  F5 : Fun K "_law_all" "_law_all" s5 a5 d5
  b5 : Binds K d5 ["text", "letters"] []
  g5 : mg "_law_all" = some (.ref a5)
  a6 : Addr
  d6 : FuncData
  F6 : Fun K "law" "law" s6 a6 d6
  b6 : Binds K d6 ["script"] []
  g6 : mg "law" = some (.ref a6)
  c_FIGURES_trees : ∃ t, mg "FIGURES_trees" = some (Value.str (Str.ofString "0123456789") t)
  c_GREAT : ∃ t, mg "GREAT" = some (Value.str (Str.ofString "ABCDEFGHIJKLMNOPQRSTUVWXYZ") t)
  c_LONGEST_NAME : ∃ t, mg "LONGEST_NAME" = some (Value.int 24 t)
  c_SMALL_trees : ∃ t, mg "SMALL_trees" = some (Value.str (Str.ofString "abcdefghijklmnopqrstuvwxyz") t)
  c_LONGEST_SIGN : ∃ t, mg "LONGEST_SIGN" = some (Value.int 6 t)
  c_FIGURES_books : ∃ t, mg "FIGURES_books" = some (Value.str (Str.ofString "0123456789") t)
  c_SMALL_books : ∃ t, mg "SMALL_books" = some (Value.str (Str.ofString "abcdefghijklmnopqrstuvwxyz") t)
  c_LONGEST_KEY : ∃ t, mg "LONGEST_KEY" = some (Value.int 24 t)
  m_len : mg "len" = none
  m_range : mg "range" = none
  m_isinstance : mg "isinstance" = none
  m_bool : mg "bool" = none
structure Lv (P : Program) (w : World) (K : PySem.W.Frag) (mg : Str → Option Value) (base : Heap) (cv : Str → Value) (T : Top K mg) (k : Nat) : Prop where
  h0 : FnOk P w K mg base (L2.CX P w) k T.a0 T.d0 ["text"] (spF K cv 1 (fs k 0))
  h1 : FnOk P w K mg base (L2.CX P w) k T.a1 T.d1 ["text"] (spF K cv 1 (fs k 1))
  h2 : FnOk P w K mg base (L2.CX P w) k T.a2 T.d2 ["text"] (spF K cv 1 (fs k 2))
  h3 : FnOk P w K mg base (L2.CX P w) k T.a3 T.d3 ["cell"] (spF K cv 1 (fs k 3))
  h4 : FnOk P w K mg base (L2.CX P w) k T.a4 T.d4 ["text", "cell"] (spF K cv 2 (fs k 4))
  h5 : FnOk P w K mg base (L2.CX P w) k T.a5 T.d5 ["text", "letters"] (spF K cv 2 (fs k 5))
  h6 : FnOk P w K mg base (L2.CX P w) k T.a6 T.d6 ["script"] (spF K cv 1 (fs k 6))
section
variable {P : Program} {w : World} {K : PySem.W.Frag} {mg : Str → Option Value} {base : Heap} {cv : Str → Value}
/-- is_name -/
theorem e0 (k : Nat) : fs (k + 1) 0 = fnF 2 1 (g0 (fs k)) := rfl
theorem w0 {T : Top K mg} {k : Nat} (L : Lv P w K mg base cv T k) : FnOk P w K mg base (L2.CX P w) (k + 1) T.a0 T.d0 ["text"] (spF K cv 1 (fs (k + 1) 0)) := by
  rw [e0]
  refine fn_of' ["text", "letter"] rfl rfl T.F0 sc0 fun cdv A outer s H E hr tk po => ?_
  have nd := sc0.nd
  have hu := hr.units
  have hu5 : _ + 65 < cLine := Nat.lt_of_le_of_lt (Nat.add_le_add_left (by decide : 65 ≤ 200) _) (Nat.lt_of_le_of_lt (Nat.add_le_add_right (Nat.le_add_right _ _) _) hr.un)
  unfold g0 b0_1
  exact ⟨_, (sss_cons (ss_if (sw_or (st_not (st_chain ol_cmp op_le ol_cmp op_le se_int (se_cb cl_len call_len T.m_len (sa_cons (se_vb 0) sa_nil)) (se_gint T.c_LONGEST_NAME))) (sw_one (st_cmp ol_notIn (op_notInA (by exact hu5)) (se_ix (se_vb 0) se_int) (se_gstr T.c_GREAT)))).st (sss_one (ss_ret se_bl)) sss_nil) (sss_cons (ss_for po rfl (si_sq (se_mv 0)) (sg_name nd) (sss_one (ss_if (sw_and (st_cmp ol_notIn (op_notInA (by exact hu5)) (se_vb 1) (se_gstr T.c_GREAT)) (sw_one (st_cmp ol_notIn (op_notInA (by exact hu5)) (se_vb 1) (se_gstr T.c_FIGURES_trees)))).st (sss_one (ss_ret se_bl)) sss_nil))) (sss_one (ss_ret se_bl))))⟩
/-- is_sign -/
theorem e1 (k : Nat) : fs (k + 1) 1 = fnF 2 1 (g1 (fs k)) := rfl
theorem w1 {T : Top K mg} {k : Nat} (L : Lv P w K mg base cv T k) : FnOk P w K mg base (L2.CX P w) (k + 1) T.a1 T.d1 ["text"] (spF K cv 1 (fs (k + 1) 1)) := by
  rw [e1]
  refine fn_of' ["text", "letter"] rfl rfl T.F1 sc1 fun cdv A outer s H E hr tk po => ?_
  have nd := sc1.nd
  have hu := hr.units
  have hu5 : _ + 65 < cLine := Nat.lt_of_le_of_lt (Nat.add_le_add_left (by decide : 65 ≤ 200) _) (Nat.lt_of_le_of_lt (Nat.add_le_add_right (Nat.le_add_right _ _) _) hr.un)
  unfold g1 b1_1
  exact ⟨_, (sss_cons (ss_if (st_not (st_chain ol_cmp op_le ol_cmp op_le se_int (se_cb cl_len call_len T.m_len (sa_cons (se_vb 0) sa_nil)) (se_gint T.c_LONGEST_SIGN))) (sss_one (ss_ret se_bl)) sss_nil) (sss_cons (ss_for po rfl (si_sq (se_mv 0)) (sg_name nd) (sss_one (ss_if (st_cmp ol_notIn (op_notInA (by exact hu5)) (se_vb 1) (se_gstr T.c_SMALL_trees)) (sss_one (ss_ret se_bl)) sss_nil))) (sss_one (ss_ret se_bl))))⟩
/-- is_key -/
theorem e2 (k : Nat) : fs (k + 1) 2 = fnF 2 1 (g2 (fs k)) := rfl
theorem w2 {T : Top K mg} {k : Nat} (L : Lv P w K mg base cv T k) : FnOk P w K mg base (L2.CX P w) (k + 1) T.a2 T.d2 ["text"] (spF K cv 1 (fs (k + 1) 2)) := by
  rw [e2]
  refine fn_of' ["text", "letter"] rfl rfl T.F2 sc2 fun cdv A outer s H E hr tk po => ?_
  have nd := sc2.nd
  have hu := hr.units
  have hu5 : _ + 65 < cLine := Nat.lt_of_le_of_lt (Nat.add_le_add_left (by decide : 65 ≤ 200) _) (Nat.lt_of_le_of_lt (Nat.add_le_add_right (Nat.le_add_right _ _) _) hr.un)
  unfold g2 b2_1
  exact ⟨_, (sss_cons (ss_if (sw_or (st_not (st_chain ol_cmp op_le ol_cmp op_le se_int (se_cb cl_len call_len T.m_len (sa_cons (se_vb 0) sa_nil)) (se_gint T.c_LONGEST_KEY))) (sw_one (st_cmp ol_notIn (op_notInA (by exact hu5)) (se_ix (se_vb 0) se_int) (se_gstr T.c_SMALL_books)))).st (sss_one (ss_ret se_bl)) sss_nil) (sss_cons (ss_for po rfl (si_sq (se_mv 0)) (sg_name nd) (sss_one (ss_if (sw_and (st_cmp ol_notIn (op_notInA (by exact hu5)) (se_vb 1) (se_gstr T.c_SMALL_books)) (sw_one (st_cmp ol_notIn (op_notInA (by exact hu5)) (se_vb 1) (se_gstr T.c_FIGURES_books)))).st (sss_one (ss_ret se_bl)) sss_nil))) (sss_one (ss_ret se_bl))))⟩
/-- _law_text -/
theorem e3 (k : Nat) : fs (k + 1) 3 = fnF 9 1 (g3 (fs k)) := rfl
theorem w3 {T : Top K mg} {k : Nat} (L : Lv P w K mg base cv T k) : FnOk P w K mg base (L2.CX P w) (k + 1) T.a3 T.d3 ["cell"] (spF K cv 1 (fs (k + 1) 3)) := by
  rw [e3]
  refine fn_of' ["cell", "great", "small", "figures", "odd", "some", "found", "k", "at"] rfl rfl T.F3 sc3 fun cdv A outer s H E hr tk po => ?_
  have nd := sc3.nd
  have hu := hr.units
  have hu5 : _ + 65 < cLine := Nat.lt_of_le_of_lt (Nat.add_le_add_left (by decide : 65 ≤ 200) _) (Nat.lt_of_le_of_lt (Nat.add_le_add_right (Nat.le_add_right _ _) _) hr.un)
  unfold g3 b3_1
  exact ⟨_, (sss_cons (ss_set (i := 1) nd se_str) (sss_cons (ss_set (i := 2) nd se_str) (sss_cons (ss_set (i := 3) nd se_str) (sss_cons (ss_set (i := 4) nd se_str) (sss_cons (ss_set (i := 5) nd (se_ix (se_lst (sa_cons (se_bin ol_add op_addA (se_bin ol_add op_addA (se_bin ol_add op_addA (se_vb 1) (se_vb 4)) (se_vb 2)) (se_vb 3)) (sa_cons (se_mv 1) (sa_cons (se_mv 2) (sa_cons (se_bin ol_add op_addA (se_vb 1) (se_vb 3)) (sa_cons (se_bin ol_add op_addA (se_vb 2) (se_vb 3)) sa_nil)))))) (se_bin ol_mod op_mod (se_vb 0) se_int))) (sss_cons (ss_set (i := 6) nd se_str) (sss_cons (ss_for po rfl (si_r1 (se_ix (se_lst (sa_cons se_int (sa_cons se_int (sa_cons se_int (sa_cons se_int (sa_cons se_int (sa_cons se_int (sa_cons se_int (sa_cons se_int (sa_cons se_int (sa_cons se_int sa_nil))))))))))) (se_bin ol_mod op_mod (se_bin ol_div op_fdiv (se_vb 0) se_int) se_int)) T.m_range) (sg_name nd) (sss_cons (ss_set (i := 8) nd (se_bin ol_div op_fdiv (se_bin ol_mod op_mod (se_bin ol_pow op_pow (se_bin ol_add op_addA (se_bin ol_add op_addA (se_bin ol_mod op_mod (se_bin ol_div op_fdiv (se_vb 0) se_int) se_int) (se_bin ol_mul op_mul se_int (se_vb 7))) se_int) se_int) se_int) se_int)) (sss_one (ss_set (i := 6) nd (se_bin ol_add op_addA (se_vb 6) (se_ix (se_vb 5) (se_bin ol_mod op_mod (se_vb 8) (se_cb cl_len call_len T.m_len (sa_cons (se_vb 5) sa_nil))))))))) (sss_one (ss_ret (se_rv 6))))))))))⟩
/-- _law_turned -/
theorem e4 (k : Nat) : fs (k + 1) 4 = fnF 4 2 (g4 (fs k)) := rfl
theorem w4 {T : Top K mg} {k : Nat} (L : Lv P w K mg base cv T k) : FnOk P w K mg base (L2.CX P w) (k + 1) T.a4 T.d4 ["text", "cell"] (spF K cv 2 (fs (k + 1) 4)) := by
  rw [e4]
  refine fn_of' ["text", "cell", "at", "letter"] rfl rfl T.F4 sc4 fun cdv A outer s H E hr tk po => ?_
  have nd := sc4.nd
  have hu := hr.units
  have hu5 : _ + 65 < cLine := Nat.lt_of_le_of_lt (Nat.add_le_add_left (by decide : 65 ≤ 200) _) (Nat.lt_of_le_of_lt (Nat.add_le_add_right (Nat.le_add_right _ _) _) hr.un)
  unfold g4
  exact ⟨_, (sss_cons (ss_set (i := 2) nd (se_bin ol_mod op_mod (se_vb 1) (se_bin ol_add op_addA (se_cb cl_len call_len T.m_len (sa_cons (se_vb 0) sa_nil)) se_int))) (sss_cons (ss_set (i := 3) nd (se_ix se_str (se_bin ol_mod op_mod (se_bin ol_div op_fdiv (se_vb 1) se_int) se_int))) (sss_one (ss_ret (se_bin ol_add op_addA (se_bin ol_add op_addA (se_slice (se_vb 0) .non (.some (se_vb 2))) (se_vb 3)) (se_slice (se_vb 0) (.some (se_bin ol_add op_addA (se_vb 2) (se_bin ol_mod op_mod (se_bin ol_div op_fdiv (se_vb 1) se_int) se_int))) .non))))))⟩
/-- _law_all -/
theorem e5 (k : Nat) : fs (k + 1) 5 = fnF 3 2 (g5 (fs k)) := rfl
theorem w5 {T : Top K mg} {k : Nat} (L : Lv P w K mg base cv T k) : FnOk P w K mg base (L2.CX P w) (k + 1) T.a5 T.d5 ["text", "letters"] (spF K cv 2 (fs (k + 1) 5)) := by
  rw [e5]
  refine fn_of' ["text", "letters", "one"] rfl rfl T.F5 sc5 fun cdv A outer s H E hr tk po => ?_
  have nd := sc5.nd
  have hu := hr.units
  have hu5 : _ + 65 < cLine := Nat.lt_of_le_of_lt (Nat.add_le_add_left (by decide : 65 ≤ 200) _) (Nat.lt_of_le_of_lt (Nat.add_le_add_right (Nat.le_add_right _ _) _) hr.un)
  unfold g5 ce5_2 ct5_1
  exact ⟨_, (sss_one (ss_ret (se_cmp ol_eq (op_eqD (by exact hu)) (se_cb cl_len call_len T.m_len (sa_cons (se_comp (own := [(("one" : Str), 2)]) rfl nd (blkOk_by (N := ["text", "letters", "one"]) (sc := defScope s5) (by decide +kernel)) (si_sq (se_mv 0)) (fun _ _ _ _ _ => (sgw_name nd)) (fun _ _ _ _ _ => (sp_one (st_cmp ol_notIn (op_notInA (by exact hu5)) (se_vb 2) (se_vb 1)))) (fun _ _ _ _ _ => (se_mv 2))) sa_nil)) se_int)))⟩
/-- law -/
theorem e6 (k : Nat) : fs (k + 1) 6 = fnF 11 1 (g6 (fs k)) := rfl
theorem w6 {T : Top K mg} {k : Nat} (L : Lv P w K mg base cv T k) : FnOk P w K mg base (L2.CX P w) (k + 1) T.a6 T.d6 ["script"] (spF K cv 1 (fs (k + 1) 6)) := by
  rw [e6]
  refine fn_of' ["script", "great", "small", "figures", "cell", "text", "one", "name", "key", "sign", "told"] rfl rfl T.F6 sc6 fun cdv A outer s H E hr tk po => ?_
  have nd := sc6.nd
  have hu := hr.units
  have hu5 : _ + 65 < cLine := Nat.lt_of_le_of_lt (Nat.add_le_add_left (by decide : 65 ≤ 200) _) (Nat.lt_of_le_of_lt (Nat.add_le_add_right (Nat.le_add_right _ _) _) hr.un)
  unfold g6 b6_4 b6_3 ce6_2 ct6_1
  exact ⟨_, (sss_cons (ss_set (i := 1) nd se_str) (sss_cons (ss_set (i := 2) nd se_str) (sss_cons (ss_set (i := 3) nd se_str) (sss_cons (ss_for po rfl (si_sq (se_if (st_cmp ol_cmp op_gt (se_cb cl_len call_len T.m_len (sa_cons (se_vb 0) sa_nil)) se_int) (se_slice (se_vb 0) .non (.some se_int)) (se_lst (sa_cons se_int sa_nil)))) (sg_name nd) (sss_cons (ss_set (i := 5) nd (se_call L.h3 hr T.g3 T.F3.kp T.b3 tk (sa_cons (se_mv 4) sa_nil) none)) (sss_one (ss_for po rfl (si_sq (se_tup (sa_cons (se_mv 5) (sa_cons (se_call L.h4 hr T.g4 T.F4.kp T.b4 tk (sa_cons (se_mv 5) (sa_cons (se_bin ol_div op_fdiv (se_vb 4) se_int) sa_nil)) none) (sa_cons (se_slice (se_vb 5) .non (.some se_int)) (sa_cons (se_slice (se_vb 5) .non (.some se_int)) (sa_cons (se_slice (se_vb 5) (.some se_int) .non) sa_nil))))))) (sg_name nd) (sss_cons (ss_set (i := 7) nd (se_and (se_chain ol_cmp op_le ol_cmp op_le se_int (se_cb cl_len call_len T.m_len (sa_cons (se_vb 6) sa_nil)) se_int) (se_and (se_cmp ol_in (op_inA (by exact hu5)) (se_ix (se_vb 6) se_int) (se_vb 1)) (se_one (se_call L.h5 hr T.g5 T.F5.kp T.b5 tk (sa_cons (se_mv 6) (sa_cons (se_bin ol_add op_addA (se_vb 1) (se_vb 3)) sa_nil)) none))))) (sss_cons (ss_set (i := 8) nd (se_and (se_chain ol_cmp op_le ol_cmp op_le se_int (se_cb cl_len call_len T.m_len (sa_cons (se_vb 6) sa_nil)) se_int) (se_and (se_cmp ol_in (op_inA (by exact hu5)) (se_ix (se_vb 6) se_int) (se_vb 2)) (se_one (se_call L.h5 hr T.g5 T.F5.kp T.b5 tk (sa_cons (se_mv 6) (sa_cons (se_bin ol_add op_addA (se_vb 2) (se_vb 3)) sa_nil)) none))))) (sss_cons (ss_set (i := 9) nd (se_and (se_chain ol_cmp op_le ol_cmp op_le se_int (se_cb cl_len call_len T.m_len (sa_cons (se_vb 6) sa_nil)) se_int) (se_one (se_call L.h5 hr T.g5 T.F5.kp T.b5 tk (sa_cons (se_mv 6) (sa_cons (se_mv 2) sa_nil)) none)))) (sss_cons (ss_if (st_cmp ol_ne (op_neD (by exact hu)) (se_lst (sa_cons (se_call L.h0 hr T.g0 T.F0.kp T.b0 tk (sa_cons (se_mv 6) sa_nil) none) (sa_cons (se_call L.h1 hr T.g1 T.F1.kp T.b1 tk (sa_cons (se_mv 6) sa_nil) none) (sa_cons (se_call L.h2 hr T.g2 T.F2.kp T.b2 tk (sa_cons (se_mv 6) sa_nil) none) sa_nil)))) (se_lst (sa_cons (se_mv 7) (sa_cons (se_mv 9) (sa_cons (se_mv 8) sa_nil))))) (sss_one (ss_ret se_bl)) sss_nil) (sss_one (ss_if (st_cmp ol_cmp op_gt (se_cb cl_len call_len T.m_len (sa_cons (se_comp (own := [(("told" : Str), 10)]) rfl nd (blkOk_by (N := ["script", "great", "small", "figures", "cell", "text", "one", "name", "key", "sign", "told"]) (sc := defScope s6) (by decide +kernel)) (si_sq (se_lst (sa_cons (se_call L.h0 hr T.g0 T.F0.kp T.b0 tk (sa_cons (se_mv 6) sa_nil) none) (sa_cons (se_call L.h1 hr T.g1 T.F1.kp T.b1 tk (sa_cons (se_mv 6) sa_nil) none) (sa_cons (se_call L.h2 hr T.g2 T.F2.kp T.b2 tk (sa_cons (se_mv 6) sa_nil) none) sa_nil))))) (fun _ _ _ _ _ => (sgw_name nd)) (fun _ _ _ _ _ => (sp_one (st_not (st_val (se_isi kit_bool T.m_isinstance T.m_bool (se_vb 10)))))) (fun _ _ _ _ _ => (se_mv 10))) sa_nil)) se_int) (sss_one (ss_ret se_bl)) sss_nil)))))))))) (sss_one (ss_ret se_bl))))))⟩
theorem lv (T : Top K mg) : ∀ k, Lv P w K mg base cv T k
  | 0 => ⟨fn_zero rfl, fn_zero rfl, fn_zero rfl, fn_zero rfl, fn_zero rfl, fn_zero rfl, fn_zero rfl⟩
  | k + 1 => have L := lv T k; ⟨w0 L, w1 L, w2 L, w3 L, w4 L, w5 L, w6 L⟩
end
end Wk01

namespace Wk01
open PySem L2 GS
abbrev GRT : Str := Str.ofString "ABCDEFGHIJKLMNOPQRSTUVWXYZ"
abbrev SML : Str := Str.ofString "abcdefghijklmnopqrstuvwxyz"
abbrev FIG : Str := Str.ofString "0123456789"
def okN (F : Str) (c : Nat) : Bool := decide (c ∈ F.cps) || decide (c ∈ FIG.cps)
def isName (F : Str) : List Nat → Bool
  | [] => false
  | c :: cs => decide ((c :: cs).length ≤ 24) && decide (c ∈ F.cps) && (c :: cs).all (okN F)
def isSign (cs : List Nat) : Bool := decide (1 ≤ cs.length) && decide (cs.length ≤ 6) && cs.all fun c => decide (c ∈ SML.cps)
theorem len_eq (s : Str) : s.length = s.cps.toList.length := by rw [Array.length_toList]; rfl
theorem fits {n : Nat} (h : n ≤ 100000) : n ≤ sizeLine := Nat.le_trans h (by decide)
theorem fitsl {n : Nat} (h : n < 100000) : n < sizeLine := Nat.lt_of_lt_of_le h (by decide)
@[simp] theorem eqD_i (neg : Bool) (i j : Int) : eqD neg (.int i) (.int j) = some (.sh (.bool (neg ^^ (i == j)))) := rfl
theorem name_eq (k : Nat) (s : Str) (hs : s.length ≤ sizeLine) : fs (k + 1) 0 [some ⟨.str s, .sh⟩] = .ok (.sh (.bool (isName GRT s.cps.toList))) [none] := by
  rw [u0]
  have hl := len_eq s
  obtain ⟨x', h1, h2⟩ := forL_srch0 (i := 1) (b := b0_1 (fs k)) (f := fun c => .str ⟨#[c]⟩) (p := okN GRT) (r := .sh (.bool false)) [some ⟨.str s, .sh⟩, none] rfl
    (fun c => by by_cases h1 : c ∈ GRT.cps <;> by_cases h2 : c ∈ FIG.cps <;> simp [b0_1, okN, h1, h2]) s.cps.toList
  cases hc : s.cps.toList with
  | nil =>
    rw [hc] at hl
    simp [g0, hs, hl, isName, outR_1]
  | cons c cs =>
    rw [hc] at hl h2
    rw [List.map_cons] at h2
    rw [List.length_cons] at hl
    rw [hl] at hs
    by_cases q1 : cs.length + 1 ≤ 24
    · have q2 : ¬ (24 : Int) < cs.length + 1 := by omega
      have q3 : (1 : Int) ≤ cs.length + 1 := by omega
      by_cases q4 : c ∈ GRT.cps
      · by_cases q5 : (c :: cs).all (okN GRT) = true
        · rw [if_pos q5] at h2
          simp [g0, hs, hl, isName, outR_1, hc, q2, q3, q4, h2, q5, q1]
        · rw [if_neg q5] at h2
          simp [g0, hs, hl, isName, outR_1, hc, q2, q3, q4, h2, q5, q1]
      · simp [g0, hs, hl, isName, outR_1, hc, q2, q3, q4]
    · have q2 : (24 : Int) < cs.length + 1 := by omega
      have q3 : (1 : Int) ≤ cs.length + 1 := by omega
      have q4 : ¬ cs.length ≤ 23 := by omega
      simp [g0, hs, hl, isName, outR_1, hc, q2, q3, q4]
theorem key_eq (k : Nat) (s : Str) (hs : s.length ≤ sizeLine) : fs (k + 1) 2 [some ⟨.str s, .sh⟩] = .ok (.sh (.bool (isName SML s.cps.toList))) [none] := by
  rw [u2]
  have hl := len_eq s
  obtain ⟨x', h1, h2⟩ := forL_srch0 (i := 1) (b := b2_1 (fs k)) (f := fun c => .str ⟨#[c]⟩) (p := okN SML) (r := .sh (.bool false)) [some ⟨.str s, .sh⟩, none] rfl
    (fun c => by by_cases h1 : c ∈ SML.cps <;> by_cases h2 : c ∈ FIG.cps <;> simp [b2_1, okN, h1, h2]) s.cps.toList
  cases hc : s.cps.toList with
  | nil =>
    rw [hc] at hl
    simp [g2, hs, hl, isName, outR_1]
  | cons c cs =>
    rw [hc] at hl h2
    rw [List.map_cons] at h2
    rw [List.length_cons] at hl
    rw [hl] at hs
    by_cases q1 : cs.length + 1 ≤ 24
    · have q2 : ¬ (24 : Int) < cs.length + 1 := by omega
      have q3 : (1 : Int) ≤ cs.length + 1 := by omega
      by_cases q4 : c ∈ SML.cps
      · by_cases q5 : (c :: cs).all (okN SML) = true
        · rw [if_pos q5] at h2
          simp [g2, hs, hl, isName, outR_1, hc, q2, q3, q4, h2, q5, q1]
        · rw [if_neg q5] at h2
          simp [g2, hs, hl, isName, outR_1, hc, q2, q3, q4, h2, q5, q1]
      · simp [g2, hs, hl, isName, outR_1, hc, q2, q3, q4]
    · have q2 : (24 : Int) < cs.length + 1 := by omega
      have q3 : (1 : Int) ≤ cs.length + 1 := by omega
      have q4 : ¬ cs.length ≤ 23 := by omega
      simp [g2, hs, hl, isName, outR_1, hc, q2, q3, q4]
theorem sign_eq (k : Nat) (s : Str) (hs : s.length ≤ sizeLine) : fs (k + 1) 1 [some ⟨.str s, .sh⟩] = .ok (.sh (.bool (isSign s.cps.toList))) [none] := by
  rw [u1]
  have hl := len_eq s
  obtain ⟨x', h1, h2⟩ := forL_srch0 (i := 1) (b := b1_1 (fs k)) (f := fun c => .str ⟨#[c]⟩) (p := fun c => decide (c ∈ SML.cps)) (r := .sh (.bool false)) [some ⟨.str s, .sh⟩, none] rfl
    (fun c => by by_cases h1 : c ∈ SML.cps <;> simp [b1_1, h1]) s.cps.toList
  obtain ⟨cs, hc⟩ : ∃ cs, s.cps.toList = cs := ⟨_, rfl⟩
  rw [hc] at hl h2
  rw [hl] at hs
  rw [hc]
  by_cases q1 : 1 ≤ cs.length
  · have q3 : (1 : Int) ≤ cs.length := by omega
    by_cases q2 : cs.length ≤ 6
    · have q4 : ¬ (6 : Int) < cs.length := by omega
      by_cases q5 : (cs.all fun c => decide (c ∈ SML.cps)) = true
      · rw [if_pos q5] at h2
        simp only [isSign, q5]
        simp [g1, hs, hl, hc, outR_1, q3, q4, h2, q1, q2]
      · rw [if_neg q5] at h2
        simp only [isSign, q5]
        simp [g1, hs, hl, hc, outR_1, q3, q4, h2, q1, q2]
    · have q4 : (6 : Int) < cs.length := by omega
      simp [g1, hs, hl, isSign, outR_1, q3, q4, q1, q2]
  · have q3 : ¬ (1 : Int) ≤ cs.length := by omega
    simp [g1, hs, hl, isSign, outR_1, q3, q1]
theorem none_left (p : Nat → Bool) : ∀ cs : List Nat, (((cs.filter fun c => !p c).length : Int) == 0) = cs.all p
  | [] => rfl
  | c :: cs => by
    have ih := none_left p cs
    cases h : p c
    · simp only [List.filter_cons, h, Bool.not_false, if_true, List.length_cons, List.all_cons, Bool.false_and]
      exact beq_eq_false_iff_ne.mpr (by omega)
    · simp only [List.filter_cons, h, Bool.not_true, Bool.false_eq_true, if_false, List.all_cons, Bool.true_and]
      exact ih
theorem all_eq (k : Nat) (s L : Str) (hs : s.length ≤ 100000) : fs (k + 1) 5 [some ⟨.str s, .sh⟩, some ⟨.str L, .sh⟩] = .ok (.sh (.bool (s.cps.toList.all fun c => decide (c ∈ L.cps)))) [none, none] := by
  rw [u5]
  have hl := len_eq s
  obtain ⟨cs, hc⟩ : ∃ cs, s.cps.toList = cs := ⟨_, rfl⟩
  rw [hc] at hl
  have h := lcL_filter (i := 2) (ft := eNox (ct5_1 (fs k))) (fe := eNox (ce5_2 (fs k))) (f := fun c => .str ⟨#[c]⟩) (p := fun c => !decide (c ∈ L.cps)) [some ⟨.str s, .sh⟩, some ⟨.str L, .sh⟩, none] rfl
    (fun c => by simp [ct5_1]) (fun c => by simp [ce5_2]) cs [] (fits (by rw [← hl]; simpa using hs))
  rw [hc]
  simp [g5, hc, h, outR_2, none_left]
abbrev ODD : Str := Str.ofString " !\"#$&'()*+,-./:;<=>?@\x5b]^_`{|}~\n\t\\"
theorem app_len (a b : Str) : (a ++ b).length = a.length + b.length := by
  show (a.cps ++ b.cps).size = a.cps.size + b.cps.size
  exact Array.size_append
theorem lG : GRT.length = 26 := by decide +kernel
theorem lS : SML.length = 26 := by decide +kernel
theorem lF : FIG.length = 10 := by decide +kernel
theorem lO : ODD.length ≤ 100 := by decide +kernel
theorem l0 : (Str.ofString "").length = 0 := by decide +kernel
theorem szl : sizeLine = 16777216 := by decide +kernel
/-- one turn of _law_text -/
theorem text_turn (k : Nat) (cell j : Int) (z f : Str) (x1 x2 x3 x4 : D) (y : Option Cel) (hy : ioC y = none) (hz : 0 < z.length) (hz2 : z.length ≤ 200) (hf : f.length ≤ 100) (hj : 0 ≤ j) (hj2 : j < 27) :
    ∃ (c : Nat) (a : D), b3_1 (fs k) [some ⟨.int cell, .sh⟩, some ⟨x1, .sh⟩, some ⟨x2, .sh⟩, some ⟨x3, .sh⟩, some ⟨x4, .sh⟩, some ⟨.str z, .sh⟩, some ⟨.str f, .sh⟩, some ⟨.int j, .sh⟩, y]
      = .nx [some ⟨.int cell, .sh⟩, some ⟨x1, .sh⟩, some ⟨x2, .sh⟩, some ⟨x3, .sh⟩, some ⟨x4, .sh⟩, some ⟨.str z, .sh⟩, some ⟨.str (f ++ ⟨#[c]⟩), .sh⟩, some ⟨.int j, .sh⟩, some ⟨a, .sh⟩] := by
  have hm : cMul 7919 j = true := cMul_l (by decide)
  have h1 : (cell / 50 % 1000003 + 7919 * j + 1).natAbs < 18446744073709551616 := by
    have a1 := Int.emod_nonneg (cell / 50) (show (1000003 : Int) ≠ 0 by decide)
    have a2 := Int.emod_lt_of_pos (cell / 50) (show (0 : Int) < 1000003 by decide)
    omega
  generalize ha : (cell / 50 % 1000003 + 7919 * j + 1) ^ 5 % 2147483647 / 8 = a
  have hp : (0 : Int) < z.length := by omega
  obtain ⟨c, hc, _⟩ := atI_lt (xs := z.cps.toList) (i := a % (z.length : Int)) (Int.emod_nonneg _ (by omega)) (by rw [Array.length_toList]; exact Int.emod_lt_of_pos _ hp)
  refine ⟨c, .int a, ?_⟩
  have e1 : (f.length + 1 ≤ sizeLine) := fits (by omega)
  have e2 : (z.length ≤ sizeLine) := fits (by omega)
  have e3 : (⟨#[c]⟩ : Str).length = 1 := rfl
  have e4 : z.length ≠ 0 := by omega
  simp [b3_1, hm, h1, ha, ioAt_of hy, e1, e2, e3, e4, resO_mod (i := a) hp, hc]
theorem text_run (k : Nat) (cell : Int) (G S F O : D) (z f0 : Str) (h0 : f0.length = 0) (z1 : 0 < z.length) (z2 : z.length ≤ 200) (m : Nat) (hm1 : m ≤ 26) : ∃ (f : Str) (jc y : Option Cel), f.length ≤ 26 ∧
    forL (gN 7) (b3_1 (fs k)) (rgD 0 m) [some ⟨.int cell, .sh⟩, some ⟨G, .sh⟩, some ⟨S, .sh⟩, some ⟨F, .sh⟩, some ⟨O, .sh⟩, some ⟨.str z, .sh⟩, some ⟨.str f0, .sh⟩, none, none] = .nx [some ⟨.int cell, .sh⟩, some ⟨G, .sh⟩, some ⟨S, .sh⟩, some ⟨F, .sh⟩, some ⟨O, .sh⟩, some ⟨.str z, .sh⟩, some ⟨.str f, .sh⟩, jc, y] := by
  obtain ⟨ρ', h1, f, jc, y, rfl, h2⟩ := forL_inv0 (g := gN 7) (b := b3_1 (fs k)) (fun pre ρ => ∃ (f : Str) (jc y : Option Cel), ρ = [some ⟨.int cell, .sh⟩, some ⟨G, .sh⟩, some ⟨S, .sh⟩, some ⟨F, .sh⟩, some ⟨O, .sh⟩, some ⟨.str z, .sh⟩, some ⟨.str f, .sh⟩, jc, y] ∧ f.length = pre.length ∧ ioC jc = none ∧ ioC y = none)
    (rgD 0 m) _ ⟨f0, none, none, rfl, h0, rfl, rfl⟩ (fun pre d post ρ' e ⟨f, jc, y, er, h1, h2, h3⟩ => by
      obtain ⟨q1, rfl⟩ := rgD_mid e
      subst er
      obtain ⟨c, a, ht⟩ := text_turn k cell (0 + (pre.length : Int)) z f G S F O y h3 z1 z2 (by omega) (by omega) (by omega)
      refine ⟨_, _, ?_, ht, f ++ ⟨#[c]⟩, _, _, rfl, by rw [app_len, h1, List.length_append]; rfl, rfl, rfl⟩
      simp [ioAt_of h2])
  exact ⟨f, jc, y, by rw [h2.1, rgD_len]; exact hm1, h1⟩
theorem menu10 (i : Int) : ∃ m : Nat, m ≤ 26 ∧ atI [PyData.int 0, .int 1, .int 2, .int 5, .int 6, .int 7, .int 23, .int 24, .int 25, .int 26] (i % 10) = some (.int (m : Int)) := by
  obtain ⟨n, hn, hmn⟩ := atI_lt (xs := [PyData.int 0, .int 1, .int 2, .int 5, .int 6, .int 7, .int 23, .int 24, .int 25, .int 26]) (i := i % 10) (by omega) (by simp; omega)
  simp only [List.mem_cons, List.not_mem_nil, or_false] at hmn
  rcases hmn with rfl | rfl | rfl | rfl | rfl | rfl | rfl | rfl | rfl | rfl
  · exact ⟨0, by decide, hn⟩
  · exact ⟨1, by decide, hn⟩
  · exact ⟨2, by decide, hn⟩
  · exact ⟨5, by decide, hn⟩
  · exact ⟨6, by decide, hn⟩
  · exact ⟨7, by decide, hn⟩
  · exact ⟨23, by decide, hn⟩
  · exact ⟨24, by decide, hn⟩
  · exact ⟨25, by decide, hn⟩
  · exact ⟨26, by decide, hn⟩
/-- _law_text: some text of at most 26 signs -/
theorem text_eq (k : Nat) (cell : Int) : ∃ t : Str, fs (k + 1) 3 [some ⟨.int cell, .sh⟩] = .ok (.sh (.str t)) [none] ∧ t.length ≤ 26 := by
  rw [u3]
  obtain ⟨m, hm1, hn⟩ := menu10 (cell / 5)
  have ok : okR (m : Int) = true := okR_nat (by omega)
  unfold g3
  have fG : (Str.ofString "ABCDEFGHIJKLMNOPQRSTUVWXYZ").length = 26 := lG
  have fS : (Str.ofString "abcdefghijklmnopqrstuvwxyz").length = 26 := lS
  have fF : (Str.ofString "0123456789").length = 10 := lF
  have fO : (Str.ofString " !\"#$&'()*+,-./:;<=>?@\x5b]^_`{|}~\n\t\\").length ≤ 100 := lO
  have f0 : (Str.ofString "").length = 0 := l0
  generalize Str.ofString "ABCDEFGHIJKLMNOPQRSTUVWXYZ" = G at *
  generalize Str.ofString "abcdefghijklmnopqrstuvwxyz" = S at *
  generalize Str.ofString "0123456789" = F at *
  generalize Str.ofString " !\"#$&'()*+,-./:;<=>?@\x5b]^_`{|}~\n\t\\" = O at *
  generalize Str.ofString "" = N at *
  obtain ⟨d, hd, hm⟩ := atI_lt (xs := [PyData.str (G ++ O ++ S ++ F), .str G, .str S, .str (G ++ F), .str (S ++ F)]) (i := cell % 5) (by omega) (by simp; omega)
  obtain ⟨z, rfl, z1, z2⟩ : ∃ z : Str, d = .str z ∧ 0 < z.length ∧ z.length ≤ 200 := by
    simp only [List.mem_cons, List.not_mem_nil, or_false] at hm
    rcases hm with rfl | rfl | rfl | rfl | rfl <;> exact ⟨_, rfl, by simp only [app_len, fG, fS, fF]; omega, by simp only [app_len, fG, fS, fF]; omega⟩
  obtain ⟨f, jc, y, h2, h1⟩ := text_run k cell (.str G) (.str S) (.str F) (.str O) z N f0 z1 z2 m hm1
  refine ⟨f, ?_, h2⟩
  have w1 : G.length + O.length ≤ sizeLine := fits (by omega)
  have w2 : (G ++ O).length + S.length ≤ sizeLine := fits (by rw [app_len]; omega)
  have w3 : (G ++ O ++ S).length + F.length ≤ sizeLine := fits (by rw [app_len, app_len]; omega)
  have w4 : G.length + F.length ≤ sizeLine := fits (by omega)
  have w5 : S.length + F.length ≤ sizeLine := fits (by omega)
  simp [w1, w2, w3, w4, w5, hd, hn, ok, h1, outR_1]
theorem cut_len (z : Str) (lo hi : Option Int) : (cutS z lo hi).length ≤ z.length := by
  show (List.toArray _).size ≤ _
  rw [List.size_toArray, List.length_take, List.length_drop, Array.length_toList]
  show min _ (z.cps.size - _) ≤ z.cps.size
  omega
/-- _law_turned: some text, not much longer -/
theorem turned_eq (k : Nat) (t : Str) (cell : Int) (ht : t.length ≤ 26) : ∃ u : Str, fs (k + 1) 4 [some ⟨.str t, .sh⟩, some ⟨.int cell, .sh⟩] = .ok (.sh (.str u)) [none, none] ∧ u.length ≤ 100 := by
  rw [u4]
  unfold g4
  have fL : (Str.ofString "A0a_ \n+9zZ:@\x5b`{|~").length = 17 := by decide +kernel
  generalize Str.ofString "A0a_ \n+9zZ:@\x5b`{|~" = L at *
  obtain ⟨c, hc, _⟩ := atI_lt (xs := L.cps.toList) (i := cell / 27 % 17) (by omega) (by rw [← len_eq, fL]; omega)
  have e1 : t.length ≤ sizeLine := fits (by omega)
  have e2 : L.length ≤ sizeLine := fits (by omega)
  have e3 : (⟨#[c]⟩ : Str).length = 1 := rfl
  have e5 : (0 : Int) < (t.length : Int) + 1 := by omega
  generalize hat : cell % ((t.length : Int) + 1) = at'
  have c1 := cut_len t none (some at')
  have c2 := cut_len t (some (at' + cell / 7 % 2)) none
  have e6 : (cutS t none (some at')).length + 1 ≤ sizeLine := fits (by omega)
  have e7 : (cutS t none (some at') ++ ⟨#[c]⟩).length + (cutS t (some (at' + cell / 7 % 2)) none).length ≤ sizeLine := fits (by rw [app_len, e3]; omega)
  refine ⟨cutS t none (some at') ++ ⟨#[c]⟩ ++ cutS t (some (at' + cell / 7 % 2)) none, ?_, by rw [app_len, app_len, e3]; omega⟩
  simp [e1, e2, e3, e6, e7, hc, resO_mod (i := cell) e5, hat, outR_2]
theorem mem_two (F : Str) : (fun c => decide (c ∈ (F ++ FIG).cps)) = okN F := by
  funext c
  have e : (F ++ FIG).cps = F.cps ++ FIG.cps := rfl
  unfold okN
  rw [e]
  by_cases h1 : c ∈ F.cps <;> by_cases h2 : c ∈ FIG.cps <;> simp [h1, h2]
theorem ex_name (k : Nat) (s : Str) (hs : s.length ≤ 200) (cell : Int) (t sc : D) (x7 x8 x9 : Option Cel) : (eAnd (eB (eChain (ltI fun i j => decide (i ≤ j)) (ltI fun i j => decide (i ≤ j)) (eC (.int 1)) (eCB (un1 lenD) (aCons (eVb 6) aNil)) (eC (.int 24)))) (eAnd (eB (eBin (inD false) (eBin ixD (eVb 6) (eC (.int 0))) (eVb 1))) (eCall 2 none (fs (k + 1) 5) (aCons (eMv 6) (aCons (eBin addD (eVb 1) (eVb 3)) aNil))))) [some ⟨sc, .sh⟩, some ⟨.str GRT, .sh⟩, some ⟨.str SML, .sh⟩, some ⟨.str FIG, .sh⟩, some ⟨.int cell, .sh⟩, some ⟨t, .sh⟩, some ⟨.str s, .sh⟩, x7, x8, x9, none] = .ok (.sh (.bool (isName GRT s.cps.toList))) [some ⟨sc, .sh⟩, some ⟨.str GRT, .sh⟩, some ⟨.str SML, .sh⟩, some ⟨.str FIG, .sh⟩, some ⟨.int cell, .sh⟩, some ⟨t, .sh⟩, some ⟨.str s, .sh⟩, x7, x8, x9, none] := by
  have e1 : s.length ≤ sizeLine := fits (by omega)
  have w4 : GRT.length + FIG.length ≤ sizeLine := fits (by rw [lG, lF]; omega)
  have a1 := all_eq k s (GRT ++ FIG) (by omega)
  rw [mem_two] at a1
  have hl := len_eq s
  cases hc : s.cps.toList with
  | nil =>
    rw [hc] at hl
    simp [e1, hl, isName]
  | cons c cs =>
    rw [hc] at hl a1
    rw [List.length_cons] at hl
    rw [hl] at e1
    by_cases q1 : cs.length + 1 ≤ 24
    · have q2 : ¬ (24 : Int) < cs.length + 1 := by omega
      have q3 : (1 : Int) ≤ cs.length + 1 := by omega
      by_cases q4 : c ∈ GRT.cps
      · simp [e1, hl, isName, hc, q2, q3, q4, q1, w4, a1]
        try omega
      · simp [e1, hl, isName, hc, q2, q3, q4, q1]
        try omega
    · have q2 : (24 : Int) < cs.length + 1 := by omega
      have q3 : (1 : Int) ≤ cs.length + 1 := by omega
      have q4 : ¬ cs.length ≤ 23 := by omega
      simp [e1, hl, isName, hc, q2, q3, q4]
      try omega
theorem ex_key (k : Nat) (s : Str) (hs : s.length ≤ 200) (cell : Int) (t sc : D) (x7 x8 x9 : Option Cel) : (eAnd (eB (eChain (ltI fun i j => decide (i ≤ j)) (ltI fun i j => decide (i ≤ j)) (eC (.int 1)) (eCB (un1 lenD) (aCons (eVb 6) aNil)) (eC (.int 24)))) (eAnd (eB (eBin (inD false) (eBin ixD (eVb 6) (eC (.int 0))) (eVb 2))) (eCall 2 none (fs (k + 1) 5) (aCons (eMv 6) (aCons (eBin addD (eVb 2) (eVb 3)) aNil))))) [some ⟨sc, .sh⟩, some ⟨.str GRT, .sh⟩, some ⟨.str SML, .sh⟩, some ⟨.str FIG, .sh⟩, some ⟨.int cell, .sh⟩, some ⟨t, .sh⟩, some ⟨.str s, .sh⟩, x7, x8, x9, none] = .ok (.sh (.bool (isName SML s.cps.toList))) [some ⟨sc, .sh⟩, some ⟨.str GRT, .sh⟩, some ⟨.str SML, .sh⟩, some ⟨.str FIG, .sh⟩, some ⟨.int cell, .sh⟩, some ⟨t, .sh⟩, some ⟨.str s, .sh⟩, x7, x8, x9, none] := by
  have e1 : s.length ≤ sizeLine := fits (by omega)
  have w4 : SML.length + FIG.length ≤ sizeLine := fits (by rw [lS, lF]; omega)
  have a1 := all_eq k s (SML ++ FIG) (by omega)
  rw [mem_two] at a1
  have hl := len_eq s
  cases hc : s.cps.toList with
  | nil =>
    rw [hc] at hl
    simp [e1, hl, isName]
  | cons c cs =>
    rw [hc] at hl a1
    rw [List.length_cons] at hl
    rw [hl] at e1
    by_cases q1 : cs.length + 1 ≤ 24
    · have q2 : ¬ (24 : Int) < cs.length + 1 := by omega
      have q3 : (1 : Int) ≤ cs.length + 1 := by omega
      by_cases q4 : c ∈ SML.cps
      · simp [e1, hl, isName, hc, q2, q3, q4, q1, w4, a1]
        try omega
      · simp [e1, hl, isName, hc, q2, q3, q4, q1]
        try omega
    · have q2 : (24 : Int) < cs.length + 1 := by omega
      have q3 : (1 : Int) ≤ cs.length + 1 := by omega
      have q4 : ¬ cs.length ≤ 23 := by omega
      simp [e1, hl, isName, hc, q2, q3, q4]
      try omega
theorem ex_sign (k : Nat) (s : Str) (hs : s.length ≤ 200) (cell : Int) (t sc : D) (x7 x8 x9 : Option Cel) : (eAnd (eB (eChain (ltI fun i j => decide (i ≤ j)) (ltI fun i j => decide (i ≤ j)) (eC (.int 1)) (eCB (un1 lenD) (aCons (eVb 6) aNil)) (eC (.int 6)))) (eCall 2 none (fs (k + 1) 5) (aCons (eMv 6) (aCons (eMv 2) aNil)))) [some ⟨sc, .sh⟩, some ⟨.str GRT, .sh⟩, some ⟨.str SML, .sh⟩, some ⟨.str FIG, .sh⟩, some ⟨.int cell, .sh⟩, some ⟨t, .sh⟩, some ⟨.str s, .sh⟩, x7, x8, x9, none] = .ok (.sh (.bool (isSign s.cps.toList))) [some ⟨sc, .sh⟩, some ⟨.str GRT, .sh⟩, some ⟨.str SML, .sh⟩, some ⟨.str FIG, .sh⟩, some ⟨.int cell, .sh⟩, some ⟨t, .sh⟩, some ⟨.str s, .sh⟩, x7, x8, x9, none] := by
  have e1 : s.length ≤ sizeLine := fits (by omega)
  have a1 := all_eq k s SML (by omega)
  have hl := len_eq s
  obtain ⟨cs, hc⟩ : ∃ cs, s.cps.toList = cs := ⟨_, rfl⟩
  rw [hc] at hl a1
  rw [hc]
  rw [hl] at e1
  by_cases q1 : 1 ≤ cs.length
  · have q3 : (1 : Int) ≤ cs.length := by omega
    by_cases q2 : cs.length ≤ 6
    · have q4 : ¬ (6 : Int) < cs.length := by omega
      have q5 : (cs.length : Int) ≤ 6 := by omega
      simp [e1, hl, hc, q3, q4, q5, a1, isSign, q1, q2]
    · have q5 : ¬ (cs.length : Int) ≤ 6 := by omega
      simp [e1, hl, hc, q3, q5, isSign, q1, q2]
  · have q3 : ¬ (1 : Int) ≤ cs.length := by omega
    simp [e1, hl, hc, q3, isSign, q1]
/-- one text asked -/
theorem ask (k : Nat) (s : Str) (hs : s.length ≤ 200) (cell : Int) (t : D) (x7 x8 x9 : Option Cel) (h7 : ioC x7 = none) (h8 : ioC x8 = none) (h9 : ioC x9 = none) (sc : D) : ∃ x7' x8' x9', ioC x7' = none ∧ ioC x8' = none ∧ ioC x9' = none ∧
    b6_3 (fs (k + 1)) [some ⟨sc, .sh⟩, some ⟨.str GRT, .sh⟩, some ⟨.str SML, .sh⟩, some ⟨.str FIG, .sh⟩, some ⟨.int cell, .sh⟩, some ⟨t, .sh⟩, some ⟨.str s, .sh⟩, x7, x8, x9, none]
    = .nx [some ⟨sc, .sh⟩, some ⟨.str GRT, .sh⟩, some ⟨.str SML, .sh⟩, some ⟨.str FIG, .sh⟩, some ⟨.int cell, .sh⟩, some ⟨t, .sh⟩, some ⟨.str s, .sh⟩, x7', x8', x9', none] := by
  have e1 : s.length ≤ sizeLine := fits (by omega)
  have n1 := name_eq k s e1
  have n2 := sign_eq k s e1
  have n3 := key_eq k s e1
  have i7 := @ioAt_of
  refine ⟨some ⟨.bool (isName GRT s.cps.toList), .sh⟩, some ⟨.bool (isName SML s.cps.toList), .sh⟩, some ⟨.bool (isSign s.cps.toList), .sh⟩, rfl, rfl, rfl, ?_⟩
  unfold b6_3
  rw [sSeq_eq, sSet_eq, ex_name k s hs]
  simp only [bindES_ok, setHd_sh, setR_eq, List.length_cons, List.length_nil, ioAt_succ, ioAt_of h7, List.set_cons_succ, List.set_cons_zero]
  simp only [Nat.reduceAdd, Nat.reduceLT, decide_true, Bool.not_false, Bool.and_self, if_true, bindS_nx]
  rw [sSeq_eq, sSet_eq, ex_key k s hs]
  simp only [bindES_ok, setHd_sh, setR_eq, List.length_cons, List.length_nil, ioAt_succ, ioAt_of h8, List.set_cons_succ, List.set_cons_zero]
  simp only [Nat.reduceAdd, Nat.reduceLT, decide_true, Bool.not_false, Bool.and_self, if_true, bindS_nx]
  rw [sSeq_eq, sSet_eq, ex_sign k s hs]
  simp only [bindES_ok, setHd_sh, setR_eq, List.length_cons, List.length_nil, ioAt_succ, ioAt_of h9, List.set_cons_succ, List.set_cons_zero]
  simp only [Nat.reduceAdd, Nat.reduceLT, decide_true, Bool.not_false, Bool.and_self, if_true, bindS_nx]
  generalize isName GRT s.cps.toList = b1 at *
  generalize isName SML s.cps.toList = b2 at *
  generalize isSign s.cps.toList = b3 at *
  have hq : eqD true (.list [.bool b1, .bool b3, .bool b2]) (.list [.bool b1, .bool b3, .bool b2]) = some (.sh (.bool false)) := by
    cases b1 <;> cases b2 <;> cases b3 <;> rfl
  have hf := lcL_filter (i := 10) (ft := eNox (ct6_1 (fs (k + 1)))) (fe := eNox (ce6_2 (fs (k + 1)))) (f := fun b => .bool b) (p := fun _ => false)
    [some ⟨sc, .sh⟩, some ⟨.str GRT, .sh⟩, some ⟨.str SML, .sh⟩, some ⟨.str FIG, .sh⟩, some ⟨.int cell, .sh⟩, some ⟨t, .sh⟩, some ⟨.str s, .sh⟩, some ⟨.bool b1, .sh⟩, some ⟨.bool b2, .sh⟩, some ⟨.bool b3, .sh⟩, none] rfl
    (fun c => by simp [ct6_1]) (fun c => by simp [ce6_2]) [b1, b3, b2] [] (fits (by simp))
  simp only [List.map_cons, List.map_nil] at hf
  simp [n1, n2, n3, hq, hf]
  done
abbrev env (sc : D) (c t o x7 x8 x9 : Option Cel) : Rho := [some ⟨sc, .sh⟩, some ⟨.str GRT, .sh⟩, some ⟨.str SML, .sh⟩, some ⟨.str FIG, .sh⟩, c, t, o, x7, x8, x9, none]
theorem texts (k : Nat) (sc : D) (cell : Int) (t : D) (us : List Str) (hu : ∀ u ∈ us, u.length ≤ 200) (o x7 x8 x9 : Option Cel) (ho : ioC o = none) (h7 : ioC x7 = none) (h8 : ioC x8 = none) (h9 : ioC x9 = none) : ∃ o' x7' x8' x9', ioC o' = none ∧ ioC x7' = none ∧ ioC x8' = none ∧ ioC x9' = none ∧
    forL (gN 6) (b6_3 (fs (k + 1))) (us.map .str) (env sc (some ⟨.int cell, .sh⟩) (some ⟨t, .sh⟩) o x7 x8 x9) = .nx (env sc (some ⟨.int cell, .sh⟩) (some ⟨t, .sh⟩) o' x7' x8' x9') := by
  obtain ⟨ρ', h1, o', x7', x8', x9', rfl, q⟩ := forL_inv0 (g := gN 6) (b := b6_3 (fs (k + 1))) (fun pre ρ => ∃ o x7 x8 x9, ρ = env sc (some ⟨.int cell, .sh⟩) (some ⟨t, .sh⟩) o x7 x8 x9 ∧ ioC o = none ∧ ioC x7 = none ∧ ioC x8 = none ∧ ioC x9 = none)
    (us.map .str) _ ⟨o, x7, x8, x9, rfl, ho, h7, h8, h9⟩ (fun pre d post ρ' e ⟨o, x7, x8, x9, er, ho, h7, h8, h9⟩ => by
      subst er
      obtain ⟨u, hm, rfl⟩ : ∃ u ∈ us, PyData.str u = d := List.mem_map.mp (by rw [e]; simp)
      obtain ⟨y7, y8, y9, j7, j8, j9, ha⟩ := ask k u (hu u hm) cell t x7 x8 x9 h7 h8 h9 sc
      refine ⟨_, _, ?_, ha, some ⟨.str u, .sh⟩, y7, y8, y9, rfl, rfl, j7, j8, j9⟩
      simp [ioAt_of ho])
  exact ⟨o', x7', x8', x9', q.1, q.2.1, q.2.2.1, q.2.2.2, h1⟩
theorem cells (k : Nat) (sc : D) (cs : List Int) (c t o x7 x8 x9 : Option Cel) (hc : ioC c = none) (ht : ioC t = none) (ho : ioC o = none) (h7 : ioC x7 = none) (h8 : ioC x8 = none) (h9 : ioC x9 = none) : ∃ c' t' o' x7' x8' x9',
    forL (gN 4) (b6_4 (fs (k + 1))) (cs.map .int) (env sc c t o x7 x8 x9) = .nx (env sc c' t' o' x7' x8' x9') := by
  obtain ⟨ρ', h1, c', t', o', x7', x8', x9', rfl, q⟩ := forL_inv0 (g := gN 4) (b := b6_4 (fs (k + 1))) (fun pre ρ => ∃ c t o x7 x8 x9, ρ = env sc c t o x7 x8 x9 ∧ ioC c = none ∧ ioC t = none ∧ ioC o = none ∧ ioC x7 = none ∧ ioC x8 = none ∧ ioC x9 = none)
    (cs.map .int) _ ⟨c, t, o, x7, x8, x9, rfl, hc, ht, ho, h7, h8, h9⟩ (fun pre d post ρ' e ⟨c, t, o, x7, x8, x9, er, hc, ht, ho, h7, h8, h9⟩ => by
      subst er
      obtain ⟨cell, hm, rfl⟩ : ∃ u ∈ cs, PyData.int u = d := List.mem_map.mp (by rw [e]; simp)
      obtain ⟨z, hz, lz⟩ := text_eq k cell
      obtain ⟨w, hw, lw⟩ := turned_eq k z (cell / 3) lz
      have e1 : z.length ≤ sizeLine := fits (by omega)
      have c1 := cut_len z none (some 1)
      have c2 := cut_len z none (some 6)
      have c3 := cut_len z (some 1) none
      obtain ⟨o', y7, y8, y9, jo, j7, j8, j9, ha⟩ := texts k sc cell (.str z) [z, w, cutS z none (some 1), cutS z none (some 6), cutS z (some 1) none] (fun u hu => by
        simp only [List.mem_cons, List.not_mem_nil, or_false] at hu
        rcases hu with rfl | rfl | rfl | rfl | rfl <;> omega) o x7 x8 x9 ho h7 h8 h9
      simp only [List.map_cons, List.map_nil] at ha
      refine ⟨env sc (some ⟨.int cell, .sh⟩) t o x7 x8 x9, env sc (some ⟨.int cell, .sh⟩) (some ⟨.str z, .sh⟩) o' y7 y8 y9, ?_, ?_, _, _, _, _, _, _, rfl, rfl, rfl, jo, j7, j8, j9⟩
      · simp [ioAt_of hc]
      · simp [b6_4, hz, hw, e1, ioAt_of ht, ha])
  exact ⟨c', t', o', x7', x8', x9', h1⟩
theorem cut_ints (ns : List Int) (lo hi : Option Int) : ∃ ms : List Int, cutD (ns.map .int) lo hi = ms.map .int := by
  refine ⟨(ns.drop (HT.sIx ns.length 0 lo)).take (HT.sIx ns.length ns.length hi - HT.sIx ns.length 0 lo), ?_⟩
  unfold cutD
  rw [List.length_map, List.map_take, List.map_drop]
theorem law_true (ns : List Int) (hl : ns.length ≤ 63) : ∃ outs, fs 60 6 [some ⟨.list (ns.map .int), .sh⟩] = .ok (.sh (.bool true)) outs := by
  rw [show (60 : Nat) = 59 + 1 from rfl, u6]
  unfold g6
  obtain ⟨ms, hms⟩ := cut_ints ns none (some 20)
  obtain ⟨c1, t1, o1, x1, y1, z1, h1⟩ := cells 58 (.list (ns.map .int)) ms none none none none none none rfl rfl rfl rfl rfl rfl
  obtain ⟨c2, t2, o2, x2, y2, z2, h2⟩ := cells 58 (.list (ns.map .int)) [0] none none none none none none rfl rfl rfl rfl rfl rfl
  simp only [List.map_cons, List.map_nil] at h2
  by_cases h0 : 0 < ns.length
  · have q : (0 : Int) < (ns.length : Int) := by omega
    simp [h0, q, hms, h1]
  · have q : ¬ (0 : Int) < (ns.length : Int) := by omega
    simp [h0, q, h2]
end Wk01

namespace Wk01
open PySem L2 GS
/-! ### the end -/
theorem top_mk {K : PySem.W.Frag} {h : Heap} {mg : Str → Option Value} {fa f0 f1 f2 f3 f4 f5 f6 : Addr} (X : K.In h) (G : h.Ns mainGlobals mg) (hfa : mg "law" = some (.ref fa))
    {od0 an0 od1 an1 od2 an2 od3 an3 od4 an4 od5 an5 od6 an6 : Option Addr} {sl0 sl1 sl2 sl3 sl4 sl5 sl6 : Array (Option Value)} {oc0 kV0 dc0 pm0 cd0 ct0 oc1 kV1 dc1 pm1 cd1 ct1 oc2 kV2 dc2 pm2 cd2 ct2 oc3 kV3 dc3 pm3 cd3 ct3 oc4 kV4 dc4 pm4 cd4 ct4 oc5 kV5 dc5 pm5 cd5 ct5 oc6 kV6 dc6 pm6 cd6 ct6 : Value} {tk_FIGURES_trees tk_GREAT tk_LONGEST_NAME tk_SMALL_trees tk_LONGEST_SIGN tk_FIGURES_books tk_SMALL_books tk_LONGEST_KEY : Tok}
    (a0 : PySem.W.nsIn K mainGlobals "is_name" = some (some (.ref f0))) (l0 : K.lookup f0 = some ⟨oc0, od0, .func (PySem.W.fnOf "is_name" "is_name" (defArgs s0) (defBody s0) (defScope s0) .none kV0 dc0 pm0 an0 cd0 ct0), sl0⟩) (c0 : PySem.W.codeIn K cd0 "is_name" = true) (k0 : PySem.W.keepIn K (.ref f0) = true)
    (a1 : PySem.W.nsIn K mainGlobals "is_sign" = some (some (.ref f1))) (l1 : K.lookup f1 = some ⟨oc1, od1, .func (PySem.W.fnOf "is_sign" "is_sign" (defArgs s1) (defBody s1) (defScope s1) .none kV1 dc1 pm1 an1 cd1 ct1), sl1⟩) (c1 : PySem.W.codeIn K cd1 "is_sign" = true) (k1 : PySem.W.keepIn K (.ref f1) = true)
    (a2 : PySem.W.nsIn K mainGlobals "is_key" = some (some (.ref f2))) (l2 : K.lookup f2 = some ⟨oc2, od2, .func (PySem.W.fnOf "is_key" "is_key" (defArgs s2) (defBody s2) (defScope s2) .none kV2 dc2 pm2 an2 cd2 ct2), sl2⟩) (c2 : PySem.W.codeIn K cd2 "is_key" = true) (k2 : PySem.W.keepIn K (.ref f2) = true)
    (a3 : PySem.W.nsIn K mainGlobals "_law_text" = some (some (.ref f3))) (l3 : K.lookup f3 = some ⟨oc3, od3, .func (PySem.W.fnOf "_law_text" "_law_text" (defArgs s3) (defBody s3) (defScope s3) .none kV3 dc3 pm3 an3 cd3 ct3), sl3⟩) (c3 : PySem.W.codeIn K cd3 "_law_text" = true) (k3 : PySem.W.keepIn K (.ref f3) = true)
    (a4 : PySem.W.nsIn K mainGlobals "_law_turned" = some (some (.ref f4))) (l4 : K.lookup f4 = some ⟨oc4, od4, .func (PySem.W.fnOf "_law_turned" "_law_turned" (defArgs s4) (defBody s4) (defScope s4) .none kV4 dc4 pm4 an4 cd4 ct4), sl4⟩) (c4 : PySem.W.codeIn K cd4 "_law_turned" = true) (k4 : PySem.W.keepIn K (.ref f4) = true)
    (a5 : PySem.W.nsIn K mainGlobals "_law_all" = some (some (.ref f5))) (l5 : K.lookup f5 = some ⟨oc5, od5, .func (PySem.W.fnOf "_law_all" "_law_all" (defArgs s5) (defBody s5) (defScope s5) .none kV5 dc5 pm5 an5 cd5 ct5), sl5⟩) (c5 : PySem.W.codeIn K cd5 "_law_all" = true) (k5 : PySem.W.keepIn K (.ref f5) = true)
    (a6 : PySem.W.nsIn K mainGlobals "law" = some (some (.ref f6))) (l6 : K.lookup f6 = some ⟨oc6, od6, .func (PySem.W.fnOf "law" "law" (defArgs s6) (defBody s6) (defScope s6) .none kV6 dc6 pm6 an6 cd6 ct6), sl6⟩) (c6 : PySem.W.codeIn K cd6 "law" = true) (k6 : PySem.W.keepIn K (.ref f6) = true)
    (q_FIGURES_trees : PySem.W.nsIn K mainGlobals "FIGURES_trees" = some (some (Value.str (Str.ofString "0123456789") tk_FIGURES_trees)))
    (q_GREAT : PySem.W.nsIn K mainGlobals "GREAT" = some (some (Value.str (Str.ofString "ABCDEFGHIJKLMNOPQRSTUVWXYZ") tk_GREAT)))
    (q_LONGEST_NAME : PySem.W.nsIn K mainGlobals "LONGEST_NAME" = some (some (Value.int 24 tk_LONGEST_NAME)))
    (q_SMALL_trees : PySem.W.nsIn K mainGlobals "SMALL_trees" = some (some (Value.str (Str.ofString "abcdefghijklmnopqrstuvwxyz") tk_SMALL_trees)))
    (q_LONGEST_SIGN : PySem.W.nsIn K mainGlobals "LONGEST_SIGN" = some (some (Value.int 6 tk_LONGEST_SIGN)))
    (q_FIGURES_books : PySem.W.nsIn K mainGlobals "FIGURES_books" = some (some (Value.str (Str.ofString "0123456789") tk_FIGURES_books)))
    (q_SMALL_books : PySem.W.nsIn K mainGlobals "SMALL_books" = some (some (Value.str (Str.ofString "abcdefghijklmnopqrstuvwxyz") tk_SMALL_books)))
    (q_LONGEST_KEY : PySem.W.nsIn K mainGlobals "LONGEST_KEY" = some (some (Value.int 24 tk_LONGEST_KEY)))
    (z_len : PySem.W.nsIn K mainGlobals "len" = some none)
    (z_range : PySem.W.nsIn K mainGlobals "range" = some none)
    (z_isinstance : PySem.W.nsIn K mainGlobals "isinstance" = some none)
    (z_bool : PySem.W.nsIn K mainGlobals "bool" = some none)
    : ∃ T : Top K mg, T.a6 = fa ∧ ∀ (s : Shared) (v : Value), BindsTo s T.d6 ⟨[v], []⟩ [("script", v)] := by
  have e := hfa.symm.trans (PySem.W.mg_of X G a6)
  have e' : f6 = fa := by cases e; rfl
  have F0 := fun_mk (st := s0) l0 c0 k0
  have b0 := F0.binds (ps := ["text"]) fun _ _ _ _ _ _ us hl => match us, hl with | [_], _ => rfl
  have F1 := fun_mk (st := s1) l1 c1 k1
  have b1 := F1.binds (ps := ["text"]) fun _ _ _ _ _ _ us hl => match us, hl with | [_], _ => rfl
  have F2 := fun_mk (st := s2) l2 c2 k2
  have b2 := F2.binds (ps := ["text"]) fun _ _ _ _ _ _ us hl => match us, hl with | [_], _ => rfl
  have F3 := fun_mk (st := s3) l3 c3 k3
  have b3 := F3.binds (ps := ["cell"]) fun _ _ _ _ _ _ us hl => match us, hl with | [_], _ => rfl
  have F4 := fun_mk (st := s4) l4 c4 k4
  have b4 := F4.binds (ps := ["text", "cell"]) fun _ _ _ _ _ _ us hl => match us, hl with | [_, _], _ => rfl
  have F5 := fun_mk (st := s5) l5 c5 k5
  have b5 := F5.binds (ps := ["text", "letters"]) fun _ _ _ _ _ _ us hl => match us, hl with | [_, _], _ => rfl
  have F6 := fun_mk (st := s6) l6 c6 k6
  have b6 := F6.binds (ps := ["script"]) fun _ _ _ _ _ _ us hl => match us, hl with | [_], _ => rfl
  exact ⟨{ a0 := f0, d0 := _, F0 := F0, b0 := b0, g0 := PySem.W.mg_of X G a0, a1 := f1, d1 := _, F1 := F1, b1 := b1, g1 := PySem.W.mg_of X G a1, a2 := f2, d2 := _, F2 := F2, b2 := b2, g2 := PySem.W.mg_of X G a2, a3 := f3, d3 := _, F3 := F3, b3 := b3, g3 := PySem.W.mg_of X G a3, a4 := f4, d4 := _, F4 := F4, b4 := b4, g4 := PySem.W.mg_of X G a4, a5 := f5, d5 := _, F5 := F5, b5 := b5, g5 := PySem.W.mg_of X G a5, a6 := f6, d6 := _, F6 := F6, b6 := b6, g6 := PySem.W.mg_of X G a6, c_FIGURES_trees := ⟨_, PySem.W.mg_of X G q_FIGURES_trees⟩, c_GREAT := ⟨_, PySem.W.mg_of X G q_GREAT⟩, c_LONGEST_NAME := ⟨_, PySem.W.mg_of X G q_LONGEST_NAME⟩, c_SMALL_trees := ⟨_, PySem.W.mg_of X G q_SMALL_trees⟩, c_LONGEST_SIGN := ⟨_, PySem.W.mg_of X G q_LONGEST_SIGN⟩, c_FIGURES_books := ⟨_, PySem.W.mg_of X G q_FIGURES_books⟩, c_SMALL_books := ⟨_, PySem.W.mg_of X G q_SMALL_books⟩, c_LONGEST_KEY := ⟨_, PySem.W.mg_of X G q_LONGEST_KEY⟩, m_len := PySem.W.mg_none_of X G z_len, m_range := PySem.W.mg_none_of X G z_range, m_isinstance := PySem.W.mg_none_of X G z_isinstance, m_bool := PySem.W.mg_none_of X G z_bool }, e', fun s v => .of_eq rfl⟩
end Wk01
open PySem PySem.W PyProof.Rows
set_option maxRecDepth 100000 in
set_option maxHeartbeats 0 in
theorem PySem.Challenge.cw_graftsay_k01_names_signs_keys_holds : PySem.Challenge.rw_graftsay_k01_names_signs_keys.Holds := by
  w_on; o_law; k_head; (case hw => w_witness2)
  k_fill
  refine L2.walk_of (l := PySem.Challenge.rw_graftsay_k01_names_signs_keys) (n := 63) (k := 60) (x := "script") (CX := fun w => L2.CX PySem.Challenge.rw_graftsay_k01_names_signs_keys.prog w) (sp := fun w => GS.spF _ (fun _ => .none) 1 (Wk01.fs 60 6)) rfl (by decide) rfl ⟨rfl, by decide, by decide⟩ (fun w h Y => PySem.W.kIn_of Y) ?F (fun _ _ a ns hl _ hS => (Wk01.law_true ns hl).elim fun outs e => GS.law_sp hS e) (fun _ _ _ _ _ h => by obtain ⟨_, _, _, _, _, _, _, _, _, _, _, _, z⟩ := h; exact z)
  case F =>
    intro w mg fa h KX G hmg
    refine' (Wk01.top_mk KX G hmg ?a0 ?l0 ?c0 ?k0 ?a1 ?l1 ?c1 ?k1 ?a2 ?l2 ?c2 ?k2 ?a3 ?l3 ?c3 ?k3 ?a4 ?l4 ?c4 ?k4 ?a5 ?l5 ?c5 ?k5 ?a6 ?l6 ?c6 ?k6 ?q_FIGURES_trees ?q_GREAT ?q_LONGEST_NAME ?q_SMALL_trees ?q_LONGEST_SIGN ?q_FIGURES_books ?q_SMALL_books ?q_LONGEST_KEY ?z_len ?z_range ?z_isinstance ?z_bool).elim fun T R => ?fin
    (case a0 => k_is)
    (case l0 => k_is)
    (case c0 => k_is)
    (case k0 => k_is)
    (case a1 => k_is)
    (case l1 => k_is)
    (case c1 => k_is)
    (case k1 => k_is)
    (case a2 => k_is)
    (case l2 => k_is)
    (case c2 => k_is)
    (case k2 => k_is)
    (case a3 => k_is)
    (case l3 => k_is)
    (case c3 => k_is)
    (case k3 => k_is)
    (case a4 => k_is)
    (case l4 => k_is)
    (case c4 => k_is)
    (case k4 => k_is)
    (case a5 => k_is)
    (case l5 => k_is)
    (case c5 => k_is)
    (case k5 => k_is)
    (case a6 => k_is)
    (case l6 => k_is)
    (case c6 => k_is)
    (case k6 => k_is)
    (case q_FIGURES_trees => k_is)
    (case q_GREAT => k_is)
    (case q_LONGEST_NAME => k_is)
    (case q_SMALL_trees => k_is)
    (case q_LONGEST_SIGN => k_is)
    (case q_FIGURES_books => k_is)
    (case q_SMALL_books => k_is)
    (case q_LONGEST_KEY => k_is)
    (case z_len => k_is)
    (case z_range => k_is)
    (case z_isinstance => k_is)
    (case z_bool => k_is)
    case fin =>
      obtain ⟨e, hb⟩ := R
      subst e
      exact ⟨T.d6, hb, fun base _ _ => (Wk01.lv (P := PySem.Challenge.rw_graftsay_k01_names_signs_keys.prog) (w := w) (base := base) T 60).h6⟩
