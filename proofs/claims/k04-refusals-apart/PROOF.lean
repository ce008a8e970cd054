import PyProof.Rows.All
import Wide.All
import OpenK.AllK
import Wide.FinOn
import HandS.ForMost
import HandS.ForExc
import HandS.ExcInit
import HandS.CallSlots
import HandS.WideBits
import HandS.IsInst
import HandS.TupAny
import HandS.TupMul
import HandS.Style
import KE.KExcIs
import HandS.ExcValue
import HandS.EndBits
import PySem.Challenge.RW_noughtcut_k04_refusals_apart
set_option Elab.async false
set_option linter.all false
set_option maxRecDepth 100000
set_option maxHeartbeats 4000000
/-! NcA: values as trees (D), a heap of one's own (Hs), and how the layer's values and heap bear them. -/
namespace Nc
open PySem L2

/-- a value: tuples are trees, what may change is a number into the own heap; an error: its class's number, its fields -/
inductive D where
  | non | bl (b : Bool) | int (i : Int) | str (s : PySem.Str) | tup (ds : List D) | ref (a : Nat) | exc (c : Nat) (fs : List D)
  deriving Inhabited
/-- what may change -/
inductive Ob where
  /-- a list; one that is only read -/
  | lst (ds : List D) | fro (ds : List D)
  /-- a dict that nobody changes -/
  | dct (kvs : List (D × D))
  /-- an instance: its class's number, its fields -/
  | ins (c : Nat) (fs : List (PySem.Str × D))
  deriving Inhabited
abbrev Hs := List Ob
abbrev Env := List (Option D)

/-- where the classes stand, what the field of an error is called -/
structure Wd where
  K : PySem.W.Frag
  cls : Nat → Addr
  fld : Nat → PySem.Str

mutual
def RD (W : Wd) (as : List Addr) (H : Hp) : D → V → Prop
  | .non, v => v = .non
  | .bl b, v => v = .bl b
  | .int i, v => v = .int i
  | .str s, v => v = .str s
  | .tup ds, v => ∃ a vs, v = .ref a ∧ SqT W.K H a vs ∧ RDs W as H ds vs
  | .ref i, v => ∃ a, v = .ref a ∧ as[i]? = some a
  | .exc c fs, v => ∃ a, v = .ref a ∧ ((fs = [] ∧ H a = some (exo a (W.cls c) none)) ∨
      ∃ dx vs, H a = some (exo a (W.cls c) (some dx)) ∧ H dx = some (exd dx (vs.map fun w => (W.fld c, w))) ∧ vs.length = 1 ∧ RDs W as H fs vs)
def RDs (W : Wd) (as : List Addr) (H : Hp) : List D → List V → Prop
  | [], vs => vs = []
  | d :: ds, vs => ∃ v ws, vs = v :: ws ∧ RD W as H d v ∧ RDs W as H ds ws
end

/-- what stays: the objects found so far, tuples, errors -/
structure Ext (as : List Addr) (H : Hp) (as' : List Addr) (H' : Hp) : Prop where
  pre : ∃ more, as' = as ++ more
  tup : ∀ a xs, H a = some (.tup xs) → H' a = some (.tup xs)
  frz : ∀ a o u, H a = some (.frz o u) → H' a = some (.frz o u)
  ext : ∀ a φ, H a = some (.ext φ) → H' a = some (.ext φ)
  /-- what the own heap doesn't tell of stays as it is -/
  frm : ∀ a o, H a = some o → a ∉ as → H' a = some o ∧ a ∉ as'
theorem Ext.refl (as : List Addr) (H : Hp) : Ext as H as H := ⟨⟨[], by simp⟩, fun _ _ h => h, fun _ _ _ h => h, fun _ _ h => h, fun _ _ h n => ⟨h, n⟩⟩
theorem Ext.trans {as as1 as2 : List Addr} {H H1 H2 : Hp} (a : Ext as H as1 H1) (b : Ext as1 H1 as2 H2) : Ext as H as2 H2 := by
  obtain ⟨⟨m, rfl⟩, a2, a3, a4, a5⟩ := a
  obtain ⟨⟨n, rfl⟩, b2, b3, b4, b5⟩ := b
  exact ⟨⟨m ++ n, by simp⟩, fun c xs h => b2 c xs (a2 c xs h), fun c o u h => b3 c o u (a3 c o u h), fun c φ h => b4 c φ (a4 c φ h), fun c o h k => b5 c o (a5 c o h k).1 (a5 c o h k).2⟩
theorem Ext.sqT {K : PySem.W.Frag} {as as' : List Addr} {H H' : Hp} {a : Addr} {xs : List V} (e : Ext as H as' H') (h : SqT K H a xs) : SqT K H' a xs := by
  rcases h with (h | ⟨o, h⟩) | h
  · exact .inl (.inl (e.tup _ _ h))
  · exact .inl (.inr ⟨o, e.frz _ _ _ h⟩)
  · exact .inr h
theorem Ext.ix {as as' : List Addr} {H H' : Hp} {i : Nat} {a : Addr} (e : Ext as H as' H') (h : as[i]? = some a) : as'[i]? = some a := by
  obtain ⟨⟨m, rfl⟩, _⟩ := e
  rw [List.getElem?_append_left (List.getElem?_eq_some_iff.mp h).1]; exact h

mutual
theorem RD.mono {W : Wd} {as as' : List Addr} {H H' : Hp} (e : Ext as H as' H') : ∀ (d : D) (v : V), RD W as H d v → RD W as' H' d v
  | .non, _, h => h
  | .bl _, _, h => h
  | .int _, _, h => h
  | .str _, _, h => h
  | .tup ds, v, h => by
    unfold RD at h ⊢
    obtain ⟨a, vs, e1, e2, e3⟩ := h
    exact ⟨a, vs, e1, e.sqT e2, RDs.mono e ds vs e3⟩
  | .ref i, v, h => by
    unfold RD at h ⊢
    obtain ⟨a, e1, e2⟩ := h
    exact ⟨a, e1, e.ix e2⟩
  | .exc c fs, v, h => by
    unfold RD at h ⊢
    obtain ⟨a, e1, h⟩ := h
    rcases h with ⟨h1, h2⟩ | ⟨dx, vs, h1, h2, h3, h4⟩
    · exact ⟨a, e1, .inl ⟨h1, e.ext _ _ h2⟩⟩
    · exact ⟨a, e1, .inr ⟨dx, vs, e.ext _ _ h1, e.ext _ _ h2, h3, RDs.mono e fs vs h4⟩⟩
theorem RDs.mono {W : Wd} {as as' : List Addr} {H H' : Hp} (e : Ext as H as' H') : ∀ (ds : List D) (vs : List V), RDs W as H ds vs → RDs W as' H' ds vs
  | [], _, h => h
  | d :: ds, vs, h => by
    unfold RDs at h ⊢
    obtain ⟨v, ws, e1, e2, e3⟩ := h
    exact ⟨v, ws, e1, RD.mono e d v e2, RDs.mono e ds ws e3⟩
end
section
variable {W : Wd} {as as' : List Addr} {H H' : Hp}
theorem RDs.nil : RDs W as H [] [] := by unfold RDs; rfl
theorem RDs.cons {d : D} {v : V} {ds : List D} {vs : List V} (h : RD W as H d v) (t : RDs W as H ds vs) : RDs W as H (d :: ds) (v :: vs) := by
  unfold RDs; exact ⟨v, vs, rfl, h, t⟩
theorem RDs.inv_cons {d : D} {ds : List D} {vs : List V} (h : RDs W as H (d :: ds) vs) : ∃ v ws, vs = v :: ws ∧ RD W as H d v ∧ RDs W as H ds ws := by
  unfold RDs at h; exact h
theorem RDs.inv_nil {vs : List V} (h : RDs W as H [] vs) : vs = [] := by unfold RDs at h; exact h
theorem RDs.len : ∀ {ds : List D} {vs : List V}, RDs W as H ds vs → vs.length = ds.length
  | [], vs, h => by rw [h.inv_nil]; rfl
  | d :: ds, vs, h => by
    obtain ⟨v, ws, rfl, _, t⟩ := h.inv_cons
    simp [RDs.len t]
theorem RDs.append : ∀ {ds es : List D} {vs ws : List V}, RDs W as H ds vs → RDs W as H es ws → RDs W as H (ds ++ es) (vs ++ ws)
  | [], _, _, _, h, t => by rw [h.inv_nil]; exact t
  | d :: ds, es, vs, ws, h, t => by
    obtain ⟨v, vr, rfl, r, q⟩ := h.inv_cons
    exact RDs.cons r (RDs.append q t)
theorem RDs.get : ∀ {ds : List D} {vs : List V} {i : Nat} {d : D}, RDs W as H ds vs → ds[i]? = some d → ∃ v, vs[i]? = some v ∧ RD W as H d v
  | [], _, _, _, _, e => by simp at e
  | d :: ds, vs, 0, x, h, e => by
    obtain ⟨v, vr, rfl, r, q⟩ := h.inv_cons
    simp at e; subst e; exact ⟨v, rfl, r⟩
  | d :: ds, vs, i + 1, x, h, e => by
    obtain ⟨v, vr, rfl, r, q⟩ := h.inv_cons
    obtain ⟨u, h1, h2⟩ := RDs.get (i := i) q (by simpa using e)
    exact ⟨u, by simpa using h1, h2⟩
theorem RDs.take (n : Nat) : ∀ {ds : List D} {vs : List V}, RDs W as H ds vs → RDs W as H (ds.take n) (vs.take n) := by
  induction n with
  | zero => intro ds vs h; simp; exact RDs.nil
  | succ n ih =>
    intro ds vs h
    cases ds with
    | nil => rw [h.inv_nil]; exact RDs.nil
    | cons d ds =>
      obtain ⟨v, vr, rfl, r, q⟩ := h.inv_cons
      exact RDs.cons r (ih q)
theorem RDs.drop (n : Nat) : ∀ {ds : List D} {vs : List V}, RDs W as H ds vs → RDs W as H (ds.drop n) (vs.drop n) := by
  induction n with
  | zero => intro ds vs h; exact h
  | succ n ih =>
    intro ds vs h
    cases ds with
    | nil => rw [h.inv_nil]; exact RDs.nil
    | cons d ds =>
      obtain ⟨v, vr, rfl, r, q⟩ := h.inv_cons
      exact ih q
theorem RDs.set {d : D} {v : V} (r : RD W as H d v) : ∀ {ds : List D} {vs : List V} (i : Nat), RDs W as H ds vs → RDs W as H (ds.set i d) (vs.set i v)
  | [], vs, i, h => by rw [h.inv_nil]; exact RDs.nil
  | x :: ds, vs, 0, h => by
    obtain ⟨w, vr, rfl, q, t⟩ := h.inv_cons
    exact RDs.cons r t
  | x :: ds, vs, i + 1, h => by
    obtain ⟨w, vr, rfl, q, t⟩ := h.inv_cons
    exact RDs.cons q (RDs.set r i t)
theorem RDs.dropLast {ds : List D} {vs : List V} (h : RDs W as H ds vs) : RDs W as H ds.dropLast vs.dropLast := by
  rw [List.dropLast_eq_take, List.dropLast_eq_take, h.len]; exact h.take _
theorem RDs.eraseIdx : ∀ {ds : List D} {vs : List V} (i : Nat), RDs W as H ds vs → RDs W as H (ds.eraseIdx i) (vs.eraseIdx i)
  | [], vs, i, h => by rw [h.inv_nil]; exact RDs.nil
  | x :: ds, vs, 0, h => by
    obtain ⟨w, vr, rfl, q, t⟩ := h.inv_cons
    exact t
  | x :: ds, vs, i + 1, h => by
    obtain ⟨w, vr, rfl, q, t⟩ := h.inv_cons
    exact RDs.cons q (RDs.eraseIdx i t)
end

/-- an object of the own heap, as it lies -/
def OR (W : Wd) (as : List Addr) (H : Hp) (a : Addr) : Ob → Prop
  | .lst ds => ∃ vs, H a = some (.lst vs) ∧ RDs W as H ds vs
  | .fro ds => ∃ vs o, H a = some (.frz o (.lst vs)) ∧ RDs W as H ds vs
  | .dct kvs => kvs = [] ∧ H a = some (.dK [])
  | .ins c fs => ∃ dx ws, H a = some (.ins (W.cls c) dx ws) ∧ H dx = some (.own a) ∧ ws.map (·.1) = fs.map (·.1) ∧ RDs W as H (fs.map (·.2)) (ws.map (·.2))
structure Sim (W : Wd) (as : List Addr) (h : Hs) (H : Hp) : Prop where
  len : as.length = h.length
  nd : as.Nodup
  ob : ∀ (i : Nat) (o : Ob), h[i]? = some o → ∃ a, as[i]? = some a ∧ OR W as H a o
/-- the slots -/
structure EV (W : Wd) (as : List Addr) (H : Hp) (env : Env) (σ : St) : Prop where
  len : env.length = σ.length
  get : ∀ (i : Nat) (d : D), env[i]? = some (some d) → ∃ v, σ[i]? = some (some v) ∧ RD W as H d v
theorem EV.mono {W : Wd} {as as' : List Addr} {H H' : Hp} {env : Env} {σ : St} (e : Ext as H as' H') (h : EV W as H env σ) : EV W as' H' env σ := ⟨h.len, fun i d q => by
  obtain ⟨v, h1, h2⟩ := h.get i d q
  exact ⟨v, h1, RD.mono e d v h2⟩⟩
theorem EV.set {W : Wd} {as : List Addr} {H : Hp} {env : Env} {σ : St} (h : EV W as H env σ) (i : Nat) {d : D} {v : V} (r : RD W as H d v) : EV W as H (env.set i (some d)) (σ.set i (some v)) := ⟨by simp [h.len], fun j x q => by
  by_cases e : i = j
  · subst e
    by_cases hl : i < env.length
    · rw [List.getElem?_set_self hl] at q
      cases q
      exact ⟨v, List.getElem?_set_self (by rw [← h.len]; exact hl), r⟩
    · rw [List.getElem?_eq_none (by simp; omega)] at q; cases q
  · rw [List.getElem?_set_ne e] at q ⊢
    exact h.get j x q⟩
theorem EV.unset {W : Wd} {as : List Addr} {H : Hp} {env : Env} {σ : St} (h : EV W as H env σ) (i : Nat) : EV W as H (env.set i none) (σ.set i none) := ⟨by simp [h.len], fun j x q => by
  by_cases e : i = j
  · subst e
    by_cases hl : i < env.length
    · rw [List.getElem?_set_self hl] at q; cases q
    · rw [List.getElem?_eq_none (by simp; omega)] at q; cases q
  · rw [List.getElem?_set_ne e] at q ⊢
    exact h.get j x q⟩
section
variable {W : Wd} {as as' : List Addr} {H H' : Hp} {h : Hs}
theorem OR.there {a : Addr} {o : Ob} (r : OR W as H a o) : ∃ u, H a = some u := by
  cases o with
  | lst ds => obtain ⟨vs, e, _⟩ := r; exact ⟨_, e⟩
  | fro ds => obtain ⟨vs, o, e, _⟩ := r; exact ⟨_, e⟩
  | dct kvs => exact ⟨_, r.2⟩
  | ins c fs => obtain ⟨dx, ws, e, _⟩ := r; exact ⟨_, e⟩
theorem Sim.tracked (S : Sim W as h H) {a : Addr} (m : a ∈ as) : ∃ u, H a = some u := by
  obtain ⟨i, hi, e⟩ := List.mem_iff_getElem.mp m
  have hi' : i < h.length := by rw [← S.len]; exact hi
  obtain ⟨b, h1, h2⟩ := S.ob i h[i] (List.getElem?_eq_getElem hi')
  rw [List.getElem?_eq_getElem hi, e] at h1
  cases h1
  exact h2.there
theorem Sim.fresh (S : Sim W as h H) {p : Addr} (n : H p = none) : p ∉ as := fun m => by
  obtain ⟨u, e⟩ := S.tracked m
  rw [n] at e; cases e
/-- an own object's description: what it leans on -/
theorem OR.keep {a : Addr} {o : Ob} (r : OR W as H a o) (e : Ext as H as' H') (k : H' a = H a) (ow : ∀ dx, H dx = some (.own a) → H' dx = some (.own a)) : OR W as' H' a o := by
  cases o with
  | lst ds => obtain ⟨vs, h1, h2⟩ := r; exact ⟨vs, k.trans h1, RDs.mono e _ _ h2⟩
  | fro ds => obtain ⟨vs, o, h1, h2⟩ := r; exact ⟨vs, o, k.trans h1, RDs.mono e _ _ h2⟩
  | dct kvs => exact ⟨r.1, k.trans r.2⟩
  | ins c fs => obtain ⟨dx, ws, h1, h2, h3, h4⟩ := r; exact ⟨dx, ws, k.trans h1, ow dx h2, h3, RDs.mono e _ _ h4⟩
theorem Sim.keep (S : Sim W as h H) (e : Ext as H as H') (k : ∀ a ∈ as, H' a = H a) (ow : ∀ a dx, H dx = some (.own a) → H' dx = some (.own a)) : Sim W as h H' :=
  ⟨S.len, S.nd, fun i o q => by
    obtain ⟨a, h1, h2⟩ := S.ob i o q
    exact ⟨a, h1, h2.keep e (k a (List.mem_of_getElem? h1)) (ow a)⟩⟩
theorem Ext.new {p : Addr} {o : HO} (n : H p = none) : Ext as H as (upd H p o) :=
  ⟨⟨[], by simp⟩, fun a xs q => by rw [upd_ne (ne_of_none q n)]; exact q, fun a u v q => by rw [upd_ne (ne_of_none q n)]; exact q, fun a φ q => by rw [upd_ne (ne_of_none q n)]; exact q, fun a o q k => ⟨by rw [upd_ne (ne_of_none q n)]; exact q, k⟩⟩
/-- something new that the own heap doesn't tell of -/
theorem Sim.new {p : Addr} {o : HO} (S : Sim W as h H) (n : H p = none) : Sim W as h (upd H p o) :=
  S.keep (Ext.new n) (fun a m => upd_ne fun z => S.fresh n (z ▸ m)) fun a dx q => by rw [upd_ne (ne_of_none q n)]; exact q
theorem Ext.snoc {p : Addr} {o : HO} (n : H p = none) : Ext as H (as ++ [p]) (upd H p o) := by
  obtain ⟨_, a, b, c, d⟩ := Ext.new (as := as) (o := o) n
  exact ⟨⟨[p], rfl⟩, a, b, c, fun x o q k => ⟨(d x o q k).1, by simp only [List.mem_append, List.mem_singleton, not_or]; exact ⟨k, ne_of_none q n⟩⟩⟩
/-- something new that the own heap tells of -/
theorem Sim.snoc {p : Addr} {o : HO} {u : Ob} (S : Sim W as h H) (n : H p = none) (r : OR W (as ++ [p]) (upd H p o) p u) : Sim W (as ++ [p]) (h ++ [u]) (upd H p o) := by
  have np := S.fresh n
  refine ⟨by simp [S.len], ?_, fun i v q => ?_⟩
  · rw [List.nodup_append]
    exact ⟨S.nd, List.nodup_cons.mpr ⟨by simp, List.nodup_nil⟩, fun a ha b hb => by simp at hb; subst hb; exact fun e => np (e ▸ ha)⟩
  · by_cases hi : i < h.length
    · rw [List.getElem?_append_left hi] at q
      obtain ⟨a, h1, h2⟩ := S.ob i v q
      refine ⟨a, by rw [List.getElem?_append_left (by rw [S.len]; exact hi)]; exact h1, h2.keep (Ext.snoc n) (upd_ne fun z => np (z ▸ List.mem_of_getElem? h1)) fun dx z => by rw [upd_ne (ne_of_none z n)]; exact z⟩
    · have hi' : i = h.length := by
        have := (List.getElem?_eq_some_iff.mp q).1
        simp at this; omega
      subst hi'
      rw [List.getElem?_append_right (by omega)] at q
      simp at q; subst q
      exact ⟨p, by rw [List.getElem?_append_right (by rw [S.len]; omega)]; simp [S.len], r⟩
/-- what changes at a list of ours -/
theorem Ext.chg {p : Addr} {xs ys : List V} (m : p ∈ as) (q : H p = some (.lst xs)) : Ext as H as (upd H p (.lst ys)) := by
  refine ⟨⟨[], by simp⟩, fun a zs e => ?_, fun a o u e => ?_, fun a φ e => ?_, fun a o e k => ⟨by rw [upd_ne (fun z => k (by rw [z]; exact m))]; exact e, k⟩⟩
  · rw [upd_ne (ne_of e q (by intro z; cases z))]; exact e
  · rw [upd_ne (ne_of e q (by intro z; cases z))]; exact e
  · rw [upd_ne (ne_of e q (by intro z; cases z))]; exact e
theorem Sim.setL {i : Nat} {p : Addr} {ds : List D} {xs ys : List V} (S : Sim W as h H) (hp : as[i]? = some p) (q : H p = some (.lst xs)) (r : RDs W as (upd H p (.lst ys)) ds ys) : Sim W as (h.set i (.lst ds)) (upd H p (.lst ys)) := by
  refine ⟨by simp [S.len], S.nd, fun j o e => ?_⟩
  by_cases hj : i = j
  · subst hj
    have hlt : i < h.length := by rw [← S.len]; exact (List.getElem?_eq_some_iff.mp hp).1
    rw [List.getElem?_set_self hlt] at e
    cases e
    exact ⟨p, hp, ys, upd_same, r⟩
  · rw [List.getElem?_set_ne hj] at e
    obtain ⟨a, h1, h2⟩ := S.ob j o e
    have ne : a ≠ p := fun z => by
      subst z
      exact hj (((List.getElem_inj (h₀ := (List.getElem?_eq_some_iff.mp hp).1) (h₁ := (List.getElem?_eq_some_iff.mp h1).1) S.nd).mp ((List.getElem?_eq_some_iff.mp hp).2.trans (List.getElem?_eq_some_iff.mp h1).2.symm)))
    exact ⟨a, h1, h2.keep (Ext.chg (List.mem_of_getElem? hp) q) (upd_ne ne) fun dx z => by rw [upd_ne (ne_of z q (by intro y; cases y))]; exact z⟩
end

/-! ### outcomes -/
inductive Out (α : Type) where
  | ok (a : α) (h : Hs) | exc (c : Nat) (x : D) (h : Hs) | err
def Out.bind {α β : Type} (o : Out α) (f : α → Hs → Out β) : Out β := match o with
  | .ok a h => f a h
  | .exc c x h => .exc c x h
  | .err => .err
/-- what a computation promises: R relates what it tells with what the layer tells -/
def Post {α β : Type} (W : Wd) (R : List Addr → Hp → α → β → Prop) (XW : WX) (σ : St) (as : List Addr) (H : Hp) (Q : β → Hp → Prop) : Out α → Prop
  | .ok d h' => ∀ as' v H', Ext as H as' H' → Sim W as' h' H' → R as' H' d v → Q v H'
  | .exc c x h' => ∀ as' dx v H', Ext as H as' H' → Sim W as' h' H' → H' dx = some (.xd [(W.fld c, v)]) → RD W as' H' x v → XW (.ref (W.cls c)) (some dx) σ H'
  | .err => False
section
variable {α β γ δ : Type} {W : Wd} {R : List Addr → Hp → α → β → Prop} {R2 : List Addr → Hp → γ → δ → Prop} {XW : WX} {σ : St} {as as1 : List Addr} {H H1 : Hp} {Q Q' : β → Hp → Prop}
theorem Post.ext (e : Ext as H as1 H1) : ∀ {o : Out α}, Post W R XW σ as H Q o → Post W R XW σ as1 H1 Q o
  | .ok d h', p => fun as' v H' e' S r => p as' v H' (e.trans e') S r
  | .exc c x h', p => fun as' dx v H' e' S r => p as' dx v H' (e.trans e') S r
  | .err, p => p
theorem Post.bind {o : Out α} {f : α → Hs → Out γ} {Q2 : δ → Hp → Prop} (p : Post W R2 XW σ as H Q2 (o.bind f)) :
    Post W R XW σ as H (fun v H1 => ∃ as1 h1 d, Ext as H as1 H1 ∧ Sim W as1 h1 H1 ∧ R as1 H1 d v ∧ Post W R2 XW σ as1 H1 Q2 (f d h1)) o := by
  cases o with
  | ok d h1 => exact fun as' v H' e S r => ⟨as', h1, d, e, S, r, Post.ext e p⟩
  | exc c x h1 => exact p
  | err => exact p
theorem Post.imp {o : Out α} (p : Post W R XW σ as H Q o) (h : ∀ v H1, Q v H1 → Q' v H1) : Post W R XW σ as H Q' o := by
  cases o with
  | ok d h1 => exact fun as' v H' e S r => h _ _ (p as' v H' e S r)
  | exc c x h1 => exact p
  | err => exact p
end
end Nc

/-! NcB: computations over the own data, and what expressions do of them. -/
namespace Nc
open PySem L2

abbrev M (α : Type) := Env → Hs → Out α
def tG {α β : Type} (W : Wd) (R : List Addr → Hp → α → β → Prop) (XW : WX) (m : M α) : St → Hp → (β → Hp → Prop) → Prop := fun σ H Q =>
  ∃ as env h, Sim W as h H ∧ EV W as H env σ ∧ Post W R XW σ as H Q (m env h)
abbrev tE (W : Wd) (XW : WX) (m : M D) : TE := tG W (RD W) XW m
abbrev tAr (W : Wd) (XW : WX) (m : M (List D)) : TA := tG W (RDs W) XW m
def RB : List Addr → Hp → Bool → Bool → Prop := fun _ _ a b => a = b
abbrev tT (W : Wd) (XW : WX) (m : M Bool) : TT := tG W RB XW m

theorem _root_.L2.PE.imp {X : Cx} {e : Expr} {t t' : TE} (h : PE X e t) (k : ∀ σ H Q, t' σ H Q → t σ H Q) : PE X e t' := ⟨fun pins s σ H Q I q => h.run pins s σ H Q I (k σ H Q q)⟩
theorem _root_.L2.PT.imp {X : Cx} {e : Expr} {t t' : TT} (h : PT X e t) (k : ∀ σ H Q, t' σ H Q → t σ H Q) : PT X e t' := ⟨fun pins s σ H Q I q => h.run pins s σ H Q I (k σ H Q q)⟩
theorem _root_.L2.PW.imp {X : Cx} {e : Expr} {t t' : TT} (h : PW X e t) (k : ∀ σ H Q, t' σ H Q → t σ H Q) : PW X e t' := ⟨fun wh pins s σ H Q I q => h.run wh pins s σ H Q I (k σ H Q q)⟩
theorem _root_.L2.PA.imp {X : Cx} {e : List Expr} {t t' : TA} (h : PA X e t) (k : ∀ σ H Q, t' σ H Q → t σ H Q) : PA X e t' := ⟨fun pos pins s σ H Q I q => h.run pos pins s σ H Q I (k σ H Q q)⟩

/-! ### combinators -/
def mK (d : D) : M D := fun _ h => .ok d h
def mVar (i : Nat) : M D := fun e h => match e[i]? with
  | some (some d) => .ok d h
  | _ => .err
def mU {α β : Type} (f : α → Hs → Out β) (a : M α) : M β := fun e h => (a e h).bind f
def mB {α β γ : Type} (f : α → β → Hs → Out γ) (a : M α) (b : M β) : M γ := fun e h => (a e h).bind fun x h1 => (b e h1).bind fun y h2 => f x y h2
def mNil : M (List D) := fun _ h => .ok [] h
def mCons (a : M D) (r : M (List D)) : M (List D) := mB (fun x xs h => .ok (x :: xs) h) a r
def mIte {α : Type} (c : M Bool) (a b : M α) : M α := fun e h => (c e h).bind fun k h1 => if k then a e h1 else b e h1

section
variable {X : Cx} {W : Wd} {XW : WX} {σ : St} {H : Hp}
theorem tG_bind {α β γ δ : Type} {R : List Addr → Hp → α → β → Prop} {R2 : List Addr → Hp → γ → δ → Prop} {ma : M α} {f : α → M γ} {Q : δ → Hp → Prop}
    (h : tG W R2 XW (fun e h => (ma e h).bind fun x h1 => f x e h1) σ H Q) :
    tG W R XW ma σ H (fun v H1 => ∃ as h1 d env, Sim W as h1 H1 ∧ EV W as H1 env σ ∧ R as H1 d v ∧ Post W R2 XW σ as H1 Q (f d env h1)) := by
  obtain ⟨as, env, h, S, E, p⟩ := h
  exact ⟨as, env, h, S, E, (Post.bind p).imp fun v H1 ⟨as1, h1, d, e1, S1, r1, p1⟩ => ⟨as1, h1, d, env, S1, E.mono e1, r1, p1⟩⟩
theorem tG_U {α β γ δ : Type} {R : List Addr → Hp → α → β → Prop} {R2 : List Addr → Hp → γ → δ → Prop} {ma : M α} {f : α → Hs → Out γ} {Q : δ → Hp → Prop} (h : tG W R2 XW (mU f ma) σ H Q) :
    tG W R XW ma σ H (fun v H1 => ∃ as h1 d, Sim W as h1 H1 ∧ R as H1 d v ∧ Post W R2 XW σ as H1 Q (f d h1)) := by
  obtain ⟨as, env, h, S, E, p⟩ := h
  exact ⟨as, env, h, S, E, (Post.bind p).imp fun v H1 ⟨as1, h1, d, e1, S1, r1, p1⟩ => ⟨as1, h1, d, S1, r1, p1⟩⟩
theorem tG_B {α β γ δ ε ζ : Type} {R : List Addr → Hp → α → β → Prop} {R2 : List Addr → Hp → γ → δ → Prop} {R3 : List Addr → Hp → ε → ζ → Prop} (mono : ∀ {as as' H H'} d v, Ext as H as' H' → R as H d v → R as' H' d v)
    {ma : M α} {mb : M γ} {f : α → γ → Hs → Out ε} {Q : ζ → Hp → Prop} (h : tG W R3 XW (mB f ma mb) σ H Q) :
    tG W R XW ma σ H (fun v H1 => tG W R2 XW mb σ H1 (fun w H2 => ∃ as h2 d d2, Sim W as h2 H2 ∧ R as H2 d v ∧ R2 as H2 d2 w ∧ Post W R3 XW σ as H2 Q (f d d2 h2))) := by
  obtain ⟨as, env, h, S, E, p⟩ := h
  refine ⟨as, env, h, S, E, (Post.bind p).imp fun v H1 ⟨as1, h1, d, e1, S1, r1, p1⟩ => ⟨as1, env, h1, S1, E.mono e1, (Post.bind p1).imp fun w H2 ⟨as2, h2, d2, e2, S2, r2, p2⟩ => ⟨as2, h2, d, d2, S2, mono _ _ e2 r1, r2, p2⟩⟩⟩
theorem monoD {as as' : List Addr} {H H' : Hp} (d : D) (v : V) (e : Ext as H as' H') (r : RD W as H d v) : RD W as' H' d v := RD.mono e d v r
theorem monoDs {as as' : List Addr} {H H' : Hp} (d : List D) (v : List V) (e : Ext as H as' H') (r : RDs W as H d v) : RDs W as' H' d v := RDs.mono e d v r

/-! ### names, constants -/
theorem e_var {i : Nat} {x : PySem.Str} {pos : Pos} (h : PE X (.Name x pos) (tVar i)) : PE X (.Name x pos) (tE W XW (mVar i)) := h.imp fun σ H Q ⟨as, env, h, S, E, p⟩ => by
  unfold mVar at p
  cases e : env[i]? with
  | none => rw [e] at p; exact p.elim
  | some o =>
    rw [e] at p
    cases o with
    | none => exact p.elim
    | some d =>
      obtain ⟨v, h1, h2⟩ := E.get i d e
      exact ⟨v, h1, p as v H (Ext.refl _ _) S h2⟩
theorem tK_of {d : D} {v : V} {Q : VK} (r : ∀ as H, RD W as H d v) (h : tE W XW (mK d) σ H Q) : tC v σ H Q := by
  obtain ⟨as, env, h, S, E, p⟩ := h
  exact p as v H (Ext.refl _ _) S (r as H)
theorem e_int {i j pos} : PE X (.Constant (.int i) j pos) (tE W XW (mK (.int i))) := pe_int.imp fun _ _ _ h => tK_of (fun _ _ => by unfold RD; rfl) h
theorem e_bl {i j pos} : PE X (.Constant (.bool i) j pos) (tE W XW (mK (.bl i))) := pe_bl.imp fun _ _ _ h => tK_of (fun _ _ => by unfold RD; rfl) h
theorem e_str {i j pos} : PE X (.Constant (.str i) j pos) (tE W XW (mK (.str i))) := pe_str.imp fun _ _ _ h => tK_of (fun _ _ => by unfold RD; rfl) h
theorem e_non {j pos} : PE X (.Constant .none j pos) (tE W XW (mK .non)) := pe_non.imp fun _ _ _ h => tK_of (fun _ _ => by unfold RD; rfl) h
/-- a constant of the module -/
theorem e_glob {x : PySem.Str} {v : V} {u : Value} {d : D} {pos : Pos} (hg : Gl X x) (hm : X.mg x = some u) (ru : RelV v u) (r : ∀ as H, RD W as H d v) (hd : (x == ("__debug__" : PySem.Str)) = false) : PE X (.Name x pos) (tE W XW (mK d)) :=
  (pe_glob hg hm ru hd).imp fun _ _ _ h => tK_of r h

/-! ### operators by values -/
def OpV (W : Wd) (r : R2) (f : D → D → Hs → Out D) : Prop := ∀ (XW : WX) (σ : St) (as : List Addr) (h : Hs) (H : Hp) (d1 d2 : D) (v1 v2 : V) (Q : VK), Sim W as h H → RD W as H d1 v1 → RD W as H d2 v2 → Post W (RD W) XW σ as H Q (f d1 d2 h) → r v1 v2 H Q
def UnV (W : Wd) (r : V → Hp → VK → Prop) (f : D → Hs → Out D) : Prop := ∀ (XW : WX) (σ : St) (as : List Addr) (h : Hs) (H : Hp) (d1 : D) (v1 : V) (Q : VK), Sim W as h H → RD W as H d1 v1 → Post W (RD W) XW σ as H Q (f d1 h) → r v1 H Q
def CaV (W : Wd) (r : List V → Hp → VK → Prop) (f : List D → Hs → Out D) : Prop := ∀ (XW : WX) (σ : St) (as : List Addr) (h : Hs) (H : Hp) (ds : List D) (vs : List V) (Q : VK), Sim W as h H → RDs W as H ds vs → Post W (RD W) XW σ as H Q (f ds h) → r vs H Q
def MtV (W : Wd) (r : V → List V → Hp → VK → Prop) (f : D → List D → Hs → Out D) : Prop := ∀ (XW : WX) (σ : St) (as : List Addr) (h : Hs) (H : Hp) (d : D) (v : V) (ds : List D) (vs : List V) (Q : VK), Sim W as h H → RD W as H d v → RDs W as H ds vs → Post W (RD W) XW σ as H Q (f d ds h) → r v vs H Q
theorem tOp_of {r : R2} {f : D → D → Hs → Out D} {ma mb : M D} {Q : VK} (o : OpV W r f) (h : tE W XW (mB f ma mb) σ H Q) : tOp r (tE W XW ma) (tE W XW mb) σ H Q := by
  have h' := tG_B (R := RD W) (R2 := RD W) (fun d v e r => monoD d v e r) h
  obtain ⟨as, env, h, S, E, p⟩ := h'
  exact ⟨as, env, h, S, E, p.imp fun v H1 ⟨as1, env1, h1, S1, E1, p1⟩ => ⟨as1, env1, h1, S1, E1, p1.imp fun w H2 ⟨as2, h2, d, d2, S2, r1, r2, p2⟩ => o XW σ as2 h2 H2 d d2 v w Q S2 r1 r2 p2⟩⟩
theorem tUn_of {r : V → Hp → VK → Prop} {f : D → Hs → Out D} {ma : M D} {Q : VK} (o : UnV W r f) (h : tE W XW (mU f ma) σ H Q) : tUn r (tE W XW ma) σ H Q := by
  obtain ⟨as, env, h, S, E, p⟩ := tG_U (R := RD W) h
  exact ⟨as, env, h, S, E, p.imp fun v H1 ⟨as1, h1, d, S1, r1, p1⟩ => o XW σ as1 h1 H1 d v Q S1 r1 p1⟩
theorem tCB_of {r : List V → Hp → VK → Prop} {f : List D → Hs → Out D} {ma : M (List D)} {Q : VK} (o : CaV W r f) (h : tE W XW (mU f ma) σ H Q) : tCB r (tAr W XW ma) σ H Q := by
  obtain ⟨as, env, h, S, E, p⟩ := tG_U (R := RDs W) h
  exact ⟨as, env, h, S, E, p.imp fun v H1 ⟨as1, h1, d, S1, r1, p1⟩ => o XW σ as1 h1 H1 d v Q S1 r1 p1⟩
variable {a b : Expr} {es : List Expr} {ma mb : M D} {ms : M (List D)} {pos p : Pos}
theorem e_op {op : Operator} {r : R2} {f : D → D → Hs → Out D} (ho : OpR X (binaryOp op) r) (o : OpV W r f) (ha : PE X a (tE W XW ma)) (hb : PE X b (tE W XW mb)) : PE X (.BinOp a op b pos) (tE W XW (mB f ma mb)) :=
  (pe_op ho ha hb).imp fun _ _ _ h => tOp_of o h
theorem e_un {op : UnaryOp} {r : V → Hp → VK → Prop} {f : D → Hs → Out D} (ho : UnR X (unaryOp op) r) (o : UnV W r f) (ha : PE X a (tE W XW ma)) : PE X (.UnaryOp op a pos) (tE W XW (mU f ma)) :=
  (pe_un ho ha).imp fun _ _ _ h => tUn_of o h
theorem e_cmp {op : CmpOp} {r : R2} {f : D → D → Hs → Out D} (ho : OpR X (compareOp op) r) (o : OpV W r f) (ha : PE X a (tE W XW ma)) (hb : PE X b (tE W XW mb)) (hm : behindInMarks op b = false) : PE X (.Compare a [op] [b] pos) (tE W XW (mB f ma mb)) :=
  (pe_cmpR ho ha hb hm).imp fun _ _ _ h => tOp_of o h
theorem e_ix {r : R2} {f : D → D → Hs → Out D} (ho : IxR X r) (o : OpV W r f) (ha : PE X a (tE W XW ma)) (hb : PE X b (tE W XW mb)) (hs : PlainIx b) : PE X (.Subscript a b pos) (tE W XW (mB f ma mb)) :=
  (pe_ix ho ha hb hs).imp fun _ _ _ h => tOp_of o h
theorem a_nil : PA X [] (tAr W XW mNil) := pa_nil.imp fun σ H Q ⟨as, env, h, S, E, p⟩ => p as [] H (Ext.refl _ _) S RDs.nil
theorem tCons_of {ma : M D} {ms : M (List D)} {Q : List V → Hp → Prop} (h : tAr W XW (mCons ma ms) σ H Q) : tCons (tE W XW ma) (tAr W XW ms) σ H Q := by
  have h' := tG_B (R := RD W) (R2 := RDs W) (fun d v e r => monoD d v e r) h
  obtain ⟨as, env, h, S, E, p⟩ := h'
  exact ⟨as, env, h, S, E, p.imp fun v H1 ⟨as1, env1, h1, S1, E1, p1⟩ => ⟨as1, env1, h1, S1, E1, p1.imp fun w H2 ⟨as2, h2, d, d2, S2, r1, r2, p2⟩ => p2 as2 (v :: w) H2 (Ext.refl _ _) S2 (RDs.cons r1 r2)⟩⟩
theorem a_cons {e : Expr} (ha : PE X e (tE W XW ma)) (hr : PA X es (tAr W XW ms)) (hs : starEach (e :: es) X.env = (false, eval e X.env) :: starEach es X.env := by rfl) : PA X (e :: es) (tAr W XW (mCons ma ms)) :=
  (pa_cons ha hr hs).imp fun _ _ _ h => tCons_of h
/-- a built-in function, a built-in type -/
theorem e_blt {x : PySem.Str} {id : String} {e : Expr} {r : List V → Hp → VK → Prop} {f : List D → Hs → Out D} (hc : CallR X (.builtin id) r) (o : CaV W r f) (hg : Gl X x) (hm : X.mg x = none) (hv : bootBuiltins x = some (.builtin id)) (ha : PA X (e :: es) (tAr W XW ms)) (hn : x ≠ "__name__") (hdb : (x == ("__debug__" : PySem.Str)) = false)
    (he : starEach (e :: es) X.env = (false, eval e X.env) :: starEach es X.env := by rfl) (hpl : (backTo pos (starEach es X.env)).any (·.1) = false := by rfl) : PE X (.Call (.Name x p) (e :: es) [] pos) (tE W XW (mU f ms)) :=
  (pe_callB hc hg hm hv ha hn hdb he hpl).imp fun _ _ _ h => tCB_of o h
theorem e_blTy {x : PySem.Str} {id : String} {e : Expr} {r : List V → Hp → VK → Prop} {f : List D → Hs → Out D} (hc : CallR X (.type id) r) (o : CaV W r f) (hg : Gl X x) (hm : X.mg x = none) (hv : bootBuiltins x = some (.type id)) (ha : PA X (e :: es) (tAr W XW ms)) (hn : x ≠ "__name__") (hdb : (x == ("__debug__" : PySem.Str)) = false)
    (he : starEach (e :: es) X.env = (false, eval e X.env) :: starEach es X.env := by rfl) (hpl : (backTo pos (starEach es X.env)).any (·.1) = false := by rfl) : PE X (.Call (.Name x p) (e :: es) [] pos) (tE W XW (mU f ms)) :=
  (pe_callTy hc hg hm hv ha hn hdb he hpl).imp fun _ _ _ h => tCB_of o h

/-! ### displays -/
def vTup (ds : List D) (h : Hs) : Out D := if ds.length ≤ sizeLine then .ok (.tup ds) h else .err
def vLst (ds : List D) (h : Hs) : Out D := if ds.length ≤ sizeLine then .ok (.ref h.length) (h ++ [.lst ds]) else .err
theorem post_tup {as : List Addr} {h : Hs} {ds : List D} {vs : List V} {Q : VK} (S : Sim W as h H) (r : RDs W as H ds vs) (q : Post W (RD W) XW σ as H Q (vTup ds h)) : vs.length ≤ sizeLine ∧ ∀ p, H p = none → Q (.ref p) (upd H p (.tup vs)) := by
  unfold vTup at q
  split at q
  · rename_i hl
    refine ⟨by rw [r.len]; exact hl, fun p n => q as _ _ (Ext.new n) (S.new n) ?_⟩
    unfold RD
    exact ⟨p, vs, rfl, SqT.of upd_same, RDs.mono (Ext.new n) _ _ r⟩
  · exact q.elim
theorem post_lst {as : List Addr} {h : Hs} {ds : List D} {vs : List V} {Q : VK} (S : Sim W as h H) (r : RDs W as H ds vs) (q : Post W (RD W) XW σ as H Q (vLst ds h)) : vs.length ≤ sizeLine ∧ ∀ p, H p = none → Q (.ref p) (upd H p (.lst vs)) := by
  unfold vLst at q
  split at q
  · rename_i hl
    refine ⟨by rw [r.len]; exact hl, fun p n => q (as ++ [p]) _ _ (Ext.snoc n) (S.snoc n ⟨vs, upd_same, RDs.mono (Ext.snoc n) _ _ r⟩) ?_⟩
    unfold RD
    exact ⟨p, rfl, by rw [List.getElem?_append_right (by rw [S.len]; omega)]; simp [S.len]⟩
  · exact q.elim
theorem e_tup {k : Nat} (h : PA X es (tAr W XW ms)) : PE X (.Tuple es k pos) (tE W XW (mU vTup ms)) := (pe_tup h).imp fun σ H Q h => by
  obtain ⟨as, env, h, S, E, p⟩ := tG_U (R := RDs W) h
  exact ⟨as, env, h, S, E, p.imp fun v H1 ⟨as1, h1, d, S1, r1, p1⟩ => post_tup S1 r1 p1⟩
theorem e_lst (h : PA X es (tAr W XW ms)) : PE X (.List es pos) (tE W XW (mU vLst ms)) := (pe_lst h).imp fun σ H Q h => by
  obtain ⟨as, env, h, S, E, p⟩ := tG_U (R := RDs W) h
  exact ⟨as, env, h, S, E, p.imp fun v H1 ⟨as1, h1, d, S1, r1, p1⟩ => post_lst S1 r1 p1⟩

/-! ### tests -/
def vTest (d : D) (h : Hs) : Out Bool := match d with
  | .bl b => .ok b h
  | _ => .err
def mTest (m : M D) : M Bool := mU vTest m
theorem tTest_of {Q : Bool → Hp → Prop} (h : tT W XW (mTest ma) σ H Q) : tTest (tE W XW ma) σ H Q := by
  obtain ⟨as, env, h, S, E, p⟩ := tG_U (R := RD W) h
  refine ⟨as, env, h, S, E, p.imp fun v H1 ⟨as1, h1, d, S1, r1, p1⟩ => ?_⟩
  cases d with
  | bl b =>
    unfold RD at r1
    exact ⟨b, r1, p1 as1 b H1 (Ext.refl _ _) S1 rfl⟩
  | _ => exact p1.elim
/-- an expression that isn't put together of tests -/
theorem t_val (h : PE X a (tE W XW ma)) (he : ∀ whole, isTrue a X.env whole = (do let v ← whole; standAt a.pos; holding [v] (truthy v)) := by intro _; rfl) : PT X a (tT W XW (mTest ma)) :=
  (pt_val h he).imp fun _ _ _ h => tTest_of h
theorem t_cmp {op : CmpOp} {r : R2} {f : D → D → Hs → Out D} (ho : OpR X (compareOp op) r) (o : OpV W r f) (ha : PE X a (tE W XW ma)) (hb : PE X b (tE W XW mb)) (hm : behindInMarks op b = false) : PT X (.Compare a [op] [b] pos) (tT W XW (mTest (mB f ma mb))) :=
  (pt_cmpR ho ha hb hm).imp fun _ _ _ h => by
    have h' := tTest_of h
    obtain ⟨as, env, h, S, E, p⟩ := h'
    exact tOp_of o ⟨as, env, h, S, E, p⟩
def mAnd (a b : M Bool) : M Bool := fun e h => (a e h).bind fun k h1 => if k then b e h1 else .ok false h1
def mOr (a b : M Bool) : M Bool := fun e h => (a e h).bind fun k h1 => if k then .ok true h1 else b e h1
def mNot (a : M Bool) : M Bool := mU (fun k h => .ok (!k) h) a
variable {ta tb : M Bool} {rest : List Expr}
theorem t_and1 (h : PT X a (tT W XW ta)) : PW X (.BoolOp .And [a] pos) (tT W XW ta) := pw_and1 h
theorem t_or1 (h : PT X a (tT W XW ta)) : PW X (.BoolOp .Or [a] pos) (tT W XW ta) := pw_or1 h
theorem t_and (h : PT X a (tT W XW ta)) (k : PW X (.BoolOp .And (b :: rest) pos) (tT W XW tb)) : PW X (.BoolOp .And (a :: b :: rest) pos) (tT W XW (mAnd ta tb)) := (pw_and h k).imp fun σ H Q h => by
  obtain ⟨as, env, h, S, E, p⟩ := tG_bind (R := RB) (f := fun k e h1 => if k then tb e h1 else .ok false h1) h
  refine ⟨as, env, h, S, E, p.imp fun v H1 ⟨as1, h1, d, env1, S1, E1, r1, p1⟩ => ?_⟩
  cases (show d = v from r1)
  cases v with
  | true => exact ⟨as1, env1, h1, S1, E1, p1⟩
  | false => exact p1 as1 false H1 (Ext.refl _ _) S1 rfl
theorem t_or (h : PT X a (tT W XW ta)) (k : PW X (.BoolOp .Or (b :: rest) pos) (tT W XW tb)) : PW X (.BoolOp .Or (a :: b :: rest) pos) (tT W XW (mOr ta tb)) := (pw_or h k).imp fun σ H Q h => by
  obtain ⟨as, env, h, S, E, p⟩ := tG_bind (R := RB) (f := fun k e h1 => if k then .ok true h1 else tb e h1) h
  refine ⟨as, env, h, S, E, p.imp fun v H1 ⟨as1, h1, d, env1, S1, E1, r1, p1⟩ => ?_⟩
  cases (show d = v from r1)
  cases v with
  | true => exact p1 as1 true H1 (Ext.refl _ _) S1 rfl
  | false => exact ⟨as1, env1, h1, S1, E1, p1⟩
theorem t_not (h : PT X a (tT W XW ta)) : PT X (.UnaryOp .Not a pos) (tT W XW (mNot ta)) := (pt_not h).imp fun σ H Q h => by
  obtain ⟨as, env, h, S, E, p⟩ := tG_U (R := RB) h
  exact ⟨as, env, h, S, E, p.imp fun v H1 ⟨as1, h1, d, S1, r1, p1⟩ => p1 as1 _ H1 (Ext.refl _ _) S1 (by rw [show d = v from r1]; rfl)⟩
/-- the same as values: all but the last one truths -/
def vAnd (a : M D) (b : M D) : M D := fun e h => (a e h).bind fun d h1 => match d with
  | .bl true => b e h1
  | .bl false => .ok (.bl false) h1
  | _ => .err
def vOr (a : M D) (b : M D) : M D := fun e h => (a e h).bind fun d h1 => match d with
  | .bl false => b e h1
  | .bl true => .ok (.bl true) h1
  | _ => .err
def vNot (d : D) (h : Hs) : Out D := match d with
  | .bl b => .ok (.bl !b) h
  | _ => .err
theorem e_one {op : BoolOp} (h : PE X a (tE W XW ma)) : PE X (.BoolOp op [a] pos) (tE W XW ma) := pe_one h
theorem e_and (h : PE X a (tE W XW ma)) (k : PE X (.BoolOp .And (b :: rest) pos) (tE W XW mb)) : PE X (.BoolOp .And (a :: b :: rest) pos) (tE W XW (vAnd ma mb)) := (pe_and h k).imp fun σ H Q h => by
  obtain ⟨as, env, h, S, E, p⟩ := tG_bind (R := RD W) (f := fun d e h1 => match d with
    | .bl true => mb e h1
    | .bl false => .ok (.bl false) h1
    | _ => .err) h
  refine ⟨as, env, h, S, E, p.imp fun v H1 ⟨as1, h1, d, env1, S1, E1, r1, p1⟩ => ?_⟩
  cases d with
  | bl k =>
    unfold RD at r1
    refine ⟨k, r1, ?_⟩
    cases k with
    | true => exact ⟨as1, env1, h1, S1, E1, p1⟩
    | false => exact p1 as1 (.bl false) H1 (Ext.refl _ _) S1 (by unfold RD; rfl)
  | _ => exact p1.elim
theorem e_or (h : PE X a (tE W XW ma)) (k : PE X (.BoolOp .Or (b :: rest) pos) (tE W XW mb)) : PE X (.BoolOp .Or (a :: b :: rest) pos) (tE W XW (vOr ma mb)) := (pe_or h k).imp fun σ H Q h => by
  obtain ⟨as, env, h, S, E, p⟩ := tG_bind (R := RD W) (f := fun d e h1 => match d with
    | .bl false => mb e h1
    | .bl true => .ok (.bl true) h1
    | _ => .err) h
  refine ⟨as, env, h, S, E, p.imp fun v H1 ⟨as1, h1, d, env1, S1, E1, r1, p1⟩ => ?_⟩
  cases d with
  | bl k =>
    unfold RD at r1
    refine ⟨k, r1, ?_⟩
    cases k with
    | false => exact ⟨as1, env1, h1, S1, E1, p1⟩
    | true => exact p1 as1 (.bl true) H1 (Ext.refl _ _) S1 (by unfold RD; rfl)
  | _ => exact p1.elim
theorem e_not (h : PE X a (tE W XW ma)) : PE X (.UnaryOp .Not a pos) (tE W XW (mU vNot ma)) := (pe_not h).imp fun σ H Q h => by
  obtain ⟨as, env, h, S, E, p⟩ := tG_U (R := RD W) h
  refine ⟨as, env, h, S, E, p.imp fun v H1 ⟨as1, h1, d, S1, r1, p1⟩ => ?_⟩
  cases d with
  | bl k =>
    unfold RD at r1
    exact ⟨k, r1, p1 as1 _ H1 (Ext.refl _ _) S1 (by unfold RD; rfl)⟩
  | _ => exact p1.elim
theorem e_ite {c : Expr} (h : PT X c (tT W XW ta)) (ha : PE X a (tE W XW ma)) (hb : PE X b (tE W XW mb)) : PE X (.IfExp c a b pos) (tE W XW (mIte ta ma mb)) := (pe_ifExp h ha hb).imp fun σ H Q h => by
  obtain ⟨as, env, h, S, E, p⟩ := tG_bind (R := RB) (f := fun k e h1 => if k then ma e h1 else mb e h1) h
  refine ⟨as, env, h, S, E, p.imp fun v H1 ⟨as1, h1, d, env1, S1, E1, r1, p1⟩ => ?_⟩
  cases (show d = v from r1)
  cases v with
  | true => exact ⟨as1, env1, h1, S1, E1, p1⟩
  | false => exact ⟨as1, env1, h1, S1, E1, p1⟩
end
end Nc

/-! NcC: what operators and built-in functions make of own values. -/
namespace Nc
open PySem L2

section
variable {W : Wd} {XW : WX} {σ : St} {as : List Addr} {H : Hp} {h : Hs}
theorem rd_non {v : V} : RD W as H .non v ↔ v = .non := by unfold RD; exact Iff.rfl
theorem rd_bl {b : Bool} {v : V} : RD W as H (.bl b) v ↔ v = .bl b := by unfold RD; exact Iff.rfl
theorem rd_int {i : Int} {v : V} : RD W as H (.int i) v ↔ v = .int i := by unfold RD; exact Iff.rfl
theorem rd_str {s : PySem.Str} {v : V} : RD W as H (.str s) v ↔ v = .str s := by unfold RD; exact Iff.rfl
theorem rd_tup {ds : List D} {v : V} : RD W as H (.tup ds) v ↔ ∃ a vs, v = .ref a ∧ SqT W.K H a vs ∧ RDs W as H ds vs := by
  constructor
  · intro h; unfold RD at h; exact h
  · intro h; unfold RD; exact h
theorem rd_ref {i : Nat} {v : V} : RD W as H (.ref i) v ↔ ∃ a, v = .ref a ∧ as[i]? = some a := by
  constructor
  · intro h; unfold RD at h; exact h
  · intro h; unfold RD; exact h
theorem post_ok {α β : Type} {R : List Addr → Hp → α → β → Prop} {d : α} {v : β} {Q : β → Hp → Prop} (S : Sim W as h H) (r : R as H d v) (p : Post W R XW σ as H Q (.ok d h)) : Q v H := p as v H (Ext.refl _ _) S r
/-- a new list of ours -/
theorem post_new {ds : List D} {vs : List V} {Q : VK} (S : Sim W as h H) (r : RDs W as H ds vs) (p : Post W (RD W) XW σ as H Q (.ok (.ref h.length) (h ++ [.lst ds]))) : ∀ l, H l = none → Q (.ref l) (upd H l (.lst vs)) := fun l n =>
  p (as ++ [l]) _ _ (Ext.snoc n) (S.snoc n ⟨vs, upd_same, RDs.mono (Ext.snoc n) _ _ r⟩) (rd_ref.mpr ⟨l, rfl, by rw [List.getElem?_append_right (by rw [S.len]; omega)]; simp [S.len]⟩)
/-- a new tuple -/
theorem post_newT {ds : List D} {vs : List V} {Q : VK} (S : Sim W as h H) (r : RDs W as H ds vs) (p : Post W (RD W) XW σ as H Q (.ok (.tup ds) h)) : ∀ l, H l = none → Q (.ref l) (upd H l (.tup vs)) := fun l n =>
  p as _ _ (Ext.new n) (S.new n) (rd_tup.mpr ⟨l, vs, rfl, SqT.of upd_same, RDs.mono (Ext.new n) _ _ r⟩)
/-- a list of ours -/
theorem Sim.lst (S : Sim W as h H) {i : Nat} {ds : List D} (e : h[i]? = some (.lst ds)) : ∃ a vs, as[i]? = some a ∧ H a = some (.lst vs) ∧ RDs W as H ds vs := by
  obtain ⟨a, h1, vs, h2, h3⟩ := S.ob i _ e
  exact ⟨a, vs, h1, h2, h3⟩
/-- what may be read as a list -/
def getL (h : Hs) (i : Nat) : Option (List D) := match h[i]? with
  | some (.lst ds) => some ds
  | some (.fro ds) => some ds
  | _ => none
theorem Sim.rdl (S : Sim W as h H) {i : Nat} {ds : List D} (e : getL h i = some ds) : ∃ a vs, as[i]? = some a ∧ SqL W.K H a vs ∧ RDs W as H ds vs := by
  unfold getL at e
  cases q : h[i]? with
  | none => rw [q] at e; cases e
  | some o =>
    rw [q] at e
    cases o with
    | lst xs =>
      cases e
      obtain ⟨a, h1, vs, h2, h3⟩ := S.ob i _ q
      exact ⟨a, vs, h1, SqL.of h2, h3⟩
    | fro xs =>
      cases e
      obtain ⟨a, h1, vs, o, h2, h3⟩ := S.ob i _ q
      exact ⟨a, vs, h1, .inl (.inr ⟨o, h2⟩), h3⟩
    | dct _ => cases e
    | ins _ _ => cases e
end

/-! ### arithmetic -/
def mulBad (a b : Int) : Bool := decide (Builtin.Int.intBits a > shortFactorBits) && decide (Builtin.Int.intBits b > shortFactorBits) && Builtin.Int.intTooBig (Builtin.Int.intBits a + Builtin.Int.intBits b)
def catBy (f : List D → List D → Hs → Out D) (h : Hs) (i j : Nat) : Out D := match h[i]?, h[j]? with
  | some (.lst a), some (.lst b) => f a b h
  | _, _ => .err
def vAdd (x y : D) (h : Hs) : Out D := match x, y with
  | .int i, .int j => .ok (.int (i + j)) h
  | .str a, .str b => if a.length + b.length ≤ sizeLine then .ok (.str (a ++ b)) h else .err
  | .tup a, .tup b => if a.length + b.length ≤ sizeLine then .ok (.tup (a ++ b)) h else .err
  | .ref i, .ref j => catBy (fun a b h => if a.length + b.length ≤ sizeLine then .ok (.ref h.length) (h ++ [.lst (a ++ b)]) else .err) h i j
  | _, _ => .err
def vSub (x y : D) (h : Hs) : Out D := match x, y with
  | .int i, .int j => .ok (.int (i - j)) h
  | _, _ => .err
def vMul (x y : D) (h : Hs) : Out D := match x, y with
  | .int i, .int j => if mulBad i j then .err else .ok (.int (i * j)) h
  | .ref i, .int k => (match h[i]? with
    | some (.lst a) => if -(2 ^ 63) ≤ k ∧ k < 2 ^ 63 ∧ a.length * k.toNat ≤ sizeLine then .ok (.ref h.length) (h ++ [.lst (List.replicate k.toNat a).flatten]) else .err
    | _ => .err)
  | _, _ => .err
def vMod (x y : D) (h : Hs) : Out D := match x, y with
  | .int i, .int j => if j = 0 then .err else .ok (.int (i.fmod j)) h
  | _, _ => .err
def vDiv (x y : D) (h : Hs) : Out D := match x, y with
  | .int i, .int j => if j = 0 ∨ Builtin.divisionGoesByPylong i j = true then .err else .ok (.int (i.fdiv j)) h
  | _, _ => .err
def vPow (x y : D) (h : Hs) : Out D := match x, y with
  | .int i, .int j => if 0 ≤ j ∧ j ≤ 1000000 ∧ i.natAbs < 2 ^ 64 then .ok (.int (i ^ j.toNat)) h else .err
  | _, _ => .err
def vShl (x y : D) (h : Hs) : Out D := match x, y with
  | .int i, .int j => if 0 ≤ j ∧ (Builtin.Int.intBits i : Int) + j ≤ 2 ^ 27 then .ok (.int (i * 2 ^ j.toNat)) h else .err
  | _, _ => .err
def vShr (x y : D) (h : Hs) : Out D := match x, y with
  | .int i, .int j => if 0 ≤ j then .ok (.int (i / 2 ^ j.toNat)) h else .err
  | _, _ => .err
def vBand (x y : D) (h : Hs) : Out D := match x, y with
  | .int i, .int j => .ok (.int (Builtin.bitAnd i j)) h
  | _, _ => .err
def vBor (x y : D) (h : Hs) : Out D := match x, y with
  | .int i, .int j => .ok (.int (Builtin.bitOr i j)) h
  | _, _ => .err
def vLt (x y : D) (h : Hs) : Out D := match x, y with
  | .int i, .int j => .ok (.bl (decide (i < j))) h
  | _, _ => .err
def vLe (x y : D) (h : Hs) : Out D := match x, y with
  | .int i, .int j => .ok (.bl (decide (i ≤ j))) h
  | _, _ => .err
def vGt (x y : D) (h : Hs) : Out D := match x, y with
  | .int i, .int j => .ok (.bl (decide (j < i))) h
  | _, _ => .err
def vGe (x y : D) (h : Hs) : Out D := match x, y with
  | .int i, .int j => .ok (.bl (decide (j ≤ i))) h
  | _, _ => .err
def vNeg (x : D) (h : Hs) : Out D := match x with
  | .int i => .ok (.int (-i)) h
  | _ => .err
section
variable {X : Cx} {W : Wd}
/-- two ints -/
theorem ov_int {C : Int → Int → Prop} {g : Int → Int → V} {k : Int → Int → D} {f : D → D → Hs → Out D} (hk : ∀ i j as H, RD W as H (k i j) (g i j))
    (hf : ∀ x y h, (∃ i j, x = .int i ∧ y = .int j ∧ C i j ∧ f x y h = .ok (k i j) h) ∨ f x y h = .err) : OpV W (rI C g) f := fun XW σ as h H d1 d2 v1 v2 Q S r1 r2 p => by
  rcases hf d1 d2 h with ⟨i, j, rfl, rfl, c, e⟩ | e
  · rw [e] at p
    exact ⟨i, j, rd_int.mp r1, rd_int.mp r2, c, post_ok S (hk i j as H) p⟩
  · rw [e] at p; exact p.elim
theorem ov_int0 {g : Int → Int → V} {k : Int → Int → D} {f : D → D → Hs → Out D} (hk : ∀ i j as H, RD W as H (k i j) (g i j))
    (hf : ∀ x y h, (∃ i j, x = .int i ∧ y = .int j ∧ f x y h = .ok (k i j) h) ∨ f x y h = .err) : OpV W (rI0 g) f := fun XW σ as h H d1 d2 v1 v2 Q S r1 r2 p => by
  rcases hf d1 d2 h with ⟨i, j, rfl, rfl, e⟩ | e
  · rw [e] at p
    exact ⟨i, j, rd_int.mp r1, rd_int.mp r2, post_ok S (hk i j as H) p⟩
  · rw [e] at p; exact p.elim
theorem ov_sub : OpV W (rI0 fun i j => .int (i - j)) vSub := ov_int0 (k := fun i j => .int (i - j)) (fun _ _ _ _ => rd_int.mpr rfl) fun x y h => by
  cases x <;> cases y <;> first | exact .inl ⟨_, _, rfl, rfl, rfl⟩ | exact .inr rfl
theorem ov_lt : OpV W (rI0 fun i j => .bl (decide (i < j))) vLt := ov_int0 (k := fun i j => .bl (decide (i < j))) (fun _ _ _ _ => rd_bl.mpr rfl) fun x y h => by
  cases x <;> cases y <;> first | exact .inl ⟨_, _, rfl, rfl, rfl⟩ | exact .inr rfl
theorem ov_le : OpV W (rI0 fun i j => .bl (decide (i ≤ j))) vLe := ov_int0 (k := fun i j => .bl (decide (i ≤ j))) (fun _ _ _ _ => rd_bl.mpr rfl) fun x y h => by
  cases x <;> cases y <;> first | exact .inl ⟨_, _, rfl, rfl, rfl⟩ | exact .inr rfl
theorem ov_gt : OpV W (rI0 fun i j => .bl (decide (j < i))) vGt := ov_int0 (k := fun i j => .bl (decide (j < i))) (fun _ _ _ _ => rd_bl.mpr rfl) fun x y h => by
  cases x <;> cases y <;> first | exact .inl ⟨_, _, rfl, rfl, rfl⟩ | exact .inr rfl
theorem ov_ge : OpV W (rI0 fun i j => .bl (decide (j ≤ i))) vGe := ov_int0 (k := fun i j => .bl (decide (j ≤ i))) (fun _ _ _ _ => rd_bl.mpr rfl) fun x y h => by
  cases x <;> cases y <;> first | exact .inl ⟨_, _, rfl, rfl, rfl⟩ | exact .inr rfl
theorem ov_band : OpV W (rI0 fun i j => .int (Builtin.bitAnd i j)) vBand := ov_int0 (k := fun i j => .int (Builtin.bitAnd i j)) (fun _ _ _ _ => rd_int.mpr rfl) fun x y h => by
  cases x <;> cases y <;> first | exact .inl ⟨_, _, rfl, rfl, rfl⟩ | exact .inr rfl
theorem ov_bor : OpV W (rI0 fun i j => .int (Builtin.bitOr i j)) vBor := ov_int0 (k := fun i j => .int (Builtin.bitOr i j)) (fun _ _ _ _ => rd_int.mpr rfl) fun x y h => by
  cases x <;> cases y <;> first | exact .inl ⟨_, _, rfl, rfl, rfl⟩ | exact .inr rfl
theorem ov_mod : OpV W (rI (fun _ j => j ≠ 0) fun i j => .int (i.fmod j)) vMod := ov_int (k := fun i j => .int (i.fmod j)) (fun _ _ _ _ => rd_int.mpr rfl) fun x y h => by
  cases x <;> cases y <;> try exact .inr rfl
  rename_i i j
  by_cases e : j = 0
  · exact .inr (if_pos e)
  · exact .inl ⟨i, j, rfl, rfl, e, if_neg e⟩
def CDivG (i j : Int) : Prop := j ≠ 0 ∧ Builtin.divisionGoesByPylong i j = false
theorem op_fdivG : OpR X (binaryOp .FloorDiv) (rI CDivG fun i j => .int (i.fdiv j)) := opI fun _ _ _ _ _ _ _ hc q => PyProof.Rows.floordiv_int hc.1 q (.inl hc.2)
theorem ov_div : OpV W (rI CDivG fun i j => .int (i.fdiv j)) vDiv := ov_int (k := fun i j => .int (i.fdiv j)) (fun _ _ _ _ => rd_int.mpr rfl) fun x y h => by
  cases x <;> cases y <;> try exact .inr rfl
  rename_i i j
  by_cases e : j = 0 ∨ Builtin.divisionGoesByPylong i j = true
  · exact .inr (if_pos e)
  · exact .inl ⟨i, j, rfl, rfl, ⟨fun z => e (.inl z), by simpa using fun z => e (.inr z)⟩, if_neg e⟩
theorem ov_pow : OpV W (rI CPow fun i j => .int (i ^ j.toNat)) vPow := ov_int (k := fun i j => .int (i ^ j.toNat)) (fun _ _ _ _ => rd_int.mpr rfl) fun x y h => by
  cases x <;> cases y <;> try exact .inr rfl
  rename_i i j
  by_cases e : 0 ≤ j ∧ j ≤ 1000000 ∧ i.natAbs < 2 ^ 64
  · exact .inl ⟨i, j, rfl, rfl, e, if_pos e⟩
  · exact .inr (if_neg e)
theorem ov_shl : OpV W (rI CShl fun i j => .int (i * 2 ^ j.toNat)) vShl := ov_int (k := fun i j => .int (i * 2 ^ j.toNat)) (fun _ _ _ _ => rd_int.mpr rfl) fun x y h => by
  cases x <;> cases y <;> try exact .inr rfl
  rename_i i j
  by_cases e : 0 ≤ j ∧ (Builtin.Int.intBits i : Int) + j ≤ 2 ^ 27
  · exact .inl ⟨i, j, rfl, rfl, e, if_pos e⟩
  · exact .inr (if_neg e)
theorem ov_shr : OpV W (rI (fun _ j => 0 ≤ j) fun i j => .int (i / 2 ^ j.toNat)) vShr := ov_int (k := fun i j => .int (i / 2 ^ j.toNat)) (fun _ _ _ _ => rd_int.mpr rfl) fun x y h => by
  cases x <;> cases y <;> try exact .inr rfl
  rename_i i j
  by_cases e : 0 ≤ j
  · exact .inl ⟨i, j, rfl, rfl, e, if_pos e⟩
  · exact .inr (if_neg e)
theorem uv_neg : UnV W (rU fun i => .int (-i)) vNeg := fun XW σ as h H d1 v1 Q S r1 p => by
  cases d1 with
  | int i => exact ⟨i, rd_int.mp r1, post_ok S (rd_int.mpr rfl) p⟩
  | _ => exact p.elim
/-- + -/
def rAddS : R2 := fun x y H Q => ∃ i j, x = .str i ∧ y = .str j ∧ i.length + j.length ≤ sizeLine ∧ Q (.str (i ++ j)) H
def rAddA (K : PySem.W.Frag) : R2 := fun x y H Q => (((∃ i j : Int, x = .int i ∧ y = .int j ∧ Q (.int (i + j)) H) ∨ rAddS x y H Q) ∨ rCatA K x y H Q) ∨ rCat x y H Q
theorem op_addA : OpR X (binaryOp .Add) (rAddA X.K) := ((op_add.or op_add_str).or op_catA).or op_cat
theorem ov_add : OpV W (rAddA W.K) vAdd := fun XW σ as h H d1 d2 v1 v2 Q S r1 r2 p => by
  cases d1 with
  | int i =>
    cases d2 with
    | int j => exact .inl (.inl (.inl ⟨i, j, rd_int.mp r1, rd_int.mp r2, post_ok S (rd_int.mpr rfl) p⟩))
    | _ => exact p.elim
  | str a =>
    cases d2 with
    | str b =>
      simp only [vAdd] at p
      split at p
      · rename_i hl
        exact .inl (.inl (.inr ⟨a, b, rd_str.mp r1, rd_str.mp r2, hl, post_ok S (rd_str.mpr rfl) p⟩))
      · exact p.elim
    | _ => exact p.elim
  | tup a =>
    cases d2 with
    | tup b =>
      simp only [vAdd] at p
      split at p
      · rename_i hl
        obtain ⟨a1, vs1, e1, s1, q1⟩ := rd_tup.mp r1
        obtain ⟨a2, vs2, e2, s2, q2⟩ := rd_tup.mp r2
        refine .inl (.inr ⟨a1, a2, vs1, vs2, e1, e2, s1, s2, by rw [q1.len, q2.len]; exact hl, fun z => ?_, fun _ z => ?_, fun _ _ l n => ?_⟩)
        · subst z
          have : a = [] := List.eq_nil_of_length_eq_zero (by rw [← q1.len]; rfl)
          subst this
          exact post_ok S (rd_tup.mpr ⟨a2, vs2, rfl, s2, q2⟩) p
        · subst z
          have : b = [] := List.eq_nil_of_length_eq_zero (by rw [← q2.len]; rfl)
          subst this
          exact post_ok S (rd_tup.mpr ⟨a1, vs1, rfl, s1, by simpa using q1⟩) p
        · exact post_newT S (q1.append q2) p l n
      · exact p.elim
    | _ => exact p.elim
  | ref i =>
    cases d2 with
    | ref j =>
      simp only [vAdd, catBy] at p
      split at p
      · rename_i a b ea eb
        split at p
        · rename_i hl
          obtain ⟨a1, vs1, e1, s1, q1⟩ := S.lst ea
          obtain ⟨a2, vs2, e2, s2, q2⟩ := S.lst eb
          obtain ⟨b1, f1, g1⟩ := rd_ref.mp r1
          obtain ⟨b2, f2, g2⟩ := rd_ref.mp r2
          rw [e1] at g1; cases g1
          rw [e2] at g2; cases g2
          exact .inr ⟨a1, a2, vs1, vs2, f1, f2, s1, s2, by rw [q1.len, q2.len]; exact hl, post_new S (q1.append q2) p⟩
        · exact p.elim
      · exact p.elim
    | _ => exact p.elim
  | _ => exact p.elim
/-- * -/
def CMulA (i j : Int) : Prop := mulBad i j = false
theorem op_mulA : OpR X (binaryOp .Mult) (rI CMulA fun i j => .int (i * j)) := opI fun i j _ _ _ _ _ hc q => PyProof.Rows.mul_int q (by
  have hc' : mulBad i j = false := hc
  unfold IntMulOk; unfold mulBad at hc'; rw [hc']; exact Bool.false_ne_true)
theorem op_mulR : OpR X (binaryOp .Mult) (fun x y H Q => rI CMulA (fun i j => .int (i * j)) x y H Q ∨ rRep x y H Q) := op_mulA.or op_rep
theorem RDs.rep {as : List Addr} {H : Hp} {ds : List D} {vs : List V} (r : RDs W as H ds vs) : ∀ k : Nat, RDs W as H (List.replicate k ds).flatten (List.replicate k vs).flatten
  | 0 => RDs.nil
  | k + 1 => by rw [List.replicate_succ, List.replicate_succ, List.flatten_cons, List.flatten_cons]; exact r.append (RDs.rep r k)
theorem ov_mul : OpV W (fun x y H Q => rI CMulA (fun i j => .int (i * j)) x y H Q ∨ rRep x y H Q) vMul := fun XW σ as h H d1 d2 v1 v2 Q S r1 r2 p => by
  cases d1 with
  | int i =>
    cases d2 with
    | int j =>
      simp only [vMul] at p
      split at p
      · exact p.elim
      · rename_i hc
        exact .inl ⟨i, j, rd_int.mp r1, rd_int.mp r2, by simpa [CMulA] using hc, post_ok S (rd_int.mpr rfl) p⟩
    | _ => exact p.elim
  | ref i =>
    cases d2 with
    | int k =>
      simp only [vMul] at p
      split at p
      · rename_i a ea
        split at p
        · rename_i hl
          obtain ⟨a1, vs1, e1, s1, q1⟩ := S.lst ea
          obtain ⟨b1, f1, g1⟩ := rd_ref.mp r1
          rw [e1] at g1; cases g1
          exact .inr ⟨a1, k, vs1, f1, rd_int.mp r2, s1, hl.1, hl.2.1, by rw [q1.len]; exact hl.2.2, post_new S (q1.rep _) p⟩
        · exact p.elim
      · exact p.elim
    | _ => exact p.elim
  | _ => cases d2 <;> exact p.elim
end
end Nc

/-! NcD: ==, is, in, places, slices, len, str, int, isinstance, repr and their like. -/
namespace Nc
open PySem L2

/-! ### plain data of own values -/
mutual
def pyOf (f : Nat → Option PyData) : D → Option PyData
  | .non => some .none
  | .bl b => some (.bool b)
  | .int i => some (.int i)
  | .str s => some (.str s)
  | .tup ds => (pysOf f ds).map .tuple
  | .ref i => f i
  | .exc _ _ => none
def pysOf (f : Nat → Option PyData) : List D → Option (List PyData)
  | [] => some []
  | d :: ds => match pyOf f d, pysOf f ds with
    | some p, some ps => some (p :: ps)
    | _, _ => none
end
def refPy (h : Hs) : Nat → Nat → Option PyData
  | 0, _ => none
  | n + 1, i => match h[i]? with
    | some (.lst ds) => (pysOf (refPy h n) ds).map .list
    | some (.fro ds) => (pysOf (refPy h n) ds).map .list
    | some (.dct []) => some (.dict [])
    | _ => none
def toPy (h : Hs) (d : D) : Option PyData := pyOf (refPy h 24) d

section
variable {X : Cx} {W : Wd} {XW : WX} {σ : St} {as : List Addr} {H : Hp} {h : Hs}
/-- what the plain data says of the values, for data without dicts -/
theorem dp_of (f : Nat → Option PyData) (hf : ∀ (i : Nat) (a : Addr) (p : PyData), as[i]? = some a → f i = some p → p.hasDict = false → Dp W.K H (.ref a) p) :
    (∀ (d : D) (v : V) (p : PyData), RD W as H d v → pyOf f d = some p → p.hasDict = false → Dp W.K H v p) ∧ (∀ (ds : List D) (vs : List V) (ps : List PyData), RDs W as H ds vs → pysOf f ds = some ps → PyData.hasDictAll ps = false → DpAll W.K H vs ps) := by
  have key : ∀ n, (∀ (d : D), sizeOf d ≤ n → ∀ (v : V) (p : PyData), RD W as H d v → pyOf f d = some p → p.hasDict = false → Dp W.K H v p) ∧ (∀ (ds : List D), sizeOf ds ≤ n → ∀ (vs : List V) (ps : List PyData), RDs W as H ds vs → pysOf f ds = some ps → PyData.hasDictAll ps = false → DpAll W.K H vs ps) := by
    intro n
    induction n with
    | zero =>
      refine ⟨fun d hd => ?_, fun ds hd => ?_⟩
      · cases d <;> simp at hd
      · cases ds <;> simp at hd
    | succ n ih =>
      refine ⟨fun d hd v p r e nd => ?_, fun ds hd vs ps r e nd => ?_⟩
      · cases d with
        | non => rw [rd_non.mp r]; cases e; exact Dp.non
        | bl b => rw [rd_bl.mp r]; cases e; exact Dp.bl b
        | int i => rw [rd_int.mp r]; cases e; exact Dp.int i
        | str s => rw [rd_str.mp r]; cases e; exact Dp.str s
        | tup ds =>
          obtain ⟨a, vs, rfl, s, q⟩ := rd_tup.mp r
          simp only [pyOf] at e
          cases e2 : pysOf f ds with
          | none => rw [e2] at e; cases e
          | some ps =>
            rw [e2] at e
            cases e
            refine Dp.tup s (ih.2 ds ?_ vs ps q e2 ?_)
            · simp at hd; omega
            · simpa [PyData.hasDict] using nd
        | ref i =>
          obtain ⟨a, rfl, q⟩ := rd_ref.mp r
          exact hf i a p q e nd
        | exc c fs => cases e
      · cases ds with
        | nil => rw [r.inv_nil]; cases e; exact DpAll.nil
        | cons d ds =>
          obtain ⟨v, ws, rfl, r1, r2⟩ := r.inv_cons
          simp only [pysOf] at e
          cases e1 : pyOf f d with
          | none => rw [e1] at e; cases e
          | some p =>
            cases e2 : pysOf f ds with
            | none => rw [e1, e2] at e; cases e
            | some ps' =>
              rw [e1, e2] at e
              cases e
              simp only [PyData.hasDictAll, Bool.or_eq_false_iff] at nd
              simp at hd
              exact DpAll.cons (ih.1 d (by omega) v p r1 e1 nd.1) (ih.2 ds (by omega) ws ps' r2 e2 nd.2)
  exact ⟨fun d v p => (key _).1 d (Nat.le_refl _) v p, fun ds vs ps => (key _).2 ds (Nat.le_refl _) vs ps⟩
theorem Sim.dpRef (S : Sim W as h H) : ∀ (n i : Nat) (a : Addr) (p : PyData), as[i]? = some a → refPy h n i = some p → p.hasDict = false → Dp W.K H (.ref a) p
  | 0, _, _, _, _, e, _ => by cases e
  | n + 1, i, a, p, ha, e, nd => by
    have ih := S.dpRef n
    have nx := (dp_of (W := W) (as := as) (H := H) (refPy h n) ih).2
    unfold refPy at e
    cases q : h[i]? with
    | none => rw [q] at e; cases e
    | some o =>
      rw [q] at e
      obtain ⟨a', h1, h2⟩ := S.ob i o q
      rw [ha] at h1; cases h1
      cases o with
      | lst ds =>
        obtain ⟨vs, h2, h3⟩ := h2
        simp only at e
        cases e2 : pysOf (refPy h n) ds with
        | none => rw [e2] at e; cases e
        | some ps =>
          rw [e2] at e; cases e
          exact Dp.lst (SqL.of h2) (nx ds vs ps h3 e2 (by simpa [PyData.hasDict] using nd))
      | fro ds =>
        obtain ⟨vs, o, h2, h3⟩ := h2
        simp only at e
        cases e2 : pysOf (refPy h n) ds with
        | none => rw [e2] at e; cases e
        | some ps =>
          rw [e2] at e; cases e
          exact Dp.lst (.inl (.inr ⟨o, h2⟩)) (nx ds vs ps h3 e2 (by simpa [PyData.hasDict] using nd))
      | dct kvs =>
        cases kvs with
        | nil => cases e; simp [PyData.hasDict] at nd
        | cons _ _ => cases e
      | ins c fs => cases e
theorem Sim.dp (S : Sim W as h H) {d : D} {v : V} {p : PyData} (r : RD W as H d v) (e : toPy h d = some p) (nd : p.hasDict = false) : Dp W.K H v p :=
  (dp_of (refPy h 24) (S.dpRef 24)).1 d v p r e nd

/-! ### ==, != of data -/
def vEqB (x y : D) (h : Hs) (f : Bool → Bool) : Out D := match x, y with
  | .int a, .int b => .ok (.bl (f (a == b))) h
  | .str a, .str b => .ok (.bl (f (a == b))) h
  | x, y => match toPy h x, toPy h y with
    | some p, some q => if SeqAt.shaped p = true ∧ SeqAt.shaped q = true then .ok (.bl (f (PyData.eqv p q))) h else .err
    | _, _ => .err
def vEq (x y : D) (h : Hs) : Out D := vEqB x y h id
def vNe (x y : D) (h : Hs) : Out D := vEqB x y h (!·)
theorem shaped_noDict {p : PyData} (s : SeqAt.shaped p = true) : p.hasDict = false := PyData.hasDict_of_canLay p (SeqAt.canLay_of_shaped s)
def rEqA (K : PySem.W.Frag) : R2 := fun x y H Q => rEq x y H Q ∨ rEqD K x y H Q
def rNeA (K : PySem.W.Frag) : R2 := fun x y H Q => rNe x y H Q ∨ rNeD K x y H Q
theorem op_eqA (hu : X.A.units + 64 < cLine) : OpR X (compareOp .Eq) (rEqA X.K) := by
  intro pins s σ H x y v u Q I rx ry h
  rcases h with h | h
  · exact op_eq pins s σ H x y v u Q I rx ry h
  · exact op_eqD hu pins s σ H x y v u Q I rx ry h
theorem op_neA (hu : X.A.units + 64 < cLine) : OpR X (compareOp .NotEq) (rNeA X.K) := by
  intro pins s σ H x y v u Q I rx ry h
  rcases h with h | h
  · exact op_ne pins s σ H x y v u Q I rx ry h
  · exact op_neD hu pins s σ H x y v u Q I rx ry h
theorem ov_eq : OpV W (rEqA W.K) vEq := fun XW σ as h H d1 d2 v1 v2 Q S r1 r2 p => by
  unfold vEq vEqB at p
  split at p
  · rw [rd_int.mp r1, rd_int.mp r2]
    exact .inl ⟨rfl, by rw [dec_int]; exact post_ok S (rd_bl.mpr rfl) p⟩
  · rw [rd_str.mp r1, rd_str.mp r2]
    exact .inl ⟨rfl, by rw [dec_str]; exact post_ok S (rd_bl.mpr rfl) p⟩
  · split at p
    · rename_i a b ea eb
      split at p
      · rename_i c
        exact .inr ⟨a, b, S.dp r1 ea (shaped_noDict c.1), S.dp r2 eb (shaped_noDict c.2), c.1, c.2, post_ok S (rd_bl.mpr rfl) p⟩
      · exact p.elim
    · exact p.elim
theorem ov_ne : OpV W (rNeA W.K) vNe := fun XW σ as h H d1 d2 v1 v2 Q S r1 r2 p => by
  unfold vNe vEqB at p
  split at p
  · rw [rd_int.mp r1, rd_int.mp r2]
    exact .inl ⟨rfl, by rw [dec_int]; exact post_ok S (rd_bl.mpr rfl) p⟩
  · rw [rd_str.mp r1, rd_str.mp r2]
    exact .inl ⟨rfl, by rw [dec_str]; exact post_ok S (rd_bl.mpr rfl) p⟩
  · split at p
    · rename_i a b ea eb
      split at p
      · rename_i c
        exact .inr ⟨a, b, S.dp r1 ea (shaped_noDict c.1), S.dp r2 eb (shaped_noDict c.2), c.1, c.2, post_ok S (rd_bl.mpr rfl) p⟩
      · exact p.elim
    · exact p.elim

/-! ### is None, is a truth -/
def isNone : D → Bool
  | .non => true
  | _ => false
def vIsN (x y : D) (h : Hs) : Out D := match y with
  | .non => .ok (.bl (isNone x)) h
  | _ => .err
def vNotN (x y : D) (h : Hs) : Out D := match y with
  | .non => .ok (.bl (!isNone x)) h
  | _ => .err
theorem isNone_dec {d : D} {v : V} (r : RD W as H d v) : decide (v = .non) = isNone d := by
  cases d with
  | non => rw [rd_non.mp r]; rfl
  | bl b => rw [rd_bl.mp r]; rfl
  | int b => rw [rd_int.mp r]; rfl
  | str b => rw [rd_str.mp r]; rfl
  | tup b => obtain ⟨a, vs, rfl, _⟩ := rd_tup.mp r; rfl
  | ref b => obtain ⟨a, rfl, _⟩ := rd_ref.mp r; rfl
  | exc c fs => unfold RD at r; obtain ⟨a, rfl, _⟩ := r; rfl
theorem ov_isN : OpV W (fun x y H Q => y = .non ∧ Q (.bl (decide (x = .non))) H) vIsN := fun XW σ as h H d1 d2 v1 v2 Q S r1 r2 p => by
  cases d2 with
  | non => exact ⟨rd_non.mp r2, by rw [isNone_dec r1]; exact post_ok S (rd_bl.mpr rfl) p⟩
  | _ => exact p.elim
theorem ov_notN : OpV W (fun x y H Q => y = .non ∧ Q (.bl (!decide (x = .non))) H) vNotN := fun XW σ as h H d1 d2 v1 v2 Q S r1 r2 p => by
  cases d2 with
  | non => exact ⟨rd_non.mp r2, by rw [isNone_dec r1]; exact post_ok S (rd_bl.mpr rfl) p⟩
  | _ => exact p.elim
def vIsB (x y : D) (h : Hs) : Out D := match x, y with
  | .bl a, .bl b => .ok (.bl (decide (a = b))) h
  | _, _ => .err
theorem ov_isB : OpV W rIsB vIsB := fun XW σ as h H d1 d2 v1 v2 Q S r1 r2 p => by
  cases d1 with
  | bl a =>
    cases d2 with
    | bl b => exact ⟨a, b, rd_bl.mp r1, rd_bl.mp r2, post_ok S (rd_bl.mpr rfl) p⟩
    | _ => exact p.elim
  | _ => exact p.elim

/-! ### in, not in -/
def flatD : D → Option V
  | .non => some .non
  | .bl b => some (.bl b)
  | .int i => some (.int i)
  | .str s => some (.str s)
  | _ => none
def flatDs : List D → Option (List V)
  | [] => some []
  | d :: ds => match flatD d, flatDs ds with
    | some v, some vs => some (v :: vs)
    | _, _ => none
theorem flatD_ok {d : D} {v u : V} (r : RD W as H d v) (e : flatD d = some u) : v = u ∧ flatV u = true := by
  cases d with
  | non => cases e; exact ⟨rd_non.mp r, rfl⟩
  | bl b => cases e; exact ⟨rd_bl.mp r, rfl⟩
  | int b => cases e; exact ⟨rd_int.mp r, rfl⟩
  | str b => cases e; exact ⟨rd_str.mp r, rfl⟩
  | _ => cases e
theorem flatDs_ok : ∀ {ds : List D} {vs us : List V}, RDs W as H ds vs → flatDs ds = some us → vs = us ∧ us.all flatV = true
  | [], _, _, r, e => by cases e; exact ⟨r.inv_nil, rfl⟩
  | d :: ds, _, _, r, e => by
    obtain ⟨v, ws, rfl, r1, r2⟩ := r.inv_cons
    simp only [flatDs] at e
    split at e
    · rename_i a b ea eb
      cases e
      obtain ⟨rfl, f1⟩ := flatD_ok r1 ea
      obtain ⟨rfl, f2⟩ := flatDs_ok r2 eb
      exact ⟨rfl, by simp [f1, f2]⟩
    · cases e
def items (h : Hs) : D → Option (List D)
  | .tup ds => some ds
  | .ref i => getL h i
  | _ => none
def vInB (x y : D) (h : Hs) (f : Bool → Bool) : Out D := match x, y with
  | .str a, .str b => .ok (.bl (f (!(Builtin.Str.occurrences b a 0 b.length 1).isEmpty))) h
  | _, _ => match flatD x, (items h y).bind flatDs with
    | some v, some vs => .ok (.bl (f (inV v vs))) h
    | _, _ => .err
def vIn (x y : D) (h : Hs) : Out D := vInB x y h id
def vNotIn (x y : D) (h : Hs) : Out D := vInB x y h (!·)
theorem items_ok (S : Sim W as h H) {d : D} {v : V} {ds : List D} (r : RD W as H d v) (e : items h d = some ds) : ∃ a vs, v = .ref a ∧ (SqL W.K H a vs ∨ SqT W.K H a vs) ∧ RDs W as H ds vs := by
  cases d with
  | tup xs =>
    cases e
    obtain ⟨a, vs, e1, s, q⟩ := rd_tup.mp r
    exact ⟨a, vs, e1, .inr s, q⟩
  | ref i =>
    obtain ⟨a, e1, e2⟩ := rd_ref.mp r
    obtain ⟨b, vs, e3, s, q⟩ := S.rdl e
    rw [e2] at e3; cases e3
    exact ⟨a, vs, e1, .inl s, q⟩
  | _ => cases e
def rInA (K : PySem.W.Frag) (neg : Bool) : R2 := fun x y H Q => rIn K neg x y H Q ∨ ∃ i j, x = .str i ∧ y = .str j ∧ Q (.bl (if neg then !(!(Builtin.Str.occurrences j i 0 j.length 1).isEmpty) else !(Builtin.Str.occurrences j i 0 j.length 1).isEmpty)) H
theorem op_inA : OpR X (compareOp .In) (rInA X.K false) := fun pins s σ H x y v u Q I rx ry h => by
  rcases h with h | ⟨i, j, e1, e2, q⟩
  · exact op_in_seq pins s σ H x y v u Q I rx ry h
  · exact op_in_str pins s σ H x y v u Q I rx ry ⟨i, j, e1, e2, by simpa using q⟩
theorem op_notInA : OpR X (compareOp .NotIn) (rInA X.K true) := fun pins s σ H x y v u Q I rx ry h => by
  rcases h with h | ⟨i, j, e1, e2, q⟩
  · exact op_notIn_seq pins s σ H x y v u Q I rx ry h
  · exact op_notin_str pins s σ H x y v u Q I rx ry ⟨i, j, e1, e2, by simpa using q⟩
theorem vInB_cases {x y : D} {h : Hs} {f : Bool → Bool} : (∃ a b, x = .str a ∧ y = .str b ∧ vInB x y h f = .ok (.bl (f (!(Builtin.Str.occurrences b a 0 b.length 1).isEmpty))) h) ∨
    (∃ v ds vs, flatD x = some v ∧ items h y = some ds ∧ flatDs ds = some vs ∧ vInB x y h f = .ok (.bl (f (inV v vs))) h) ∨ vInB x y h f = .err := by
  have gen : (∃ v ds vs, flatD x = some v ∧ items h y = some ds ∧ flatDs ds = some vs ∧ (match flatD x, (items h y).bind flatDs with
    | some v, some vs => (.ok (.bl (f (inV v vs))) h : Out D)
    | _, _ => .err) = .ok (.bl (f (inV v vs))) h) ∨ (match flatD x, (items h y).bind flatDs with
    | some v, some vs => (.ok (.bl (f (inV v vs))) h : Out D)
    | _, _ => .err) = .err := by
    cases e1 : flatD x with
    | none => exact .inr rfl
    | some v =>
      cases e2 : items h y with
      | none => exact .inr rfl
      | some ds =>
        cases e3 : flatDs ds with
        | none => exact .inr (by simp [e3])
        | some vs => exact .inl ⟨v, ds, vs, rfl, rfl, e3, by simp [e3]⟩
  cases x with
  | str a =>
    cases y with
    | str b => exact .inl ⟨a, b, rfl, rfl, rfl⟩
    | _ => exact .inr gen
  | _ => exact .inr gen
theorem ov_in : OpV W (rInA W.K false) vIn := fun XW σ as h H d1 d2 v1 v2 Q S r1 r2 p => by
  rcases vInB_cases (x := d1) (y := d2) (h := h) (f := id) with ⟨a, b, rfl, rfl, e⟩ | ⟨v, ds, vs, e1, e2, e3, e⟩ | e
  · unfold vIn at p; rw [e] at p
    exact .inr ⟨a, b, rd_str.mp r1, rd_str.mp r2, by simpa using post_ok S (rd_bl.mpr rfl) p⟩
  · unfold vIn at p; rw [e] at p
    obtain ⟨a, ws, f1, f2, f3⟩ := items_ok S r2 e2
    obtain ⟨rfl, g1⟩ := flatD_ok r1 e1
    obtain ⟨rfl, g2⟩ := flatDs_ok f3 e3
    exact .inl ⟨a, _, f1, f2, g1, g2, by simpa using post_ok S (rd_bl.mpr rfl) p⟩
  · unfold vIn at p; rw [e] at p; exact p.elim
theorem ov_notIn : OpV W (rInA W.K true) vNotIn := fun XW σ as h H d1 d2 v1 v2 Q S r1 r2 p => by
  rcases vInB_cases (x := d1) (y := d2) (h := h) (f := (!·)) with ⟨a, b, rfl, rfl, e⟩ | ⟨v, ds, vs, e1, e2, e3, e⟩ | e
  · unfold vNotIn at p; rw [e] at p
    exact .inr ⟨a, b, rd_str.mp r1, rd_str.mp r2, by simpa using post_ok S (rd_bl.mpr rfl) p⟩
  · unfold vNotIn at p; rw [e] at p
    obtain ⟨a, ws, f1, f2, f3⟩ := items_ok S r2 e2
    obtain ⟨rfl, g1⟩ := flatD_ok r1 e1
    obtain ⟨rfl, g2⟩ := flatDs_ok f3 e3
    exact .inl ⟨a, _, f1, f2, g1, g2, by simpa using post_ok S (rd_bl.mpr rfl) p⟩
  · unfold vNotIn at p; rw [e] at p; exact p.elim

/-! ### places, slices -/
def vIx (x y : D) (h : Hs) : Out D := match x, y with
  | .str s, .int i => if s.length ≤ sizeLine then (match atI s.cps.toList i with
    | some c => .ok (.str ⟨#[c]⟩) h
    | none => .err) else .err
  | x, .int i => (match items h x with
    | some ds => (match atI ds i with
      | some d => .ok d h
      | none => .err)
    | none => .err)
  | _, _ => .err
theorem RDs.at {as : List Addr} {H : Hp} {ds : List D} {vs : List V} {i : Int} {d : D} (r : RDs W as H ds vs) (e : atI ds i = some d) : ∃ v, atI vs i = some v ∧ RD W as H d v := by
  unfold atI at e ⊢
  rw [r.len]
  cases q : ixN ds.length i with
  | none => rw [q] at e; cases e
  | some j =>
    rw [q] at e
    exact r.get e
theorem ov_ix : OpV W (rIx W.K) vIx := fun XW σ as h H d1 d2 v1 v2 Q S r1 r2 p => by
  have seq : ∀ {i : Int} {ds : List D}, d2 = .int i → items h d1 = some ds → Post W (RD W) XW σ as H Q (match atI ds i with
      | some d => .ok d h
      | none => .err) → rIx W.K v1 v2 H Q := fun {i ds} e2 e p' => by
    subst e2
    cases q : atI ds i with
    | none => rw [q] at p'; exact p'.elim
    | some d =>
      rw [q] at p'
      obtain ⟨a, vs, f1, f2, f3⟩ := items_ok S r1 e
      obtain ⟨v, g1, g2⟩ := f3.at q
      rcases f2 with f2 | f2
      · exact .inl ⟨a, vs, i, v, f1, rd_int.mp r2, f2, g1, post_ok S g2 p'⟩
      · exact .inr (.inl ⟨a, vs, i, v, f1, rd_int.mp r2, f2, g1, post_ok S g2 p'⟩)
  cases d2 with
  | int i =>
    cases d1 with
    | str s =>
      simp only [vIx] at p
      split at p
      · rename_i hl
        cases q : atI s.cps.toList i with
        | none => rw [q] at p; exact p.elim
        | some c =>
          rw [q] at p
          exact .inr (.inr ⟨s, i, c, rd_str.mp r1, rd_int.mp r2, hl, q, post_ok S (rd_str.mpr rfl) p⟩)
      · exact p.elim
    | tup xs => exact seq rfl rfl p
    | ref j =>
      simp only [vIx] at p
      cases q : items h (.ref j) with
      | none => rw [q] at p; exact p.elim
      | some ds => rw [q] at p; exact seq rfl q p
    | _ => exact p.elim
  | _ => cases d1 <;> exact p.elim
end
end Nc

/-! NcE: errors as values: classes over ValueError whose __init__ calls the base's and stores one field. -/
namespace L2
open PySem PySem.Spec PyProof.Rows
/-- what the written part says of an error's class -/
structure ExF (K : PySem.W.Frag) (C : Addr) : Prop where
  ox : OexC K C
  ga : PySem.W.findIn K (.ref C) "__getattribute__" = some (some (.builtin "BaseException.__getattribute__"))
  gg : PySem.W.findIn K (.ref C) "__getattr__" = some none
  kls : PySem.W.findIn K (.ref C) "__class__" = some (some (.builtin "object.__class__"))
  mo : PySem.W.mroIn K C (.type "object") = some true
  hd : PySem.W.hasDictIn K C = true
/-- the same of all: what object.__class__ is -/
structure ExK (K : PySem.W.Frag) : Prop where
  sp : PySem.W.specialIn K (.builtin "object.__class__") "__get__" = some (some (.builtin "getset_descriptor.__get__"))
  tk : PySem.W.takesIn K (.builtin "object.__class__") = some true
/-- a base whose __init__ is called by its name -/
structure BaseI (K : PySem.W.Frag) (mg : PySem.Str → Option Value) (x : PySem.Str) (B : Addr) : Prop where
  mg : mg x = some (.ref B)
  ga : PySem.W.specialIn K (.ref B) "__getattribute__" = some (some (.builtin "type.__getattribute__"))
  ty : PySem.W.typeIn K (.ref B) = some (.type "type")
  rd : PySem.W.readsIn K B (.type "type") = true
  fi : PySem.W.findCls K (.ref B) (.type "type") "__init__" = some (.val (.builtin "ValueError.__init__"))
section
variable {X : Cx} {o e : Expr} {es : List Expr} {to te : TE} {ta : TA} {f : PySem.Str} {p p' p1 p2 pos : Pos}
theorem pe_cinit {x : PySem.Str} {B : Addr} {pl : Sem Bool} (hb : BaseI X.K X.mg x B) (hg : Gl X x) (hdb : (x == ("__debug__" : PySem.Str)) = false) (ha : PA X (e :: es) ta)
    (hc : eval (.Call (.Attribute (.Name x p1) "__init__" p2) (e :: es) [] pos) X.env = (do
      let ov ← eval (.Name x p1) X.env
      standAt p2.atName
      let (f, first) ← holding [ov] (getMethod ov "__init__" pl)
      callWith pos f first (backTo pos (starEach (e :: es) X.env)) (backToKw pos (keywordEach [] X.env))) := by rfl)
    (he : starEach (e :: es) X.env = (false, eval e X.env) :: starEach es X.env := by rfl) (hpl : (backTo pos (starEach es X.env)).any (·.1) = false := by rfl) :
    PE X (.Call (.Attribute (.Name x p1) "__init__" p2) (e :: es) [] pos) (tVeI X.K ta) := by
  refine ⟨fun pins s σ H Q I h => ?_⟩
  refine PySem.W.methodCall_KW (ld_glob I hg hb.mg ?_ hdb) hc
  obtain ⟨m, fr⟩ := I.fr
  refine PySem.W.method_of_cls fr I.ok.mod.kin hb.ga (PySem.W.cls_val fr I.ok.mod.kin hb.ty hb.rd hb.fi (by decide +kernel) ?_)
  show wpAny _ _ (callWith pos (Value.builtin "ValueError.__init__") [] (backTo pos (starEach (e :: es) X.env)) []) _ _ _
  refine PyProof.Rows.callWith_method1 (thn (ha.run pos pins _ σ H _ (I.tok _) h) fun us s1 ⟨vs, H1, I1, r1, a, C, ws, ev, hl, T, ea, q⟩ => ?_) he hpl
  subst ev
  cases r1 with
  | @cons _ u0 _ ur ra rw' =>
    obtain rfl : u0 = Value.ref a := ra
    have hlen : ur.length ≤ sizeLine := by
      rw [← Paired.length rw', sizeLine_eq]
      omega
    exact oinit_ok T I1 ea hlen fun s' J => ⟨.non, H1, J, rfl, q⟩
/-- the promise of such an __init__ -/
def spXI (C : Addr) (f : PySem.Str) : Sp := fun vs H Q _ => ∃ (a : Addr) (v : V), vs = [.ref a, v] ∧ H a = some (exo a C none) ∧ ∀ dx, H dx = none → dx ≠ a → Q .non (upd (upd H dx (exd dx [(f, v)])) a (exo a C (some dx)))
/-- C(e, ..), the error kept as a value -/
def tMkX (C : Addr) (sp : Sp) (ta : TA) : TE := fun σ H Q => ta σ H fun vs H1 => vs.length ≤ 1000 ∧ ∀ a, H1 a = none → sp (.ref a :: vs) (upd H1 a (exo a C none)) (fun v H2 => v = .non ∧ Q (.ref a) H2) (fun _ _ _ => False)
theorem pe_mkX {CX : CXT} {x : PySem.Str} {C fI : Addr} {k : Nat} {fd : FuncData} {ps : List PySem.Str} {sp : Sp} (T : OexC X.K C) (iC : PySem.W.findIn X.K (.ref C) "__init__" = some (some (.ref fI))) (tI : PySem.W.typeIn X.K (.ref fI) = some (.type "function"))
    (F1 : FnOk X.prog X.w X.K X.mg X.base CX k fI fd ps sp) (hr : Room (k + 1) X.A) (hb : Binds X.K fd ps []) (hx : Passes CX X (fun _ _ _ => False)) (hg : Gl X x) (hm : X.mg x = some (.ref C)) (ha : PA X (e :: es) ta)
    (hdb : (x == ("__debug__" : PySem.Str)) = false) (he : starEach (e :: es) X.env = (false, eval e X.env) :: starEach es X.env := by rfl) (hpl : (backTo pos (starEach es X.env)).any (·.1) = false := by rfl) :
    PE X (.Call (.Name x p) (e :: es) [] pos) (tMkX C sp ta) := by
  refine ⟨fun pins s σ H Q I h => ?_⟩
  obtain ⟨nm, q, N, bs, bm, sn, sub, ab, col, dd, k0, k1, k2, k3, k5, hC, hbm⟩ := T.cls
  refine wpAny_Call_Name_kw (ld_glob I hg hm ?_ hdb)
  refine PySem.W.callWith_K (h₀ := X.base) I.ok.mod.kin T.kC (thn (ha.run pos pins s σ H _ I h) fun us s1 ⟨vs, H1, I1, r1, hz, q1⟩ => ⟨I1.kIn, ?_⟩) he hpl
  show wpAny _ _ (call (.ref C) us) _ _ _
  obtain ⟨hp, g, dr, tk, os⟩ := s1
  have hsz : hp.objs.size ≤ hp.objs.size + 1 := Nat.le_succ _
  have hn : H1 (hp.objs.size + 1) = none := I1.hok.fresh hsz
  have hq := q1 (hp.objs.size + 1) hn
  have kk : ∀ b o, hp.get? b = some o → ((hp.push (PySem.W.kdv_tup us)).push (PySem.HandSPX.excO C hp.objs.size)).get? b = some o := fun b o e => Heap.get?_push_of_some _ (Heap.get?_push_of_some _ e)
  have hget : ((hp.push (PySem.W.kdv_tup us)).push (PySem.HandSPX.excO C hp.objs.size)).get? (hp.objs.size + 1) = some (PySem.HandSPX.excO C hp.objs.size) := by heap_get
  have I2 : Inv X pins σ (upd H1 (hp.objs.size + 1) (exo (hp.objs.size + 1) C none)) ⟨(hp.push (PySem.W.kdv_tup us)).push (PySem.HandSPX.excO C hp.objs.size), g, dr, tk, os⟩ :=
    I1.laid (t' := tk) (a := hp.objs.size + 1) (o := exo (hp.objs.size + 1) C none) (h' := (hp.push (PySem.W.kdv_tup us)).push (PySem.HandSPX.excO C hp.objs.size)) kk hsz (exo_ok hget)
  have r2 : Vals (V.ref (hp.objs.size + 1) :: vs) (Value.ref (hp.objs.size + 1) :: us) := .cons rfl r1
  have hl : (Value.ref (hp.objs.size + 1) :: us).length = ps.length := by
    have e := r2.length
    rw [F1.len _ _ _ _ hq] at e
    exact e.symm
  have hus : us.length ≤ sizeLine := by
    rw [← Paired.length r1, sizeLine_eq]
    omega
  have bb := hb ⟨(hp.push (PySem.W.kdv_tup us)).push (PySem.HandSPX.excO C hp.objs.size), g, dr, tk, os⟩ (Value.ref (hp.objs.size + 1) :: us) I2.kIn (by rw [List.append_nil]; exact hl)
  rw [List.append_nil] at bb
  refine wpAny_call (PySem.HandSPX.call_own F.excBase_ValueError (fun Y => PySem.HandSPX.refsVE_contains Y bm hbm) (I1.kIn _ _ hC) (PySem.W.looks_findIn I1.kIn iC) (fun self => PySem.W.bind_fn I1.kIn self tI) hus
    (codeAny_mono (F1.run _ X.stack _ _ ⟨Value.ref (hp.objs.size + 1) :: us, []⟩ (Value.ref (hp.objs.size + 1) :: us) _ _ (fun _ _ _ => False) (hr.make C us []) (I2.env0.make C us []) bb r2 hq) fun r s' hq' => ?_))
  cases r with
  | error er => exact hx pins σ _ _ er s' I2 hq'
  | ok fl =>
    cases fl with
    | ret u =>
      obtain ⟨v, H2, I3, rv, ev, q3⟩ := I2.after hq'
      subst ev
      exact ⟨rv, ⟨V.ref (hp.objs.size + 1), H2, I3, rfl, q3⟩⟩
    | next => exact False.elim hq'
    | brk => exact False.elim hq'
    | cont => exact False.elim hq'
/-- e.f of such a value -/
def tXf (K : PySem.W.Frag) (ta : TE) (f : PySem.Str) : TE := fun σ H Q => ta σ H fun x H1 => ∃ a C dx fs v, x = .ref a ∧ H1 a = some (exo a C (some dx)) ∧ H1 dx = some (exd dx fs) ∧ ExF K C ∧ PySem.W.findIn K (.ref C) f = some none ∧ fs.lookup f = some v ∧ Q v H1
theorem xf_ok {pins : List (Addr × Obj)} {σ : St} {H : Hp} {s : Shared} {a C dx : Addr} {fs : List (PySem.Str × V)} {v : V} {b : Bool} {A : Around} {E : Value → Shared → Prop} {Q : Value → Shared → Prop} (I : Inv X pins σ H s) (ea : H a = some (exo a C (some dx))) (ed : H dx = some (exd dx fs)) (T : ExF X.K C)
    (hno : PySem.W.findIn X.K (.ref C) f = some none) (hl : fs.lookup f = some v) (h : ∀ u tk, RelV v u → Q u { s with toks := tk }) : wpAny (model X.prog X.w) A (getAttr (.ref a) f b) Q E s := by
  obtain ⟨t1, ho⟩ := exo_at I.hok ea
  obtain ⟨mA, hns, rel⟩ := exd_at I.hok ed
  obtain ⟨od, hod, hlk⟩ := lookIn_ns hns
  have r := rel f
  rw [hl] at r
  obtain ⟨u, hu, ru⟩ := RelO.some_of r
  refine PySem.HandSPX.exc_get I.kIn (od := some od) ⟨ho, rfl, rfl, hod⟩ T.ga T.gg T.ox.exC ?_ (handed_of ru) (h u _ ru)
  exact PySem.W.findObj_own T.hd hno rfl (by rw [hlk f, hu])
theorem pe_xf (he : PE X o te) (hb : attributeBase o f X.env (eval o X.env) = eval o X.env) : PE X (.Attribute o f pos) (tXf X.K te f) := by
  refine ⟨fun pins s σ H Q I h => ?_⟩
  refine attr_of hb (thn (he.run pins s σ H _ I h) fun u s1 ⟨x, H1, I1, rx, a, C, dx, fs, v, ex, ea, ed, T, hno, hl, q⟩ => ?_)
  subst ex
  obtain rfl : u = Value.ref a := rx
  exact xf_ok I1 ea ed T hno hl fun u tk ru => ⟨v, H1, I1.tok tk, ru, q⟩
end
/-- a value's type, errors too -/
def TyE (K : PySem.W.Frag) (H : Hp) (x : V) (t : Value) : Prop := TyX K H x t ∨ ∃ a C d, x = .ref a ∧ t = .ref C ∧ ExF K C ∧ ExK K ∧ H a = some (exo a C d) ∧ ∀ dx, d = some dx → ∃ fs, H dx = some (exd dx fs)
section
variable {X : Cx} {pins : List (Addr × Obj)} {σ : St} {H : Hp} {s : Shared}
theorem kit_ofE {x : V} {u t : Value} (I : Inv X pins σ H s) (rx : RelV x u) (ty : TyE X.K H x t) : ∃ P : Heap → Prop, PySem.W.KitX X.K u t P ∧ P s.heap ∧ u ≠ .builtin "__main__.__loader__#opaque" := by
  rcases ty with ty | ⟨a, C, d, rfl, rfl, T, K, ea, ed⟩
  · exact kit_of I rx ty
  · cases (show u = Value.ref a from rx)
    obtain ⟨t1, ho⟩ := exo_at I.hok ea
    obtain ⟨nm, q, N, bs, bm, sn, sub, ab, col, dd, k0, k1, k2, k3, k5, hC, hbm⟩ := T.ox.cls
    have hcl : (PySem.W.clsIn X.K C).isSome = true := by unfold PySem.W.clsIn; rw [hC]; rfl
    cases d with
    | none => exact ⟨_, PySem.W.kitx_exc (od := none) hcl T.ga T.gg T.ox.exC T.kls K.sp K.tk T.mo, ⟨ho, rfl, rfl, trivial⟩, fun z => nomatch z⟩
    | some dx =>
      obtain ⟨fs, hdx⟩ := ed dx rfl
      obtain ⟨mA, hns, rel⟩ := exd_at I.hok hdx
      obtain ⟨od, hod, hlk⟩ := lookIn_ns hns
      exact ⟨_, PySem.W.kitx_exc (od := some od) hcl T.ga T.gg T.ox.exC T.kls K.sp K.tk T.mo, ⟨ho, rfl, rfl, hod⟩, fun z => nomatch z⟩
def rIsE (K : PySem.W.Frag) : List V → Hp → VK → Prop := fun xs H Q => ∃ (x c : V) (t u : Value) (b : Bool), xs = [x, c] ∧ ClsV c u ∧ TyE K H x t ∧ PySem.W.kitOne K t u = some b ∧ Q (.bl b) H
def rIsET (K : PySem.W.Frag) : List V → Hp → VK → Prop := fun xs H Q => ∃ (x : V) (tp : Addr) (cs : List V) (t : Value) (us : List Value) (b : Bool), xs = [x, .ref tp] ∧ H tp = some (.tup cs) ∧ Paired ClsV cs us ∧ TyE K H x t ∧ PySem.W.kitAny K t us = some b ∧ Q (.bl b) H
theorem call_isE : CallR X (.builtin "isinstance") (rIsE X.K) := by
  intro pins s σ H xs us Q I r h
  obtain ⟨x, c, t, u, b, rfl, k, ty, e, q⟩ := h
  obtain ⟨u1, u2, rfl, r1, r2⟩ := vals2 r
  have e2 := k.eq r2
  subst e2
  obtain ⟨P, Z, p, hx⟩ := kit_ofE I r1 ty
  exact PySem.W.kia_one Z I.kIn p e hx fun tk => ⟨.bl b, H, I.tok tk, rfl, q⟩
theorem call_isET : CallR X (.builtin "isinstance") (rIsET X.K) := by
  intro pins s σ H xs us Q I r h
  obtain ⟨x, tp, cs, t, ws, b, rfl, hT, k, ty, e, q⟩ := h
  obtain ⟨u1, u2, rfl, r1, r2⟩ := vals2 r
  cases (show u2 = Value.ref tp from r2)
  obtain ⟨P, Z, p, hx⟩ := kit_ofE I r1 ty
  obtain ⟨_, its, rv, o, h1, h2, n, h3⟩ := (show ObjOk X.prog X.w H s.heap tp (.tup cs) from I.hok tp _ hT)
  have e3 := ClsV.all k rv
  subst e3
  obtain ⟨oc, od, dt, sl⟩ := o
  simp only at h2 h3
  subst h2 h3
  exact PySem.W.kia_tup Z I.kIn p h1 e hx fun tk => ⟨.bl b, H, I.tok tk, rfl, q⟩
end
end L2

/-! NcF: built-in functions over own values: len, abs, max, min, int, str, repr, isinstance, tuple, list; slices; methods of lists. -/
namespace Nc
open PySem L2

section
variable {X : Cx} {W : Wd} {XW : WX} {σ : St} {as : List Addr} {H : Hp} {h : Hs}
theorem rds1 {d : D} {vs : List V} (r : RDs W as H [d] vs) : ∃ v, vs = [v] ∧ RD W as H d v := by
  obtain ⟨v, ws, rfl, r1, r2⟩ := r.inv_cons
  rw [r2.inv_nil]; exact ⟨v, rfl, r1⟩
theorem rds2 {d e : D} {vs : List V} (r : RDs W as H [d, e] vs) : ∃ v w, vs = [v, w] ∧ RD W as H d v ∧ RD W as H e w := by
  obtain ⟨v, ws, rfl, r1, r2⟩ := r.inv_cons
  obtain ⟨w, rfl, r3⟩ := rds1 r2
  exact ⟨v, w, rfl, r1, r3⟩
/-! ### len, abs, max, min, int -/
def vLen (ds : List D) (h : Hs) : Out D := match ds with
  | [.str s] => if s.length ≤ sizeLine then .ok (.int s.length) h else .err
  | [d] => (match items h d with
    | some xs => .ok (.int xs.length) h
    | none => .err)
  | _ => .err
theorem cv_len : CaV W (fun xs H Q => ∃ x n, xs = [x] ∧ LenV W.K x H n ∧ Q (.int n) H) vLen := fun XW σ as h H ds vs Q S r p => by
  match ds, r, p with
  | [.str s], r, p =>
    obtain ⟨v, rfl, r1⟩ := rds1 r
    simp only [vLen] at p
    split at p
    · rename_i hl
      rw [rd_str.mp r1]
      exact ⟨.str s, s.length, rfl, ⟨hl, rfl⟩, post_ok S (rd_int.mpr rfl) p⟩
    · exact p.elim
  | [.tup xs], r, p =>
    obtain ⟨v, rfl, r1⟩ := rds1 r
    obtain ⟨a, ws, rfl, hq, q⟩ := rd_tup.mp r1
    refine ⟨_, xs.length, rfl, ?_, post_ok S (rd_int.mpr rfl) p⟩
    exact .inr ⟨ws, hq, q.len.symm⟩
  | [.ref i], r, p =>
    obtain ⟨v, rfl, r1⟩ := rds1 r
    simp only [vLen] at p
    cases e : items h (.ref i) with
    | none => rw [e] at p; exact p.elim
    | some xs =>
      rw [e] at p
      obtain ⟨a, ws, rfl, hq, q⟩ := items_ok S r1 e
      rcases hq with hq | hq
      · exact ⟨_, xs.length, rfl, .inl ⟨ws, hq, q.len.symm⟩, post_ok S (rd_int.mpr rfl) p⟩
      · exact ⟨_, xs.length, rfl, .inr ⟨ws, hq, q.len.symm⟩, post_ok S (rd_int.mpr rfl) p⟩
  | [.non], _, p | [.bl _], _, p | [.int _], _, p | [.exc _ _], _, p => exact p.elim
  | [], _, p => exact p.elim
  | _ :: _ :: _, _, p => simp only [vLen] at p; exact p.elim
def vAbs (ds : List D) (h : Hs) : Out D := match ds with
  | [.int i] => .ok (.int (if i < 0 then -i else i)) h
  | _ => .err
theorem cv_abs : CaV W (fun xs H Q => ∃ i, xs = [.int i] ∧ Q (.int (if i < 0 then -i else i)) H) vAbs := fun XW σ as h H ds vs Q S r p => by
  unfold vAbs at p
  split at p
  · obtain ⟨v, rfl, r1⟩ := rds1 r
    exact ⟨_, by rw [rd_int.mp r1], post_ok S (rd_int.mpr rfl) p⟩
  · exact p.elim
def vMax (ds : List D) (h : Hs) : Out D := match ds with
  | [.int i, .int j] => .ok (.int (if j > i then j else i)) h
  | _ => .err
def vMin (ds : List D) (h : Hs) : Out D := match ds with
  | [.int i, .int j] => .ok (.int (if j < i then j else i)) h
  | _ => .err
theorem cv_max : CaV W (fun xs H Q => ∃ i j, xs = [.int i, .int j] ∧ Q (.int (if j > i then j else i)) H) vMax := fun XW σ as h H ds vs Q S r p => by
  unfold vMax at p
  split at p
  · obtain ⟨v, w, rfl, r1, r2⟩ := rds2 r
    exact ⟨_, _, by rw [rd_int.mp r1, rd_int.mp r2], post_ok S (rd_int.mpr rfl) p⟩
  · exact p.elim
theorem cv_min : CaV W (fun xs H Q => ∃ i j, xs = [.int i, .int j] ∧ Q (.int (if j < i then j else i)) H) vMin := fun XW σ as h H ds vs Q S r p => by
  unfold vMin at p
  split at p
  · obtain ⟨v, w, rfl, r1, r2⟩ := rds2 r
    exact ⟨_, _, by rw [rd_int.mp r1, rd_int.mp r2], post_ok S (rd_int.mpr rfl) p⟩
  · exact p.elim
def vInt (ds : List D) (h : Hs) : Out D := match ds with
  | [.int i] => .ok (.int i) h
  | [.bl k] => .ok (.int (if k then 1 else 0)) h
  | [.str s] => (match PySem.intText? s with
    | some n => if s.length ≤ 640 then .ok (.int n) h else .err
    | none => .err)
  | _ => .err
def rIntA : List V → Hp → VK → Prop := fun xs H Q => ((∃ i, xs = [.int i] ∧ Q (.int i) H) ∨ ∃ k, xs = [.bl k] ∧ Q (.int (if k then 1 else 0)) H) ∨ ∃ s n, xs = [.str s] ∧ PySem.intText? s = some n ∧ s.length ≤ 640 ∧ Q (.int n) H
theorem call_intA : CallR X (.type "int") rIntA := fun pins s σ H vs us Q I r h => by
  rcases h with h | ⟨z, n, e1, e2, e3, q⟩
  · exact call_int1 pins s σ H vs us Q I r h
  · exact call_int_str pins s σ H vs us Q I r ⟨z, n, e1, e2, e3, q⟩
theorem cv_int : CaV W rIntA vInt := fun XW σ as h H ds vs Q S r p => by
  unfold vInt at p
  split at p
  · obtain ⟨v, rfl, r1⟩ := rds1 r
    exact .inl (.inl ⟨_, by rw [rd_int.mp r1], post_ok S (rd_int.mpr rfl) p⟩)
  · obtain ⟨v, rfl, r1⟩ := rds1 r
    exact .inl (.inr ⟨_, by rw [rd_bl.mp r1], post_ok S (rd_int.mpr rfl) p⟩)
  · obtain ⟨v, rfl, r1⟩ := rds1 r
    split at p
    · rename_i n e
      split at p
      · rename_i hl
        exact .inr ⟨_, n, by rw [rd_str.mp r1], e, hl, post_ok S (rd_int.mpr rfl) p⟩
      · exact p.elim
    · exact p.elim
  · exact p.elim
def vStrI (ds : List D) (h : Hs) : Out D := match ds with
  | [.int i] => if i.natAbs.log2 < 1920 then .ok (.str (toString i)) h else .err
  | _ => .err
theorem cv_strI : CaV W (fun xs H Q => ∃ i : Int, xs = [.int i] ∧ i.natAbs.log2 < 1920 ∧ Q (.str (toString i)) H) vStrI := fun XW σ as h H ds vs Q S r p => by
  unfold vStrI at p
  split at p
  · split at p
    · rename_i hl
      obtain ⟨v, rfl, r1⟩ := rds1 r
      exact ⟨_, by rw [rd_int.mp r1], hl, post_ok S (rd_str.mpr rfl) p⟩
    · exact p.elim
  · exact p.elim
/-! ### tuple, list of a list or a tuple -/
def vTupOf (ds : List D) (h : Hs) : Out D := match ds with
  | [d] => (match items h d with
    | some xs => .ok (.tup xs) h
    | none => .err)
  | _ => .err
theorem cv_tupOf : CaV W (fun xs H Q => ∃ p ys, xs = [.ref p] ∧ ((SqL W.K H p ys ∧ ∀ l, H l = none → Q (.ref l) (upd H l (.tup ys))) ∨ (SqT W.K H p ys ∧ Q (.ref p) H))) vTupOf := fun XW σ as h H ds vs Q S r p => by
  unfold vTupOf at p
  split at p
  · rename_i d
    obtain ⟨v, rfl, r1⟩ := rds1 r
    cases e : items h d with
    | none => rw [e] at p; exact p.elim
    | some xs =>
      rw [e] at p
      obtain ⟨a, ws, rfl, hq, q⟩ := items_ok S r1 e
      rcases hq with hq | hq
      · exact ⟨a, ws, rfl, .inl ⟨hq, post_newT S q p⟩⟩
      · exact ⟨a, ws, rfl, .inr ⟨hq, post_ok S (rd_tup.mpr ⟨a, ws, rfl, hq, q⟩) p⟩⟩
  · exact p.elim
def vLstOf (ds : List D) (h : Hs) : Out D := match ds with
  | [d] => (match items h d with
    | some xs => .ok (.ref h.length) (h ++ [.lst xs])
    | none => .err)
  | _ => .err
theorem cv_lstOf : CaV W (fun xs H Q => ∃ p ys, xs = [.ref p] ∧ (SqL W.K H p ys ∨ SqT W.K H p ys) ∧ ∀ l, H l = none → Q (.ref l) (upd H l (.lst ys))) vLstOf := fun XW σ as h H ds vs Q S r p => by
  unfold vLstOf at p
  split at p
  · rename_i d
    obtain ⟨v, rfl, r1⟩ := rds1 r
    cases e : items h d with
    | none => rw [e] at p; exact p.elim
    | some xs =>
      rw [e] at p
      obtain ⟨a, ws, rfl, hq, q⟩ := items_ok S r1 e
      exact ⟨a, ws, rfl, hq, post_new S q p⟩
  · exact p.elim
/-! ### repr -/
def DpR (K : PySem.W.Frag) (H : Hp) (v : V) (p : PyData) : Prop := Dp K H v p ∧ p.hasDict = false ∨ ∃ a, v = .ref a ∧ H a = some (.dK []) ∧ p = .dict []
def rRepr (K : PySem.W.Frag) : List V → Hp → VK → Prop := fun xs H Q => ∃ v p, xs = [v] ∧ DpR K H v p ∧ p.showable = true ∧ p.depth ≤ 40 ∧ p.shown.length ≤ sizeLine ∧ Q (.str p.shown) H
theorem call_reprA (hg : X.A.guards = some []) (hu : X.A.units + 64 < cLine) : CallR X (.builtin "repr") (rRepr X.K) := fun pins s σ H vs us Q I r h => by
  obtain ⟨v, p, rfl, hd, sh, dp, hz, q⟩ := h
  obtain ⟨u, rfl, ru⟩ := vals1 r
  have byReads : ∀ {a : Addr} {as : List Addr}, u = .ref a → Reads s.heap u p as → (p.hasDict = true → sysModules ∉ as) → wpAny (model X.prog X.w) X.A (call (.builtin "repr") [u]) (EP X pins σ Q) X.xe s := fun {a as} e rd hm => by
    subst e
    refine repr_of_reads' rd sh hm hg (by omega) (fun _ _ z => z) (fun h' t tk k => ?_) hz
    exact ⟨.str p.shown, H, I.kept k, ⟨t, rfl⟩, q⟩
  rcases hd with ⟨hd, nd⟩ | ⟨a, rfl, ha, rfl⟩
  · obtain ⟨as, rd⟩ := Dp.reads I p v u hd ru
    cases rd with
    | none =>
      simp only [PyData.shown] at q
      exact P.repr_of_none ⟨.str _, H, I.tok _, ⟨_, rfl⟩, q⟩
    | bool b =>
      simp only [PyData.shown] at q
      exact P.repr_of_bool ⟨.str _, H, I.tok _, ⟨_, rfl⟩, q⟩
    | int i t =>
      simp only [PyData.shown] at q
      exact P.repr_of_int (by simpa [PyData.showable] using sh) ⟨.str _, H, I.tok _, ⟨_, rfl⟩, q⟩
    | str x t =>
      simp only [PyData.shown] at q hz
      exact P.repr_of_str ⟨.str _, H, I.tok _, ⟨_, rfl⟩, q⟩ hz
    | list h1 h2 h3 h4 => exact byReads rfl (.list h1 h2 h3 h4) (PyData.noDict_hsm nd)
    | tuple h1 h2 h3 h4 => exact byReads rfl (.tuple h1 h2 h3 h4) (PyData.noDict_hsm nd)
    | dict h1 h2 h3 h4 h5 => exact byReads rfl (.dict h1 h2 h3 h4 h5) (PyData.noDict_hsm nd)
  · cases (show u = Value.ref a from ru)
    obtain ⟨_, hs, vs, kv, o, es, ep, ho, hx, hdt, _, he, _⟩ := (show ObjOk X.prog X.w H s.heap a (.dK []) from I.hok a _ ha)
    cases kv
    have e0 : es.toList = [] := by
      generalize es.toList = l at he
      cases he; rfl
    have rd : Reads s.heap (.ref a) (.dict []) (a :: [] ++ []) := by
      refine Reads.dict (es := es) ho hx.1 hdt ?_ ?_
      · rw [e0]; exact ReadsAll.nil
      · rw [e0]; exact ReadsAll.nil
    exact byReads rfl rd (fun _ => by simp; exact fun z => by rw [← z] at hs; simp at hs)
def isDct (h : Hs) : D → Bool
  | .ref i => (match h[i]? with
    | some (.dct []) => true
    | _ => false)
  | _ => false
def vRepr (ds : List D) (h : Hs) : Out D := match ds with
  | [d] => (match toPy h d with
    | some p => if p.showable = true ∧ p.depth ≤ 40 ∧ p.shown.length ≤ sizeLine ∧ (p.hasDict = false ∨ isDct h d = true) then .ok (.str p.shown) h else .err
    | none => .err)
  | _ => .err
theorem cv_repr : CaV W (rRepr W.K) vRepr := fun XW σ as h H ds vs Q S r p => by
  unfold vRepr at p
  split at p
  · rename_i d
    obtain ⟨v, rfl, r1⟩ := rds1 r
    cases e : toPy h d with
    | none => rw [e] at p; exact p.elim
    | some y =>
      rw [e] at p
      simp only at p
      split at p
      · rename_i c
        obtain ⟨c1, c2, c3, c4⟩ := c
        refine ⟨v, y, rfl, ?_, c1, c2, c3, post_ok S (rd_str.mpr rfl) p⟩
        rcases c4 with c4 | c4
        · exact .inl ⟨S.dp r1 e c4, c4⟩
        · cases d with
          | ref i =>
            simp only [isDct] at c4
            split at c4
            · rename_i q
              obtain ⟨a, e1, e2⟩ := rd_ref.mp r1
              obtain ⟨b, e3, _, e4⟩ := S.ob i _ q
              rw [e2] at e3; cases e3
              refine .inr ⟨a, e1, e4, ?_⟩
              unfold toPy pyOf refPy at e
              rw [q] at e
              cases e; rfl
            · cases c4
          | _ => cases c4
      · exact p.elim
  · exact p.elim
end
end Nc

/-! NcG: isinstance, attributes; statements. -/
namespace Nc
open PySem L2

/-! ### classes -/
inductive Ty where
  | non | bool | int | str | list | tuple | dict | verr
  deriving DecidableEq
def Ty.name : Ty → String
  | .non => "NoneType" | .bool => "bool" | .int => "int" | .str => "str" | .list => "list" | .tuple => "tuple" | .dict => "dict" | .verr => "ValueError"
inductive Cl where
  | ty (t : Ty) | own (c : Nat)
  deriving DecidableEq
/-- the own classes: how many, which stands under which, which are errors, an error's field -/
structure Ci where
  n : Nat
  sub : Nat → Nat → Bool
  isEx : Nat → Bool
  fld : Nat → PySem.Str
def isA (ci : Ci) : Cl → Cl → Bool
  | .ty a, .ty b => a == b || (a == .bool && b == .int)
  | .ty _, .own _ => false
  | .own c, .own d => ci.sub c d
  | .own c, .ty t => t == .verr && ci.isEx c
def Ci.has (ci : Ci) : Cl → Bool
  | .ty _ => true
  | .own c => decide (c < ci.n)
def Cl.val (W : Wd) : Cl → Value
  | .ty t => .type t.name
  | .own c => .ref (W.cls c)
def Cl.v (W : Wd) : Cl → V
  | .ty t => .ty t.name
  | .own c => .ref (W.cls c)
theorem Cl.rel (W : Wd) (c : Cl) : RelV (c.v W) (c.val W) := by cases c <;> exact rfl
theorem Cl.clsV (W : Wd) (c : Cl) : ClsV (c.v W) (c.val W) := by
  cases c with
  | ty t => exact ClsV.ty _
  | own c => exact ClsV.own _
/-- an own class whose instances are no errors -/
structure InF (K : PySem.W.Frag) (C : Addr) : Prop where
  cl : Cls K C
  kls : PySem.W.findIn K (.ref C) "__class__" = some (some (.builtin "object.__class__"))
  mo : PySem.W.mroIn K C (.type "object") = some true
structure WdOk (W : Wd) (ci : Ci) : Prop where
  fld : W.fld = ci.fld
  exk : ExK W.K
  ex : ∀ c, c < ci.n → ci.isEx c = true → ExF W.K (W.cls c)
  nofld : ∀ c, c < ci.n → ci.isEx c = true → PySem.W.findIn W.K (.ref (W.cls c)) (ci.fld c) = some none
  ins : ∀ c, c < ci.n → ci.isEx c = false → InF W.K (W.cls c)
  kit : ∀ t c, ci.has t = true → ci.has c = true → PySem.W.kitOne W.K (t.val W) (c.val W) = some (isA ci t c)
def tagOf (ci : Ci) (h : Hs) : D → Option Cl
  | .non => some (.ty .non)
  | .bl _ => some (.ty .bool)
  | .int _ => some (.ty .int)
  | .str _ => some (.ty .str)
  | .tup _ => some (.ty .tuple)
  | .exc c _ => if c < ci.n ∧ ci.isEx c = true then some (.own c) else none
  | .ref i => match h[i]? with
    | some (.lst _) => some (.ty .list)
    | some (.fro _) => some (.ty .list)
    | some (.dct _) => some (.ty .dict)
    | some (.ins c _) => if c < ci.n ∧ ci.isEx c = false then some (.own c) else none
    | none => none
section
variable {X : Cx} {W : Wd} {ci : Ci} {XW : WX} {σ : St} {as : List Addr} {H : Hp} {h : Hs}
theorem sqT_ty {a : Addr} {vs : List V} (s : SqT W.K H a vs) : TyX W.K H (.ref a) (.type "tuple") := by
  rcases s with (s | ⟨o, s⟩) | ⟨o, its, n, s, c, _⟩
  · exact .base (.tup s)
  · exact .fTuple s
  · exact .kTuple s c
theorem tagOf_ok (O : WdOk W ci) (S : Sim W as h H) {d : D} {v : V} {t : Cl} (r : RD W as H d v) (e : tagOf ci h d = some t) : ci.has t = true ∧ TyE W.K H v (t.val W) := by
  cases d with
  | non => cases e; rw [rd_non.mp r]; exact ⟨rfl, .inl (.base .non)⟩
  | bl b => cases e; rw [rd_bl.mp r]; exact ⟨rfl, .inl (.base (.bl b))⟩
  | int b => cases e; rw [rd_int.mp r]; exact ⟨rfl, .inl (.base (.int b))⟩
  | str b => cases e; rw [rd_str.mp r]; exact ⟨rfl, .inl (.base (.str b))⟩
  | tup b =>
    cases e
    obtain ⟨a, vs, rfl, s, _⟩ := rd_tup.mp r
    exact ⟨rfl, .inl (sqT_ty s)⟩
  | exc c fs =>
    simp only [tagOf] at e
    split at e
    · rename_i k
      cases e
      refine ⟨by simp [Ci.has, k.1], .inr ?_⟩
      unfold RD at r
      obtain ⟨a, rfl, r⟩ := r
      rcases r with ⟨_, r⟩ | ⟨dx, vs, r1, r2, _⟩
      · exact ⟨a, W.cls c, none, rfl, rfl, O.ex c k.1 k.2, O.exk, r, fun _ z => nomatch z⟩
      · exact ⟨a, W.cls c, some dx, rfl, rfl, O.ex c k.1 k.2, O.exk, r1, fun _ z => by cases z; exact ⟨_, r2⟩⟩
    · cases e
  | ref i =>
    simp only [tagOf] at e
    obtain ⟨a, rfl, ha⟩ := rd_ref.mp r
    cases q : h[i]? with
    | none => rw [q] at e; cases e
    | some o =>
      obtain ⟨b, hb, ho⟩ := S.ob i o q
      rw [ha] at hb; cases hb
      rw [q] at e
      cases o with
      | lst ds => cases e; obtain ⟨vs, h1, _⟩ := ho; exact ⟨rfl, .inl (.base (.lst h1))⟩
      | fro ds => cases e; obtain ⟨vs, o, h1, _⟩ := ho; exact ⟨rfl, .inl (.base (.frz h1))⟩
      | dct kvs => cases e; exact ⟨rfl, .inl (.base (.dK ho.2))⟩
      | ins c fs =>
        simp only at e
        split at e
        · rename_i k
          cases e
          obtain ⟨dx, ws, h1, _⟩ := ho
          have T := O.ins c k.1 k.2
          exact ⟨by simp [Ci.has, k.1], .inl (.base (.ins h1 T.cl T.kls O.exk.sp O.exk.tk T.mo))⟩
        · cases e
def vIsi (ci : Ci) (c : Cl) (d : D) (h : Hs) : Out D := match tagOf ci h d with
  | some t => if ci.has c = true then .ok (.bl (isA ci t c)) h else .err
  | none => .err
def vIsiT (ci : Ci) (cs : List Cl) (d : D) (h : Hs) : Out D := match tagOf ci h d with
  | some t => if cs.all ci.has = true then .ok (.bl (cs.any (isA ci t))) h else .err
  | none => .err
variable {a b : Expr} {ma : M D} {p pos : Pos}
/-- isinstance(a, T) -/
theorem e_isi (O : WdOk W ci) (hK : X.K = W.K) {c : Cl} (hc : PE X b (tC (c.v W))) (ha : PE X a (tE W XW ma)) (hg : Gl X "isinstance") (hm : X.mg "isinstance" = none)
    (hs1 : starEach [a, b] X.env = (false, eval a X.env) :: starEach [b] X.env := by rfl) (hs2 : starEach [b] X.env = (false, eval b X.env) :: starEach [] X.env := by rfl) (hpl : (backTo pos (starEach [b] X.env)).any (·.1) = false := by rfl) :
    PE X (.Call (.Name "isinstance" p) [a, b] [] pos) (tE W XW (mU (vIsi ci c) ma)) := by
  have h := pe_callB (p := p) (pos := pos) call_isE hg hm (by decide +kernel) (pa_cons ha (pa_cons hc pa_nil hs2) hs1) (by decide) (by decide +kernel) hs1 hpl
  refine h.imp fun σ H Q h => ?_
  obtain ⟨as, env, h, S, E, q⟩ := tG_U (R := RD W) h
  refine ⟨as, env, h, S, E, q.imp fun v H1 ⟨as1, h1, d, S1, r1, p1⟩ => ?_⟩
  unfold vIsi at p1
  cases e : tagOf ci h1 d with
  | none => rw [e] at p1; exact p1.elim
  | some t =>
    rw [e] at p1
    simp only at p1
    split at p1
    · rename_i hh
      obtain ⟨g1, g2⟩ := tagOf_ok O S1 r1 e
      rw [hK]
      exact ⟨v, c.v W, t.val W, c.val W, _, rfl, c.clsV W, g2, O.kit t c g1 hh, post_ok S1 (rd_bl.mpr rfl) p1⟩
    · exact p1.elim
theorem kitAny_of (O : WdOk W ci) {t : Cl} (ht : ci.has t = true) : ∀ {cs : List Cl}, cs.all ci.has = true → PySem.W.kitAny W.K (t.val W) (cs.map (Cl.val W)) = some (cs.any (isA ci t))
  | [], _ => rfl
  | c :: cs, h => by
    simp only [List.all_cons, Bool.and_eq_true] at h
    simp only [List.map_cons, PySem.W.kitAny, O.kit t c ht h.1, List.any_cons]
    cases isA ci t c with
    | true => rfl
    | false => simpa using kitAny_of O ht h.2
theorem clsV_all (cs : List Cl) : Paired ClsV (cs.map (Cl.v W)) (cs.map (Cl.val W)) := by
  induction cs with
  | nil => exact .nil
  | cons c cs ih => exact .cons (c.clsV W) ih
/-- isinstance(a, (T1, T2)) -/
theorem e_isi2 (O : WdOk W ci) (hK : X.K = W.K) {b1 b2 : Expr} {k : Nat} {pt : Pos} {c1 c2 : Cl} (hc1 : PE X b1 (tC (c1.v W))) (hc2 : PE X b2 (tC (c2.v W))) (ha : PE X a (tE W XW ma)) (hg : Gl X "isinstance") (hm : X.mg "isinstance" = none)
    (h1 : starEach [b1, b2] X.env = (false, eval b1 X.env) :: starEach [b2] X.env := by rfl) (h2 : starEach [b2] X.env = (false, eval b2 X.env) :: starEach [] X.env := by rfl)
    (hs1 : starEach [a, .Tuple [b1, b2] k pt] X.env = (false, eval a X.env) :: starEach [.Tuple [b1, b2] k pt] X.env := by rfl) (hs2 : starEach [.Tuple [b1, b2] k pt] X.env = (false, eval (.Tuple [b1, b2] k pt) X.env) :: starEach [] X.env := by rfl) (hpl : (backTo pos (starEach [.Tuple [b1, b2] k pt] X.env)).any (·.1) = false := by rfl) :
    PE X (.Call (.Name "isinstance" p) [a, .Tuple [b1, b2] k pt] [] pos) (tE W XW (mU (vIsiT ci [c1, c2]) ma)) := by
  have h := pe_callB (p := p) (pos := pos) call_isET hg hm (by decide +kernel) (pa_cons ha (pa_cons (pe_tup (pa_cons hc1 (pa_cons hc2 pa_nil h2) h1)) pa_nil hs2) hs1) (by decide) (by decide +kernel) hs1 hpl
  refine h.imp fun σ H Q h => ?_
  obtain ⟨as, env, h, S, E, q⟩ := tG_U (R := RD W) h
  refine ⟨as, env, h, S, E, q.imp fun v H1 ⟨as1, h1, d, S1, r1, p1⟩ => ⟨by show 2 ≤ sizeLine; decide, fun tp n => ?_⟩⟩
  unfold vIsiT at p1
  cases e : tagOf ci h1 d with
  | none => rw [e] at p1; exact p1.elim
  | some t =>
    rw [e] at p1
    simp only at p1
    split at p1
    · rename_i hh
      obtain ⟨g1, g2⟩ := tagOf_ok O (S1.new (o := .tup [c1.v W, c2.v W]) n) (RD.mono (Ext.new n) _ _ r1) e
      rw [hK]
      exact ⟨v, tp, [c1.v W, c2.v W], t.val W, [c1.val W, c2.val W], _, rfl, upd_same, clsV_all [c1, c2], g2, kitAny_of O g1 hh, p1 as1 _ _ (Ext.new n) (S1.new n) (rd_bl.mpr rfl)⟩
    · exact p1.elim

/-! ### attributes -/
def vAttr (ci : Ci) (f : PySem.Str) (d : D) (h : Hs) : Out D := match d with
  | .exc c [x] => if c < ci.n ∧ ci.isEx c = true ∧ ci.fld c = f then .ok x h else .err
  | .ref i => (match h[i]? with
    | some (.ins c fs) => if c < ci.n ∧ ci.isEx c = false then (match fs.lookup f with
      | some x => .ok x h
      | none => .err) else .err
    | _ => .err)
  | _ => .err
theorem lookup_rel {f : PySem.Str} : ∀ {fs : List (PySem.Str × D)} {ws : List (PySem.Str × V)} {x : D}, ws.map (·.1) = fs.map (·.1) → RDs W as H (fs.map (·.2)) (ws.map (·.2)) → fs.lookup f = some x → ∃ v, ws.lookup f = some v ∧ RD W as H x v
  | [], _, _, _, _, e => by cases e
  | (g, y) :: fs, [], _, e1, _, _ => by cases e1
  | (g, y) :: fs, (g', w) :: ws, x, e1, r, e => by
    simp only [List.map_cons, List.cons.injEq] at e1
    obtain ⟨rfl, e1⟩ := e1
    obtain ⟨v, vs, e2, r1, r2⟩ := (show RDs W as H (y :: fs.map (·.2)) (w :: ws.map (·.2)) from r).inv_cons
    cases e2
    rw [List.lookup_cons] at e ⊢
    cases q : f == g' with
    | true => rw [q] at e; cases e; exact ⟨_, rfl, r1⟩
    | false => rw [q] at e; exact lookup_rel e1 r2 e
theorem e_attr (O : WdOk W ci) (hK : X.K = W.K) {f : PySem.Str} (hn : ∀ c, c < ci.n → ci.isEx c = false → NoAttr W.K (W.cls c) f) (ha : PE X a (tE W XW ma)) (hb : attributeBase a f X.env (eval a X.env) = eval a X.env := by rfl) :
    PE X (.Attribute a f pos) (tE W XW (mU (vAttr ci f) ma)) := by
  refine ⟨fun pins s σ H Q I h => ?_⟩
  obtain ⟨as, env, h, S, E, q⟩ := tG_U (R := RD W) h
  refine attr_of hb (thn (ha.run pins s σ H _ I ⟨as, env, h, S, E, q⟩) fun u s1 ⟨x, H1, I1, rx, as1, h1, d, S1, r1, p1⟩ => ?_)
  cases d with
  | exc c fs =>
    cases fs with
    | nil => exact p1.elim
    | cons y ys =>
      cases ys with
      | cons _ _ => simp only [vAttr] at p1; exact p1.elim
      | nil =>
        simp only [vAttr] at p1
        split at p1
        · rename_i k
          have r2 := r1
          unfold RD at r2
          obtain ⟨a1, ea1, r3⟩ := r2
          subst ea1
          cases (show u = Value.ref a1 from rx)
          rcases r3 with z | ⟨dx, vs, e1, e2, e3, e4⟩
          · exact absurd z.1 (by simp)
          · obtain ⟨w, ew, r4⟩ := rds1 e4
            subst ew
            rw [O.fld, k.2.2] at e2
            refine xf_ok I1 e1 e2 (by rw [hK]; exact O.ex c k.1 k.2.1) (by rw [hK, ← k.2.2]; exact O.nofld c k.1 k.2.1) (v := w) (by simp) fun u2 tk ru => ?_
            exact ⟨w, H1, I1.tok tk, ru, post_ok S1 r4 p1⟩
        · exact p1.elim
  | ref i =>
    simp only [vAttr] at p1
    split at p1
    · rename_i c fs q
      split at p1
      · rename_i k
        split at p1
        · rename_i y hy
          obtain ⟨a1, rfl, ha1⟩ := rd_ref.mp r1
          cases (show u = Value.ref a1 from rx)
          obtain ⟨b1, hb1, dx, ws, o1, o2, o3, o4⟩ := S1.ob i _ q
          rw [ha1] at hb1; cases hb1
          obtain ⟨w, hw, rw'⟩ := lookup_rel o3 o4 hy
          exact getattr_ok I1 o1 (by rw [hK]; exact (O.ins c k.1 k.2).cl) (by rw [hK]; exact hn c k.1 k.2) hw fun u2 s2 J2 ru => ⟨w, H1, J2, ru, post_ok S1 rw' p1⟩
        · exact p1.elim
      · exact p1.elim
    · exact p1.elim
  | _ => exact p1.elim
end
end Nc

/-! NcH: statements, targets, loops. -/
namespace L2
theorem PS.imp {X : Cx} {e : PySem.Stmt} {t t' : TS} (h : PS X e t) (k : ∀ D σ H, t' D σ H → t D σ H) : PS X e t' := ⟨fun pins s σ H D I q => h.run pins s σ H D I (k D σ H q)⟩
theorem PSs.imp {X : Cx} {e : List PySem.Stmt} {t t' : TS} (h : PSs X e t) (k : ∀ D σ H, t' D σ H → t D σ H) : PSs X e t' := ⟨fun pins s σ H D I q => h.run pins s σ H D I (k D σ H q)⟩
theorem PG.imp {X : Cx} {e : PySem.Expr} {t t' : TG} (h : PG X e t) (k : ∀ v σ H Q, t' v σ H Q → t v σ H Q) : PG X e t' := ⟨fun pins s σ H v u Q I r q => h.run pins s σ H v u Q I r (k v σ H Q q)⟩
theorem PGs.imp {X : Cx} {e : List PySem.Expr} {t t' : TGs} (h : PGs X e t) (k : ∀ v σ H Q, t' v σ H Q → t v σ H Q) : PGs X e t' := ⟨fun pins s σ H v u Q I r q => h.run pins s σ H v u Q I r (k v σ H Q q)⟩
end L2
namespace Nc
open PySem L2

inductive SO where
  | nx (e : Env) (h : Hs) | rt (d : D) (h : Hs) | bk (e : Env) (h : Hs) | ct (e : Env) (h : Hs) | exc (c : Nat) (x : D) (e : Env) (h : Hs) | err
abbrev SM := Env → Hs → SO
def SPost (W : Wd) (XW : WX) (as : List Addr) (H : Hp) (Dn : Ends) : SO → Prop
  | .nx e h => ∀ as' σ' H', Ext as H as' H' → Sim W as' h H' → EV W as' H' e σ' → Dn.nx σ' H'
  | .rt d h => ∀ as' v H', Ext as H as' H' → Sim W as' h H' → RD W as' H' d v → Dn.rt v H'
  | .bk e h => ∀ as' σ' H', Ext as H as' H' → Sim W as' h H' → EV W as' H' e σ' → Dn.bk σ' H'
  | .ct e h => ∀ as' σ' H', Ext as H as' H' → Sim W as' h H' → EV W as' H' e σ' → Dn.ct σ' H'
  | .exc c x e h => ∀ as' σ' dx v H', Ext as H as' H' → Sim W as' h H' → EV W as' H' e σ' → H' dx = some (.xd [(W.fld c, v)]) → RD W as' H' x v → XW (.ref (W.cls c)) (some dx) σ' H'
  | .err => False
def tS (W : Wd) (XW : WX) (m : SM) : TS := fun Dn σ H => ∃ as env h, Sim W as h H ∧ EV W as H env σ ∧ SPost W XW as H Dn (m env h)
def sSeq (a b : SM) : SM := fun e h => match a e h with
  | .nx e1 h1 => b e1 h1
  | o => o
def sNil : SM := fun e h => .nx e h
/-- an expression, and what is done with its value -/
def sE {α : Type} (m : M α) (k : α → Env → Hs → SO) : SM := fun e h => match m e h with
  | .ok d h1 => k d e h1
  | .exc c x h1 => .exc c x e h1
  | .err => .err
def sIf (c : M Bool) (a b : SM) : SM := sE c fun k e h => if k then a e h else b e h
def sRet (m : M D) : SM := sE m fun d _ h => .rt d h
def sRetN : SM := fun _ h => .rt .non h
def sDrop (m : M D) : SM := sE m fun _ e h => .nx e h
abbrev GM := D → Env → Hs → SO
def gNm (i : Nat) : GM := fun d e h => .nx (e.set i (some d)) h
def sAsg (m : M D) (g : GM) : SM := sE m g
section
variable {X : Cx} {W : Wd} {XW : WX} {σ : St} {H : Hp} {Dn Dm : Ends}
theorem SPost.ext {as as1 : List Addr} {H H1 : Hp} (e : Ext as H as1 H1) : ∀ {o : SO}, SPost W XW as H Dn o → SPost W XW as1 H1 Dn o
  | .nx _ _, p => fun as' σ' H' e' S r => p as' σ' H' (e.trans e') S r
  | .rt _ _, p => fun as' σ' H' e' S r => p as' σ' H' (e.trans e') S r
  | .bk _ _, p => fun as' σ' H' e' S r => p as' σ' H' (e.trans e') S r
  | .ct _ _, p => fun as' σ' H' e' S r => p as' σ' H' (e.trans e') S r
  | .exc _ _ _ _, p => fun as' σ' dx v H' e' S r => p as' σ' dx v H' (e.trans e') S r
  | .err, p => p
theorem tS_E {α β : Type} {R : List Addr → Hp → α → β → Prop} {m : M α} {k : α → Env → Hs → SO} (h : tS W XW (sE m k) Dn σ H) :
    tG W R XW m σ H (fun v H1 => ∃ as h1 d env, Sim W as h1 H1 ∧ EV W as H1 env σ ∧ R as H1 d v ∧ SPost W XW as H1 Dn (k d env h1)) := by
  obtain ⟨as, env, h, S, E, p⟩ := h
  refine ⟨as, env, h, S, E, ?_⟩
  unfold sE at p
  cases q : m env h with
  | ok d h1 => rw [q] at p; exact fun as' v H' e S' r => ⟨as', h1, d, env, S', E.mono e, r, SPost.ext e p⟩
  | exc c x h1 => rw [q] at p; exact fun as' dx v H' e S' q1 q2 => p as' σ dx v H' e S' (E.mono e) q1 q2
  | err => rw [q] at p; exact p.elim
theorem tS_seq {a b : SM} (h : tS W XW (sSeq a b) Dn σ H) : tS W XW a { Dn with nx := tS W XW b Dn } σ H := by
  obtain ⟨as, env, h, S, E, p⟩ := h
  refine ⟨as, env, h, S, E, ?_⟩
  unfold sSeq at p
  cases q : a env h with
  | nx e1 h1 => rw [q] at p; exact fun as' σ' H' e S' E' => ⟨as', e1, h1, S', E', SPost.ext e p⟩
  | rt d h1 => rw [q] at p; exact p
  | bk e1 h1 => rw [q] at p; exact p
  | ct e1 h1 => rw [q] at p; exact p
  | exc c x e1 h1 => rw [q] at p; exact p
  | err => rw [q] at p; exact p
theorem spost_nx {as : List Addr} {e : Env} {h : Hs} {σ : St} (S : Sim W as h H) (E : EV W as H e σ) (p : SPost W XW as H Dn (.nx e h)) : Dn.nx σ H := p as σ H (Ext.refl _ _) S E
theorem spost_rt {as : List Addr} {d : D} {v : V} {h : Hs} (S : Sim W as h H) (r : RD W as H d v) (p : SPost W XW as H Dn (.rt d h)) : Dn.rt v H := p as v H (Ext.refl _ _) S r
variable {st : Stmt} {rest body orelse : List Stmt} {a b : SM} {e o i : Expr} {me mo mi : M D} {mc : M Bool} {pos pos' : Pos}
theorem ss_nil : PSs X [] (tS W XW sNil) := pss_nil.imp fun Dn σ H ⟨as, env, h, S, E, p⟩ => spost_nx S E p
theorem ss_one (h : PS X st (tS W XW a)) : PSs X [st] (tS W XW a) := pss_one h
theorem ss_cons (h : PS X st (tS W XW a)) (t : PSs X rest (tS W XW b)) : PSs X (st :: rest) (tS W XW (sSeq a b)) := (pss_cons h t).imp fun _ _ _ h => tS_seq h
theorem s_pass : PS X (.Pass pos) (tS W XW sNil) := ps_pass.imp fun Dn σ H ⟨as, env, h, S, E, p⟩ => spost_nx S E p
theorem s_if {c : Expr} (hc : PT X c (tT W XW mc)) (ha : PSs X body (tS W XW a)) (hb : PSs X orelse (tS W XW b)) : PS X (.If c body orelse pos) (tS W XW (sIf mc a b)) := (ps_if hc ha hb).imp fun Dn σ H h => by
  obtain ⟨as, env, h, S, E, p⟩ := tS_E (R := RB) h
  refine ⟨as, env, h, S, E, p.imp fun v H1 ⟨as1, h1, d, env1, S1, E1, r1, p1⟩ => ?_⟩
  cases (show d = v from r1)
  cases v with
  | true => exact ⟨as1, env1, h1, S1, E1, p1⟩
  | false => exact ⟨as1, env1, h1, S1, E1, p1⟩
theorem s_ret (h : PE X e (tE W XW me)) : PS X (.Return (some e) pos) (tS W XW (sRet me)) := (ps_ret h).imp fun Dn σ H h => by
  obtain ⟨as, env, h, S, E, p⟩ := tS_E (R := RD W) h
  exact ⟨as, env, h, S, E, p.imp fun v H1 ⟨as1, h1, d, env1, S1, E1, r1, p1⟩ => spost_rt S1 r1 p1⟩
theorem s_retN : PS X (.Return none pos) (tS W XW sRetN) := ps_retN.imp fun Dn σ H ⟨as, env, h, S, E, p⟩ => spost_rt S (rd_non.mpr rfl) p
theorem s_expr (h : PE X e (tE W XW me)) (hs : swapsWith e none pos.line X.env = pure false := by rfl) : PS X (.Expr e pos) (tS W XW (sDrop me)) := (ps_expr h hs).imp fun Dn σ H h => by
  obtain ⟨as, env, h, S, E, p⟩ := tS_E (R := RD W) h
  exact ⟨as, env, h, S, E, p.imp fun v H1 ⟨as1, h1, d, env1, S1, E1, r1, p1⟩ => spost_nx S1 E1 p1⟩
/-- name = e -/
theorem s_set {i : Nat} {x : PySem.Str} (hN : X.N.Nodup) (hi : X.N[i]? = some x) (hx : Loc X.env.scope x) (h : PE X e (tE W XW me)) (hs : swapsWith e (some (.Name x pos')) pos.line X.env = pure false := by rfl) (hf : X.fn x = true ∨ X.env.scope.names.lookup x = some .local := by exact .inl rfl) :
    PS X (.Assign [.Name x pos'] e pos) (tS W XW (sAsg me (gNm i))) := (ps_set hN hi hx h hs hf).imp fun Dn σ H h => by
  obtain ⟨as, env, h, S, E, p⟩ := tS_E (R := RD W) h
  exact ⟨as, env, h, S, E, p.imp fun v H1 ⟨as1, h1, d, env1, S1, E1, r1, p1⟩ => spost_nx S1 (E1.set i r1) p1⟩
/-! ### targets -/
def tGt (W : Wd) (XW : WX) (g : GM) : TG := fun v σ H Q => ∃ as env h d, Sim W as h H ∧ EV W as H env σ ∧ RD W as H d v ∧ SPost W XW as H { nx := Q, rt := fun _ _ => False } (g d env h)
abbrev GMs := List D → Env → Hs → SO
def tGts (W : Wd) (XW : WX) (g : GMs) : TGs := fun vs σ H Q => ∃ as env h ds, Sim W as h H ∧ EV W as H env σ ∧ RDs W as H ds vs ∧ SPost W XW as H { nx := Q, rt := fun _ _ => False } (g ds env h)
theorem g_name {i : Nat} {x : PySem.Str} (hN : X.N.Nodup) (hi : X.N[i]? = some x) (hx : Loc X.env.scope x) (hf : X.fn x = true ∨ X.env.scope.names.lookup x = some .local) : PG X (.Name x pos) (tGt W XW (gNm i)) :=
  (pg_name hN hi hx hf).imp fun v σ H Q ⟨as, env, h, d, S, E, r, p⟩ => spost_nx (Dn := { nx := Q, rt := fun _ _ => False }) S (E.set i r) p
def gsNil : GMs := fun ds e h => match ds with
  | [] => .nx e h
  | _ => .err
def gsCons (g : GM) (gs : GMs) : GMs := fun ds e h => match ds with
  | d :: ds => (match g d e h with
    | .nx e1 h1 => gs ds e1 h1
    | .exc c x e1 h1 => .exc c x e1 h1
    | _ => .err)
  | [] => .err
theorem gs_nil : PGs X [] (tGts W XW gsNil) := pgs_nil.imp fun vs σ H Q ⟨as, env, h, ds, S, E, r, p⟩ => by
  cases ds with
  | nil => exact ⟨r.inv_nil, spost_nx (Dn := { nx := Q, rt := fun _ _ => False }) S E p⟩
  | cons _ _ => exact p.elim
theorem gs_cons {t : Expr} {ts : List Expr} {g : GM} {gs : GMs} (h1 : PG X t (tGt W XW g)) (h2 : PGs X ts (tGts W XW gs)) (hs : (assignEach (t :: ts) X.env).map (·.2) = assign t X.env :: (assignEach ts X.env).map (·.2) := by rfl) : PGs X (t :: ts) (tGts W XW (gsCons g gs)) :=
  (pgs_cons h1 h2 hs).imp fun vs σ H Q ⟨as, env, h, ds, S, E, r, p⟩ => by
    cases ds with
    | nil => exact p.elim
    | cons d ds =>
      obtain ⟨v, ws, ev, r1, r2⟩ := r.inv_cons
      refine ⟨v, ws, ev, as, env, h, d, S, E, r1, ?_⟩
      simp only [gsCons] at p
      cases q : g d env h with
      | nx e1 h1 => rw [q] at p; exact fun as' σ' H' x S' E' => ⟨as', e1, h1, ds, S', E', RDs.mono x _ _ r2, SPost.ext x p⟩
      | exc c x e1 h1 => rw [q] at p; exact p
      | rt _ _ => rw [q] at p; exact p.elim
      | bk _ _ => rw [q] at p; exact p.elim
      | ct _ _ => rw [q] at p; exact p.elim
      | err => rw [q] at p; exact p.elim
def gTupM (n : Nat) (gs : GMs) : GM := fun d e h => match d with
  | .tup ds => if ds.length = n then gs ds e h else .err
  | _ => .err
theorem g_tup {ts : List Expr} {k n : Nat} {gs : GMs} (hK : X.K = W.K) (hc : X.calm = true) (h : PGs X ts (tGts W XW gs)) (hn : (assignEach ts X.env).length = n := by rfl) (hst : (assignEach ts X.env).findIdx? (·.1) = none := by rfl) : PG X (.Tuple ts k pos) (tGt W XW (gTupM n gs)) :=
  (pg_tup hc h hn hst).imp fun v σ H Q ⟨as, env, h, d, S, E, r, p⟩ => by
    cases d with
    | tup ds =>
      simp only [gTupM] at p
      split at p
      · rename_i hl
        obtain ⟨a, vs, ev, s, q⟩ := rd_tup.mp r
        exact ⟨a, vs, ev, by rw [hK]; exact s, by rw [q.len]; exact hl, as, env, h, ds, S, E, q, p⟩
      · exact p.elim
    | _ => exact p.elim
/-- o[i] = .. over lists -/
def setIx (x y d : D) (h : Hs) : Out Unit := match x, y with
  | .ref r, .int k => (match h[r]? with
    | some (.lst ds) => (match ixN ds.length k with
      | some j => .ok () (h.set r (.lst (ds.set j d)))
      | none => .err)
    | _ => .err)
  | _, _ => .err
def gSubM (mo mi : M D) : GM := fun d => sE mo fun x => sE mi fun y e h => match setIx x y d h with
  | .ok _ h1 => .nx e h1
  | _ => .err
theorem g_sub (ho : PE X o (tE W XW mo)) (hi : PE X i (tE W XW mi)) (ha : ∀ v, assign (.Subscript o i pos) X.env v = (do
      let ov ← holding [v] (eval o X.env)
      let iv ← holding [v, ov] (eval i X.env)
      standAt pos
      holding [v, ov, iv] (setItem ov iv v)
      release [v, ov, iv] []) := by intro _; rfl) : PG X (.Subscript o i pos) (tGt W XW (gSubM mo mi)) :=
  (pg_sub ho hi set_list ha).imp fun v σ H Q ⟨as, env, h, d, S, E, r, p⟩ => by
    have hd : ∀ {α : Type} (m : M α) (k : α → Env → Hs → SO), SPost W XW as H { nx := Q, rt := fun _ _ => False } (sE m k env h) → tS W XW (sE m k) { nx := Q, rt := fun _ _ => False } σ H := fun m k p => ⟨as, env, h, S, E, p⟩
    unfold gSubM sE at p
    cases q : mo env h with
    | err => rw [q] at p; exact p.elim
    | exc c x h1 => rw [q] at p; exact ⟨as, env, h, S, E, by rw [q]; exact fun as' dx v H' e S' q1 q2 => p as' σ dx v H' e S' (E.mono e) q1 q2⟩
    | ok x h1 =>
      rw [q] at p
      refine ⟨as, env, h, S, E, ?_⟩
      rw [q]
      intro as1 vo H1 e1 S1 r1
      simp only at p
      cases q2 : mi env h1 with
      | err => rw [q2] at p; exact p.elim
      | exc c y h2 => rw [q2] at p; exact ⟨as1, env, h1, S1, E.mono e1, by rw [q2]; exact fun as' dx v H' e S' q1 q2 => p as' σ dx v H' (e1.trans e) S' (E.mono (e1.trans e)) q1 q2⟩
      | ok y h2 =>
        rw [q2] at p
        refine ⟨as1, env, h1, S1, E.mono e1, ?_⟩
        rw [q2]
        intro as2 vi H2 e2 S2 r2
        simp only at p
        have rx := RD.mono e2 _ _ r1
        have rd := RD.mono (e1.trans e2) _ _ r
        unfold setIx at p
        split at p
        · rename_i u z hz
          split at hz
          · rename_i rr k
            split at hz
            · rename_i ds qd
              split at hz
              · rename_i j qj
                cases hz
                obtain ⟨a, vs, a1, a2, a3⟩ := S2.lst qd
                obtain ⟨b, b1, b2⟩ := rd_ref.mp rx
                rw [a1] at b2; cases b2
                refine ⟨a, vs, k, j, b1, rd_int.mp r2, a2, by rw [a3.len]; exact qj, ?_⟩
                have X1 : Ext as2 H2 as2 (upd H2 a (.lst (vs.set j v))) := Ext.chg (List.mem_of_getElem? a1) a2
                exact p as2 σ _ ((e1.trans e2).trans X1) (S2.setL a1 a2 ((RDs.mono X1 _ _ a3).set (RD.mono X1 _ _ rd) j)) (E.mono ((e1.trans e2).trans X1))
              · cases hz
            · cases hz
          · cases hz
        · exact p.elim
theorem s_asg {tg : Expr} {g : GM} (he : PE X e (tE W XW me)) (hg : PG X tg (tGt W XW g)) (hs : swapsWithSole [tg] e pos.line X.env = pure false := by rfl) (hw : swappedStores [tg] e X.env = pure none := by rfl)
    (h1 : (assignEach [tg] X.env).map (·.2) = [assign tg X.env] := by rfl) (hno : ∀ d e h, (∀ x y, g d e h ≠ .rt x y) ∧ (∀ x y, g d e h ≠ .bk x y) ∧ ∀ x y, g d e h ≠ .ct x y) : PS X (.Assign [tg] e pos) (tS W XW (sAsg me g)) :=
  (ps_asg he hg hs hw h1).imp fun Dn σ H h => by
    obtain ⟨as, env, h, S, E, p⟩ := tS_E (R := RD W) h
    refine ⟨as, env, h, S, E, p.imp fun v H1 ⟨as1, h1, d, env1, S1, E1, r1, p1⟩ => ⟨as1, env1, h1, d, S1, E1, r1, ?_⟩⟩
    have hn := hno d env1 h1
    cases q : g d env1 h1 with
    | nx e2 h2 => rw [q] at p1; exact p1
    | exc c x e2 h2 => rw [q] at p1; exact p1
    | err => rw [q] at p1; exact p1
    | rt x y => exact absurd q (hn.1 x y)
    | bk x y => exact absurd q (hn.2.1 x y)
    | ct x y => exact absurd q (hn.2.2 x y)
/-- name op= e -/
def sAug (i : Nat) (f : D → D → Hs → Out D) (m : M D) : SM := fun e h => match e[i]? with
  | some (some x) => sE m (fun y => sE (fun _ h => f x y h) (fun z e h => .nx (e.set i (some z)) h)) e h
  | _ => .err
theorem s_aug {i : Nat} {x : PySem.Str} {op : Operator} {ti : TIp} {f : D → D → Hs → Out D} (hN : X.N.Nodup) (hi : X.N[i]? = some x) (hx : Loc X.env.scope x) (he : PE X e (tE W XW me)) (ho : PIp X op ti) (o : OpV W ti f) (hf : X.fn x = true ∨ X.env.scope.names.lookup x = some .local := by exact .inl rfl)
    (hne : ∀ x y h c z h', f x y h ≠ .exc c z h') : PS X (.AugAssign (.Name x pos') op e pos) (tS W XW (sAug i f me)) :=
  (ps_aug hN hi hx he ho hf).imp fun Dn σ H ⟨as, env, h, S, E, p⟩ => by
    unfold sAug at p
    cases q : env[i]? with
    | none => rw [q] at p; exact p.elim
    | some w =>
      cases w with
      | none => rw [q] at p; exact p.elim
      | some d =>
        rw [q] at p
        obtain ⟨v, hv, rv⟩ := E.get i d q
        refine ⟨v, hv, as, env, h, S, E, ?_⟩
        simp only [sE] at p
        cases q2 : me env h with
        | err => rw [q2] at p; exact p.elim
        | exc c x h1 => rw [q2] at p; exact fun as' dx v H' e S' q1 q2 => p as' σ dx v H' e S' (E.mono e) q1 q2
        | ok y h1 =>
          rw [q2] at p
          intro as1 w H1 e1 S1 r1
          refine o XW σ as1 h1 H1 d y v w _ S1 (RD.mono e1 _ _ rv) r1 ?_
          simp only at p
          cases q3 : f d y h1 with
          | err => rw [q3] at p; exact p.elim
          | exc c x h2 => exact absurd q3 (hne _ _ _ _ _ _)
          | ok z h2 =>
            rw [q3] at p
            intro as2 u H2 e2 S2 r2
            exact p as2 _ H2 (e1.trans e2) S2 ((E.mono (e1.trans e2)).set i r2)
def vAddI (x y : D) (h : Hs) : Out D := match x, y with
  | .int i, .int j => .ok (.int (i + j)) h
  | _, _ => .err
theorem vAddI_ne {x y : D} {h : Hs} {c : Nat} {z : D} {h' : Hs} : vAddI x y h ≠ .exc c z h' := by
  unfold vAddI; split <;> (intro q; cases q)
theorem ip_addV : OpV W (ipI fun i j => i + j) vAddI := fun XW σ as h H d1 d2 v1 v2 Q S r1 r2 p => by
  cases d1 with
  | int i =>
    cases d2 with
    | int j => exact ⟨i, j, rd_int.mp r1, rd_int.mp r2, post_ok S (rd_int.mpr rfl) p⟩
    | _ => exact p.elim
  | _ => exact p.elim
end

/-! ### loops -/
/-- what a loop walks: items that stand, a list of ours as it stands at each turn -/
inductive Itr' where
  | seq (ds : List D) | lst (i : Nat)
def Itr'.at (I : Itr') (k : Nat) (h : Hs) : Option (Option D) := match I with
  | .seq ds => some ds[k]?
  | .lst i => (getL h i).map fun xs => xs[k]?
def loopF (I : Itr') (g : GM) (b : SM) : Nat → Nat → Env → Hs → SO
  | 0, _, _, _ => .err
  | n + 1, k, e, h => match I.at k h with
    | none => .err
    | some none => .nx e h
    | some (some d) => match g d e h with
      | .nx e1 h1 => (match b e1 h1 with
        | .nx e2 h2 => loopF I g b n (k + 1) e2 h2
        | .ct e2 h2 => loopF I g b n (k + 1) e2 h2
        | .bk e2 h2 => .nx e2 h2
        | o => o)
      | .exc c x e1 h1 => .exc c x e1 h1
      | _ => .err
/-- more turns than any loop here takes -/
def FUEL : Nat := 2 ^ 40
def sFor (it : M Itr') (g : GM) (b : SM) : SM := sE it fun I e h => loopF I g b FUEL 0 e h
def itOf (d : D) (h : Hs) : Out Itr' := match d with
  | .tup ds => .ok (.seq ds) h
  | .ref i => (match getL h i with
    | some _ => .ok (.lst i) h
    | none => .err)
  | _ => .err
def loopW (c : M Bool) (b : SM) : Nat → Env → Hs → SO
  | 0, _, _ => .err
  | n + 1, e, h => match c e h with
    | .ok true h1 => (match b e h1 with
      | .nx e2 h2 => loopW c b n e2 h2
      | .ct e2 h2 => loopW c b n e2 h2
      | .bk e2 h2 => .nx e2 h2
      | o => o)
    | .ok false h1 => .nx e h1
    | .exc c x h1 => .exc c x e h1
    | .err => .err
def sWhile (c : M Bool) (b : SM) : SM := loopW c b FUEL
def rngOf (lo hi : Int) (h : Hs) : Out Itr' := if -(2 ^ 62) ≤ lo ∧ lo < 2 ^ 62 ∧ -(2 ^ 62) ≤ hi ∧ hi < 2 ^ 62 then .ok (.seq ((List.range (hi - lo).toNat).map fun (k : Nat) => D.int (lo + (k : Int)))) h else .err
def vRng (ds : List D) (h : Hs) : Out Itr' := match ds with
  | [.int j] => rngOf 0 j h
  | [.int i, .int j] => rngOf i j h
  | _ => .err
section
variable {X : Cx} {W : Wd} {XW : WX} {σ : St} {H : Hp} {Dn : Ends} {body : List Stmt} {b : SM} {g : GM} {tg iter c : Expr} {mc : M Bool} {pos p : Pos}
/-- what an iterator of the layer is, told by ours -/
structure ItOk (W : Wd) (as : List Addr) (H : Hp) (I : Itr') (J : It) : Prop where
  step : ∀ as' H' h k, Ext as H as' H' → Sim W as' h H' → ∀ o, I.at k h = some o → match o with
    | none => J.stop k H'
    | some d => J.go k H' ∧ ∀ x H2, J.yld k H' x H2 → Ext as' H' as' H2 ∧ Sim W as' h H2 ∧ RD W as' H2 d x
theorem tFor_of {wi : TI} {ma : M Itr'} (hw : ∀ σ H R, tG W (fun as H I J => ItOk W as H I J) XW ma σ H R → wi σ H R) (h : tS W XW (sFor ma g b) Dn σ H) : tFor wi (tGt W XW g) (tS W XW b) Dn σ H := by
  obtain ⟨as, env, h, S, E, p⟩ := tS_E (R := fun as H I J => ItOk W as H I J) h
  refine hw σ H _ ⟨as, env, h, S, E, p.imp fun J H1 ⟨as1, h1, I, env1, S1, E1, r1, p1⟩ => ?_⟩
  refine ⟨fun k m σ H => ∃ as h env, Ext as1 H1 as H ∧ Sim W as h H ∧ EV W as H env σ ∧ SPost W XW as H Dn (loopF I g b m k env h), ⟨FUEL, as1, h1, env1, Ext.refl _ _, S1, E1, p1⟩, ?_⟩
  rintro k m σ H ⟨as, h, env, X1, S, E, p⟩
  cases m with
  | zero => exact p.elim
  | succ m =>
    simp only [loopF] at p
    cases q : I.at k h with
    | none => rw [q] at p; exact p.elim
    | some o =>
      rw [q] at p
      have st := r1.step as H h k X1 S o q
      cases o with
      | none => exact .inl ⟨st, spost_nx S E p⟩
      | some d =>
        obtain ⟨go, yl⟩ := st
        refine .inr ⟨go, fun σ' H' => ∃ as h env, Ext as1 H1 as H' ∧ Sim W as h H' ∧ EV W as H' env σ' ∧ SPost W XW as H' Dn (loopF I g b m (k + 1) env h), fun σ' H' q => ⟨m, Nat.lt_succ_self m, q⟩, fun x H2 y => ?_⟩
        obtain ⟨X2, S2, r2⟩ := yl x H2 y
        refine ⟨as, env, h, d, S2, E.mono X2, r2, ?_⟩
        have p := SPost.ext X2 p
        simp only at p
        cases q1 : g d env h with
        | rt _ _ => rw [q1] at p; exact p.elim
        | bk _ _ => rw [q1] at p; exact p.elim
        | ct _ _ => rw [q1] at p; exact p.elim
        | err => rw [q1] at p; exact p.elim
        | exc c x e1 h1 => rw [q1] at p; exact p
        | nx e1 h1 =>
          rw [q1] at p
          intro as3 σ3 H3 X3 S3 E3
          refine ⟨as3, e1, h1, S3, E3, ?_⟩
          have p := SPost.ext X3 p
          simp only at p
          cases q2 : b e1 h1 with
          | nx e2 h2 => rw [q2] at p; exact fun as4 σ4 H4 X4 S4 E4 => ⟨as4, h2, e2, ((X1.trans X2).trans X3).trans X4, S4, E4, SPost.ext X4 p⟩
          | ct e2 h2 => rw [q2] at p; exact fun as4 σ4 H4 X4 S4 E4 => ⟨as4, h2, e2, ((X1.trans X2).trans X3).trans X4, S4, E4, SPost.ext X4 p⟩
          | bk e2 h2 => rw [q2] at p; exact p
          | rt _ _ => rw [q2] at p; exact p
          | exc _ _ _ _ => rw [q2] at p; exact p
          | err => rw [q2] at p; exact p
theorem s_for {wi : TI} {ma : M Itr'} (hp : PassesOwn (model X.prog X.w) X.A X.env X.xe) (hc : X.calm = true) (hi : PI X tg iter wi) (hw : ∀ σ H R, tG W (fun as H I J => ItOk W as H I J) XW ma σ H R → wi σ H R) (hg : PG X tg (tGt W XW g)) (hb : PSs X body (tS W XW b))
    (hs : ∀ x, foldedSetIterable iter X.env x = pure x := by intro _; rfl) : PS X (.For tg iter body [] pos) (tS W XW (sFor ma g b)) := (ps_for hp hc hi hg hb hs).imp fun _ _ _ h => tFor_of hw h
/-- over a tuple or a list -/
def iAny (K : PySem.W.Frag) (tl : TE) : TI := fun σ H R => tl σ H fun x H1 => ∃ a, x = .ref a ∧ (((∃ xs, SqL K H1 a xs) ∧ R (Itl K a) H1) ∨ ((∃ xs, SqT K H1 a xs) ∧ R (Itt K a) H1))
theorem pi_any {l : Expr} {tl : TE} (hl : PE X l tl) : PI X tg l (iAny X.K tl) := by
  refine ⟨fun pins s σ H R I h => ?_⟩
  refine thn (hl.run pins s σ H _ I h) fun v s1 ⟨x, H1, I1, r1, q1⟩ => ?_
  obtain ⟨a, e, q1⟩ := q1
  subst e
  cases (show v = Value.ref a from r1)
  rcases q1 with ⟨⟨xs, hq⟩, q⟩ | ⟨⟨xs, hq⟩, q⟩
  · obtain ⟨its, rv, p, hz⟩ := I1.list hq
    refine wpAny_pyIter_list p.isList ?_
    refine ⟨s1.heap.objs.size, [s1.heap.objs.size], _, _, H1, rfl, I1.kept (t' := s1.toks) fun b o e => Heap.get?_push_of_some _ e, turn_list a _, ⟨_, Heap.get?_push_size _ rfl, rfl, rfl⟩, fun b hb => ?_, q⟩
    have e : b = s1.heap.objs.size := by simpa using hb
    subst e
    exact I1.fpOk (Nat.le_refl _) (I1.hok.fresh (Nat.le_refl _))
  · obtain ⟨its, rv, p, hz⟩ := I1.tuple hq
    refine wpAny_pyIter_tuple (show s1.heap.IsTuple a its.toArray from p) ?_
    refine ⟨s1.heap.objs.size, [s1.heap.objs.size], _, _, H1, rfl, I1.kept (t' := s1.toks) fun b o e => Heap.get?_push_of_some _ e, turn_tuple a _, ⟨_, Heap.get?_push_size _ rfl, rfl, rfl⟩, fun b hb => ?_, q⟩
    have e : b = s1.heap.objs.size := by simpa using hb
    subst e
    exact I1.fpOk (Nat.le_refl _) (I1.hok.fresh (Nat.le_refl _))
theorem w_any {ma : M D} (hK : X.K = W.K) : ∀ σ H R, tG W (fun as H I J => ItOk W as H I J) XW (mU itOf ma) σ H R → iAny X.K (tE W XW ma) σ H R := fun σ H R h => by
  obtain ⟨as, env, h, S, E, p⟩ := tG_U (R := RD W) h
  refine ⟨as, env, h, S, E, p.imp fun v H1 ⟨as1, h1, d, S1, r1, p1⟩ => ?_⟩
  cases d with
  | tup ds =>
    obtain ⟨a, vs, ev, s, q⟩ := rd_tup.mp r1
    rw [hK]
    refine ⟨a, ev, .inr ⟨⟨vs, s⟩, p1 as1 _ H1 (Ext.refl _ _) S1 ⟨fun as' H' h k X1 S' o e => ?_⟩⟩⟩
    have s' := X1.sqT s
    have q' := RDs.mono X1 _ _ q
    simp only [Itr'.at, Option.some.injEq] at e
    cases o with
    | none => exact ⟨vs, s', by rw [q'.len]; exact List.getElem?_eq_none_iff.mp e⟩
    | some d =>
      obtain ⟨w, hw, rw'⟩ := q'.get e
      refine ⟨⟨vs, w, s', hw⟩, fun x H2 y => ?_⟩
      obtain ⟨rfl, y⟩ := y
      have e2 := y vs s'
      rw [hw] at e2; cases e2
      exact ⟨Ext.refl _ _, S', rw'⟩
  | ref i =>
    simp only [itOf] at p1
    split at p1
    · rename_i xs gx
      obtain ⟨a, ev, ea⟩ := rd_ref.mp r1
      obtain ⟨b, vs, eb, s, q⟩ := S1.rdl gx
      rw [ea] at eb; cases eb
      rw [hK]
      refine ⟨a, ev, .inl ⟨⟨vs, s⟩, p1 as1 _ H1 (Ext.refl _ _) S1 ⟨fun as' H' h k X1 S' o e => ?_⟩⟩⟩
      simp only [Itr'.at] at e
      cases gy : getL h i with
      | none => rw [gy] at e; cases e
      | some ys =>
        rw [gy] at e
        simp only [Option.map_some, Option.some.injEq] at e
        obtain ⟨b, ws, eb, s', q'⟩ := S'.rdl gy
        rw [X1.ix ea] at eb; cases eb
        cases o with
        | none => exact ⟨ws, s', by rw [q'.len]; exact List.getElem?_eq_none_iff.mp e⟩
        | some d =>
          obtain ⟨w, hw, rw'⟩ := q'.get e
          refine ⟨⟨ws, w, s', hw⟩, fun x H2 y => ?_⟩
          obtain ⟨rfl, y⟩ := y
          have e2 := y ws s'
          rw [hw] at e2; cases e2
          exact ⟨Ext.refl _ _, S', rw'⟩
    · exact p1.elim
  | _ => exact p1.elim
theorem it_range {as : List Addr} {H : Hp} {lo : Int} {n : Nat} : ItOk W as H (.seq ((List.range n).map fun (k : Nat) => D.int (lo + (k : Int)))) (Itr lo n) := ⟨fun as' H' h k X1 S' o e => by
  simp only [Itr'.at, Option.some.injEq, List.getElem?_map] at e
  by_cases hk : k < n
  · rw [List.getElem?_range hk] at e
    cases e
    refine ⟨hk, fun x H2 y => ?_⟩
    obtain ⟨rfl, rfl⟩ := y
    exact ⟨Ext.refl _ _, S', rd_int.mpr rfl⟩
  · rw [List.getElem?_eq_none (by simp; omega)] at e
    cases e
    exact Nat.le_of_not_lt hk⟩
/-- range(n), range(a, b): by the number of the written arguments -/
theorem w_range1 {m : M D} : ∀ σ H R, tG W (fun as H I J => ItOk W as H I J) XW (mU vRng (mCons m mNil)) σ H R → iRng1 (tAr W XW (mCons m mNil)) σ H R := fun σ H R h => by
  obtain ⟨as, env, h, S, E, p⟩ := tG_U (R := RDs W) h
  refine ⟨as, env, h, S, E, ?_⟩
  have one : ∀ {ds h1}, mCons m mNil env h = .ok ds h1 → ds.length = 1 := fun {ds h1} e => by
    simp only [mCons, mB, mNil] at e
    cases q : m env h with
    | ok d h2 => rw [q] at e; simp only [Out.bind] at e; cases e; rfl
    | exc _ _ _ => rw [q] at e; cases e
    | err => rw [q] at e; cases e
  cases q : mCons m mNil env h with
  | err => rw [q] at p; exact p.elim
  | exc _ _ _ => rw [q] at p; exact p
  | ok ds h1 =>
    rw [q] at p
    have l := one q
    intro as1 vs H1 X1 S1 r1
    obtain ⟨as2, h2, ds2, S2, r2, p2⟩ := p as1 vs H1 X1 S1 r1
    unfold vRng at p2
    split at p2
    · rename_i j
      obtain ⟨v, rfl, rv⟩ := rds1 r2
      unfold rngOf at p2
      split at p2
      · rename_i c
        refine ⟨j, by rw [rd_int.mp rv], c.2.2.1, c.2.2.2, ?_⟩
        have := p2 as2 (Itr 0 j.toNat) H1 (Ext.refl _ _) S2 (by simpa using it_range (W := W) (as := as2) (H := H1) (lo := 0) (n := (j - 0).toNat))
        exact this
      · exact p2.elim
    · rename_i i j
      obtain ⟨v, w, rfl, _⟩ := rds2 r2
      have := r1.len
      simp [l] at this
    · exact p2.elim
theorem w_range2 {m m' : M D} : ∀ σ H R, tG W (fun as H I J => ItOk W as H I J) XW (mU vRng (mCons m (mCons m' mNil))) σ H R → iRng2 (tAr W XW (mCons m (mCons m' mNil))) σ H R := fun σ H R h => by
  obtain ⟨as, env, h, S, E, p⟩ := tG_U (R := RDs W) h
  refine ⟨as, env, h, S, E, ?_⟩
  have two : ∀ {ds h1}, mCons m (mCons m' mNil) env h = .ok ds h1 → ds.length = 2 := fun {ds h1} e => by
    simp only [mCons, mB, mNil] at e
    cases q : m env h with
    | ok d h2 =>
      rw [q] at e; simp only [Out.bind] at e
      cases q2 : m' env h2 with
      | ok d2 h3 => rw [q2] at e; simp only [Out.bind] at e; cases e; rfl
      | exc _ _ _ => rw [q2] at e; cases e
      | err => rw [q2] at e; cases e
    | exc _ _ _ => rw [q] at e; cases e
    | err => rw [q] at e; cases e
  cases q : mCons m (mCons m' mNil) env h with
  | err => rw [q] at p; exact p.elim
  | exc _ _ _ => rw [q] at p; exact p
  | ok ds h1 =>
    rw [q] at p
    have l := two q
    intro as1 vs H1 X1 S1 r1
    obtain ⟨as2, h2, ds2, S2, r2, p2⟩ := p as1 vs H1 X1 S1 r1
    unfold vRng at p2
    split at p2
    · obtain ⟨v, rfl, rv⟩ := rds1 r2
      have := r1.len
      simp [l] at this
    · rename_i i j
      obtain ⟨v, w, rfl, rv, rw'⟩ := rds2 r2
      unfold rngOf at p2
      split at p2
      · rename_i c
        refine ⟨i, j, by rw [rd_int.mp rv, rd_int.mp rw'], c, ?_⟩
        exact p2 as2 (Itr i (j - i).toNat) H1 (Ext.refl _ _) S2 it_range
      · exact p2.elim
    · exact p2.elim
/-! ### while -/
theorem tWhile_of (h : tS W XW (sWhile mc b) Dn σ H) : tWhile (tT W XW mc) (tS W XW b) Dn σ H := by
  obtain ⟨as, env, h, S, E, p⟩ := h
  refine ⟨fun m σ H => ∃ as h env, Sim W as h H ∧ EV W as H env σ ∧ SPost W XW as H Dn (loopW mc b m env h), ⟨FUEL, as, h, env, S, E, p⟩, ?_⟩
  rintro m σ H ⟨as, h, env, S, E, p⟩
  cases m with
  | zero => exact p.elim
  | succ m =>
    simp only [loopW] at p
    refine ⟨as, env, h, S, E, ?_⟩
    cases q : mc env h with
    | err => rw [q] at p; exact p.elim
    | exc c x h1 => rw [q] at p; exact fun as' dx v H' e S' q1 q2 => p as' σ dx v H' e S' (E.mono e) q1 q2
    | ok k h1 =>
      rw [q] at p
      intro as1 k' H1 X1 S1 r1
      cases (show k = k' from r1)
      have p := SPost.ext X1 p
      cases k with
      | false => exact spost_nx S1 (E.mono X1) p
      | true =>
        simp only at p
        refine ⟨fun σ' H' => ∃ as h env, Sim W as h H' ∧ EV W as H' env σ' ∧ SPost W XW as H' Dn (loopW mc b m env h), fun σ' H' q => ⟨m, Nat.lt_succ_self m, q⟩, as1, env, h1, S1, E.mono X1, ?_⟩
        cases q2 : b env h1 with
        | nx e2 h2 => rw [q2] at p; exact fun as4 σ4 H4 X4 S4 E4 => ⟨as4, h2, e2, S4, E4, SPost.ext X4 p⟩
        | ct e2 h2 => rw [q2] at p; exact fun as4 σ4 H4 X4 S4 E4 => ⟨as4, h2, e2, S4, E4, SPost.ext X4 p⟩
        | bk e2 h2 => rw [q2] at p; exact p
        | rt _ _ => rw [q2] at p; exact p
        | exc _ _ _ _ => rw [q2] at p; exact p
        | err => rw [q2] at p; exact p
theorem s_while (hp : PassesOwn (model X.prog X.w) X.A X.env X.xe) (hc : PT X c (tT W XW mc)) (hb : PSs X body (tS W XW b)) : PS X (.While c body [] pos) (tS W XW (sWhile mc b)) := (ps_while hp hc hb).imp fun _ _ _ h => tWhile_of h
end
end Nc

/-! NcI: lists that are made for the moment: displays and comprehensions; what takes them. -/
namespace Nc
open PySem L2

section
variable {W : Wd} {as as' : List Addr} {H H' : Hp} {h : Hs}
theorem Ext.none {p : Addr} (e : Ext as H as' H') (S : Sim W as' h H') (n : H' p = .none) : H p = .none := by
  cases q : H p with
  | none => rfl
  | some o =>
    by_cases m : p ∈ as
    · obtain ⟨k, rfl⟩ := e.pre
      obtain ⟨u, z⟩ := S.tracked (List.mem_append_left _ m)
      rw [n] at z; cases z
    · rw [(e.frm p o q m).1] at n; cases n
/-- a list made for the moment becomes one of ours -/
theorem Ext.list {D : Addr} (e : Ext as H as' H') (n : H D = .none) : Ext as H (as' ++ [D]) H' := by
  obtain ⟨⟨m, rfl⟩, a, b, c, d⟩ := e
  exact ⟨⟨m ++ [D], by simp⟩, a, b, c, fun x o q k => ⟨(d x o q k).1, by
    rw [List.mem_append, List.mem_singleton, not_or]
    exact ⟨(d x o q k).2, ne_of_none q n⟩⟩⟩
theorem Sim.list {D : Addr} {ds : List Nc.D} {vs : List V} (S : Sim W as h H) (m : D ∉ as) (q : H D = some (.lst vs)) (r : RDs W as H ds vs) : Sim W (as ++ [D]) (h ++ [.lst ds]) H := by
  have X : Ext as H (as ++ [D]) H → True := fun _ => trivial
  have up : ∀ {es : List Nc.D} {ws : List V}, RDs W as H es ws → RDs W (as ++ [D]) H es ws := fun {es ws} r => by
    -- only the places of our list are asked
    have key : ∀ n, (∀ (d : Nc.D), sizeOf d ≤ n → ∀ v, RD W as H d v → RD W (as ++ [D]) H d v) ∧ (∀ (ds : List Nc.D), sizeOf ds ≤ n → ∀ vs, RDs W as H ds vs → RDs W (as ++ [D]) H ds vs) := by
      intro n
      induction n with
      | zero =>
        refine ⟨fun d hd => ?_, fun ds hd => ?_⟩
        · cases d <;> simp at hd
        · cases ds <;> simp at hd
      | succ n ih =>
        refine ⟨fun d hd v r => ?_, fun ds hd vs r => ?_⟩
        · cases d with
          | tup xs =>
            obtain ⟨a, ws, e, s, t⟩ := rd_tup.mp r
            simp at hd
            exact rd_tup.mpr ⟨a, ws, e, s, ih.2 xs (by omega) ws t⟩
          | ref i =>
            obtain ⟨a, e, t⟩ := rd_ref.mp r
            exact rd_ref.mpr ⟨a, e, by rw [List.getElem?_append_left (List.getElem?_eq_some_iff.mp t).1]; exact t⟩
          | exc c xs =>
            unfold RD at r ⊢
            obtain ⟨a, e, r⟩ := r
            simp at hd
            rcases r with r | ⟨dx, ws, r1, r2, r3, r4⟩
            · exact ⟨a, e, .inl r⟩
            · exact ⟨a, e, .inr ⟨dx, ws, r1, r2, r3, ih.2 xs (by omega) ws r4⟩⟩
          | _ => exact r
        · cases ds with
          | nil => exact r
          | cons d ds =>
            obtain ⟨v, ws, e, r1, r2⟩ := r.inv_cons
            simp at hd
            rw [e]
            exact RDs.cons (ih.1 d (by omega) v r1) (ih.2 ds (by omega) ws r2)
    exact (key _).2 es (Nat.le_refl _) ws r
  refine ⟨by simp [S.len], ?_, fun i v e => ?_⟩
  · rw [List.nodup_append]
    exact ⟨S.nd, List.nodup_cons.mpr ⟨by simp, List.nodup_nil⟩, fun a ha b hb => by simp at hb; subst hb; exact fun e => m (e ▸ ha)⟩
  · by_cases hi : i < h.length
    · rw [List.getElem?_append_left hi] at e
      obtain ⟨a, h1, h2⟩ := S.ob i v e
      refine ⟨a, by rw [List.getElem?_append_left (by rw [S.len]; exact hi)]; exact h1, ?_⟩
      cases v with
      | lst xs => obtain ⟨ws, k1, k2⟩ := h2; exact ⟨ws, k1, up k2⟩
      | fro xs => obtain ⟨ws, o, k1, k2⟩ := h2; exact ⟨ws, o, k1, up k2⟩
      | dct kvs => exact h2
      | ins c fs => obtain ⟨dx, ws, k1, k2, k3, k4⟩ := h2; exact ⟨dx, ws, k1, k2, k3, up k4⟩
    · have hi' : i = h.length := by
        have := (List.getElem?_eq_some_iff.mp e).1
        simp at this; omega
      subst hi'
      rw [List.getElem?_append_right (by omega)] at e
      simp at e; subst e
      exact ⟨D, by rw [List.getElem?_append_right (by rw [S.len]; omega)]; simp [S.len], vs, q, up r⟩
theorem RDs.updU {D : Addr} {xs ys : List V} {es : List Nc.D} {ws : List V} (S : Sim W as h H) (m : D ∉ as) (q : H D = some (.lst xs)) (r : RDs W as H es ws) : RDs W as (upd H D (.lst ys)) es ws := by
  have key : ∀ n, (∀ (d : Nc.D), sizeOf d ≤ n → ∀ v, RD W as H d v → RD W as (upd H D (.lst ys)) d v) ∧ (∀ (ds : List Nc.D), sizeOf ds ≤ n → ∀ vs, RDs W as H ds vs → RDs W as (upd H D (.lst ys)) ds vs) := by
    intro n
    induction n with
    | zero =>
      refine ⟨fun d hd => ?_, fun ds hd => ?_⟩
      · cases d <;> simp at hd
      · cases ds <;> simp at hd
    | succ n ih =>
      refine ⟨fun d hd v r => ?_, fun ds hd vs r => ?_⟩
      · cases d with
        | tup xs =>
          obtain ⟨a, ws, e, s, t⟩ := rd_tup.mp r
          simp at hd
          refine rd_tup.mpr ⟨a, ws, e, ?_, ih.2 xs (by omega) ws t⟩
          rcases s with (s | ⟨o, s⟩) | s
          · exact .inl (.inl (by rw [upd_ne (ne_of s q (by intro z; cases z))]; exact s))
          · exact .inl (.inr ⟨o, by rw [upd_ne (ne_of s q (by intro z; cases z))]; exact s⟩)
          · exact .inr s
        | exc c xs =>
          unfold RD at r ⊢
          obtain ⟨a, e, r⟩ := r
          simp at hd
          have ox : ∀ {b : Addr} {φ : Heap → Prop}, H b = some (.ext φ) → upd H D (.lst ys) b = some (.ext φ) := fun {b φ} s => by rw [upd_ne (ne_of s q (by intro z; cases z))]; exact s
          rcases r with ⟨r1, r2⟩ | ⟨dx, ws, r1, r2, r3, r4⟩
          · exact ⟨a, e, .inl ⟨r1, ox r2⟩⟩
          · exact ⟨a, e, .inr ⟨dx, ws, ox r1, ox r2, r3, ih.2 xs (by omega) ws r4⟩⟩
        | _ => exact r
      · cases ds with
        | nil => exact r
        | cons d ds =>
          obtain ⟨v, ws, e, r1, r2⟩ := r.inv_cons
          simp at hd
          rw [e]
          exact RDs.cons (ih.1 d (by omega) v r1) (ih.2 ds (by omega) ws r2)
  exact (key _).2 es (Nat.le_refl _) ws r
theorem Sim.updU {D : Addr} {xs ys : List V} (S : Sim W as h H) (m : D ∉ as) (q : H D = some (.lst xs)) : Sim W as h (upd H D (.lst ys)) := by
  have up : ∀ {es : List Nc.D} {ws : List V}, RDs W as H es ws → RDs W as (upd H D (.lst ys)) es ws := fun {es ws} r => RDs.updU S m q r
  refine ⟨S.len, S.nd, fun i v e => ?_⟩
  obtain ⟨a, h1, h2⟩ := S.ob i v e
  have na : a ≠ D := fun z => m (z ▸ List.mem_of_getElem? h1)
  refine ⟨a, h1, ?_⟩
  cases v with
  | lst xs => obtain ⟨ws, k1, k2⟩ := h2; exact ⟨ws, by rw [upd_ne na]; exact k1, up k2⟩
  | fro xs => obtain ⟨ws, o, k1, k2⟩ := h2; exact ⟨ws, o, by rw [upd_ne na]; exact k1, up k2⟩
  | dct kvs => exact ⟨h2.1, by rw [upd_ne na]; exact h2.2⟩
  | ins c fs => obtain ⟨dx, ws, k1, k2, k3, k4⟩ := h2; exact ⟨dx, ws, by rw [upd_ne na]; exact k1, by rw [upd_ne (ne_of k2 q (by intro z; cases z))]; exact k2, k3, up k4⟩
theorem Ext.updU {D : Addr} {xs ys : List V} (e : Ext as H as' H') (n : H D = .none) (q : H' D = some (.lst xs)) : Ext as H as' (upd H' D (.lst ys)) :=
  ⟨e.pre, fun a zs k => by have z := e.tup a zs k; rw [upd_ne (ne_of z q (by intro y; cases y))]; exact z, fun a o u k => by have z := e.frz a o u k; rw [upd_ne (ne_of z q (by intro y; cases y))]; exact z,
    fun a φ k => by have z := e.ext a φ k; rw [upd_ne (ne_of z q (by intro y; cases y))]; exact z, fun a o k m => ⟨by rw [upd_ne (ne_of_none k n)]; exact (e.frm a o k m).1, (e.frm a o k m).2⟩⟩
end

/-! ### the reading of a list for the moment -/
def PostL (W : Wd) (XW : WX) (σ : St) (as : List Addr) (H : Hp) (Q : VK) : Out (List D) → Prop
  | .ok ds h' => ∀ as' p vs H', Ext as H as' H' → Sim W as' h' H' → H p = none → p ∉ as' → H' p = some (.lst vs) → RDs W as' H' ds vs → Q (.ref p) H'
  | .exc c x h' => ∀ as' dx v H', Ext as H as' H' → Sim W as' h' H' → H' dx = some (.xd [(W.fld c, v)]) → RD W as' H' x v → XW (.ref (W.cls c)) (some dx) σ H'
  | .err => False
def tL (W : Wd) (XW : WX) (m : M (List D)) : TE := fun σ H Q => ∃ as env h, Sim W as h H ∧ EV W as H env σ ∧ PostL W XW σ as H Q (m env h)
def vNew (ds : List D) (h : Hs) : Out D := .ok (.ref h.length) (h ++ [.lst ds])
def mLen (ms : M (List D)) : M (List D) := mU (fun ds h => if ds.length ≤ sizeLine then .ok ds h else .err) ms
section
variable {X : Cx} {W : Wd} {XW : WX} {σ : St} {H : Hp} {es : List Expr} {ms ml : M (List D)} {a b : Expr} {mb : M D} {pos p : Pos}
/-- it becomes a list of ours -/
theorem e_ofL (h : PE X a (tL W XW ml)) : PE X a (tE W XW (mU vNew ml)) := h.imp fun σ H Q ⟨as, env, h, S, E, p⟩ => by
  refine ⟨as, env, h, S, E, ?_⟩
  unfold mU at p
  cases q : ml env h with
  | err => rw [q] at p; exact p.elim
  | exc c x h1 => rw [q] at p; exact p
  | ok ds h1 =>
    rw [q] at p
    intro as' D vs H' X' S' n m hD r
    exact p (as' ++ [D]) (.ref D) H' (X'.list n) (S'.list m hD r) (rd_ref.mpr ⟨D, rfl, by rw [List.getElem?_append_right (by rw [S'.len]; omega)]; simp [S'.len]⟩)
/-- a display -/
theorem l_lst (h : PA X es (tAr W XW ms)) : PE X (.List es pos) (tL W XW (mLen ms)) := (pe_lst h).imp fun σ H Q ⟨as, env, h, S, E, p⟩ => by
  refine ⟨as, env, h, S, E, ?_⟩
  unfold mLen mU at p
  cases q : ms env h with
  | err => rw [q] at p; exact p.elim
  | exc c x h1 => rw [q] at p; exact p
  | ok ds h1 =>
    rw [q] at p
    simp only [Out.bind] at p
    intro as' vs H' X' S' r
    split at p
    · rename_i hl
      exact ⟨by rw [r.len]; exact hl, fun D n => p as' D vs _ (X'.trans (Ext.new n)) (S'.new n) (X'.none S' n) (S'.fresh n) upd_same (RDs.mono (Ext.new n) _ _ r)⟩
    · exact p.elim
/-- what takes it whole: f -/
theorem tL_take {r : List V → Hp → VK → Prop} {f : List D → Hs → Out D} {Q : VK} (hf : ∀ XW σ as h H ds vs D Q, Sim W as h H → D ∉ as → H D = some (.lst vs) → RDs W as H ds vs → Post W (RD W) XW σ as H Q (f ds h) → r [.ref D] H Q)
    (h : tE W XW (mU f ml) σ H Q) : tCB r (tCons (tL W XW ml) tNil) σ H Q := by
  obtain ⟨as, env, h, S, E, p⟩ := h
  refine ⟨as, env, h, S, E, ?_⟩
  unfold mU at p
  cases q : ml env h with
  | err => rw [q] at p; exact p.elim
  | exc c x h1 => rw [q] at p; exact p
  | ok ds h1 =>
    rw [q] at p
    intro as' D vs H' X' S' n m hD r
    exact hf XW σ as' h1 H' ds vs D Q S' m hD r (Post.ext X' p)
def allB : List D → Option (List Bool)
  | [] => some []
  | .bl b :: ds => (allB ds).map (b :: ·)
  | _ :: _ => none
def vAllL (ds : List D) (h : Hs) : Out D := match allB ds with
  | some bs => .ok (.bl (bs.all id)) h
  | none => .err
def vAnyL (ds : List D) (h : Hs) : Out D := match allB ds with
  | some bs => .ok (.bl (bs.any id)) h
  | none => .err
theorem allB_ok {as : List Addr} : ∀ {ds : List D} {vs : List V} {bs : List Bool}, RDs W as H ds vs → allB ds = some bs → vs = bs.map V.bl
  | [], _, _, r, e => by cases e; exact r.inv_nil
  | d :: ds, _, _, r, e => by
    obtain ⟨v, ws, rfl, r1, r2⟩ := r.inv_cons
    cases d with
    | bl b =>
      simp only [allB] at e
      cases q : allB ds with
      | none => rw [q] at e; cases e
      | some bs => rw [q] at e; cases e; rw [rd_bl.mp r1, allB_ok r2 q]; rfl
    | _ => cases e
theorem e_allL (hc : X.calm = true) (hK : X.K = W.K) (hg : Gl X "all") (hm : X.mg "all" = none) (ha : PE X a (tL W XW ml)) (he : starEach [a] X.env = (false, eval a X.env) :: starEach [] X.env := by rfl) (hpl : (backTo pos (starEach [] X.env)).any (·.1) = false := by rfl) :
    PE X (.Call (.Name "all" p) [a] [] pos) (tE W XW (mU vAllL ml)) :=
  (pe_callB (cr_all hc) hg hm (by decide +kernel) (pa_cons ha pa_nil he) (by decide +kernel) (by decide +kernel) he hpl).imp fun σ H Q h => tL_take (fun XW σ as h H ds vs D Q S m hD r p => by
    unfold vAllL at p
    split at p
    · rename_i bs eb
      have e := allB_ok r eb
      subst e
      exact ⟨D, bs, rfl, SqL.of hD, post_ok S (rd_bl.mpr rfl) p⟩
    · exact p.elim) h
theorem e_anyL (hc : X.calm = true) (hK : X.K = W.K) (hg : Gl X "any") (hm : X.mg "any" = none) (ha : PE X a (tL W XW ml)) (he : starEach [a] X.env = (false, eval a X.env) :: starEach [] X.env := by rfl) (hpl : (backTo pos (starEach [] X.env)).any (·.1) = false := by rfl) :
    PE X (.Call (.Name "any" p) [a] [] pos) (tE W XW (mU vAnyL ml)) :=
  (pe_callB (cr_any hc) hg hm (by decide +kernel) (pa_cons ha pa_nil he) (by decide +kernel) (by decide +kernel) he hpl).imp fun σ H Q h => tL_take (fun XW σ as h H ds vs D Q S m hD r p => by
    unfold vAnyL at p
    split at p
    · rename_i bs eb
      have e := allB_ok r eb
      subst e
      exact ⟨D, bs, rfl, SqL.of hD, post_ok S (rd_bl.mpr rfl) p⟩
    · exact p.elim) h
def vTupL (ds : List D) (h : Hs) : Out D := .ok (.tup ds) h
theorem e_tupL (hg : Gl X "tuple") (hm : X.mg "tuple" = none) (ha : PE X a (tL W XW ml)) (he : starEach [a] X.env = (false, eval a X.env) :: starEach [] X.env := by rfl) (hpl : (backTo pos (starEach [] X.env)).any (·.1) = false := by rfl) :
    PE X (.Call (.Name "tuple" p) [a] [] pos) (tE W XW (mU vTupL ml)) :=
  (pe_callTy call_tuple_of hg hm (by decide +kernel) (pa_cons ha pa_nil he) (by decide +kernel) (by decide +kernel) he hpl).imp fun σ H Q h => tL_take (fun XW σ as h H ds vs D Q S m hD r p =>
    ⟨D, vs, rfl, .inl ⟨SqL.of hD, post_newT S r p⟩⟩) h
/-- a place of it -/
def vIxL (ds : List D) (y : D) (h : Hs) : Out D := match y with
  | .int i => (match atI ds i with
    | some d => .ok d h
    | none => .err)
  | _ => .err
theorem e_ixL (ha : PE X a (tL W XW ml)) (hb : PE X b (tE W XW mb)) (hs : PlainIx b) : PE X (.Subscript a b pos) (tE W XW (mB vIxL ml mb)) := (pe_ix ix_list ha hb hs).imp fun σ H Q ⟨as, env, h, S, E, p⟩ => by
  refine ⟨as, env, h, S, E, ?_⟩
  unfold mB at p
  cases q : ml env h with
  | err => rw [q] at p; exact p.elim
  | exc c x h1 => rw [q] at p; exact p
  | ok ds h1 =>
    rw [q] at p
    simp only [Out.bind] at p
    intro as' D vs H' X' S' n m hD r
    refine ⟨as', env, h1, S', E.mono X', ?_⟩
    have p := Post.ext X' p
    cases q2 : mb env h1 with
    | err => rw [q2] at p; exact p.elim
    | exc c x h2 => rw [q2] at p; exact p
    | ok y h2 =>
      rw [q2] at p
      intro as2 w H2 X2 S2 r2
      have p := Post.ext X2 p
      cases y with
      | int i =>
        simp only [Out.bind, vIxL] at p
        cases ed : atI ds i with
        | none => rw [ed] at p; exact p.elim
        | some d =>
          rw [ed] at p
          obtain ⟨v, e1, e2⟩ := (RDs.mono X2 _ _ r).at ed
          exact ⟨D, vs, i, v, rfl, rd_int.mp r2, SqL.of (X2.frm _ _ hD m).1, e1, post_ok S2 e2 p⟩
      | _ => exact p.elim
/-- walked by a loop: its items stand -/
def itL (ds : List D) (h : Hs) : Out Itr' := .ok (.seq ds) h
theorem w_anyL (hK : X.K = W.K) : ∀ σ H R, tG W (fun as H I J => ItOk W as H I J) XW (mU itL ml) σ H R → iAny X.K (tL W XW ml) σ H R := fun σ H R ⟨as, env, h, S, E, p⟩ => by
  refine ⟨as, env, h, S, E, ?_⟩
  unfold mU at p
  cases q : ml env h with
  | err => rw [q] at p; exact p.elim
  | exc c x h1 => rw [q] at p; exact p
  | ok ds h1 =>
    rw [q] at p
    intro as1 D vs H1 X1 S1 n m hD r
    rw [hK]
    refine ⟨D, rfl, .inl ⟨⟨vs, SqL.of hD⟩, p as1 _ H1 X1 S1 ⟨fun as' H' h k X2 S' o e => ?_⟩⟩⟩
    have s' : SqL W.K H' D vs := SqL.of (X2.frm _ _ hD m).1
    have q' := RDs.mono X2 _ _ r
    simp only [Itr'.at, Option.some.injEq] at e
    cases o with
    | none => exact ⟨vs, s', by rw [q'.len]; exact List.getElem?_eq_none_iff.mp e⟩
    | some d =>
      obtain ⟨w, hw, rw'⟩ := q'.get e
      refine ⟨⟨vs, w, s', hw⟩, fun x H2 y => ?_⟩
      obtain ⟨rfl, y⟩ := y
      have e2 := y vs s'
      rw [hw] at e2; cases e2
      exact ⟨Ext.refl _ _, S', rw'⟩
end
end Nc

/-! NcJ: comprehensions; methods of lists. -/
namespace Nc
open PySem L2

def wipeE (e : Env) : List Nat → Env
  | [] => e
  | v :: vs => (wipeE e vs).set v none
def compF (I : Itr') (g : GM) (t : M Bool) (el : M D) (e0 : Env) : Nat → Nat → List D → Hs → Out (List D)
  | 0, _, _, _ => .err
  | n + 1, k, acc, h => match I.at k h with
    | none => .err
    | some none => .ok acc h
    | some (some d) => match g d e0 h with
      | .nx e1 h1 => (match t e1 h1 with
        | .ok true h2 => (match el e1 h2 with
          | .ok x h3 => if acc.length < sizeLine then compF I g t el e0 n (k + 1) (acc ++ [x]) h3 else .err
          | _ => .err)
        | .ok false h2 => compF I g t el e0 n (k + 1) acc h2
        | _ => .err)
      | _ => .err
def mComp (it : M Itr') (g : GM) (t : M Bool) (el : M D) (own : List Nat) : M (List D) := fun e h => (it e h).bind fun I h1 => compF I g t el (wipeE e own) FUEL 0 [] h1
def mYes : M Bool := fun _ h => .ok true h
section
variable {X : Cx} {W : Wd} {XW : WX} {σ : St} {H : Hp} {pos p : Pos}
theorem EV.wipe {as : List Addr} {env : Env} (h : EV W as H env σ) : ∀ own : List Nat, EV W as H (wipeE env own) (wipe σ own)
  | [] => h
  | v :: vs => (EV.wipe h vs).unset v
theorem wipe_eq {σ σ2 : St} : ∀ {own : List Nat}, σ2.length = σ.length → (∀ j, j ∉ own → σ2[j]? = σ[j]?) → wipe σ2 own = wipe σ own := fun {own} hl h => by
  refine List.ext_getElem? fun j => ?_
  have key : ∀ (τ : St) (own : List Nat), (wipe τ own)[j]? = if j ∈ own then (if j < τ.length then some none else none) else τ[j]? := fun τ own => by
    induction own with
    | nil => simp [L2.wipe]
    | cons v vs ih =>
      unfold L2.wipe
      by_cases e : v = j
      · subst e
        by_cases hv : v < τ.length
        · rw [List.getElem?_set_self (by rw [wipe_length]; exact hv)]
          simp [hv]
        · rw [List.getElem?_eq_none (by rw [List.length_set, wipe_length]; omega)]
          simp [hv]
      · rw [List.getElem?_set_ne e, ih]
        have : j ≠ v := Ne.symm e
        simp [this]
  rw [key, key, hl]
  by_cases m : j ∈ own
  · simp [m]
  · simp [m, h j m]
/-- a target of names: what it leaves alone -/
def tGn (W : Wd) (own : List Nat) (g : GM) : TG := fun v σ H Q => ∃ as env h d, Sim W as h H ∧ EV W as H env σ ∧ RD W as H d v ∧
  SPost W (fun _ _ _ _ => False) as H { nx := fun σ' H' => (σ'.length = σ.length ∧ ∀ j, j ∉ own → σ'[j]? = σ[j]?) → Q σ' H', rt := fun _ _ => False } (g d env h)
def tGns (W : Wd) (own : List Nat) (g : GMs) : TGs := fun vs σ H Q => ∃ as env h ds, Sim W as h H ∧ EV W as H env σ ∧ RDs W as H ds vs ∧
  SPost W (fun _ _ _ _ => False) as H { nx := fun σ' H' => (σ'.length = σ.length ∧ ∀ j, j ∉ own → σ'[j]? = σ[j]?) → Q σ' H', rt := fun _ _ => False } (g ds env h)
theorem gn_name {own : List Nat} {i : Nat} {x : PySem.Str} (hN : X.N.Nodup) (hi : X.N[i]? = some x) (hx : Loc X.env.scope x) (hf : X.fn x = true ∨ X.env.scope.names.lookup x = some .local) (ho : i ∈ own) : PG X (.Name x pos) (tGn W own (gNm i)) :=
  (pg_name hN hi hx hf).imp fun v σ H Q ⟨as, env, h, d, S, E, r, p⟩ => p as _ H (Ext.refl _ _) S (E.set i r) ⟨by simp, fun j hj => List.getElem?_set_ne (show i ≠ j from fun z => hj (by rw [← z]; exact ho))⟩
theorem gns_nil {own : List Nat} : PGs X [] (tGns W own gsNil) := pgs_nil.imp fun vs σ H Q ⟨as, env, h, ds, S, E, r, p⟩ => by
  cases ds with
  | nil => exact ⟨r.inv_nil, p as _ H (Ext.refl _ _) S E ⟨rfl, fun _ _ => rfl⟩⟩
  | cons _ _ => exact p.elim
theorem gns_cons {own : List Nat} {t : Expr} {ts : List Expr} {g : GM} {gs : GMs} (h1 : PG X t (tGn W own g)) (h2 : PGs X ts (tGns W own gs)) (hs : (assignEach (t :: ts) X.env).map (·.2) = assign t X.env :: (assignEach ts X.env).map (·.2) := by rfl) : PGs X (t :: ts) (tGns W own (gsCons g gs)) :=
  (pgs_cons h1 h2 hs).imp fun vs σ H Q ⟨as, env, h, ds, S, E, r, p⟩ => by
    cases ds with
    | nil => exact p.elim
    | cons d ds =>
      obtain ⟨v, ws, ev, r1, r2⟩ := r.inv_cons
      refine ⟨v, ws, ev, as, env, h, d, S, E, r1, ?_⟩
      simp only [gsCons] at p
      cases q : g d env h with
      | nx e1 h1 =>
        rw [q] at p
        intro as' σ' H' x S' E' k
        refine ⟨as', e1, h1, ds, S', E', RDs.mono x _ _ r2, ?_⟩
        have p := SPost.ext x p
        simp only at p
        cases q2 : gs ds e1 h1 with
        | nx e2 h2 => rw [q2] at p; exact fun as3 σ3 H3 x3 S3 E3 k3 => p as3 σ3 H3 x3 S3 E3 ⟨k3.1.trans k.1, fun j hj => (k3.2 j hj).trans (k.2 j hj)⟩
        | exc c x e1 h1 => rw [q2] at p; exact p
        | rt _ _ => rw [q2] at p; exact p
        | bk _ _ => rw [q2] at p; exact p
        | ct _ _ => rw [q2] at p; exact p
        | err => rw [q2] at p; exact p.elim
      | exc c x e1 h1 => rw [q] at p; exact p
      | rt _ _ => rw [q] at p; exact p.elim
      | bk _ _ => rw [q] at p; exact p.elim
      | ct _ _ => rw [q] at p; exact p.elim
      | err => rw [q] at p; exact p.elim
theorem gn_tup {own : List Nat} {ts : List Expr} {k n : Nat} {gs : GMs} (hK : X.K = W.K) (hc : X.calm = true) (h : PGs X ts (tGns W own gs)) (hn : (assignEach ts X.env).length = n := by rfl) (hst : (assignEach ts X.env).findIdx? (·.1) = none := by rfl) : PG X (.Tuple ts k pos) (tGn W own (gTupM n gs)) :=
  (pg_tup hc h hn hst).imp fun v σ H Q ⟨as, env, h, d, S, E, r, p⟩ => by
    cases d with
    | tup ds =>
      simp only [gTupM] at p
      split at p
      · rename_i hl
        obtain ⟨a, vs, ev, s, q⟩ := rd_tup.mp r
        exact ⟨a, vs, ev, by rw [hK]; exact s, by rw [q.len]; exact hl, as, env, h, ds, S, E, q, p⟩
      · exact p.elim
    | _ => exact p.elim
abbrev XF : WX := fun _ _ _ _ => False
theorem pts_no : PTs X [] (tT W XF mYes) := ⟨fun pins s σ H Q I ⟨as, env, h, S, E, p⟩ => pts_nil.run pins s σ H Q I (p as true H (Ext.refl _ _) S rfl)⟩
theorem pts_if {c : Expr} {t : M Bool} (h : PT X c (tT W XF t)) : PTs X [c] (tT W XF t) := pts_one h
theorem tLc_of {wi : TI} {ma : M Itr'} {g : GM} {t : M Bool} {el : M D} {own : List Nat} {Q : VK} (hw : ∀ σ H R, tG W (fun as H I J => ItOk W as H I J) XW ma σ H R → wi σ H R) (h : tL W XW (mComp ma g t el own) σ H Q) : tLc wi (tGn W own g) (tT W XF t) (tE W XF el) own σ H Q := by
  obtain ⟨as, env, h, S, E, p⟩ := h
  refine hw σ H _ ⟨as, env, h, S, E, ?_⟩
  unfold mComp at p
  cases q : ma env h with
  | err => rw [q] at p; exact p.elim
  | exc c x h1 => rw [q] at p; exact p
  | ok I h1 =>
    rw [q] at p
    intro as1 J H1 X1 S1 r1 L nL
    have n0 : H L = none := X1.none S1 nL
    have p : PostL W XW σ as H Q (compF I g t el (wipeE env own) FUEL 0 [] h1) := p
    refine ⟨fun k m H' => ∃ as' h' acc vs, Ext as1 H1 as' H' ∧ Sim W as' h' H' ∧ L ∉ as' ∧ H' L = some (.lst vs) ∧ RDs W as' H' acc vs ∧ PostL W XW σ as H Q (compF I g t el (wipeE env own) m k acc h'),
      ⟨FUEL, as1, h1, [], [], Ext.new nL, S1.new nL, S1.fresh nL, upd_same, RDs.nil, p⟩, ?_⟩
    rintro k m H' ⟨as', h', acc, vs, X', S', nl, hL, ra, p⟩
    cases m with
    | zero => exact p.elim
    | succ m =>
      simp only [compF] at p
      cases q1 : I.at k h' with
      | none => rw [q1] at p; exact p.elim
      | some o =>
        rw [q1] at p
        have st := r1.step as' H' h' k X' S' o q1
        cases o with
        | none => exact .inl ⟨st, p as' L vs H' (X1.trans X') S' n0 nl hL ra⟩
        | some d =>
          obtain ⟨go, yl⟩ := st
          refine .inr ⟨go, fun H' => ∃ as' h' acc vs, Ext as1 H1 as' H' ∧ Sim W as' h' H' ∧ L ∉ as' ∧ H' L = some (.lst vs) ∧ RDs W as' H' acc vs ∧ PostL W XW σ as H Q (compF I g t el (wipeE env own) m (k + 1) acc h'), fun H' q => ⟨m, Nat.lt_succ_self m, q⟩, fun x H2 y => ?_⟩
          obtain ⟨X2, S2, r2⟩ := yl x H2 y
          have f2 := X2.frm _ _ hL nl
          refine ⟨as', wipeE env own, h', d, S2, (EV.wipe (E.mono (X1.trans (X'.trans X2))) own), r2, ?_⟩
          simp only at p
          cases q2 : g d (wipeE env own) h' with
          | rt _ _ => rw [q2] at p; exact p.elim
          | bk _ _ => rw [q2] at p; exact p.elim
          | ct _ _ => rw [q2] at p; exact p.elim
          | err => rw [q2] at p; exact p.elim
          | exc c x e1 h1 => rw [q2] at p; exact p.elim
          | nx e1 h2 =>
            rw [q2] at p
            intro as3 σ3 H3 X3 S3 E3 kk
            have f3 := X3.frm _ _ f2.1 f2.2
            refine ⟨by
              refine wipe_eq (by rw [kk.1, wipe_length]) fun j hj => ?_
              rw [kk.2 j hj]
              exact wipe_out hj, as3, e1, h2, S3, E3, ?_⟩
            simp only at p
            cases q3 : t e1 h2 with
            | err => rw [q3] at p; exact p.elim
            | exc c x h1 => rw [q3] at p; exact p.elim
            | ok b h3 =>
              rw [q3] at p
              intro as4 b' H4 X4 S4 r4
              cases (show b = b' from r4)
              have f4 := X4.frm _ _ f3.1 f3.2
              cases b with
              | false => exact ⟨as4, h3, acc, vs, ((X'.trans X2).trans X3).trans X4, S4, f4.2, f4.1, RDs.mono ((X2.trans X3).trans X4) _ _ ra, p⟩
              | true =>
                refine ⟨as4, e1, h3, S4, E3.mono X4, ?_⟩
                simp only at p
                cases q4 : el e1 h3 with
                | err => rw [q4] at p; exact p.elim
                | exc c x h1 => rw [q4] at p; exact p.elim
                | ok y h4 =>
                  rw [q4] at p
                  intro as5 z H5 X5 S5 r5
                  have f5 := X5.frm _ _ f4.1 f4.2
                  simp only at p
                  split at p
                  · rename_i hl
                    refine ⟨vs, f5.1, by rw [ra.len]; exact hl, as5, h4, acc ++ [y], vs ++ [z], ?_, S5.updU f5.2 f5.1, f5.2, upd_same, ?_, p⟩
                    · exact ((((X'.trans X2).trans X3).trans X4).trans X5).updU nL f5.1
                    · have all : RDs W as5 H5 (acc ++ [y]) (vs ++ [z]) := (RDs.mono (((X2.trans X3).trans X4).trans X5) _ _ ra).append (RDs.cons r5 RDs.nil)
                      exact RDs.updU S5 f5.2 f5.1 all
                  · exact p.elim
end
end Nc

/-! NcK: comprehensions as expressions; list.append; defs by levels; errors made. -/
namespace Nc
open PySem PySem.Spec L2 PyProof.Rows

theorem tL_new {W : Wd} {XW : WX} {σ : L2.St} {H : Hp} {ml : M (List D)} {Q : VK} (h : tE W XW (mU vNew ml) σ H Q) : tL W XW ml σ H Q := by
  obtain ⟨as, env, h, S, E, p⟩ := h
  refine ⟨as, env, h, S, E, ?_⟩
  unfold mU at p
  cases q : ml env h with
  | err => rw [q] at p; exact p.elim
  | exc c x h1 => rw [q] at p; exact p
  | ok ds h1 =>
    rw [q] at p
    intro as' D vs H' X' S' n m hD r
    exact p (as' ++ [D]) (.ref D) H' (X'.list n) (S'.list m hD r) (rd_ref.mpr ⟨D, rfl, by rw [List.getElem?_append_right (by rw [S'.len]; omega)]; simp [S'.len]⟩)
section
variable {X : Cx} {W : Wd} {XW : WX} {σ : L2.St} {H : Hp} {pos p apos cpos : Pos}
theorem l_comp {elt tg iter : Expr} {ifs : List Expr} {scope : Scope} {own : List (PySem.Str × Nat)} {wi : TI} {ma : M Itr'} {g : GM} {t : M Bool} {el : M D} (hc : X.calm = true) (hN : X.N.Nodup) (hi : PI X tg iter wi)
    (hw : ∀ σ H R, tG W (fun as H I J => ItOk W as H I J) XW ma σ H R → wi σ H R) (ok : BlkOk X.N X.env.scope scope own)
    (hg : ∀ (s : Shared) (H : Hp) (C : Addr) (cl : List (PySem.Str × Addr)) (fp : List Addr), PG (X.blk s H scope (compEnvC scope cl C X.env) fp) tg (tGn W (own.map (·.2)) g)) (ht : ∀ (s : Shared) (H : Hp) (C : Addr) (cl : List (PySem.Str × Addr)) (fp : List Addr), PTs (X.blk s H scope (compEnvC scope cl C X.env) fp) ifs (tT W XF t))
    (he : ∀ (s : Shared) (H : Hp) (C : Addr) (cl : List (PySem.Str × Addr)) (fp : List Addr), PE (X.blk s H scope (compEnvC scope cl C X.env) fp) elt (tE W XF el)) (hs : ∀ x, foldedSetIterable iter X.env x = pure x := by intro _; rfl) :
    PE X (.ListComp elt [⟨tg, iter, ifs, 0⟩] scope pos) (tL W XW (mComp ma g t el (own.map (·.2)))) := (pe_lc hc hN hi ok hg ht he hs).imp fun _ _ _ h => tLc_of hw h
/-- name = [..] -/
theorem s_comp {i : Nat} {y : PySem.Str} {py spos : Pos} {elt tg iter : Expr} {ifs : List Expr} {scope : Scope} {own : List (PySem.Str × Nat)} {wi : TI} {ma : M Itr'} {g : GM} {t : M Bool} {el : M D} (hc : X.calm = true) (hN : X.N.Nodup) (hy : X.N[i]? = some y) (hyl : X.env.scope.names.lookup y = some .local)
    (hsw : swapsWith (.ListComp elt [⟨tg, iter, ifs, 0⟩] scope pos) (some (.Name y py)) spos.line X.env = pure true) (hi : PI X tg iter wi)
    (hw : ∀ σ H R, tG W (fun as H I J => ItOk W as H I J) XW ma σ H R → wi σ H R) (ok : BlkOk X.N X.env.scope scope own)
    (hg : ∀ (s : Shared) (H : Hp) (C : Addr) (cl : List (PySem.Str × Addr)) (fp : List Addr), PG (X.blk s H scope (compEnvC scope cl C X.env) fp) tg (tGn W (own.map (·.2)) g)) (ht : ∀ (s : Shared) (H : Hp) (C : Addr) (cl : List (PySem.Str × Addr)) (fp : List Addr), PTs (X.blk s H scope (compEnvC scope cl C X.env) fp) ifs (tT W XF t))
    (he : ∀ (s : Shared) (H : Hp) (C : Addr) (cl : List (PySem.Str × Addr)) (fp : List Addr), PE (X.blk s H scope (compEnvC scope cl C X.env) fp) elt (tE W XF el)) (hs : ∀ x, foldedSetIterable iter X.env x = pure x := by intro _; rfl) :
    PS X (.Assign [.Name y py] (.ListComp elt [⟨tg, iter, ifs, 0⟩] scope pos) spos) (tS W XW (sAsg (mU vNew (mComp ma g t el (own.map (·.2)))) (gNm i))) :=
  (ps_setLc hc hN hy hyl hsw hi ok hg ht he hs).imp fun Dn σ H h => by
    obtain ⟨as, env, h, S, E, p⟩ := tS_E (R := RD W) h
    have q : tE W XW (mU vNew (mComp ma g t el (own.map (·.2)))) σ H (fun x H1 => Dn.nx (σ.set i (some x)) H1) :=
      ⟨as, env, h, S, E, p.imp fun v H1 ⟨as1, h1, d, env1, S1, E1, r1, p1⟩ => spost_nx S1 (E1.set i r1) p1⟩
    exact tLc_of hw (tL_new q)
/-! ### methods of built-in types -/
def isTy (T : String) (d : D) (h : Hs) : Bool := match d with
  | .str _ => T == "str"
  | .ref i => T == "list" && (getL h i).isSome
  | _ => false
theorem isTy_ok {as : List Addr} {h : Hs} {T : String} {d : D} {v : V} (S : Sim W as h H) (r : RD W as H d v) (e : isTy T d h = true) : tyV W.K T v H := by
  cases d with
  | str s => rw [rd_str.mp r]; exact beq_iff_eq.mp e
  | ref i =>
    simp only [isTy, Bool.and_eq_true, beq_iff_eq] at e
    obtain ⟨ds, q⟩ := Option.isSome_iff_exists.mp e.2
    obtain ⟨a, vs, e1, s, _⟩ := S.rdl q
    obtain ⟨b, e2, e3⟩ := rd_ref.mp r
    rw [e1] at e3; cases e3
    rw [e2]
    exact .inl ⟨e.1, vs, s⟩
  | _ => cases e
def mMt (T : String) (f : D → List D → Hs → Out D) (mo : M D) (ms : M (List D)) : M D := fun e h => (mo e h).bind fun x h1 => if isTy T x h1 then (ms e h1).bind fun ds h2 => f x ds h2 else .err
theorem tBM_of {T : String} {r : V → List V → Hp → VK → Prop} {f : D → List D → Hs → Out D} {mo : M D} {ms : M (List D)} {Q : VK} (o : MtV W r f) (h : tE W XW (mMt T f mo ms) σ H Q) : tBM W.K T r (tE W XW mo) (tAr W XW ms) σ H Q := by
  obtain ⟨as, env, h, S, E, p⟩ := tG_bind (R := RD W) (f := fun x e h1 => if isTy T x h1 then (ms e h1).bind fun ds h2 => f x ds h2 else .err) h
  refine ⟨as, env, h, S, E, p.imp fun v H1 ⟨as1, h1, d, env1, S1, E1, r1, p1⟩ => ?_⟩
  split at p1
  · rename_i ty
    exact ⟨isTy_ok S1 r1 ty, as1, env1, h1, S1, E1, (Post.bind p1).imp fun ws H2 ⟨as2, h2, ds, X2, S2, r2, p2⟩ => o XW σ as2 h2 H2 d v ds ws Q S2 (RD.mono X2 _ _ r1) r2 p2⟩
  · exact p1.elim
theorem e_mt {o e : Expr} {es : List Expr} {name : PySem.Str} {T id : String} {r : V → List V → Hp → VK → Prop} {f : D → List D → Hs → Out D} {mo : M D} {ms : M (List D)} (hK : X.K = W.K) (pa : PlainAttrs T) (slot : Slot T name id) (hty : typeOf (.builtin id) = pure (.type "method_descriptor")) (hm : MtR X id r) (o' : MtV W r f) (ho : PE X o (tE W XW mo)) (ha : PA X (e :: es) (tAr W XW ms))
    (hbase : attributeBase o name X.env (eval o X.env) = eval o X.env := by rfl)
    (hfew : ((backTo cpos (starEach (e :: es) X.env)).all (fun x => !x.1) && (backToKw cpos (keywordEach [] X.env)).all (fun x => x.1.isSome)
      && decide ((e :: es).length + ([] : List Keyword).length + (if ([] : List Keyword).isEmpty then 0 else 1) < 30)) = true := by rfl)
    (hline : (apos.endLine == cpos.line) = true := by rfl) (hs : starEach (e :: es) X.env = (false, eval e X.env) :: starEach es X.env := by rfl) (hplain : (backTo cpos (starEach es X.env)).any (·.1) = false := by rfl) :
    PE X (.Call (.Attribute o name apos) (e :: es) [] cpos) (tE W XW (mMt T f mo ms)) := (pe_bm pa slot hty hm ho ha hbase hfew hline hs hplain).imp fun _ _ _ h => by rw [hK]; exact tBM_of o' h
def vAppend (x : D) (ds : List D) (h : Hs) : Out D := match x, ds with
  | .ref i, [d] => (match h[i]? with
    | some (.lst xs) => if xs.length < sizeLine then .ok .non (h.set i (.lst (xs ++ [d]))) else .err
    | _ => .err)
  | _, _ => .err
theorem mv_append : MtV W rAppend vAppend := fun XW σ as h H d v ds vs Q S r1 r2 p => by
  unfold vAppend at p
  split at p
  · rename_i i y
    split at p
    · rename_i xs q
      split at p
      · rename_i hl
        obtain ⟨a, ws, e1, e2, e3⟩ := S.lst q
        obtain ⟨b, e4, e5⟩ := rd_ref.mp r1
        rw [e1] at e5; cases e5
        obtain ⟨w, rfl, rw'⟩ := rds1 r2
        have X1 : Ext as H as (upd H a (.lst (ws ++ [w]))) := Ext.chg (List.mem_of_getElem? e1) e2
        exact ⟨a, ws, w, e4, rfl, e2, by rw [e3.len]; exact hl, p as _ _ X1 (S.setL e1 e2 ((RDs.mono X1 _ _ e3).append (RDs.cons (RD.mono X1 _ _ rw') RDs.nil))) (rd_non.mpr rfl)⟩
      · exact p.elim
    · exact p.elim
  · exact p.elim
end

/-! ### defs -/
abbrev Calls := Nat → List D → Hs → Out D
structure FnB where
  np : Nat
  ns : Nat
  sm : Calls → SM
def FnB.run (b : FnB) (C : Calls) (ds : List D) (h : Hs) : Out D := if ds.length = b.np then (match b.sm C (ds.map some ++ List.replicate (b.ns - ds.length) none) h with
  | .rt d h' => .ok d h'
  | .nx _ h' => .ok .non h'
  | .exc c x _ h' => .exc c x h'
  | _ => .err) else .err
def lev (B : Nat → Option FnB) : Nat → Calls
  | 0 => fun _ _ _ => .err
  | n + 1 => fun id ds h => match B id with
    | some b => b.run (lev B n) ds h
    | none => .err
/-- the promise of a def -/
def spC (W : Wd) (np : Nat) (f : List D → Hs → Out D) : Sp := fun vs H Q E => vs.length = np ∧ ∃ as h ds, Sim W as h H ∧ RDs W as H ds vs ∧ Post W (RD W) (fun c d _ H => E c d H) [] as H Q (f ds h)
structure RoomG (k : Nat) (A : Around) : Prop where
  r : Room k A
  g : A.guards = some []
theorem RoomG.mono {j k : Nat} {A : Around} (r : RoomG k A) (h : j ≤ k) : RoomG j A := ⟨r.r.mono h, r.g⟩
theorem RoomG.deeper {k : Nat} {A : Around} (r : RoomG (k + 1) A) (env : PySem.Env) : RoomG k (A.deeper env) := ⟨r.r.deeper env, r.g⟩
structure FnG (P : Program) (w : World) (K : PySem.W.Frag) (mg : PySem.Str → Option Value) (base : Heap) (k : Nat) (f : Addr) (fd : FuncData) (ps : List PySem.Str) (sp : Sp) : Prop where
  len : ∀ vs H Q E, sp vs H Q E → vs.length = ps.length
  run : ∀ (A : Around) (outer : List PySem.Env) (s : Shared) (H : Hp) (args : Args) (us : List Value) (vs : List V) (Q : VK) (E : XK), RoomG k A → Env0 P w K mg base A outer s H → BindsTo s fd args (ps.zip us) → Vals vs us → sp vs H Q E →
    codeAny (model P w) A (.call (.ref f) args) (CR (L2.CX P w) outer P w H s Q E) s
section
variable {P : Program} {w : World} {K : PySem.W.Frag} {mg : PySem.Str → Option Value} {base : Heap}
theorem fnG_of {k : Nat} {f : Addr} {x qual : PySem.Str} {st : Stmt} {fd : FuncData} {N ps : List PySem.Str} {sp : Sp} (F : Fun K x qual st f fd) (S : FnScope N ps (defScope st)) (len : ∀ vs H Q E, sp vs H Q E → vs.length = ps.length)
    (hbody : ∀ (cdv : Value) (A : Around) (outer : List PySem.Env) (s : Shared) (H : Hp) (vs : List V) (Q : VK) (E : XK), RoomG k (A.deeper (envOfC qual (defScope st) s.heap.objs.size f cdv)) → sp vs H Q E →
      ∃ t, PSs (cxOf (L2.CX P w) P w K mg base N qual (defScope st) f cdv A outer s H E) (defBody st) t ∧ t { nx := fun _ H' => Q .non H', rt := Q } (L2.start N vs) H) : FnG P w K mg base (k + 1) f fd ps sp := by
  obtain ⟨oc, od, kV, doc, pm, an, cdv, ct, osl, rfl, lk, hcd⟩ := F.ex
  refine ⟨len, fun A outer s H args us vs Q E hr e0 hb r hsp => ?_⟩
  have hl := len _ _ _ _ hsp
  have KX : K.In s.heap := e0.mod.kin.keeps fun b o e => (e0.bs b o e).1
  have lim : s.heap.NoLimit := e0.mod.nolimit.keeps fun b o e => (e0.bs b o e).1
  have hkind : ∀ y ∈ ps.zip us, (defScope st).names.lookup y.1 = some .local ∨ ((defScope st).names.lookup y.1 = some .cell ∧ ((cellsFrom (s.heap.objs.size + 1) (defScope st).names []).lookup y.1).isSome = true) := fun ⟨n, v⟩ hy => by
    rcases S.par n (List.of_mem_zip hy).1 with q | q
    · exact .inl q
    · exact .inr ⟨q, PySem.W.cellsFrom_some _ _ _ (.inl q)⟩
  refine codeAny_call_function hr.r.depth (KX _ _ lk) rfl S.co S.gen rfl (PySem.W.codeRec_of KX hcd) (hb _ _ _ _ ?_)
  refine wpAny_newFunctionEnv_cells S.kind hkind fun env he s1 x => ?_
  subst he
  refine ⟨lim.keeps x.toInCall.keep, codeAny_func ?_⟩
  obtain ⟨t, ht, hq⟩ := hbody cdv A outer s H vs Q E (hr.deeper _) hsp
  have I : Inv (cxOf (L2.CX P w) P w K mg base N qual (defScope st) f cdv A outer s H E) [] (L2.start N vs) H s1 := inv_start S hr.r.hd e0 hl r x
  refine wpAny_mono (ht.run [] s1 (L2.start N vs) H _ I hq) (fun fl s' hs => ?_) fun e s' hs => hs
  have fin : ∀ {σ' : L2.St} {H' : Hp} {v : V} {u : Value}, Inv (cxOf (L2.CX P w) P w K mg base N qual (defScope st) f cdv A outer s H E) [] σ' H' s' → RelV v u → Q v H' → CE outer P w H s Q u s' :=
    fun {σ' H' v u} J rv q => ⟨v, H', J.os, J.bare, J.base, J.hok, rv, q⟩
  cases fl with
  | ret u =>
    obtain ⟨v, σ', H', J, rv, q⟩ := hs
    exact fin J rv q
  | next =>
    obtain ⟨σ', H', J, q⟩ := hs
    exact fin (v := V.non) (u := Value.none) J rfl q
  | brk =>
    obtain ⟨_, _, _, q⟩ := hs
    exact False.elim q
  | cont =>
    obtain ⟨_, _, _, q⟩ := hs
    exact False.elim q
theorem ev_start {W : Wd} {as : List Addr} {H : Hp} {ds : List D} {vs : List V} {N : List PySem.Str} (r : RDs W as H ds vs) : EV W as H (ds.map some ++ List.replicate (N.length - ds.length) none) (L2.start N vs) := by
  have hl := r.len
  refine ⟨by simp [L2.start, hl], fun i d q => ?_⟩
  unfold L2.start
  by_cases hi : i < ds.length
  · rw [List.getElem?_append_left (by simpa using hi), List.getElem?_map] at q
    cases e : ds[i]? with
    | none => rw [e] at q; cases q
    | some x =>
      rw [e] at q
      cases q
      obtain ⟨v, h1, h2⟩ := r.get e
      exact ⟨v, by rw [List.getElem?_append_left (by simp [hl]; exact hi), List.getElem?_map, h1]; rfl, h2⟩
  · rw [List.getElem?_append_right (by simpa using hi), List.getElem?_replicate] at q
    split at q <;> cases q
/-- a def by its body -/
theorem fnG_body {W : Wd} {k : Nat} {f : Addr} {x qual : PySem.Str} {st : Stmt} {fd : FuncData} {N ps : List PySem.Str} {b : FnB} {C : Calls} (F : Fun K x qual st f fd) (S : FnScope N ps (defScope st)) (hp : b.np = ps.length) (hn : b.ns = N.length)
    (hb : ∀ (cdv : Value) (A : Around) (outer : List PySem.Env) (s : Shared) (H : Hp) (E : XK), RoomG k (A.deeper (envOfC qual (defScope st) s.heap.objs.size f cdv)) →
      PSs (cxOf (L2.CX P w) P w K mg base N qual (defScope st) f cdv A outer s H E) (defBody st) (tS W (fun c d _ H => E c d H) (b.sm C))) : FnG P w K mg base (k + 1) f fd ps (spC W ps.length (b.run C)) := by
  refine fnG_of F S (fun vs H Q E h => h.1) fun cdv A outer s H vs Q E hr hsp => ⟨_, hb cdv A outer s H E hr, ?_⟩
  obtain ⟨hl, as, h, ds, Si, r, p⟩ := hsp
  have e1 : ds.length = b.np := by rw [← r.len, hl, hp]
  refine ⟨as, _, h, Si, ev_start (N := N) r, ?_⟩
  unfold FnB.run at p
  rw [if_pos e1, hn] at p
  cases q : b.sm C (ds.map some ++ List.replicate (N.length - ds.length) none) h with
  | rt d h' => rw [q] at p; exact p
  | nx e h' => rw [q] at p; exact fun as' σ' H' e S' E' => p as' .non H' e S' (rd_non.mpr rfl)
  | exc c x e h' => rw [q] at p; exact fun as' σ' dx v H' e S' E' q1 q2 => p as' dx v H' e S' q1 q2
  | bk _ _ => rw [q] at p; exact p.elim
  | ct _ _ => rw [q] at p; exact p.elim
  | err => rw [q] at p; exact p.elim
theorem fnG_none {k : Nat} {f : Addr} {fd : FuncData} {W : Wd} {ps : List PySem.Str} : FnG P w K mg base k f fd ps (spC W ps.length (fun _ _ => .err)) :=
  ⟨fun vs H Q E h => h.1, fun A outer s H args us vs Q E hr e0 hb r ⟨_, as, h, ds, _, _, p⟩ => p.elim⟩
end
section
variable {X : Cx} {W : Wd} {XW : WX} {σ : L2.St} {H : Hp} {pos p : Pos}
/-- a def that may be called -/
structure Callable (X : Cx) (W : Wd) (f : List D → Hs → Out D) (k : Nat) (x : PySem.Str) : Prop where
  ex : ∃ (a : Addr) (fd : FuncData) (ps : List PySem.Str), X.mg x = some (.ref a) ∧ PySem.W.keepIn X.K (.ref a) = true ∧ Binds X.K fd ps [] ∧ FnG X.prog X.w X.K X.mg X.base k a fd ps (spC W ps.length f)
theorem run_fnG {k : Nat} {a : Addr} {fd : FuncData} {ps : List PySem.Str} {f : List D → Hs → Out D} {pins : List (Addr × Obj)} {s : Shared} {Q : VK} {us : List Value} {vs : List V} {ds : List D} {as : List Addr} {h : Hs} (F : FnG X.prog X.w X.K X.mg X.base k a fd ps (spC W ps.length f)) (hr : RoomG k X.A) (hb : Binds X.K fd ps []) (tk : Takes X XW)
    (I : Inv X pins σ H s) (r : Vals vs us) (S : Sim W as h H) (rd : RDs W as H ds vs) (hl : ds.length = ps.length) (q : Post W (RD W) XW σ as H Q (f ds h)) : wpAny (model X.prog X.w) X.A (call (.ref a) us) (EP X pins σ Q) X.xe s := by
  have sp : spC W ps.length f vs H Q (fun c d H => XW c d σ H) := ⟨by rw [rd.len]; exact hl, as, h, ds, S, rd, by
    cases e : f ds h with
    | ok d h' => rw [e] at q; exact q
    | exc c x h' => rw [e] at q; exact q
    | err => rw [e] at q; exact q⟩
  have hl2 : us.length = ps.length := by rw [← r.length, rd.len]; exact hl
  have b := hb s us I.kIn (by rw [List.append_nil]; exact hl2)
  rw [List.append_nil] at b
  refine wpAny_call (codeAny_mono (F.run X.A X.stack s H ⟨us, []⟩ us vs Q _ hr I.env0 b r sp) fun r s' hq => ?_)
  cases r with
  | error e => exact passAt tk σ pins H s e s' I hq
  | ok fl =>
    cases fl with
    | ret u => exact I.after hq
    | next => exact False.elim hq
    | brk => exact False.elim hq
    | cont => exact False.elim hq
def mCall (f : List D → Hs → Out D) (n : Nat) (ms : M (List D)) : M D := mU (fun ds h => if ds.length = n then f ds h else .err) ms
theorem e_call {x : PySem.Str} {e : Expr} {es : List Expr} {f : List D → Hs → Out D} {k n : Nat} {ms : M (List D)} {a : Addr} {fd : FuncData} {ps : List PySem.Str} (F : FnG X.prog X.w X.K X.mg X.base k a fd ps (spC W ps.length f)) (hn : ps.length = n) (hm : X.mg x = some (.ref a)) (hk : PySem.W.keepIn X.K (.ref a) = true) (hb : Binds X.K fd ps []) (hr : RoomG k X.A) (tk : Takes X XW) (hg : Gl X x) (hdb : (x == ("__debug__" : PySem.Str)) = false) (ha : PA X (e :: es) (tAr W XW ms))
    (he : starEach (e :: es) X.env = (false, eval e X.env) :: starEach es X.env := by rfl) (hpl : (backTo pos (starEach es X.env)).any (·.1) = false := by rfl) : PE X (.Call (.Name x p) (e :: es) [] pos) (tE W XW (mCall f n ms)) := by
  refine ⟨fun pins s σ H Q I h => ?_⟩
  obtain ⟨as, env, h, S, E, q⟩ := tG_U (R := RDs W) h
  refine wpAny_Call_Name_kw (ld_glob I hg hm ?_ hdb)
  refine PySem.W.callWith_K (h₀ := X.base) I.ok.mod.kin hk (thn (ha.run pos pins s σ H _ I ⟨as, env, h, S, E, q⟩) fun us s1 ⟨vs, H1, I1, r, as1, h1, ds, S1, rd, p1⟩ => ⟨I1.kIn, ?_⟩) he hpl
  split at p1
  · rename_i hl
    exact run_fnG F hr hb tk I1 r S1 rd (hl.trans hn.symm) p1
  · exact p1.elim
theorem e_call0 {x : PySem.Str} {f : List D → Hs → Out D} {k : Nat} {a : Addr} {fd : FuncData} (F : FnG X.prog X.w X.K X.mg X.base k a fd [] (spC W 0 f)) (hm : X.mg x = some (.ref a)) (hk : PySem.W.keepIn X.K (.ref a) = true) (hb : Binds X.K fd [] []) (hr : RoomG k X.A) (tk : Takes X XW) (hg : Gl X x) (hdb : (x == ("__debug__" : PySem.Str)) = false) :
    PE X (.Call (.Name x p) [] [] pos) (tE W XW (mCall f 0 mNil)) := by
  refine ⟨fun pins s σ H Q I ⟨as, env, h, S, E, q⟩ => ?_⟩
  refine wpAny_Call_Name_kw (ld_glob I hg hm ?_ hdb)
  exact PySem.W.callWith_K0 I.kIn hk (run_fnG (us := []) (ps := []) F hr hb tk I .nil S RDs.nil rfl q)
/-! ### errors made -/
def vExc (ci : Ci) (c : Nat) (ds : List D) (h : Hs) : Out D := match ds with
  | [d] => if c < ci.n ∧ ci.isEx c = true then .ok (.exc c [d]) h else .err
  | _ => .err
theorem ext_mk {as : List Addr} {a dx C : Addr} {f : PySem.Str} {v : V} (na : H a = none) (nd : upd H a (exo a C none) dx = none) : Ext as H as (upd (upd (upd H a (exo a C none)) dx (exd dx [(f, v)])) a (exo a C (some dx))) := by
  have e1 : Ext as H as (upd H a (exo a C none)) := Ext.new na
  have e2 : Ext as (upd H a (exo a C none)) as (upd (upd H a (exo a C none)) dx (exd dx [(f, v)])) := Ext.new nd
  have n1 : ∀ {b : Addr} {o : HO}, H b = some o → b ≠ a := fun e => ne_of_none e na
  exact ⟨⟨[], by simp⟩, fun b xs q => by rw [upd_ne (n1 q)]; exact (e1.trans e2).tup b xs q, fun b o u q => by rw [upd_ne (n1 q)]; exact (e1.trans e2).frz b o u q, fun b φ q => by rw [upd_ne (n1 q)]; exact (e1.trans e2).ext b φ q,
    fun b o q k => ⟨by rw [upd_ne (n1 q)]; exact ((e1.trans e2).frm b o q k).1, k⟩⟩
theorem e_exc {ci : Ci} {c : Nat} {x : PySem.Str} {fI : Addr} {k : Nat} {fd : FuncData} {ps : List PySem.Str} {e : Expr} {ms : M (List D)} (O : WdOk W ci) (hK : X.K = W.K) (hc : c < ci.n ∧ ci.isEx c = true) (iC : PySem.W.findIn X.K (.ref (W.cls c)) "__init__" = some (some (.ref fI))) (tI : PySem.W.typeIn X.K (.ref fI) = some (.type "function"))
    (F1 : FnOk X.prog X.w X.K X.mg X.base CX0 k fI fd ps (spXI (W.cls c) (ci.fld c))) (hr : Room (k + 1) X.A) (hb : Binds X.K fd ps []) (hg : Gl X x) (hm : X.mg x = some (.ref (W.cls c))) (hdb : (x == ("__debug__" : PySem.Str)) = false) (ha : PA X [e] (tAr W XW ms))
    (he : starEach [e] X.env = (false, eval e X.env) :: starEach [] X.env := by rfl) (hpl : (backTo pos (starEach [] X.env)).any (·.1) = false := by rfl) : PE X (.Call (.Name x p) [e] [] pos) (tE W XW (mU (vExc ci c) ms)) :=
  (pe_mkX (by rw [hK]; exact (O.ex c hc.1 hc.2).ox) iC tI F1 hr hb pass0 hg hm ha hdb he hpl).imp fun σ H Q h => by
    obtain ⟨as, env, h, S, E, q⟩ := tG_U (R := RDs W) h
    refine ⟨as, env, h, S, E, q.imp fun vs H1 ⟨as1, h1, ds, S1, r1, p1⟩ => ?_⟩
    unfold vExc at p1
    split at p1
    · rename_i d
      obtain ⟨v, ev, rv⟩ := rds1 r1
      subst ev
      rw [if_pos hc] at p1
      refine ⟨by show 1 ≤ 1000; decide, fun a na => ⟨a, v, rfl, upd_same, fun dx nd ne => ⟨rfl, ?_⟩⟩⟩
      have X1 := ext_mk (as := as1) (f := ci.fld c) (v := v) na nd
      have S2 : Sim W as1 h1 (upd (upd (upd H1 a (exo a (W.cls c) none)) dx (exd dx [(ci.fld c, v)])) a (exo a (W.cls c) (some dx))) := S1.keep X1 (fun b m => by
          have nb := S1.tracked m
          obtain ⟨u, hu⟩ := nb
          have b1 : b ≠ a := ne_of_none hu na
          have b2 : b ≠ dx := ne_of_none (show upd H1 a (exo a (W.cls c) none) b = some u by rw [upd_ne b1]; exact hu) nd
          rw [upd_ne b1, upd_ne b2, upd_ne b1]) fun b dy z => by
          have b1 : dy ≠ a := ne_of_none z na
          have b2 : dy ≠ dx := ne_of_none (show upd H1 a (exo a (W.cls c) none) dy = some (.own b) by rw [upd_ne b1]; exact z) nd
          rw [upd_ne b1, upd_ne b2, upd_ne b1]; exact z
      refine p1 as1 (.ref a) _ X1 S2 ?_
      unfold RD
      exact ⟨a, rfl, .inr ⟨dx, [v], upd_same, by rw [upd_ne ne, upd_same, O.fld]; rfl, rfl, RDs.cons (RD.mono X1 _ _ rv) RDs.nil⟩⟩
    · exact p1.elim
end
end Nc

/-! NcM: further small rules; built-ins by name. -/
namespace Nc
open PySem L2
section
variable {X : Cx} {W : Wd} {XW : WX} {σ : L2.St} {H : Hp} {pos p : Pos}
def mDct : M D := fun _ h => .ok (.ref h.length) (h ++ [.dct []])
theorem e_dct0 : PE X (.Dict [] [] pos) (tE W XW mDct) := pe_dnewK.imp fun σ H Q ⟨as, env, h, S, E, p⟩ => fun d n =>
  p (as ++ [d]) _ _ (Ext.snoc n) (S.snoc n ⟨rfl, upd_same⟩) (rd_ref.mpr ⟨d, rfl, by rw [List.getElem?_append_right (by rw [S.len]; omega)]; simp [S.len]⟩)
/-- a target that ends a statement's way nowhere else -/
def GOk (g : GM) : Prop := ∀ d e h, (∀ x y, g d e h ≠ .rt x y) ∧ (∀ x y, g d e h ≠ .bk x y) ∧ ∀ x y, g d e h ≠ .ct x y
def GsOk (g : GMs) : Prop := ∀ d e h, (∀ x y, g d e h ≠ .rt x y) ∧ (∀ x y, g d e h ≠ .bk x y) ∧ ∀ x y, g d e h ≠ .ct x y
theorem gok_nm {i : Nat} : GOk (gNm i) := fun _ _ _ => ⟨fun _ _ q => (nomatch q), fun _ _ q => (nomatch q), fun _ _ q => (nomatch q)⟩
theorem gsok_nil : GsOk gsNil := fun d e h => by cases d <;> exact ⟨fun _ _ q => (nomatch q), fun _ _ q => (nomatch q), fun _ _ q => (nomatch q)⟩
theorem gsok_cons {g : GM} {gs : GMs} (h1 : GOk g) (h2 : GsOk gs) : GsOk (gsCons g gs) := fun d e h => by
  cases d with
  | nil => exact ⟨fun _ _ q => (nomatch q), fun _ _ q => (nomatch q), fun _ _ q => (nomatch q)⟩
  | cons x xs =>
    simp only [gsCons]
    cases q : g x e h with
    | nx e1 h1 => exact h2 xs e1 h1
    | _ => exact ⟨fun _ _ q => (nomatch q), fun _ _ q => (nomatch q), fun _ _ q => (nomatch q)⟩
theorem gok_tup {n : Nat} {gs : GMs} (h : GsOk gs) : GOk (gTupM n gs) := fun d e h' => by
  cases d with
  | tup ds =>
    simp only [gTupM]
    split
    · exact h ds e h'
    · exact ⟨fun _ _ q => (nomatch q), fun _ _ q => (nomatch q), fun _ _ q => (nomatch q)⟩
  | _ => exact ⟨fun _ _ q => (nomatch q), fun _ _ q => (nomatch q), fun _ _ q => (nomatch q)⟩
theorem gok_sub {mo mi : M D} : GOk (gSubM mo mi) := fun d e h => by
  simp only [gSubM, sE]
  cases mo e h with
  | ok x h1 =>
    simp only
    cases mi e h1 with
    | ok y h2 =>
      simp only
      cases setIx x y d h2 with
      | ok _ _ => exact ⟨fun _ _ q => (nomatch q), fun _ _ q => (nomatch q), fun _ _ q => (nomatch q)⟩
      | exc _ _ _ => exact ⟨fun _ _ q => (nomatch q), fun _ _ q => (nomatch q), fun _ _ q => (nomatch q)⟩
      | err => exact ⟨fun _ _ q => (nomatch q), fun _ _ q => (nomatch q), fun _ _ q => (nomatch q)⟩
    | exc _ _ _ => exact ⟨fun _ _ q => (nomatch q), fun _ _ q => (nomatch q), fun _ _ q => (nomatch q)⟩
    | err => exact ⟨fun _ _ q => (nomatch q), fun _ _ q => (nomatch q), fun _ _ q => (nomatch q)⟩
  | exc _ _ _ => exact ⟨fun _ _ q => (nomatch q), fun _ _ q => (nomatch q), fun _ _ q => (nomatch q)⟩
  | err => exact ⟨fun _ _ q => (nomatch q), fun _ _ q => (nomatch q), fun _ _ q => (nomatch q)⟩
end
section
variable {X : Cx} {W : Wd} {XW : WX} {σ : L2.St} {H : Hp} {pos p : Pos}
/-- C('..') of an error's class without own __init__ -/
def vExc0 (ci : Ci) (c : Nat) (ds : List D) (h : Hs) : Out D := match ds with
  | [.str _] => if c < ci.n ∧ ci.isEx c = true then .ok (.exc c []) h else .err
  | _ => .err
theorem e_exc0 {ci : Ci} {c : Nat} {x : PySem.Str} {e : Expr} {ms : M (List D)} (O : WdOk W ci) (hK : X.K = W.K) (hc : c < ci.n ∧ ci.isEx c = true) (q : PySem.W.excIn X.K (W.cls c) [.type "ValueError", .type "Exception", .type "BaseException", .type "object"] "ValueError.__new__" = true)
    (hg : Gl X x) (hm : X.mg x = some (.ref (W.cls c))) (hdb : (x == ("__debug__" : PySem.Str)) = false) (ha : PA X [e] (tAr W XW ms))
    (he : starEach [e] X.env = (false, eval e X.env) :: starEach [] X.env := by rfl) (hpl : (backTo pos (starEach [] X.env)).any (·.1) = false := by rfl) : PE X (.Call (.Name x p) [e] [] pos) (tE W XW (mU (vExc0 ci c) ms)) := by
  refine ⟨fun pins s σ H Q I h => ?_⟩
  obtain ⟨as, env, h, S, E, q1⟩ := tG_U (R := RDs W) h
  have kC : PySem.W.keepIn X.K (.ref (W.cls c)) = true := by rw [hK]; exact (O.ex c hc.1 hc.2).ox.kC
  refine wpAny_Call_Name_kw (ld_glob I hg hm ?_ hdb)
  refine PySem.W.callWith_K (h₀ := X.base) I.ok.mod.kin kC (thn (ha.run pos pins s σ H _ I ⟨as, env, h, S, E, q1⟩) fun us s1 ⟨vs, H1, I1, r, as1, h1, ds, S1, rd, p1⟩ => ⟨I1.kIn, ?_⟩) he hpl
  unfold vExc0 at p1
  split at p1
  · rename_i z
    rw [if_pos hc] at p1
    obtain ⟨v, ev, _⟩ := rds1 rd
    subst ev
    obtain ⟨u, eu, _⟩ := vals1 r
    subst eu
    obtain ⟨bm, N, nm, qn, bs, hdct, sn, sub, ab, col, dd, k0, k1, k2, k3, k5, mN, hC, hN, hni, T⟩ := exc_obj I1.kIn q
    obtain ⟨hp, g, dr, tk, os⟩ := s1
    show wpAny _ _ (call (.ref (W.cls c)) [u]) _ _ _
    refine wpAny_call_exc_subT F.excBase_ValueError T hC hN hni (fun h' a hm => ?_) (by show 1 ≤ sizeLine; decide)
    obtain ⟨t, h1', _, _⟩ := hm.there
    have na : H1 a = none := I1.hok.gone hm.new
    have X1 : Ext as1 H1 as1 (upd H1 a (exo a (W.cls c) none)) := Ext.new na
    refine ⟨.ref a, upd H1 a (exo a (W.cls c) none), I1.laidN (t' := tk) hm.keeps hm.new na (exo_ok h1'), rfl, p1 as1 _ _ X1 (S1.new na) ?_⟩
    unfold RD
    exact ⟨a, rfl, .inl ⟨rfl, upd_same⟩⟩
  · exact p1.elim
end
theorem bt_len : bootBuiltins "len" = some (.builtin "len") := by decide +kernel
theorem bt_abs : bootBuiltins "abs" = some (.builtin "abs") := by decide +kernel
theorem bt_max : bootBuiltins "max" = some (.builtin "max") := by decide +kernel
theorem bt_min : bootBuiltins "min" = some (.builtin "min") := by decide +kernel
theorem bt_repr : bootBuiltins "repr" = some (.builtin "repr") := by decide +kernel
theorem bt_int : bootBuiltins "int" = some (.type "int") := by decide +kernel
theorem bt_str : bootBuiltins "str" = some (.type "str") := by decide +kernel
theorem bt_list : bootBuiltins "list" = some (.type "list") := by decide +kernel
theorem bt_tuple : bootBuiltins "tuple" = some (.type "tuple") := by decide +kernel
theorem bt_bool : bootBuiltins "bool" = some (.type "bool") := by decide +kernel
theorem bt_dict : bootBuiltins "dict" = some (.type "dict") := by decide +kernel
theorem bt_verr : bootBuiltins "ValueError" = some (.type "ValueError") := by decide +kernel
theorem ne_name {x : PySem.Str} (h : decide (x = ("__name__" : PySem.Str)) = false) : x ≠ "__name__" := of_decide_eq_false h
end Nc

/-! NcN: the end of a law over the own computations; what a law's text holds (Lay, Txt). -/
namespace Nc
open PySem PySem.Spec PyProof.Rows L2
section
variable {P : Program} {w : World} {K : PySem.W.Frag} {mg mb : PySem.Str → Option Value} {k : Nat} {fa a : Addr} {fd : FuncData} {x : PySem.Str} {s₁ : Shared} {vs : List Value} {ns : List Int} {W : Wd} {f : List D → Hs → Out D}
/-- the one object of ours at the entry: the script -/
def HpS (a : Addr) (vs : List Value) (ns : List Int) : Hp := fun b => if b = a then some (.frz { cls := .type "list", data := .seq vs.toArray } (.lst (ns.map V.int))) else none
theorem hpS_at : HpS a vs ns a = some (.frz { cls := .type "list", data := .seq vs.toArray } (.lst (ns.map V.int))) := if_pos rfl
theorem hpS_ne {b : Addr} (h : b ≠ a) : HpS a vs ns b = none := if_neg h
theorem rds_ints {as : List Addr} {H : Hp} : ∀ ns : List Int, RDs W as H (ns.map D.int) (ns.map V.int)
  | [] => RDs.nil
  | n :: ns => RDs.cons (rd_int.mpr rfl) (rds_ints ns)
theorem sim_start : Sim W [a] [.fro (ns.map D.int)] (HpS a vs ns) := ⟨rfl, by simp, fun i o e => by
  cases i with
  | zero => cases e; exact ⟨a, rfl, ns.map V.int, _, hpS_at, rds_ints ns⟩
  | succ i => simp at e⟩
/-- the law's call: what the own computation of it says is so -/
theorem law_callG (hW : W.K = K) (KX : K.In s₁.heap) (hns : s₁.heap.Ns mainGlobals mg) (hb : s₁.heap.Ns builtinsNs mb) (hbb : ∀ x : PySem.Str, x ≠ "__name__" → mb x = bootBuiltins x) (hlim : s₁.heap.NoLimit) (hg : s₁.gens = #[])
    (ha : s₁.heap.get? a = some { cls := .type "list", data := .seq vs.toArray }) (hi : IntsAre vs ns) (hl : ns.length ≤ sizeLine) (hka : K.lookup a = none)
    (F : ∀ base : Heap, K.In base → base.Ns mainGlobals mg → FnG P w K mg base k fa fd [x] (spC W 1 f)) (hr : RoomG k callerA) (hbind : ∀ (s : Shared) (u : Value), BindsTo s fd ⟨[u], []⟩ [(x, u)])
    (hlaw : ∃ h', f [.ref 0] [.fro (ns.map D.int)] = .ok (.bl true) h') :
    codeAny (model P w) callerA (.call (.ref fa) ⟨[.ref a], []⟩) (fun r s' => r = .ok (.ret (.bool true)) ∧ OldK s₁.heap s'.heap ∧ s'.os = s₁.os ∧ AllBare s'.gens) s₁ := by
  have rv := vals_ints hi
  have hok : HOk P w (HpS a vs ns) s₁.heap := fun b u z => by
    by_cases e : b = a
    · rw [e, hpS_at] at z
      cases z
      rw [e]
      exact ⟨ha, by rw [List.length_map]; exact hl, vs, _, rv, ha⟩
    · rw [hpS_ne e] at z; cases z
  -- what the law doesn't know of: all but the script
  have old : ∀ {b : Addr} {o : Obj}, s₁.heap.get? b = some o → b ≠ a → (hidT s₁.heap (HpS a vs ns)).get? b = some o := fun e n => hidT_get e (hpS_ne n)
  have apart : ∀ {b : Addr} {m : PySem.Str → Option Value}, s₁.heap.Ns b m → (hidT s₁.heap (HpS a vs ns)).Ns b m := fun {b m} n => by
    obtain ⟨o, es, ep, h1, h2, h3⟩ := n
    refine ⟨o, es, ep, old h1 fun z => ?_, h2, h3⟩
    rw [z, ha] at h1
    cases h1
    cases h2
  have kin : K.In (hidT s₁.heap (HpS a vs ns)) := fun b o e => old (KX b o e) fun z => by rw [z, hka] at e; cases e
  have hM : Mod K mg (hidT s₁.heap (HpS a vs ns)) := ⟨kin, apart hns, ⟨mb, apart hb, hbb⟩, by obtain ⟨mc, z1, z2⟩ := hlim; exact ⟨mc, apart z1, z2⟩⟩
  have e0 : Env0 P w K mg (hidT s₁.heap (HpS a vs ns)) callerA [] s₁ (HpS a vs ns) := ⟨rfl, hM, fun b o e => of_hidT e, Nat.le_of_eq (hidT_size _ _), trivial, fun b z => (nomatch z), hok, .of_eq hg⟩
  obtain ⟨h', eq⟩ := hlaw
  have sp : spC W 1 f [.ref a] (HpS a vs ns) (fun v _ => v = .bl true) (fun _ _ _ => False) := ⟨rfl, [a], [.fro (ns.map D.int)], [.ref 0], sim_start, RDs.cons (rd_ref.mpr ⟨a, rfl, rfl⟩) RDs.nil, by
    rw [eq]
    exact fun as' v H' _ _ r => rd_bl.mp r⟩
  refine codeAny_mono ((F _ kin (apart hns)).run callerA [] s₁ _ ⟨[.ref a], []⟩ [.ref a] [.ref a] _ _ hr e0 (hbind s₁ (.ref a)) (.cons rfl .nil) sp) fun r s' z => ?_
  cases r with
  | error e =>
    obtain ⟨_, _, _, _, _, _, _, _, _, _, _, _, y⟩ := z
    exact y.elim
  | ok fl =>
    cases fl with
    | next => exact z.elim
    | brk => exact z.elim
    | cont => exact z.elim
    | ret u =>
      obtain ⟨v, H', os, bare, un, hok', r', q⟩ := z
      cases (show v = .bl true from q)
      obtain rfl : u = Value.bool true := r'
      refine ⟨rfl, OldK.of_keep fun b o e => ?_, os, bare⟩
      by_cases n : b = a
      · have q2 := un.frzs a _ _ (hpS_at (a := a) (vs := vs) (ns := ns))
        rw [n, ha] at e
        cases e
        rw [n]
        exact (hok' a _ q2).1
      · exact un.keep b o e (hpS_ne n) (fun z => (nomatch z)) (fun z => (nomatch z))
end
/-- what k_head leaves (case hc), from the own computation -/
theorem walk_ofG {l : PySem.W.OpenLaw} {n k : Nat} {q : Program} {loose : List PySem.Str} {XP : (PySem.Str → Option Value) → Heap → Prop} {YP : World → Heap → Prop} {d : DefRec} {K : Params → PySem.W.Frag} {x : PySem.Str} {f : List D → Hs → Out D}
    (hn : l.most = some n) (hn2 : n ≤ sizeLine) (hdf : d.params.defaults = []) (hr : RoomG k callerA) (hY : ∀ (w : World) (h : Heap), YP w h → (K w.params).In h)
    (nolst : ∀ (w : World) (a : Addr) (o : Obj), (K w.params).lookup a = some o → o.cls ≠ .type "list")
    (F : ∀ (w : World) (mg : PySem.Str → Option Value) (fa : Addr) (h : Heap), (K w.params).In h → h.Ns mainGlobals mg → mg d.name = some (.ref fa) →
      ∃ (W : Wd) (fd : FuncData), W.K = K w.params ∧ (∀ (s : Shared) (u : Value), BindsTo s fd ⟨[u], []⟩ [(x, u)]) ∧
        ∀ base : Heap, (K w.params).In base → base.Ns mainGlobals mg → FnG l.prog w (K w.params) mg base k fa fd [x] (spC W 1 f))
    (hlaw : ∀ ns : List Int, ns.length ≤ n → (∀ z ∈ ns, Builtin.Int.intBits z ≤ 1048576) → ∃ h', f [.ref 0] [.fro (ns.map D.int)] = .ok (.bl true) h') :
    PySem.W.WalkO q loose XP YP l.row.toRowW d [] (fun f vs => PySem.call f vs) := by
  refine Att.attach_callB hn hdf fun w s₀ s₁ mg mb fa o pm cd doc a vs ns G Y ho hd hcd hmg hobj hints hlen hbits hg => ?_
  have KX := hY w _ Y
  obtain ⟨W, fd, hW, hb, hF⟩ := F w mg fa _ KX G.T.g hmg
  refine law_callG hW KX G.T.g G.T.b G.T.builtins G.T.nolimit hg hobj hints (Nat.le_trans hlen hn2) ?_ hF hr hb (hlaw ns hlen hbits)
  cases e : (K w.params).lookup a with
  | none => rfl
  | some o =>
    have e2 := KX a o e
    rw [hobj] at e2
    cases e2
    exact absurd rfl (nolst w a _ e)

/-! ### a law's text -/
/-- the static description: names by numbers -/
structure Lay where
  blts : List PySem.Str
  ci : Ci
  cname : Nat → PySem.Str
  nf : Nat
  fname : Nat → PySem.Str
  fps : Nat → List PySem.Str
  fid : Nat → Nat
  attrs : List PySem.Str
  /-- errors with an own __init__; plain ones -/
  init : Nat → Bool
/-- what the written part says; the addresses of classes, defs and __init__s -/
structure Sta (L : Lay) (K : PySem.W.Frag) (mg : PySem.Str → Option Value) (cls fa fi : Nat → Addr) (ffd fid : Nat → FuncData) : Prop where
  ok : WdOk ⟨K, cls, L.ci.fld⟩ L.ci
  blt : ∀ i, i < L.blts.length → mg (L.blts.getD i "") = none
  mgc : ∀ c, c < L.ci.n → mg (L.cname c) = some (.ref (cls c))
  noat : ∀ i, i < L.attrs.length → ∀ c, c < L.ci.n → L.ci.isEx c = false → NoAttr K (cls c) (L.attrs.getD i "")
  mgf : ∀ i, i < L.nf → mg (L.fname i) = some (.ref (fa i))
  kpf : ∀ i, i < L.nf → PySem.W.keepIn K (.ref (fa i)) = true
  bdf : ∀ i, i < L.nf → Binds K (ffd i) (L.fps i) []
  ini : ∀ c, c < L.ci.n → L.init c = true → PySem.W.findIn K (.ref (cls c)) "__init__" = some (some (.ref (fi c))) ∧ PySem.W.typeIn K (.ref (fi c)) = some (.type "function") ∧ Binds K (fid c) ["self", L.ci.fld c] []
  exi : ∀ c, c < L.ci.n → L.ci.isEx c = true → L.init c = false → PySem.W.excIn K (cls c) [.type "ValueError", .type "Exception", .type "BaseException", .type "object"] "ValueError.__new__" = true
structure Txt (L : Lay) (P : Program) (w : World) (K : PySem.W.Frag) (mg : PySem.Str → Option Value) (base : Heap) (cls fa fi : Nat → Addr) (ffd fid : Nat → FuncData) (C : Calls) (k : Nat) : Prop extends Sta L K mg cls fa fi ffd fid where
  F : ∀ i, i < L.nf → FnG P w K mg base k (fa i) (ffd i) (L.fps i) (spC ⟨K, cls, L.ci.fld⟩ (L.fps i).length (C (L.fid i)))
  inF : ∀ c, c < L.ci.n → L.init c = true → FnOk P w K mg base CX0 1 (fi c) (fid c) ["self", L.ci.fld c] (spXI (cls c) (L.ci.fld c))
end Nc

/-! NcO: an error's __init__; the facts of a text by one check. -/
namespace Nc
open PySem PySem.Spec PyProof.Rows L2
section
variable {P : Program} {w : World} {K : PySem.W.Frag} {mg : PySem.Str → Option Value} {base : Heap}
theorem init_ok {qual : PySem.Str} {st : Stmt} {f C B : Addr} {fd : FuncData} {fld : PySem.Str} {msg : PySem.Str} {j : Nat} {p1 p2 p3 p4 p5 p6 q1 q2 q3 q4 : Pos} (F : Fun K "__init__" qual st f fd)
    (S : FnScope ["self", fld] ["self", fld] (defScope st)) (hb : defBody st = [.Expr (.Call (.Attribute (.Name "CutError" p1) "__init__" p2) [.Name "self" p3, .Constant (.str msg) j p4] [] p5) p6, .Assign [.Attribute (.Name "self" q1) fld q2] (.Name fld q3) q4])
    (hB : BaseI K mg "CutError" B) (hx : (defScope st).names.lookup ("CutError" : PySem.Str) = some .globalImplicit) (hv0 : (defScope st).names.lookup ("self" : PySem.Str) = some .local) (hv1 : (defScope st).names.lookup fld = some .local) (hd1 : (fld == ("__debug__" : PySem.Str)) = false) (hd2 : (fld == ("__classdict__" : PySem.Str)) = false)
    (pl : PySem.Env → Sem Bool) (hc : ∀ env : PySem.Env, eval (.Call (.Attribute (.Name "CutError" p1) "__init__" p2) [.Name "self" p3, .Constant (.str msg) j p4] [] p5) env = (do
      let ov ← eval (.Name "CutError" p1) env
      standAt p2.atName
      let (f, first) ← holding [ov] (getMethod ov "__init__" (pl env))
      callWith p5 f first (backTo p5 (starEach [.Name "self" p3, .Constant (.str msg) j p4] env)) (backToKw p5 (keywordEach [] env)))) (T : OexC K C) (hno : PySem.W.findIn K (.ref C) fld = some none) : FnOk P w K mg base CX0 1 f fd ["self", fld] (spXI C fld) := by
  refine F.ok S (fun vs H Q E h => ?_) (fun cdv A outer s H vs Q E hr h => ?_)
  · obtain ⟨a, v, rfl, _⟩ := h
    rfl
  · obtain ⟨a, v, rfl, ha, k⟩ := h
    rw [hb]
    refine ⟨_, pss_cons (ps_expr (pe_cinit (hc := hc _) hB hx (by decide +kernel) (pa_cons (pe_var (i := 0) rfl (.inl hv0) (by decide +kernel) (by decide +kernel)) (pa_cons pe_str pa_nil)))) (pss_one (ps_ost (pe_var (i := 0) rfl (.inl hv0) (by decide +kernel) (by decide +kernel)) (pe_var (i := 1) rfl (.inl hv1) hd1 hd2))), ?_⟩
    refine ⟨_, rfl, a, C, _, rfl, Nat.le_of_ble_eq_true rfl, T, ha, ?_⟩
    exact ⟨_, rfl, _, rfl, a, C, rfl, T, hno, .inl ⟨ha, fun dx n ne => k dx n ne⟩⟩
end
/-! ### the check -/
def allLt (n : Nat) (p : Nat → Bool) : Bool := (List.range n).all p
theorem allLt_of {n : Nat} {p : Nat → Bool} (h : allLt n p = true) {i : Nat} (hi : i < n) : p i = true := List.all_eq_true.mp h i (List.mem_range.mpr hi)
def isGl (K : PySem.W.Frag) (x : PySem.Str) (v : Option Value) : Bool := PySem.W.nsIn K mainGlobals x == some v
def exFC (K : PySem.W.Frag) (C : Addr) : Bool :=
  PySem.W.findIn K (.ref C) "__setattr__" == some (some (.builtin "object.__setattr__")) && PySem.W.subIn K (.ref C) (.type "BaseException") == some true && PySem.W.typeIn K (.ref C) == some (.type "type") && PySem.W.keepIn K (.ref C) &&
  PySem.W.findIn K (.ref C) "__getattribute__" == some (some (.builtin "BaseException.__getattribute__")) && PySem.W.findIn K (.ref C) "__getattr__" == some none && PySem.W.findIn K (.ref C) "__class__" == some (some (.builtin "object.__class__")) &&
  PySem.W.mroIn K C (.type "object") == some true && PySem.W.hasDictIn K C
theorem exF_of {K : PySem.W.Frag} {C : Addr} (h : exFC K C = true) (c : ∃ nm q N bs bm sn sub ab col dd k0 k1 k2 k3 k5, K.lookup C = some (excClassObj nm q C N bs bm true sn sub ab col dd k0 k1 k2 k3 k5 "ValueError.__new__") ∧ PySem.HandSPX.refsVE bm = true) : ExF K C := by
  unfold exFC at h
  simp only [Bool.and_eq_true, beq_iff_eq] at h
  obtain ⟨⟨⟨⟨⟨⟨⟨⟨h1, h2⟩, h3⟩, h4⟩, h5⟩, h6⟩, h7⟩, h8⟩, h9⟩ := h
  exact ⟨⟨c, h1, h2, h3, h4⟩, h5, h6, h7, h8, h9⟩
def inFC (K : PySem.W.Frag) (C : Addr) : Bool :=
  PySem.W.plainGet K C Str.empty && PySem.W.hasDictIn K C && PySem.W.plainOver K C && PySem.W.findIn K (.ref C) "__setattr__" == some (some (.builtin "object.__setattr__")) && PySem.W.findIn K (.ref C) "__class__" == some (some (.builtin "object.__class__")) && PySem.W.mroIn K C (.type "object") == some true
theorem inF_of {K : PySem.W.Frag} {C : Addr} (h : inFC K C = true) : InF K C := by
  unfold inFC at h
  simp only [Bool.and_eq_true, beq_iff_eq] at h
  obtain ⟨⟨⟨⟨⟨h1, h2⟩, h3⟩, h4⟩, h5⟩, h6⟩ := h
  exact ⟨⟨h1, h2, h3, h4⟩, h5, h6⟩
def exKC (K : PySem.W.Frag) : Bool := PySem.W.specialIn K (.builtin "object.__class__") "__get__" == some (some (.builtin "getset_descriptor.__get__")) && PySem.W.takesIn K (.builtin "object.__class__") == some true
theorem exK_of {K : PySem.W.Frag} (h : exKC K = true) : ExK K := by
  unfold exKC at h
  simp only [Bool.and_eq_true, beq_iff_eq] at h
  exact ⟨h.1, h.2⟩
def tysAll : List Ty := [.non, .bool, .int, .str, .list, .tuple, .dict, .verr]
theorem mem_tysAll (t : Ty) : t ∈ tysAll := by cases t <;> decide
def clsAll (n : Nat) : List Cl := tysAll.map .ty ++ (List.range n).map .own
theorem mem_clsAll {ci : Ci} {c : Cl} (h : ci.has c = true) : c ∈ clsAll ci.n := by
  unfold clsAll
  cases c with
  | ty t => exact List.mem_append_left _ (List.mem_map.mpr ⟨t, mem_tysAll t, rfl⟩)
  | own c => exact List.mem_append_right _ (List.mem_map.mpr ⟨c, List.mem_range.mpr (of_decide_eq_true h), rfl⟩)
def kitC (ci : Ci) (W : Wd) : Bool := (clsAll ci.n).all fun t => (clsAll ci.n).all fun c => PySem.W.kitOne W.K (t.val W) (c.val W) == some (isA ci t c)
theorem kit_of' {ci : Ci} {W : Wd} (h : kitC ci W = true) (t c : Cl) (ht : ci.has t = true) (hc : ci.has c = true) : PySem.W.kitOne W.K (t.val W) (c.val W) = some (isA ci t c) := by
  unfold kitC at h
  exact beq_iff_eq.mp (List.all_eq_true.mp (List.all_eq_true.mp h t (mem_clsAll ht)) c (mem_clsAll hc))
/-- all of a text's facts but those of the very defs and classes -/
def staC (L : Lay) (K : PySem.W.Frag) (cls fa fi : Nat → Addr) : Bool :=
  allLt L.blts.length (fun i => isGl K (L.blts.getD i "") none) && allLt L.ci.n (fun c => isGl K (L.cname c) (some (.ref (cls c)))) &&
  allLt L.attrs.length (fun i => allLt L.ci.n fun c => L.ci.isEx c || PySem.W.findIn K (.ref (cls c)) (L.attrs.getD i "") == some none) &&
  allLt L.nf (fun i => isGl K (L.fname i) (some (.ref (fa i))) && PySem.W.keepIn K (.ref (fa i))) &&
  allLt L.ci.n (fun c => if L.ci.isEx c then exFC K (cls c) && PySem.W.findIn K (.ref (cls c)) (L.ci.fld c) == some none && (if L.init c then PySem.W.findIn K (.ref (cls c)) "__init__" == some (some (.ref (fi c))) && PySem.W.typeIn K (.ref (fi c)) == some (.type "function")
    else PySem.W.excIn K (cls c) [.type "ValueError", .type "Exception", .type "BaseException", .type "object"] "ValueError.__new__") else inFC K (cls c)) &&
  exKC K && kitC L.ci ⟨K, cls, L.ci.fld⟩
theorem sta_of {L : Lay} {K : PySem.W.Frag} {h : Heap} {mg : PySem.Str → Option Value} {cls fa fi : Nat → Addr} {ffd fid : Nat → FuncData} (X : K.In h) (G : h.Ns mainGlobals mg) (e : staC L K cls fa fi = true)
    (hi : ∀ c, L.init c = true → c < L.ci.n → L.ci.isEx c = true)
    (co : ∀ c, c < L.ci.n → L.ci.isEx c = true → ∃ nm q N bs bm sn sub ab col dd k0 k1 k2 k3 k5, K.lookup (cls c) = some (excClassObj nm q (cls c) N bs bm true sn sub ab col dd k0 k1 k2 k3 k5 "ValueError.__new__") ∧ PySem.HandSPX.refsVE bm = true)
    (bd : ∀ i, i < L.nf → Binds K (ffd i) (L.fps i) []) (bi : ∀ c, c < L.ci.n → L.init c = true → Binds K (fid c) ["self", L.ci.fld c] []) : Sta L K mg cls fa fi ffd fid := by
  unfold staC at e
  simp only [Bool.and_eq_true] at e
  obtain ⟨⟨⟨⟨⟨⟨e1, e2⟩, e3⟩, e4⟩, e5⟩, e6⟩, e7⟩ := e
  have cl : ∀ {c}, c < L.ci.n → L.ci.isEx c = true → exFC K (cls c) = true ∧ PySem.W.findIn K (.ref (cls c)) (L.ci.fld c) = some none ∧ (if L.init c = true then (PySem.W.findIn K (.ref (cls c)) "__init__" == some (some (.ref (fi c))) && PySem.W.typeIn K (.ref (fi c)) == some (.type "function"))
    else PySem.W.excIn K (cls c) [.type "ValueError", .type "Exception", .type "BaseException", .type "object"] "ValueError.__new__") = true := fun {c} hc hx => by
    have q := allLt_of e5 hc
    simp only [hx, if_true, Bool.and_eq_true, beq_iff_eq] at q
    exact ⟨q.1.1, q.1.2, q.2⟩
  refine ⟨⟨rfl, exK_of e6, fun c hc hx => exF_of (cl hc hx).1 (co c hc hx), fun c hc hx => (cl hc hx).2.1, fun c hc hx => ?_, kit_of' e7⟩, fun i hi => ?_, fun c hc => ?_, fun i hi c hc hx => ?_, fun i hi => ?_, fun i hi => ?_, bd, fun c hc hx => ?_, fun c hc hx hn => ?_⟩
  · have q := allLt_of e5 hc
    rw [hx] at q
    exact inF_of (by simpa using q)
  · exact PySem.W.mg_none_of X G (beq_iff_eq.mp (allLt_of e1 hi))
  · exact PySem.W.mg_of X G (beq_iff_eq.mp (allLt_of e2 hc))
  · have q := allLt_of (allLt_of e3 hi) hc
    rw [hx] at q
    exact beq_iff_eq.mp (by simpa using q)
  · have q := allLt_of e4 hi
    rw [Bool.and_eq_true] at q
    exact PySem.W.mg_of X G (beq_iff_eq.mp q.1)
  · have q := allLt_of e4 hi
    rw [Bool.and_eq_true] at q
    exact q.2
  · have q := (cl hc (hi c hx hc)).2.2
    rw [if_pos hx, Bool.and_eq_true] at q
    exact ⟨beq_iff_eq.mp q.1, beq_iff_eq.mp q.2, bi c hc hx⟩
  · have q := (cl hc hx).2.2
    rw [if_neg (by rw [hn]; decide)] at q
    exact q
def noLstC (K : PySem.W.Frag) : Bool := K.all fun p => !(p.2.cls == .type "list")
theorem mem_lk {α β : Type} [BEq α] [LawfulBEq α] {a : α} {o : β} : ∀ {l : List (α × β)}, l.lookup a = some o → (a, o) ∈ l
  | [], e => by simp at e
  | (b, o') :: l, e => by
    rw [List.lookup_cons] at e
    by_cases q : (a == b) = true
    · simp only [q] at e
      have e2 : o' = o := Option.some.inj e
      rw [e2, eq_of_beq q]
      exact .head _
    · simp only [Bool.eq_false_iff.mpr q] at e
      exact .tail _ (mem_lk e)
theorem noLst_of {K : PySem.W.Frag} (h : noLstC K = true) (a : Addr) (o : Obj) (e : K.lookup a = some o) : o.cls ≠ .type "list" := fun z => by
  have m : (a, o) ∈ K := mem_lk e
  have q := List.all_eq_true.mp h _ m
  simp [z] at q
end Nc

/-! NcP: names exchanged; a law's facts put together. -/
namespace Nc
open PySem PySem.Spec PyProof.Rows L2
def sPar2 (i j : Nat) (ms : M (List D)) : SM := sE ms fun ds e h => match ds with
  | [x, y] => .nx ((e.set i (some x)).set j (some y)) h
  | _ => .err
def sPar3 (i j l : Nat) (ms : M (List D)) : SM := sE ms fun ds e h => match ds with
  | [x, y, z] => .nx (((e.set i (some x)).set j (some y)).set l (some z)) h
  | _ => .err
section
variable {X : Cx} {W : Wd} {XW : WX} {pos : Pos}
theorem s_par2 {i j : Nat} {x y : PySem.Str} {a b : Expr} {ms : M (List D)} {px py pt : Pos} {kt k2 pt2} (hc : X.calm = true) (hN : X.N.Nodup) (hi : X.N[i]? = some x) (hj : X.N[j]? = some y) (hij : i ≠ j)
    (hx : X.env.scope.names.lookup x = some .local) (hy : X.env.scope.names.lookup y = some .local) (ha : PA X [a, b] (tAr W XW ms))
    (hw : swappedStores [.Tuple [.Name x px, .Name y py] kt pt] (.Tuple [a, b] k2 pt2) X.env = pure (some [x, y]))
    (hs : swapsWithSole [.Tuple [.Name x px, .Name y py] kt pt] (.Tuple [a, b] k2 pt2) pos.line X.env = pure false := by rfl) :
    PS X (.Assign [.Tuple [.Name x px, .Name y py] kt pt] (.Tuple [a, b] k2 pt2) pos) (tS W XW (sPar2 i j ms)) :=
  (ps_par hc hN hi hj hij hx hy ha hw hs).imp fun Dn σ H h => by
    obtain ⟨as, env, h, S, E, p⟩ := tS_E (R := RDs W) h
    refine ⟨as, env, h, S, E, p.imp fun vs H1 ⟨as1, h1, d, env1, S1, E1, r1, p1⟩ => ?_⟩
    split at p1
    · rename_i d1 d2
      obtain ⟨v1, v2, rfl, r1, r2⟩ := rds2 r1
      exact ⟨v1, v2, rfl, spost_nx S1 ((E1.set i r1).set j r2) p1⟩
    · exact p1.elim
theorem s_par3 {i j l : Nat} {x y z : PySem.Str} {a b c : Expr} {ms : M (List D)} {px py pz pt : Pos} {kt k2 pt2} (hc : X.calm = true) (hN : X.N.Nodup) (hi : X.N[i]? = some x) (hj : X.N[j]? = some y) (hl : X.N[l]? = some z) (hij : i ≠ j) (hil : i ≠ l) (hjl : j ≠ l)
    (hx : X.env.scope.names.lookup x = some .local) (hy : X.env.scope.names.lookup y = some .local) (hz : X.env.scope.names.lookup z = some .local) (ha : PA X [a, b, c] (tAr W XW ms))
    (hw : swappedStores [.Tuple [.Name x px, .Name y py, .Name z pz] kt pt] (.Tuple [a, b, c] k2 pt2) X.env = pure (some [x, y, z]))
    (hs : swapsWithSole [.Tuple [.Name x px, .Name y py, .Name z pz] kt pt] (.Tuple [a, b, c] k2 pt2) pos.line X.env = pure false := by rfl) :
    PS X (.Assign [.Tuple [.Name x px, .Name y py, .Name z pz] kt pt] (.Tuple [a, b, c] k2 pt2) pos) (tS W XW (sPar3 i j l ms)) :=
  (ps_par3 hc hN hi hj hl hij hil hjl hx hy hz ha hw hs).imp fun Dn σ H h => by
    obtain ⟨as, env, h, S, E, p⟩ := tS_E (R := RDs W) h
    refine ⟨as, env, h, S, E, p.imp fun vs H1 ⟨as1, h1, d, env1, S1, E1, r1, p1⟩ => ?_⟩
    split at p1
    · rename_i d1 d2 d3
      obtain ⟨v1, ws, rfl, ra, q1⟩ := r1.inv_cons
      · obtain ⟨v2, v3, rfl, r2, r3⟩ := rds2 q1
        exact ⟨v1, v2, v3, rfl, spost_nx S1 (((E1.set i ra).set j r2).set l r3) p1⟩
    · exact p1.elim
end
/-! ### a law's facts -/
def obK (K : PySem.W.Frag) (a : Addr) : Obj := (K.lookup a).getD default
def fdK (K : PySem.W.Frag) (a : Addr) : FuncData := match (obK K a).data with
  | .func f => f
  | _ => default
def cdK (K : PySem.W.Frag) (a : Addr) : ClassData := match (obK K a).data with
  | .cls f => f
  | _ => default
theorem fun_ofK {K : PySem.W.Frag} {x qual : PySem.Str} {st : Stmt} {f : Addr}
    (e : K.lookup f = some ⟨(obK K f).cls, (obK K f).dict, .func (PySem.W.fnOf x qual (defArgs st) (defBody st) (defScope st) .none (fdK K f).kwdefaults (fdK K f).doc (fdK K f).pyModule (fdK K f).annotations (fdK K f).code (fdK K f).closureTuple), (obK K f).slots⟩)
    (c : PySem.W.codeIn K (fdK K f).code qual = true) (k : PySem.W.keepIn K (.ref f) = true) :
    Fun K x qual st f (PySem.W.fnOf x qual (defArgs st) (defBody st) (defScope st) .none (fdK K f).kwdefaults (fdK K f).doc (fdK K f).pyModule (fdK K f).annotations (fdK K f).code (fdK K f).closureTuple) := fun_mk e c k
def slK (K : PySem.W.Frag) (a : Addr) (i : Nat) : Option Value := (obK K a).slots.toList.getD i none
theorem exo_ofK {K : PySem.W.Frag} {C : Addr}
    (e : K.lookup C = some (excClassObj (cdK K C).name (cdK K C).qualname C (cdK K C).ns (cdK K C).bases (cdK K C).mro.tail true (cdK K C).slotNames (cdK K C).subclasses (cdK K C).abstract (cdK K C).collection (obK K C).dict (slK K C 0) (slK K C 1) (slK K C 2) (slK K C 3) (slK K C 5) "ValueError.__new__"))
    (r : PySem.HandSPX.refsVE (cdK K C).mro.tail = true) : ∃ nm q N bs bm sn sub ab col dd k0 k1 k2 k3 k5, K.lookup C = some (excClassObj nm q C N bs bm true sn sub ab col dd k0 k1 k2 k3 k5 "ValueError.__new__") ∧ PySem.HandSPX.refsVE bm = true :=
  ⟨_, _, _, _, _, _, _, _, _, _, _, _, _, _, _, e, r⟩
def clsBody : Stmt → List Stmt
  | .ClassDef _ _ _ b _ _ _ _ _ _ _ => b
  | _ => []
def basC (K : PySem.W.Frag) (B : Addr) : Bool := PySem.W.specialIn K (.ref B) "__getattribute__" == some (some (.builtin "type.__getattribute__")) && PySem.W.typeIn K (.ref B) == some (.type "type") && PySem.W.readsIn K B (.type "type") &&
  (match PySem.W.findCls K (.ref B) (.type "type") "__init__" with | some (.val (.builtin b)) => b == "ValueError.__init__" | _ => false)
theorem bas_of {K : PySem.W.Frag} {mg : PySem.Str → Option Value} {x : PySem.Str} {B : Addr} (hm : mg x = some (.ref B)) (e : basC K B = true) : BaseI K mg x B := by
  unfold basC at e
  simp only [Bool.and_eq_true, beq_iff_eq] at e
  obtain ⟨⟨⟨e1, e2⟩, e3⟩, e4⟩ := e
  refine ⟨hm, e1, e2, e3, ?_⟩
  split at e4
  · rename_i b q
    rw [q, beq_iff_eq.mp e4]
  · cases e4
theorem lt_cl {k : Nat} {A : Around} (r : Room k A) : A.units + 64 < cLine := by have := r.un; omega
section
variable {L : Lay} {P : Program} {w : World} {K : PySem.W.Frag} {mg : PySem.Str → Option Value} {h : Heap} {cls fa fi : Nat → Addr} {st : Nat → Stmt}
theorem staC_ex (e : staC L K cls fa fi = true) (co : ∀ c, c < L.ci.n → L.ci.isEx c = true → ∃ nm q N bs bm sn sub ab col dd k0 k1 k2 k3 k5, K.lookup (cls c) = some (excClassObj nm q (cls c) N bs bm true sn sub ab col dd k0 k1 k2 k3 k5 "ValueError.__new__") ∧ PySem.HandSPX.refsVE bm = true)
    {c : Nat} (hc : c < L.ci.n) (hx : L.ci.isEx c = true) : OexC K (cls c) ∧ PySem.W.findIn K (.ref (cls c)) (L.ci.fld c) = some none := by
  unfold staC at e
  simp only [Bool.and_eq_true] at e
  obtain ⟨⟨⟨⟨⟨⟨e1, e2⟩, e3⟩, e4⟩, e5⟩, e6⟩, e7⟩ := e
  have q := allLt_of e5 hc
  simp only [hx, if_true, Bool.and_eq_true, beq_iff_eq] at q
  exact ⟨(exF_of q.1.1 (co c hc hx)).ox, q.1.2⟩
theorem staC_mgc (X : K.In h) (G : h.Ns mainGlobals mg) (e : staC L K cls fa fi = true) {c : Nat} (hc : c < L.ci.n) : mg (L.cname c) = some (.ref (cls c)) := by
  unfold staC at e
  simp only [Bool.and_eq_true] at e
  obtain ⟨⟨⟨⟨⟨⟨e1, e2⟩, e3⟩, e4⟩, e5⟩, e6⟩, e7⟩ := e
  exact PySem.W.mg_of X G (beq_iff_eq.mp (allLt_of e2 hc))
theorem facts_of (X : K.In h) (G : h.Ns mainGlobals mg) (e : staC L K cls fa fi = true) (hi : ∀ c, L.init c = true → c < L.ci.n → L.ci.isEx c = true)
    (co : ∀ c, c < L.ci.n → L.ci.isEx c = true → ∃ nm q N bs bm sn sub ab col dd k0 k1 k2 k3 k5, K.lookup (cls c) = some (excClassObj nm q (cls c) N bs bm true sn sub ab col dd k0 k1 k2 k3 k5 "ValueError.__new__") ∧ PySem.HandSPX.refsVE bm = true)
    (hF : ∀ i, i < L.nf → ∃ fd, Fun K (L.fname i) (L.fname i) (st i) (fa i) fd ∧ Binds K fd (L.fps i) [])
    (hI : ∀ c, c < L.ci.n → L.init c = true → ∃ fd, Binds K fd ["self", L.ci.fld c] [] ∧ ∀ base, FnOk P w K mg base CX0 1 (fi c) fd ["self", L.ci.fld c] (spXI (cls c) (L.ci.fld c))) :
    ∃ ffd fid : Nat → FuncData, Sta L K mg cls fa fi ffd fid ∧ (∀ i, i < L.nf → Fun K (L.fname i) (L.fname i) (st i) (fa i) (ffd i)) ∧ ∀ base c, c < L.ci.n → L.init c = true → FnOk P w K mg base CX0 1 (fi c) (fid c) ["self", L.ci.fld c] (spXI (cls c) (L.ci.fld c)) := by
  have h1 : ∀ i : Nat, ∃ fd, i < L.nf → Fun K (L.fname i) (L.fname i) (st i) (fa i) fd ∧ Binds K fd (L.fps i) [] := fun i => by
    by_cases q : i < L.nf
    · obtain ⟨fd, z⟩ := hF i q; exact ⟨fd, fun _ => z⟩
    · exact ⟨default, fun z => absurd z q⟩
  obtain ⟨ffd, h1⟩ := Classical.axiomOfChoice h1
  have h2 : ∀ c : Nat, ∃ fd, c < L.ci.n → L.init c = true → Binds K fd ["self", L.ci.fld c] [] ∧ ∀ base, FnOk P w K mg base CX0 1 (fi c) fd ["self", L.ci.fld c] (spXI (cls c) (L.ci.fld c)) := fun c => by
    by_cases q : c < L.ci.n ∧ L.init c = true
    · obtain ⟨fd, z⟩ := hI c q.1 q.2; exact ⟨fd, fun _ _ => z⟩
    · exact ⟨default, fun z z2 => absurd ⟨z, z2⟩ q⟩
  obtain ⟨fid, h2⟩ := Classical.axiomOfChoice h2
  exact ⟨ffd, fid, sta_of X G e hi co (fun i hi => (h1 i hi).2) (fun c hc z => (h2 c hc z).1), fun i hi => (h1 i hi).1, fun base c hc z => (h2 c hc z).2 base⟩
theorem tower_of {B : Nat → Option FnB} {base : Heap} {ffd fid : Nat → FuncData} (S : Sta L K mg cls fa fi ffd fid) (hin : ∀ c, c < L.ci.n → L.init c = true → FnOk P w K mg base CX0 1 (fi c) (fid c) ["self", L.ci.fld c] (spXI (cls c) (L.ci.fld c)))
    (hB : ∀ k C, 2 ≤ k → Txt L P w K mg base cls fa fi ffd fid C k → ∀ i, i < L.nf → ∃ b, B (L.fid i) = some b ∧ FnG P w K mg base (k + 1) (fa i) (ffd i) (L.fps i) (spC ⟨K, cls, L.ci.fld⟩ (L.fps i).length (b.run C))) :
    ∀ n i, i < L.nf → FnG P w K mg base (n + 4) (fa i) (ffd i) (L.fps i) (spC ⟨K, cls, L.ci.fld⟩ (L.fps i).length (lev B n (L.fid i)))
  | 0, i, hi => fnG_none
  | n + 1, i, hi => by
    obtain ⟨b, e, F⟩ := hB (n + 4) (lev B n) (by omega) ⟨S, tower_of S hin hB n, hin⟩ i hi
    have q : lev B (n + 1) (L.fid i) = b.run (lev B n) := by
      funext ds h
      show (match B (L.fid i) with | some b => b.run (lev B n) ds h | none => .err) = _
      rw [e]
    rw [q]
    exact F
end
end Nc

/-! NcQ: the own computations, run: each rule by rfl; what comes behind is not looked at before it is due. -/
namespace Nc
open PySem L2
/-- the result's type bears what comes behind: so simp leaves it alone till it is due -/
@[reducible] def Late {α : Sort _} (_ : α) (β : Type) : Type := β
def SO.seq (o : SO) (b : SM) : Late b SO := match o with
  | .nx e h => b e h
  | o => o
def Out.toS {α : Type} (o : Out α) (k : α → Env → Hs → SO) (e : Env) : Late k SO := match o with
  | .ok d h => k d e h
  | .exc c x h => .exc c x e h
  | .err => .err
def Out.bnd {α β : Type} (o : Out α) (f : α → Hs → Out β) : Late f (Out β) := o.bind f
def SO.out (o : SO) : Out D := match o with
  | .rt d h' => .ok d h'
  | .nx _ h' => .ok .non h'
  | .exc c x _ h' => .exc c x h'
  | _ => .err
def getE (o : Option (Option D)) (h : Hs) : Out D := match o with
  | some (some d) => .ok d h
  | _ => .err
section
variable {α β γ : Type} {e : Env} {h : Hs} {a b : SM} {d x : D} {ds : List D} {c i : Nat}
@[simp] theorem seq_nx : SO.seq (.nx e h) b = b e h := rfl
@[simp] theorem seq_rt : SO.seq (.rt d h) b = .rt d h := rfl
@[simp] theorem seq_bk : SO.seq (.bk e h) b = .bk e h := rfl
@[simp] theorem seq_ct : SO.seq (.ct e h) b = .ct e h := rfl
@[simp] theorem seq_exc : SO.seq (.exc c x e h) b = .exc c x e h := rfl
@[simp] theorem seq_err : SO.seq .err b = .err := rfl
@[simp] theorem toS_ok {v : α} {k : α → Env → Hs → SO} : Out.toS (.ok v h) k e = k v e h := rfl
@[simp] theorem toS_exc {k : α → Env → Hs → SO} : Out.toS (.exc c x h) k e = .exc c x e h := rfl
@[simp] theorem toS_err {k : α → Env → Hs → SO} : Out.toS .err k e = .err := rfl
@[simp] theorem out_rt : SO.out (.rt d h) = .ok d h := rfl
@[simp] theorem out_nx : SO.out (.nx e h) = .ok .non h := rfl
@[simp] theorem out_exc : SO.out (.exc c x e h) = .exc c x h := rfl
theorem rbind_ok {v : α} {f : α → Hs → Out β} : Out.bind (.ok v h) f = f v h := rfl
@[simp] theorem bind_ok {v : α} {f : α → Hs → Out β} : Out.bnd (.ok v h) f = f v h := rfl
@[simp] theorem bind_exc {f : α → Hs → Out β} : Out.bnd (.exc c x h : Out α) f = .exc c x h := rfl
@[simp] theorem bind_err {f : α → Hs → Out β} : Out.bnd (.err : Out α) f = .err := rfl
@[simp] theorem getE_some : getE (some (some d)) h = .ok d h := rfl
@[simp] theorem sSeq_ap : sSeq a b e h = SO.seq (a e h) b := by
  unfold sSeq SO.seq; cases a e h <;> rfl
@[simp] theorem sNil_ap : sNil e h = .nx e h := rfl
@[simp] theorem sE_ap {m : M α} {k : α → Env → Hs → SO} : sE m k e h = Out.toS (m e h) k e := by
  unfold sE Out.toS; cases m e h <;> rfl
@[simp] theorem sIf_ap {m : M Bool} : sIf m a b e h = Out.toS (m e h) (fun k e h => if k = true then a e h else b e h) e := by
  unfold sIf; rw [sE_ap]
@[simp] theorem sRet_ap {m : M D} : sRet m e h = Out.toS (m e h) (fun d _ h => .rt d h) e := by unfold sRet; rw [sE_ap]
@[simp] theorem sRetN_ap : sRetN e h = .rt .non h := rfl
@[simp] theorem sDrop_ap {m : M D} : sDrop m e h = Out.toS (m e h) (fun _ e h => .nx e h) e := by unfold sDrop; rw [sE_ap]
@[simp] theorem sAsg_ap {m : M D} {g : GM} : sAsg m g e h = Out.toS (m e h) g e := by unfold sAsg; rw [sE_ap]
@[simp] theorem gNm_ap : gNm i d e h = .nx (e.set i (some d)) h := rfl
@[simp] theorem mK_ap : mK d e h = .ok d h := rfl
@[simp] theorem mVar_ap : mVar i e h = getE e[i]? h := by
  unfold mVar getE
  cases e[i]? with
  | none => rfl
  | some o => cases o <;> rfl
@[simp] theorem mU_ap {f : α → Hs → Out β} {m : M α} : mU f m e h = (m e h).bnd f := rfl
@[simp] theorem mB_ap {f : α → β → Hs → Out γ} {m : M α} {n : M β} : mB f m n e h = (m e h).bnd fun x h1 => (n e h1).bnd fun y h2 => f x y h2 := rfl
@[simp] theorem mNil_ap : mNil e h = .ok [] h := rfl
@[simp] theorem mCons_ap {m : M D} {r : M (List D)} : mCons m r e h = (m e h).bnd fun x h1 => (r e h1).bnd fun xs h2 => .ok (x :: xs) h2 := rfl
@[simp] theorem mIte_ap {m : M Bool} {p q : M α} : mIte m p q e h = (m e h).bnd fun k h1 => if k = true then p e h1 else q e h1 := rfl
@[simp] theorem mTest_ap {m : M D} : mTest m e h = (m e h).bnd vTest := rfl
@[simp] theorem vTest_bl {k : Bool} : vTest (.bl k) h = .ok k h := rfl
@[simp] theorem mAnd_ap {m n : M Bool} : mAnd m n e h = (m e h).bnd fun k h1 => if k = true then n e h1 else .ok false h1 := rfl
@[simp] theorem mOr_ap {m n : M Bool} : mOr m n e h = (m e h).bnd fun k h1 => if k = true then .ok true h1 else n e h1 := rfl
@[simp] theorem mNot_ap {m : M Bool} : mNot m e h = (m e h).bnd fun k h1 => .ok (!k) h1 := rfl
def andK (b : M D) (e : Env) : D → Hs → Out D := fun d h1 => match d with
  | .bl true => b e h1
  | .bl false => .ok (.bl false) h1
  | _ => .err
def orK (b : M D) (e : Env) : D → Hs → Out D := fun d h1 => match d with
  | .bl false => b e h1
  | .bl true => .ok (.bl true) h1
  | _ => .err
@[simp] theorem vAnd_ap {m n : M D} : vAnd m n e h = (m e h).bnd (andK n e) := rfl
@[simp] theorem vOr_ap {m n : M D} : vOr m n e h = (m e h).bnd (orK n e) := rfl
@[simp] theorem andK_t {n : M D} : andK n e (.bl true) h = n e h := rfl
@[simp] theorem andK_f {n : M D} : andK n e (.bl false) h = .ok (.bl false) h := rfl
@[simp] theorem orK_t {n : M D} : orK n e (.bl true) h = .ok (.bl true) h := rfl
@[simp] theorem orK_f {n : M D} : orK n e (.bl false) h = n e h := rfl
@[simp] theorem vNot_ap {k : Bool} : vNot (.bl k) h = .ok (.bl !k) h := rfl
@[simp] theorem mLen_ap {m : M (List D)} : mLen m e h = (m e h).bnd fun ds h => if ds.length ≤ sizeLine then .ok ds h else .err := rfl
@[simp] theorem vNew_ap : vNew ds h = .ok (.ref h.length) (h ++ [.lst ds]) := rfl
@[simp] theorem vTupL_ap : vTupL ds h = .ok (.tup ds) h := rfl
@[simp] theorem mDct_ap : mDct e h = .ok (.ref h.length) (h ++ [.dct []]) := rfl
@[simp] theorem mCall_ap {f : List D → Hs → Out D} {n : Nat} {m : M (List D)} : mCall f n m e h = (m e h).bnd fun ds h => if ds.length = n then f ds h else .err := rfl
@[simp] theorem mMt_ap {T : String} {f : D → List D → Hs → Out D} {mo : M D} {ms : M (List D)} : mMt T f mo ms e h = (mo e h).bnd fun x h1 => if isTy T x h1 = true then (ms e h1).bnd fun ds h2 => f x ds h2 else .err := rfl
@[simp] theorem mYes_ap : mYes e h = .ok true h := rfl
@[simp] theorem gTupM_ap {n : Nat} {gs : GMs} : gTupM n gs (.tup ds) e h = if ds.length = n then gs ds e h else .err := rfl
@[simp] theorem gsNil_ap : gsNil [] e h = .nx e h := rfl
@[simp] theorem gsCons_ap {g : GM} {gs : GMs} : gsCons g gs (d :: ds) e h = (match g d e h with
    | .nx e1 h1 => gs ds e1 h1
    | .exc c x e1 h1 => .exc c x e1 h1
    | _ => .err) := rfl
@[simp] theorem sPar2_ap {i j : Nat} {m : M (List D)} : sPar2 i j m e h = Out.toS (m e h) (fun ds e h => match ds with
  | [x, y] => .nx ((e.set i (some x)).set j (some y)) h
  | _ => .err) e := by unfold sPar2; rw [sE_ap]; all_goals rfl
@[simp] theorem sPar3_ap {i j l : Nat} {m : M (List D)} : sPar3 i j l m e h = Out.toS (m e h) (fun ds e h => match ds with
  | [x, y, z] => .nx (((e.set i (some x)).set j (some y)).set l (some z)) h
  | _ => .err) e := by unfold sPar3; rw [sE_ap]; all_goals rfl
theorem sFor_of {m : M Itr'} {g : GM} {I : Itr'} {h1 : Hs} {r : SO} (hm : m e h = .ok I h1) (p : loopF I g b FUEL 0 e h1 = r) : sFor m g b e h = r := by
  unfold sFor
  rw [sE_ap, hm, toS_ok]
  exact p
theorem sFor_ap {m : M Itr'} {g : GM} : sFor m g b e h = Out.toS (m e h) (fun I e h => loopF I g b FUEL 0 e h) e := by unfold sFor; rw [sE_ap]
@[simp] theorem sWhile_ap {m : M Bool} : sWhile m b e h = loopW m b FUEL e h := rfl
theorem run_ap {B : FnB} {C : Calls} (hl : ds.length = B.np) : B.run C ds h = (B.sm C (ds.map some ++ List.replicate (B.ns - ds.length) none) h).out := by
  unfold FnB.run
  rw [if_pos hl]
  unfold SO.out
  cases B.sm C (ds.map some ++ List.replicate (B.ns - ds.length) none) h <;> rfl
/-! values -/
variable {m n : Int} {s t : PySem.Str}
@[simp] theorem vAdd_i : vAdd (.int m) (.int n) h = .ok (.int (m + n)) h := rfl
@[simp] theorem vSub_i : vSub (.int m) (.int n) h = .ok (.int (m - n)) h := rfl
@[simp] theorem vNeg_i : vNeg (.int m) h = .ok (.int (-m)) h := rfl
@[simp] theorem vAddI_i : vAddI (.int m) (.int n) h = .ok (.int (m + n)) h := rfl
@[simp] theorem vLt_i : vLt (.int m) (.int n) h = .ok (.bl (decide (m < n))) h := rfl
@[simp] theorem vLe_i : vLe (.int m) (.int n) h = .ok (.bl (decide (m ≤ n))) h := rfl
@[simp] theorem vGt_i : vGt (.int m) (.int n) h = .ok (.bl (decide (n < m))) h := rfl
@[simp] theorem vGe_i : vGe (.int m) (.int n) h = .ok (.bl (decide (n ≤ m))) h := rfl
@[simp] theorem vEq_i : vEq (.int m) (.int n) h = .ok (.bl (m == n)) h := rfl
@[simp] theorem vNe_i : vNe (.int m) (.int n) h = .ok (.bl (!(m == n))) h := rfl
@[simp] theorem vEq_s : vEq (.str s) (.str t) h = .ok (.bl (s == t)) h := rfl
@[simp] theorem vNe_s : vNe (.str s) (.str t) h = .ok (.bl (!(s == t))) h := rfl
@[simp] theorem vAbs_i : vAbs [.int m] h = .ok (.int (if m < 0 then -m else m)) h := rfl
@[simp] theorem vMax_i : vMax [.int m, .int n] h = .ok (.int (if n > m then n else m)) h := rfl
@[simp] theorem vMin_i : vMin [.int m, .int n] h = .ok (.int (if n < m then n else m)) h := rfl
@[simp] theorem vInt_i : vInt [.int m] h = .ok (.int m) h := rfl
@[simp] theorem vInt_b {k : Bool} : vInt [.bl k] h = .ok (.int (if k then 1 else 0)) h := rfl
@[simp] theorem vTup_ap : vTup ds h = if ds.length ≤ sizeLine then .ok (.tup ds) h else .err := rfl
@[simp] theorem vIxL_ap : vIxL ds (.int m) h = (match atI ds m with
    | some d => .ok d h
    | none => .err) := rfl
theorem vMod_i (q : n ≠ 0) : vMod (.int m) (.int n) h = .ok (.int (m.fmod n)) h := by unfold vMod; simp [q]
theorem small_bits {j : Int} (q : j.natAbs < 2 ^ 64) : Builtin.Int.intBits j ≤ 64 := by
  unfold Builtin.Int.intBits
  split
  · omega
  · rename_i z
    have : j.natAbs ≠ 0 := by simpa using z
    have := (Nat.log2_lt this).mpr q
    omega
theorem vMul_r (q : n.natAbs < 2 ^ 64) : vMul (.int m) (.int n) h = .ok (.int (m * n)) h := by
  have := small_bits q
  have z : mulBad m n = false := by
    unfold mulBad
    simp [PySem.shortFactorBits]
    intros
    omega
  show (if mulBad m n = true then Out.err else Out.ok (D.int (m * n)) h) = _
  rw [z]; rfl
theorem vMul_l (q : m.natAbs < 2 ^ 64) : vMul (.int m) (.int n) h = .ok (.int (m * n)) h := by
  have := small_bits q
  have z : mulBad m n = false := by
    unfold mulBad
    simp [PySem.shortFactorBits]
    intros
    omega
  show (if mulBad m n = true then Out.err else Out.ok (D.int (m * n)) h) = _
  rw [z]; rfl
theorem vDiv_big (q : n ≠ 0) (z : n.natAbs < 2 ^ 9000) : vDiv (.int m) (.int n) h = .ok (.int (m.fdiv n)) h := by
  have p : Builtin.divisionGoesByPylong m n = false := by
    unfold Builtin.divisionGoesByPylong
    have q2 : n.natAbs ≠ 0 := by simpa using q
    have := (Nat.log2_lt q2).mpr z
    simp [q]
    intro w
    omega
  unfold vDiv
  simp [q, p]
theorem vDiv_i (q : n ≠ 0) (z : n.natAbs < 2 ^ 200) : vDiv (.int m) (.int n) h = .ok (.int (m.fdiv n)) h :=
  vDiv_big q (Nat.lt_trans z (Nat.pow_lt_pow_right (by decide) (by decide)))
theorem vPow_i (q : 0 ≤ n) (q2 : n ≤ 1000000) (z : m.natAbs < 2 ^ 64) : vPow (.int m) (.int n) h = .ok (.int (m ^ n.toNat)) h := by unfold vPow; simp [q, q2, z]
end
def ixR (ds : List D) (m : Int) (h : Hs) : Out D := match atI ds m with
  | some d => .ok d h
  | none => .err
def ixO (o : Option Ob) (m : Int) (h : Hs) : Out D := match o with
  | some (.lst ds) => ixR ds m h
  | some (.fro ds) => ixR ds m h
  | _ => .err
section
variable {h : Hs} {e : Env} {i : Nat} {m : Int} {ds : List D} {d : D}
@[simp] theorem vIx_ref : vIx (.ref i) (.int m) h = ixO h[i]? m h := by
  unfold vIx items getL ixO ixR
  dsimp only
  all_goals (cases h[i]? with
    | none => rfl
    | some o => cases o <;> rfl)
@[simp] theorem vIx_tup : vIx (.tup ds) (.int m) h = ixR ds m h := rfl
@[simp] theorem ixO_lst : ixO (some (.lst ds)) m h = ixR ds m h := rfl
@[simp] theorem ixO_fro : ixO (some (.fro ds)) m h = ixR ds m h := rfl
theorem atI_nat {α : Type} (xs : List α) (j : Nat) : atI xs (j : Int) = xs[j]? := by
  unfold atI ixN
  rw [if_pos (by omega)]
  split
  · simp
  · simp; omega
def ixQ (o : Option D) (h : Hs) : Out D := match o with
  | some d => .ok d h
  | none => .err
@[simp] theorem ixQ_some : ixQ (some d) h = .ok d h := rfl
@[simp] theorem ixR_lit (n : Nat) : ixR ds (no_index (OfNat.ofNat n : Int)) h = ixQ ds[(no_index (OfNat.ofNat n : Nat))]? h := by
  show (match atI ds ((n : Nat) : Int) with | some d => Out.ok d h | none => .err) = _
  rw [atI_nat]
  unfold ixQ
  cases ds[n]? <;> rfl
@[simp] theorem ixR_nat (n : Nat) : ixR ds (n : Int) h = ixQ ds[n]? h := by
  unfold ixR
  rw [atI_nat]
  unfold ixQ
  cases ds[n]? <;> rfl
def stO (o : Option Ob) (i : Nat) (k : Int) (d : D) (h : Hs) : Out Unit := match o with
  | some (.lst ds) => (match ixN ds.length k with
      | some j => .ok () (h.set i (.lst (ds.set j d)))
      | none => .err)
  | _ => .err
@[simp] theorem setIx_ref : setIx (.ref i) (.int m) d h = stO h[i]? i m d h := by
  unfold setIx stO
  dsimp only
  all_goals (cases h[i]? with
    | none => rfl
    | some o => cases o <;> rfl)
theorem ixN_nat {k j : Nat} (q : j < k) : ixN k (j : Int) = some j := by
  unfold ixN
  rw [if_pos (by omega), if_pos (by omega)]
  simp
def stL (k j : Nat) (i : Nat) (ds : List D) (d : D) (h : Hs) : Out Unit := if j < k then .ok () (h.set i (.lst (ds.set j d))) else .err
@[simp] theorem stO_lit (n : Nat) : stO (some (.lst ds)) i (no_index (OfNat.ofNat n : Int)) d h = stL ds.length n i ds d h := by
  unfold stO stL
  show (match ixN ds.length ((n : Nat) : Int) with | some j => Out.ok () (h.set i (.lst (ds.set j d))) | none => .err) = _
  by_cases q : n < ds.length
  · rw [ixN_nat q, if_pos q]
  · rw [if_neg q]
    unfold ixN
    rw [if_pos (by omega), if_neg (by omega)]
@[simp] theorem gSubM_ap {mo mi : M D} : gSubM mo mi d e h = Out.toS (mo e h) (fun x e h => Out.toS (mi e h) (fun y e h => Out.toS (setIx x y d h) (fun _ e h => .nx e h) e) e) e := by
  unfold gSubM sE
  have z : ∀ x y d (e : Env) h, (match setIx x y d h with | .ok _ h1 => SO.nx e h1 | _ => .err) = Out.toS (setIx x y d h) (fun _ e h => .nx e h) e := fun x y d e h => by
    have q : ∀ c z h', setIx x y d h ≠ .exc c z h' := fun c z h' w => by
      unfold setIx at w
      repeat' split at w
      all_goals cases w
    cases w : setIx x y d h with
    | ok _ _ => rfl
    | err => rfl
    | exc c z h' => exact absurd w (q c z h')
  cases mo e h with
  | ok x h1 =>
    dsimp only [Out.toS]
    cases mi e h1 with
    | ok y h2 => exact z x y d e h2
    | exc _ _ _ => rfl
    | err => rfl
  | exc _ _ _ => rfl
  | err => rfl
def lnO (o : Option Ob) (h : Hs) : Out D := match o with
  | some (.lst ds) => .ok (.int ds.length) h
  | some (.fro ds) => .ok (.int ds.length) h
  | _ => .err
@[simp] theorem vLen_ref : vLen [.ref i] h = lnO h[i]? h := by
  unfold vLen items getL lnO
  dsimp only
  all_goals (cases h[i]? with
    | none => rfl
    | some o => cases o <;> rfl)
@[simp] theorem lnO_lst : lnO (some (.lst ds)) h = .ok (.int ds.length) h := rfl
@[simp] theorem lnO_fro : lnO (some (.fro ds)) h = .ok (.int ds.length) h := rfl
@[simp] theorem vLen_tup : vLen [.tup ds] h = .ok (.int ds.length) h := rfl
def ctO (o p : Option Ob) (h : Hs) : Out D := match o, p with
  | some (.lst a), some (.lst b) => if a.length + b.length ≤ sizeLine then .ok (.ref h.length) (h ++ [.lst (a ++ b)]) else .err
  | _, _ => .err
@[simp] theorem vAdd_ref {j : Nat} : vAdd (.ref i) (.ref j) h = ctO h[i]? h[j]? h := by
  unfold vAdd catBy ctO
  dsimp only
  all_goals (cases h[i]? with
    | none => rfl
    | some o =>
      cases h[j]? with
      | none => cases o <;> rfl
      | some p => cases o <;> cases p <;> rfl)
@[simp] theorem ctO_lst {a b : List D} : ctO (some (.lst a)) (some (.lst b)) h = if a.length + b.length ≤ sizeLine then .ok (.ref h.length) (h ++ [.lst (a ++ b)]) else .err := rfl
end
/-! ### places of a heap that grew -/
@[simp] theorem get_app {α : Type} {h : List α} {more : List α} {j : Nat} : (h ++ more)[h.length + j]? = more[j]? := by
  rw [List.getElem?_append_right (by omega)]; simp
@[simp] theorem get_app0 {α : Type} {h : List α} {more : List α} : (h ++ more)[h.length]? = more[0]? := by
  rw [List.getElem?_append_right (by omega)]; simp
theorem get_old {α : Type} {h : List α} {more : List α} {i : Nat} {x : α} (q : h[i]? = some x) : (h ++ more)[i]? = some x := by
  rw [List.getElem?_append_left (by have := (List.getElem?_eq_some_iff.mp q).1; exact this)]; exact q
@[simp] theorem set_app {α : Type} {h : List α} {more : List α} {j : Nat} {x : α} : (h ++ more).set (h.length + j) x = h ++ more.set j x := by
  rw [List.set_append_right _ _ (by omega)]; simp
@[simp] theorem set_app0 {α : Type} {h : List α} {more : List α} {x : α} : (h ++ more).set h.length x = h ++ more.set 0 x := by
  rw [List.set_append_right _ _ (by omega)]; simp
theorem set_old {α : Type} {h : List α} {more : List α} {i : Nat} {x y : α} (q : h[i]? = some x) : (h ++ more).set i y = h.set i y ++ more := by
  rw [List.set_append_left _ _ (by have := (List.getElem?_eq_some_iff.mp q).1; exact this)]
theorem vRng1 {h : Hs} {j : Nat} (q : j < 2 ^ 60) : vRng [.int (j : Int)] h = .ok (.seq ((List.range j).map fun (k : Nat) => D.int (k : Int))) h := by
  unfold vRng rngOf
  dsimp only
  rw [if_pos (by omega)]
  simp
/-! ### loops -/
theorem loopF_seq {g : GM} {b : SM} (inv : Nat → Env → Hs → Prop) : ∀ (n k : Nat) (ds : List D) (e : Env) (h : Hs),
    (∀ j d e h, ds[j]? = some d → inv j e h → ∃ e1 h1 e2 h2, g d e h = .nx e1 h1 ∧ (b e1 h1 = .nx e2 h2 ∨ b e1 h1 = .ct e2 h2) ∧ inv (j + 1) e2 h2) → inv k e h → k ≤ ds.length → ds.length - k < n →
    ∃ e' h', loopF (.seq ds) g b n k e h = .nx e' h' ∧ inv ds.length e' h'
  | 0, k, ds, e, h, st, i, hk, hn => by omega
  | n + 1, k, ds, e, h, st, i, hk, hn => by
    unfold loopF
    by_cases q : k < ds.length
    · obtain ⟨d, hd⟩ : ∃ d, ds[k]? = some d := ⟨ds[k], List.getElem?_eq_getElem q⟩
      obtain ⟨e1, h1, e2, h2, p1, p2, p3⟩ := st k d e h hd i
      obtain ⟨e', h', p4, p5⟩ := loopF_seq inv n (k + 1) ds e2 h2 st p3 q (by omega)
      refine ⟨e', h', ?_, p5⟩
      simp only [Itr'.at, hd, p1]
      rcases p2 with p2 | p2 <;> (rw [p2]; exact p4)
    · have : k = ds.length := by omega
      subst this
      exact ⟨e, h, by simp [Itr'.at], i⟩
theorem compF_seq {g : GM} {t : M Bool} {el : M D} {e0 : Env} (f : Nat → D) : ∀ (n k : Nat) (ds acc : List D) (h : Hs), ds.length ≤ sizeLine → (∀ j d, ds[j]? = some d → ∃ e1, g d e0 h = .nx e1 h ∧ t e1 h = .ok true h ∧ el e1 h = .ok (f j) h) →
    k ≤ ds.length → ds.length - k < n → acc = (List.range k).map f → compF (.seq ds) g t el e0 n k acc h = .ok ((List.range ds.length).map f) h
  | 0, k, ds, acc, h, hz, st, hk, hn, ha => by omega
  | n + 1, k, ds, acc, h, hz, st, hk, hn, ha => by
    unfold compF
    by_cases q : k < ds.length
    · obtain ⟨d, hd⟩ : ∃ d, ds[k]? = some d := ⟨ds[k], List.getElem?_eq_getElem q⟩
      obtain ⟨e1, p1, p2, p3⟩ := st k d hd
      simp only [Itr'.at, hd, p1, p2, p3]
      rw [if_pos (by rw [ha]; simp; omega)]
      exact compF_seq f n (k + 1) ds _ h hz st q (by omega) (by rw [ha, List.range_succ]; simp)
    · have : k = ds.length := by omega
      subst this
      simp [Itr'.at, ha]
end Nc

namespace K04
open Nc L2 PySem PyProof.Rows
abbrev pw : Program := PySem.Challenge.pw_noughtcut_k04_refusals_apart
def top (i : Nat) : Stmt := pw.main.body.getD i (.Pass ⟨0, 0, 0, 0⟩)
def anc : List (List Nat) := [[0], [1, 0], [2, 0], [3, 0], [4, 0], [5, 0], [6, 0], [7, 0], [8, 0], [9, 0], [10, 0], [11, 0], [12, 0], [13, 0], [14, 0], [15, 0], [16, 0]]
def ci : Ci := ⟨17, fun c d => (anc.getD c []).contains d, fun c => ([true, true, true, true, true, true, true, true, true, true, true, true, true, true, true, true, true] : List Bool).getD c false, fun c => (["", "found", "found", "found", "found", "found", "found", "found", "found", "found", "found", "found", "found", "found", "row", "many", "line"] : List PySem.Str).getD c ""⟩
def L : Lay := ⟨["len", "int", "isinstance", "ValueError", "range", "repr", "list", "min", "max"], ci, fun c => (["CutError", "NoNumber", "NoNet", "NoNode", "NoWire", "NoSpot", "NoBox", "NoWish", "NoAim", "NoOut", "NoPattern", "NoFit", "NoTree", "NoName", "NoText", "Large", "NoLine"] : List PySem.Str).getD c "", 9, fun i => (["_law_cell", "_law_stream", "_law_take", "_law_thing", "_law_made", "_law_kinds", "_law_field", "_law_right", "law"] : List PySem.Str).getD i "", fun i => ([["_law_script", "_law_k"], ["_law_cell_here"], ["_law_stream_here", "_law_many"], ["_law_stream_here"], ["_law_k", "_law_thing_here"], ["_law_error"], ["_law_error"], ["_law_k", "_law_thing_here"], ["_law_script"]] : List (List PySem.Str)).getD i [], fun i => i, ["row", "many", "line", "found"], fun c => ([false, true, true, true, true, true, true, true, true, true, true, true, true, true, true, true, true] : List Bool).getD c false⟩
/-! ### the own computations -/
abbrev f_law_cell : Nat := 0
abbrev f_law_stream : Nat := 1
abbrev f_law_take : Nat := 2
abbrev f_law_thing : Nat := 3
abbrev f_law_made : Nat := 4
abbrev f_law_kinds : Nat := 5
abbrev f_law_field : Nat := 6
abbrev f_law_right : Nat := 7
abbrev f_law : Nat := 8
def m_law_cell (C : Calls) : SM := (sSeq (sIf (mTest (mB vLt (mVar 1) (mU vLen (mCons (mVar 0) mNil)))) (sRet (mB vIx (mVar 0) (mVar 1))) sNil) (sRet (mB vAdd (mB vMul (mK (.int 86028121)) (mVar 1)) (mK (.int 59)))))
def b_law_cell : FnB := ⟨2, 2, m_law_cell⟩
def m_law_stream (C : Calls) : SM := (sRet (mU vNew (mLen (mCons (mB vMul (mVar 0) (mU vInt (mCons (mB vGe (mVar 0) (mB vPow (mK (.int 10)) (mK (.int 18)))) mNil))) (mCons (mB vMod (mVar 0) (mK (.int 2147483629))) (mCons (mK (.int 0)) mNil))))))
def b_law_stream : FnB := ⟨1, 1, m_law_stream⟩
def m_law_take (C : Calls) : SM := (sSeq (sIf (mTest (mB vGt (mB vIx (mVar 0) (mK (.int 0))) (mK (.int 0)))) (sSeq (sAsg (mB vMod (mB vIx (mVar 0) (mK (.int 0))) (mVar 1)) (gNm 2)) (sSeq (sAsg (mB vDiv (mB vIx (mVar 0) (mK (.int 0))) (mVar 1)) (gSubM (mVar 0) (mK (.int 0)))) (sRet (mVar 2)))) sNil) (sSeq (sAsg (mB vAdd (mB vIx (mVar 0) (mK (.int 2))) (mK (.int 1))) (gSubM (mVar 0) (mK (.int 2)))) (sSeq (sAsg (mB vMod (mB vAdd (mB vAdd (mB vMul (mB vIx (mVar 0) (mK (.int 1))) (mK (.int 48271))) (mB vMul (mK (.int 7919)) (mB vIx (mVar 0) (mK (.int 2))))) (mK (.int 37))) (mK (.int 2147483647))) (gNm 3)) (sSeq (sAsg (mB vMod (mB vMul (mVar 3) (mVar 3)) (mK (.int 2147483629))) (gNm 3)) (sSeq (sAsg (mB vMod (mB vAdd (mB vMul (mVar 3) (mK (.int 69621))) (mB vMul (mK (.int 6101)) (mB vIx (mVar 0) (mK (.int 2))))) (mK (.int 2147483587))) (gNm 4)) (sRet (mB vMod (mB vDiv (mB vMod (mB vMul (mVar 4) (mVar 3)) (mK (.int 2147483579))) (mK (.int 16))) (mVar 1))))))))
def b_law_take : FnB := ⟨2, 5, m_law_take⟩
def m_law_thing (C : Calls) : SM := (sSeq (sAsg (mB vAdd (mB vSub (mCall (C f_law_take) 2 (mCons (mVar 0) (mCons (mB vSub (mB vMul (mK (.int 2)) (mB vPow (mK (.int 10)) (mK (.int 30)))) (mK (.int 1))) mNil))) (mB vPow (mK (.int 10)) (mK (.int 30)))) (mK (.int 1))) (gNm 1)) (sSeq (sAsg (mU vNew (mLen (mCons (mVar 1) (mCons (mK (.int 0)) (mCons (mK (.str "")) (mCons (mK (.str "a b")) (mCons (mK .non) (mCons (mK (.bl true)) (mCons (mK (.bl false)) (mCons (mU vNew (mLen (mCons (mVar 1) mNil))) (mCons (mU vNew (mLen (mCons (mU vNew (mLen (mCons (mVar 1) mNil))) (mCons (mK (.int 1)) mNil)))) (mCons (mU vTup (mCons (mVar 1) mNil)) (mCons mDct (mCons (mU vTup mNil) (mCons (mU vTup (mCons (mK (.str "a")) (mCons (mU vNew (mLen (mCons (mK (.int 1)) mNil))) mNil))) mNil))))))))))))))) (gNm 2)) (sRet (mB vIx (mVar 2) (mCall (C f_law_take) 2 (mCons (mVar 0) (mCons (mK (.int 13)) mNil)))))))
def b_law_thing : FnB := ⟨1, 3, m_law_thing⟩
def m_law_made (C : Calls) : SM := (sSeq (sAsg (mU vNew (mLen (mCons (mU (vExc ci 1) (mCons (mVar 1) mNil)) (mCons (mU (vExc ci 2) (mCons (mVar 1) mNil)) (mCons (mU (vExc ci 3) (mCons (mVar 1) mNil)) (mCons (mU (vExc ci 4) (mCons (mVar 1) mNil)) (mCons (mU (vExc ci 5) (mCons (mVar 1) mNil)) (mCons (mU (vExc ci 6) (mCons (mVar 1) mNil)) (mCons (mU (vExc ci 7) (mCons (mVar 1) mNil)) mNil))))))))) (gNm 2)) (sSeq (sAsg (mB vAdd (mVar 2) (mU vNew (mLen (mCons (mU (vExc ci 8) (mCons (mVar 1) mNil)) (mCons (mU (vExc ci 9) (mCons (mVar 1) mNil)) (mCons (mU (vExc ci 10) (mCons (mVar 1) mNil)) (mCons (mU (vExc ci 11) (mCons (mVar 1) mNil)) (mCons (mU (vExc ci 12) (mCons (mVar 1) mNil)) (mCons (mU (vExc ci 13) (mCons (mVar 1) mNil)) mNil))))))))) (gNm 2)) (sRet (mB vIx (mB vAdd (mVar 2) (mU vNew (mLen (mCons (mU (vExc ci 14) (mCons (mVar 1) mNil)) (mCons (mU (vExc ci 15) (mCons (mVar 1) mNil)) (mCons (mU (vExc ci 16) (mCons (mVar 1) mNil)) mNil)))))) (mVar 0)))))
def b_law_made : FnB := ⟨2, 3, m_law_made⟩
def m_law_kinds (C : Calls) : SM := (sSeq (sAsg (mU vNew (mLen (mCons (mU (vIsi ci (.own 1)) (mVar 0)) (mCons (mU (vIsi ci (.own 2)) (mVar 0)) (mCons (mU (vIsi ci (.own 3)) (mVar 0)) mNil))))) (gNm 1)) (sSeq (sAsg (mB vAdd (mVar 1) (mU vNew (mLen (mCons (mU (vIsi ci (.own 4)) (mVar 0)) (mCons (mU (vIsi ci (.own 5)) (mVar 0)) (mCons (mU (vIsi ci (.own 6)) (mVar 0)) mNil)))))) (gNm 1)) (sSeq (sAsg (mB vAdd (mVar 1) (mU vNew (mLen (mCons (mU (vIsi ci (.own 7)) (mVar 0)) (mCons (mU (vIsi ci (.own 8)) (mVar 0)) (mCons (mU (vIsi ci (.own 9)) (mVar 0)) mNil)))))) (gNm 1)) (sSeq (sAsg (mB vAdd (mVar 1) (mU vNew (mLen (mCons (mU (vIsi ci (.own 10)) (mVar 0)) (mCons (mU (vIsi ci (.own 11)) (mVar 0)) (mCons (mU (vIsi ci (.own 12)) (mVar 0)) mNil)))))) (gNm 1)) (sSeq (sAsg (mB vAdd (mVar 1) (mU vNew (mLen (mCons (mU (vIsi ci (.own 13)) (mVar 0)) (mCons (mU (vIsi ci (.own 14)) (mVar 0)) (mCons (mU (vIsi ci (.own 15)) (mVar 0)) mNil)))))) (gNm 1)) (sRet (mB vAdd (mVar 1) (mU vNew (mLen (mCons (mU (vIsi ci (.own 16)) (mVar 0)) mNil))))))))))
def b_law_kinds : FnB := ⟨1, 2, m_law_kinds⟩
def m_law_field (C : Calls) : SM := (sSeq (sIf (mTest (mU (vIsi ci (.own 14)) (mVar 0))) (sRet (mU (vAttr ci "row") (mVar 0))) sNil) (sSeq (sIf (mTest (mU (vIsi ci (.own 15)) (mVar 0))) (sRet (mU (vAttr ci "many") (mVar 0))) sNil) (sSeq (sIf (mTest (mU (vIsi ci (.own 16)) (mVar 0))) (sRet (mU (vAttr ci "line") (mVar 0))) sNil) (sRet (mU (vAttr ci "found") (mVar 0))))))
def b_law_field : FnB := ⟨1, 1, m_law_field⟩
def m_law_right (C : Calls) : SM := (sSeq (sAsg (mU vNew (mLen (mCons (mK (.str "b")) mNil))) (gNm 2)) (sSeq (sAsg (mCall (C f_law_made) 2 (mCons (mVar 0) (mCons (mVar 1) mNil))) (gNm 3)) (sSeq (sAsg (mCall (C f_law_made) 2 (mCons (mVar 0) (mCons (mVar 2) mNil))) (gNm 4)) (sSeq (sIf (mOr (mNot (mTest (mU (vIsi ci (.own 0)) (mVar 3)))) (mNot (mTest (mU (vIsi ci (.ty .verr)) (mVar 3))))) (sRet (mK (.bl false))) sNil) (sSeq (sIf (mOr (mTest (mB vNe (mCall (C f_law_kinds) 1 (mCons (mVar 3) mNil)) (mU vNew (mComp (mU vRng (mCons (mK (.int 16)) mNil)) (gNm 5) mYes (mB vEq (mVar 5) (mVar 0)) [5])))) (mTest (mB vNe (mU vRepr (mCons (mCall (C f_law_field) 1 (mCons (mVar 3) mNil)) mNil)) (mU vRepr (mCons (mVar 1) mNil))))) (sRet (mK (.bl false))) sNil) (sSeq (sIf (mTest (mU (vIsi ci (.ty .list)) (mVar 1))) (sDrop (mMt "list" vAppend (mVar 1) (mCons (mK (.str "late")) mNil))) sNil) (sSeq (sDrop (mMt "list" vAppend (mVar 2) (mCons (mK (.str "c")) mNil))) (sRet (vAnd (mB vEq (mU vRepr (mCons (mCall (C f_law_field) 1 (mCons (mVar 3) mNil)) mNil)) (mU vRepr (mCons (mVar 1) mNil))) (mB vEq (mCall (C f_law_field) 1 (mCons (mVar 4) mNil)) (mU vNew (mLen (mCons (mK (.str "b")) (mCons (mK (.str "c")) mNil))))))))))))))
def b_law_right : FnB := ⟨2, 6, m_law_right⟩
def m_law (C : Calls) : SM := (sSeq (sFor (mU vRng (mCons (mU vMax (mCons (mK (.int 2)) (mCons (mU vMin (mCons (mU vLen (mCons (mVar 0) mNil)) (mCons (mK (.int 10)) mNil))) mNil))) mNil)) (gNm 1) (sSeq (sAsg (mCall (C f_law_stream) 1 (mCons (mCall (C f_law_cell) 2 (mCons (mVar 0) (mCons (mVar 1) mNil))) mNil)) (gNm 2)) (sFor (mU vRng (mCons (mK (.int 16)) mNil)) (gNm 3) (sIf (mNot (mTest (mCall (C f_law_right) 2 (mCons (mVar 3) (mCons (mCall (C f_law_thing) 1 (mCons (mVar 2) mNil)) mNil))))) (sRet (mK (.bl false))) sNil)))) (sSeq (sAsg (mU (vExc0 ci 0) (mCons (mK (.str "no")) mNil)) (gNm 4)) (sRet (vAnd (mU (vIsi ci (.ty .verr)) (mVar 4)) (mB vNotIn (mK (.bl true)) (mCall (C f_law_kinds) 1 (mCons (mVar 4) mNil)))))))
def b_law : FnB := ⟨1, 5, m_law⟩
def B : Nat → Option FnB
  | 0 => some b_law_cell
  | 1 => some b_law_stream
  | 2 => some b_law_take
  | 3 => some b_law_thing
  | 4 => some b_law_made
  | 5 => some b_law_kinds
  | 6 => some b_law_field
  | 7 => some b_law_right
  | 8 => some b_law
  | _ => none
/-! ### what each def does -/
section
variable {P : Program} {w : World} {K : PySem.W.Frag} {mg : PySem.Str → Option Value} {base : Heap} {cls fa fi : Nat → Addr} {ffd fid : Nat → FuncData} {C : Calls} {k : Nat}
theorem d_law_cell (T : Txt L P w K mg base cls fa fi ffd fid C k) (hk : 2 ≤ k) {a : Addr} {fd : FuncData} (F : Fun K "_law_cell" "_law_cell" (top 19) a fd) : FnG P w K mg base (k + 1) a fd ["_law_script", "_law_k"] (spC ⟨K, cls, L.ci.fld⟩ 2 (b_law_cell.run C)) :=
  fnG_body (N := ["_law_script", "_law_k"]) F ⟨rfl, rfl, rfl, by decide +kernel, rfl, by decide +kernel, by decide +kernel⟩ rfl rfl fun cdv A outer s H E hr => by
    have nd : (["_law_script", "_law_k"] : List PySem.Str).Nodup := by decide +kernel
    have hr1 := hr.r.mono hk
    have hgd := hr.g
    have hu := lt_cl hr.r
    have tk : Takes (cxOf (L2.CX P w) P w K mg base ["_law_script", "_law_k"] "_law_cell" (defScope (top 19)) a cdv A outer s H E) (fun c d _ H => E c d H) := takes_of rfl rfl rfl rfl
    show PSs _ _ (tS _ _ (m_law_cell C))
    delta m_law_cell
    exact (ss_cons (s_if (t_cmp op_lt ov_lt (e_var (pv 1)) (e_blt call_len cv_len rfl (T.blt 0 (by decide)) bt_len (a_cons (e_var (pv 0)) a_nil) (by decide) rfl) (nomark _)) (ss_one (s_ret (e_ix ix_seq ov_ix (e_var (pv 0)) (e_var (pv 1)) (fun _ _ => rfl)))) ss_nil) (ss_one (s_ret (e_op op_addA ov_add (e_op op_mulR ov_mul e_int (e_var (pv 1))) e_int))))
theorem d_law_stream (T : Txt L P w K mg base cls fa fi ffd fid C k) (hk : 2 ≤ k) {a : Addr} {fd : FuncData} (F : Fun K "_law_stream" "_law_stream" (top 20) a fd) : FnG P w K mg base (k + 1) a fd ["_law_cell_here"] (spC ⟨K, cls, L.ci.fld⟩ 1 (b_law_stream.run C)) :=
  fnG_body (N := ["_law_cell_here"]) F ⟨rfl, rfl, rfl, by decide +kernel, rfl, by decide +kernel, by decide +kernel⟩ rfl rfl fun cdv A outer s H E hr => by
    have nd : (["_law_cell_here"] : List PySem.Str).Nodup := by decide +kernel
    have hr1 := hr.r.mono hk
    have hgd := hr.g
    have hu := lt_cl hr.r
    have tk : Takes (cxOf (L2.CX P w) P w K mg base ["_law_cell_here"] "_law_stream" (defScope (top 20)) a cdv A outer s H E) (fun c d _ H => E c d H) := takes_of rfl rfl rfl rfl
    show PSs _ _ (tS _ _ (m_law_stream C))
    delta m_law_stream
    exact (ss_one (s_ret (e_ofL (l_lst (a_cons (e_op op_mulR ov_mul (e_var (pv 0)) (e_blTy call_intA cv_int rfl (T.blt 1 (by decide)) bt_int (a_cons (e_cmp op_ge ov_ge (e_var (pv 0)) (e_op op_pow ov_pow e_int e_int) (nomark _)) a_nil) (by decide) rfl)) (a_cons (e_op op_modN ov_mod (e_var (pv 0)) e_int) (a_cons e_int a_nil)))))))
theorem d_law_take (T : Txt L P w K mg base cls fa fi ffd fid C k) (hk : 2 ≤ k) {a : Addr} {fd : FuncData} (F : Fun K "_law_take" "_law_take" (top 21) a fd) : FnG P w K mg base (k + 1) a fd ["_law_stream_here", "_law_many"] (spC ⟨K, cls, L.ci.fld⟩ 2 (b_law_take.run C)) :=
  fnG_body (N := ["_law_stream_here", "_law_many", "_law_digit", "_law_number", "_law_high"]) F ⟨rfl, rfl, rfl, by decide +kernel, rfl, by decide +kernel, by decide +kernel⟩ rfl rfl fun cdv A outer s H E hr => by
    have nd : (["_law_stream_here", "_law_many", "_law_digit", "_law_number", "_law_high"] : List PySem.Str).Nodup := by decide +kernel
    have hr1 := hr.r.mono hk
    have hgd := hr.g
    have hu := lt_cl hr.r
    have tk : Takes (cxOf (L2.CX P w) P w K mg base ["_law_stream_here", "_law_many", "_law_digit", "_law_number", "_law_high"] "_law_take" (defScope (top 21)) a cdv A outer s H E) (fun c d _ H => E c d H) := takes_of rfl rfl rfl rfl
    show PSs _ _ (tS _ _ (m_law_take C))
    delta m_law_take
    exact (ss_cons (s_if (t_cmp op_gt ov_gt (e_ix ix_seq ov_ix (e_var (pv 0)) e_int (fun _ _ => rfl)) e_int (nomark _)) (ss_cons (s_set (i := 2) nd rfl (.inl rfl) (e_op op_modN ov_mod (e_ix ix_seq ov_ix (e_var (pv 0)) e_int (fun _ _ => rfl)) (e_var (pv 1)))) (ss_cons (s_asg (e_op op_fdivG ov_div (e_ix ix_seq ov_ix (e_var (pv 0)) e_int (fun _ _ => rfl)) (e_var (pv 1))) (g_sub (e_var (pv 0)) e_int) (hno := gok_sub)) (ss_one (s_ret (e_var (pv 2)))))) ss_nil) (ss_cons (s_asg (e_op op_addA ov_add (e_ix ix_seq ov_ix (e_var (pv 0)) e_int (fun _ _ => rfl)) e_int) (g_sub (e_var (pv 0)) e_int) (hno := gok_sub)) (ss_cons (s_set (i := 3) nd rfl (.inl rfl) (e_op op_modN ov_mod (e_op op_addA ov_add (e_op op_addA ov_add (e_op op_mulR ov_mul (e_ix ix_seq ov_ix (e_var (pv 0)) e_int (fun _ _ => rfl)) e_int) (e_op op_mulR ov_mul e_int (e_ix ix_seq ov_ix (e_var (pv 0)) e_int (fun _ _ => rfl)))) e_int) e_int)) (ss_cons (s_set (i := 3) nd rfl (.inl rfl) (e_op op_modN ov_mod (e_op op_mulR ov_mul (e_var (pv 3)) (e_var (pv 3))) e_int)) (ss_cons (s_set (i := 4) nd rfl (.inl rfl) (e_op op_modN ov_mod (e_op op_addA ov_add (e_op op_mulR ov_mul (e_var (pv 3)) e_int) (e_op op_mulR ov_mul e_int (e_ix ix_seq ov_ix (e_var (pv 0)) e_int (fun _ _ => rfl)))) e_int)) (ss_one (s_ret (e_op op_modN ov_mod (e_op op_fdivG ov_div (e_op op_modN ov_mod (e_op op_mulR ov_mul (e_var (pv 4)) (e_var (pv 3))) e_int) e_int) (e_var (pv 1))))))))))
theorem d_law_thing (T : Txt L P w K mg base cls fa fi ffd fid C k) (hk : 2 ≤ k) {a : Addr} {fd : FuncData} (F : Fun K "_law_thing" "_law_thing" (top 24) a fd) : FnG P w K mg base (k + 1) a fd ["_law_stream_here"] (spC ⟨K, cls, L.ci.fld⟩ 1 (b_law_thing.run C)) :=
  fnG_body (N := ["_law_stream_here", "_law_number", "_law_some"]) F ⟨rfl, rfl, rfl, by decide +kernel, rfl, by decide +kernel, by decide +kernel⟩ rfl rfl fun cdv A outer s H E hr => by
    have nd : (["_law_stream_here", "_law_number", "_law_some"] : List PySem.Str).Nodup := by decide +kernel
    have hr1 := hr.r.mono hk
    have hgd := hr.g
    have hu := lt_cl hr.r
    have tk : Takes (cxOf (L2.CX P w) P w K mg base ["_law_stream_here", "_law_number", "_law_some"] "_law_thing" (defScope (top 24)) a cdv A outer s H E) (fun c d _ H => E c d H) := takes_of rfl rfl rfl rfl
    show PSs _ _ (tS _ _ (m_law_thing C))
    delta m_law_thing
    exact (ss_cons (s_set (i := 1) nd rfl (.inl rfl) (e_op op_addA ov_add (e_op op_sub ov_sub (e_call (T.F 2 (by decide)) rfl (T.mgf 2 (by decide)) (T.kpf 2 (by decide)) (T.bdf 2 (by decide)) hr tk rfl rfl (a_cons (e_var (pv 0)) (a_cons (e_op op_sub ov_sub (e_op op_mulR ov_mul e_int (e_op op_pow ov_pow e_int e_int)) e_int) a_nil))) (e_op op_pow ov_pow e_int e_int)) e_int)) (ss_cons (s_set (i := 2) nd rfl (.inl rfl) (e_ofL (l_lst (a_cons (e_var (pv 1)) (a_cons e_int (a_cons e_str (a_cons e_str (a_cons e_non (a_cons e_bl (a_cons e_bl (a_cons (e_ofL (l_lst (a_cons (e_var (pv 1)) a_nil))) (a_cons (e_ofL (l_lst (a_cons (e_ofL (l_lst (a_cons (e_var (pv 1)) a_nil))) (a_cons e_int a_nil)))) (a_cons (e_tup (a_cons (e_var (pv 1)) a_nil)) (a_cons e_dct0 (a_cons (e_tup a_nil) (a_cons (e_tup (a_cons e_str (a_cons (e_ofL (l_lst (a_cons e_int a_nil))) a_nil))) a_nil)))))))))))))))) (ss_one (s_ret (e_ix ix_seq ov_ix (e_var (pv 2)) (e_call (T.F 2 (by decide)) rfl (T.mgf 2 (by decide)) (T.kpf 2 (by decide)) (T.bdf 2 (by decide)) hr tk rfl rfl (a_cons (e_var (pv 0)) (a_cons e_int a_nil))) (fun _ _ => rfl))))))
theorem d_law_made (T : Txt L P w K mg base cls fa fi ffd fid C k) (hk : 2 ≤ k) {a : Addr} {fd : FuncData} (F : Fun K "_law_made" "_law_made" (top 25) a fd) : FnG P w K mg base (k + 1) a fd ["_law_k", "_law_thing_here"] (spC ⟨K, cls, L.ci.fld⟩ 2 (b_law_made.run C)) :=
  fnG_body (N := ["_law_k", "_law_thing_here", "_law_some"]) F ⟨rfl, rfl, rfl, by decide +kernel, rfl, by decide +kernel, by decide +kernel⟩ rfl rfl fun cdv A outer s H E hr => by
    have nd : (["_law_k", "_law_thing_here", "_law_some"] : List PySem.Str).Nodup := by decide +kernel
    have hr1 := hr.r.mono hk
    have hgd := hr.g
    have hu := lt_cl hr.r
    have tk : Takes (cxOf (L2.CX P w) P w K mg base ["_law_k", "_law_thing_here", "_law_some"] "_law_made" (defScope (top 25)) a cdv A outer s H E) (fun c d _ H => E c d H) := takes_of rfl rfl rfl rfl
    show PSs _ _ (tS _ _ (m_law_made C))
    delta m_law_made
    exact (ss_cons (s_set (i := 2) nd rfl (.inl rfl) (e_ofL (l_lst (a_cons (e_exc (c := 1) T.ok rfl (by decide) (T.ini 1 (by decide) rfl).1 (T.ini 1 (by decide) rfl).2.1 (T.inF 1 (by decide) rfl) hr1 (T.ini 1 (by decide) rfl).2.2 rfl (T.mgc 1 (by decide)) rfl (a_cons (e_var (pv 1)) a_nil)) (a_cons (e_exc (c := 2) T.ok rfl (by decide) (T.ini 2 (by decide) rfl).1 (T.ini 2 (by decide) rfl).2.1 (T.inF 2 (by decide) rfl) hr1 (T.ini 2 (by decide) rfl).2.2 rfl (T.mgc 2 (by decide)) rfl (a_cons (e_var (pv 1)) a_nil)) (a_cons (e_exc (c := 3) T.ok rfl (by decide) (T.ini 3 (by decide) rfl).1 (T.ini 3 (by decide) rfl).2.1 (T.inF 3 (by decide) rfl) hr1 (T.ini 3 (by decide) rfl).2.2 rfl (T.mgc 3 (by decide)) rfl (a_cons (e_var (pv 1)) a_nil)) (a_cons (e_exc (c := 4) T.ok rfl (by decide) (T.ini 4 (by decide) rfl).1 (T.ini 4 (by decide) rfl).2.1 (T.inF 4 (by decide) rfl) hr1 (T.ini 4 (by decide) rfl).2.2 rfl (T.mgc 4 (by decide)) rfl (a_cons (e_var (pv 1)) a_nil)) (a_cons (e_exc (c := 5) T.ok rfl (by decide) (T.ini 5 (by decide) rfl).1 (T.ini 5 (by decide) rfl).2.1 (T.inF 5 (by decide) rfl) hr1 (T.ini 5 (by decide) rfl).2.2 rfl (T.mgc 5 (by decide)) rfl (a_cons (e_var (pv 1)) a_nil)) (a_cons (e_exc (c := 6) T.ok rfl (by decide) (T.ini 6 (by decide) rfl).1 (T.ini 6 (by decide) rfl).2.1 (T.inF 6 (by decide) rfl) hr1 (T.ini 6 (by decide) rfl).2.2 rfl (T.mgc 6 (by decide)) rfl (a_cons (e_var (pv 1)) a_nil)) (a_cons (e_exc (c := 7) T.ok rfl (by decide) (T.ini 7 (by decide) rfl).1 (T.ini 7 (by decide) rfl).2.1 (T.inF 7 (by decide) rfl) hr1 (T.ini 7 (by decide) rfl).2.2 rfl (T.mgc 7 (by decide)) rfl (a_cons (e_var (pv 1)) a_nil)) a_nil)))))))))) (ss_cons (s_set (i := 2) nd rfl (.inl rfl) (e_op op_addA ov_add (e_var (pv 2)) (e_ofL (l_lst (a_cons (e_exc (c := 8) T.ok rfl (by decide) (T.ini 8 (by decide) rfl).1 (T.ini 8 (by decide) rfl).2.1 (T.inF 8 (by decide) rfl) hr1 (T.ini 8 (by decide) rfl).2.2 rfl (T.mgc 8 (by decide)) rfl (a_cons (e_var (pv 1)) a_nil)) (a_cons (e_exc (c := 9) T.ok rfl (by decide) (T.ini 9 (by decide) rfl).1 (T.ini 9 (by decide) rfl).2.1 (T.inF 9 (by decide) rfl) hr1 (T.ini 9 (by decide) rfl).2.2 rfl (T.mgc 9 (by decide)) rfl (a_cons (e_var (pv 1)) a_nil)) (a_cons (e_exc (c := 10) T.ok rfl (by decide) (T.ini 10 (by decide) rfl).1 (T.ini 10 (by decide) rfl).2.1 (T.inF 10 (by decide) rfl) hr1 (T.ini 10 (by decide) rfl).2.2 rfl (T.mgc 10 (by decide)) rfl (a_cons (e_var (pv 1)) a_nil)) (a_cons (e_exc (c := 11) T.ok rfl (by decide) (T.ini 11 (by decide) rfl).1 (T.ini 11 (by decide) rfl).2.1 (T.inF 11 (by decide) rfl) hr1 (T.ini 11 (by decide) rfl).2.2 rfl (T.mgc 11 (by decide)) rfl (a_cons (e_var (pv 1)) a_nil)) (a_cons (e_exc (c := 12) T.ok rfl (by decide) (T.ini 12 (by decide) rfl).1 (T.ini 12 (by decide) rfl).2.1 (T.inF 12 (by decide) rfl) hr1 (T.ini 12 (by decide) rfl).2.2 rfl (T.mgc 12 (by decide)) rfl (a_cons (e_var (pv 1)) a_nil)) (a_cons (e_exc (c := 13) T.ok rfl (by decide) (T.ini 13 (by decide) rfl).1 (T.ini 13 (by decide) rfl).2.1 (T.inF 13 (by decide) rfl) hr1 (T.ini 13 (by decide) rfl).2.2 rfl (T.mgc 13 (by decide)) rfl (a_cons (e_var (pv 1)) a_nil)) a_nil)))))))))) (ss_one (s_ret (e_ix ix_seq ov_ix (e_op op_addA ov_add (e_var (pv 2)) (e_ofL (l_lst (a_cons (e_exc (c := 14) T.ok rfl (by decide) (T.ini 14 (by decide) rfl).1 (T.ini 14 (by decide) rfl).2.1 (T.inF 14 (by decide) rfl) hr1 (T.ini 14 (by decide) rfl).2.2 rfl (T.mgc 14 (by decide)) rfl (a_cons (e_var (pv 1)) a_nil)) (a_cons (e_exc (c := 15) T.ok rfl (by decide) (T.ini 15 (by decide) rfl).1 (T.ini 15 (by decide) rfl).2.1 (T.inF 15 (by decide) rfl) hr1 (T.ini 15 (by decide) rfl).2.2 rfl (T.mgc 15 (by decide)) rfl (a_cons (e_var (pv 1)) a_nil)) (a_cons (e_exc (c := 16) T.ok rfl (by decide) (T.ini 16 (by decide) rfl).1 (T.ini 16 (by decide) rfl).2.1 (T.inF 16 (by decide) rfl) hr1 (T.ini 16 (by decide) rfl).2.2 rfl (T.mgc 16 (by decide)) rfl (a_cons (e_var (pv 1)) a_nil)) a_nil)))))) (e_var (pv 0)) (fun _ _ => rfl))))))
theorem d_law_kinds (T : Txt L P w K mg base cls fa fi ffd fid C k) (hk : 2 ≤ k) {a : Addr} {fd : FuncData} (F : Fun K "_law_kinds" "_law_kinds" (top 26) a fd) : FnG P w K mg base (k + 1) a fd ["_law_error"] (spC ⟨K, cls, L.ci.fld⟩ 1 (b_law_kinds.run C)) :=
  fnG_body (N := ["_law_error", "_law_found"]) F ⟨rfl, rfl, rfl, by decide +kernel, rfl, by decide +kernel, by decide +kernel⟩ rfl rfl fun cdv A outer s H E hr => by
    have nd : (["_law_error", "_law_found"] : List PySem.Str).Nodup := by decide +kernel
    have hr1 := hr.r.mono hk
    have hgd := hr.g
    have hu := lt_cl hr.r
    have tk : Takes (cxOf (L2.CX P w) P w K mg base ["_law_error", "_law_found"] "_law_kinds" (defScope (top 26)) a cdv A outer s H E) (fun c d _ H => E c d H) := takes_of rfl rfl rfl rfl
    show PSs _ _ (tS _ _ (m_law_kinds C))
    delta m_law_kinds
    exact (ss_cons (s_set (i := 1) nd rfl (.inl rfl) (e_ofL (l_lst (a_cons (e_isi (c := (.own 1)) T.ok rfl (pe_glob rfl (T.mgc 1 (by decide)) rfl) (e_var (pv 0)) rfl (T.blt 2 (by decide))) (a_cons (e_isi (c := (.own 2)) T.ok rfl (pe_glob rfl (T.mgc 2 (by decide)) rfl) (e_var (pv 0)) rfl (T.blt 2 (by decide))) (a_cons (e_isi (c := (.own 3)) T.ok rfl (pe_glob rfl (T.mgc 3 (by decide)) rfl) (e_var (pv 0)) rfl (T.blt 2 (by decide))) a_nil)))))) (ss_cons (s_set (i := 1) nd rfl (.inl rfl) (e_op op_addA ov_add (e_var (pv 1)) (e_ofL (l_lst (a_cons (e_isi (c := (.own 4)) T.ok rfl (pe_glob rfl (T.mgc 4 (by decide)) rfl) (e_var (pv 0)) rfl (T.blt 2 (by decide))) (a_cons (e_isi (c := (.own 5)) T.ok rfl (pe_glob rfl (T.mgc 5 (by decide)) rfl) (e_var (pv 0)) rfl (T.blt 2 (by decide))) (a_cons (e_isi (c := (.own 6)) T.ok rfl (pe_glob rfl (T.mgc 6 (by decide)) rfl) (e_var (pv 0)) rfl (T.blt 2 (by decide))) a_nil))))))) (ss_cons (s_set (i := 1) nd rfl (.inl rfl) (e_op op_addA ov_add (e_var (pv 1)) (e_ofL (l_lst (a_cons (e_isi (c := (.own 7)) T.ok rfl (pe_glob rfl (T.mgc 7 (by decide)) rfl) (e_var (pv 0)) rfl (T.blt 2 (by decide))) (a_cons (e_isi (c := (.own 8)) T.ok rfl (pe_glob rfl (T.mgc 8 (by decide)) rfl) (e_var (pv 0)) rfl (T.blt 2 (by decide))) (a_cons (e_isi (c := (.own 9)) T.ok rfl (pe_glob rfl (T.mgc 9 (by decide)) rfl) (e_var (pv 0)) rfl (T.blt 2 (by decide))) a_nil))))))) (ss_cons (s_set (i := 1) nd rfl (.inl rfl) (e_op op_addA ov_add (e_var (pv 1)) (e_ofL (l_lst (a_cons (e_isi (c := (.own 10)) T.ok rfl (pe_glob rfl (T.mgc 10 (by decide)) rfl) (e_var (pv 0)) rfl (T.blt 2 (by decide))) (a_cons (e_isi (c := (.own 11)) T.ok rfl (pe_glob rfl (T.mgc 11 (by decide)) rfl) (e_var (pv 0)) rfl (T.blt 2 (by decide))) (a_cons (e_isi (c := (.own 12)) T.ok rfl (pe_glob rfl (T.mgc 12 (by decide)) rfl) (e_var (pv 0)) rfl (T.blt 2 (by decide))) a_nil))))))) (ss_cons (s_set (i := 1) nd rfl (.inl rfl) (e_op op_addA ov_add (e_var (pv 1)) (e_ofL (l_lst (a_cons (e_isi (c := (.own 13)) T.ok rfl (pe_glob rfl (T.mgc 13 (by decide)) rfl) (e_var (pv 0)) rfl (T.blt 2 (by decide))) (a_cons (e_isi (c := (.own 14)) T.ok rfl (pe_glob rfl (T.mgc 14 (by decide)) rfl) (e_var (pv 0)) rfl (T.blt 2 (by decide))) (a_cons (e_isi (c := (.own 15)) T.ok rfl (pe_glob rfl (T.mgc 15 (by decide)) rfl) (e_var (pv 0)) rfl (T.blt 2 (by decide))) a_nil))))))) (ss_one (s_ret (e_op op_addA ov_add (e_var (pv 1)) (e_ofL (l_lst (a_cons (e_isi (c := (.own 16)) T.ok rfl (pe_glob rfl (T.mgc 16 (by decide)) rfl) (e_var (pv 0)) rfl (T.blt 2 (by decide))) a_nil)))))))))))
theorem d_law_field (T : Txt L P w K mg base cls fa fi ffd fid C k) (hk : 2 ≤ k) {a : Addr} {fd : FuncData} (F : Fun K "_law_field" "_law_field" (top 27) a fd) : FnG P w K mg base (k + 1) a fd ["_law_error"] (spC ⟨K, cls, L.ci.fld⟩ 1 (b_law_field.run C)) :=
  fnG_body (N := ["_law_error"]) F ⟨rfl, rfl, rfl, by decide +kernel, rfl, by decide +kernel, by decide +kernel⟩ rfl rfl fun cdv A outer s H E hr => by
    have nd : (["_law_error"] : List PySem.Str).Nodup := by decide +kernel
    have hr1 := hr.r.mono hk
    have hgd := hr.g
    have hu := lt_cl hr.r
    have tk : Takes (cxOf (L2.CX P w) P w K mg base ["_law_error"] "_law_field" (defScope (top 27)) a cdv A outer s H E) (fun c d _ H => E c d H) := takes_of rfl rfl rfl rfl
    show PSs _ _ (tS _ _ (m_law_field C))
    delta m_law_field
    exact (ss_cons (s_if (t_val (e_isi (c := (.own 14)) T.ok rfl (pe_glob rfl (T.mgc 14 (by decide)) rfl) (e_var (pv 0)) rfl (T.blt 2 (by decide)))) (ss_one (s_ret (e_attr T.ok rfl (T.noat 0 (by decide)) (e_var (pv 0))))) ss_nil) (ss_cons (s_if (t_val (e_isi (c := (.own 15)) T.ok rfl (pe_glob rfl (T.mgc 15 (by decide)) rfl) (e_var (pv 0)) rfl (T.blt 2 (by decide)))) (ss_one (s_ret (e_attr T.ok rfl (T.noat 1 (by decide)) (e_var (pv 0))))) ss_nil) (ss_cons (s_if (t_val (e_isi (c := (.own 16)) T.ok rfl (pe_glob rfl (T.mgc 16 (by decide)) rfl) (e_var (pv 0)) rfl (T.blt 2 (by decide)))) (ss_one (s_ret (e_attr T.ok rfl (T.noat 2 (by decide)) (e_var (pv 0))))) ss_nil) (ss_one (s_ret (e_attr T.ok rfl (T.noat 3 (by decide)) (e_var (pv 0))))))))
theorem d_law_right (T : Txt L P w K mg base cls fa fi ffd fid C k) (hk : 2 ≤ k) {a : Addr} {fd : FuncData} (F : Fun K "_law_right" "_law_right" (top 28) a fd) : FnG P w K mg base (k + 1) a fd ["_law_k", "_law_thing_here"] (spC ⟨K, cls, L.ci.fld⟩ 2 (b_law_right.run C)) :=
  fnG_body (N := ["_law_k", "_law_thing_here", "_law_other", "_law_error", "_law_second", "_law_j"]) F ⟨rfl, rfl, rfl, by decide +kernel, rfl, by decide +kernel, by decide +kernel⟩ rfl rfl fun cdv A outer s H E hr => by
    have nd : (["_law_k", "_law_thing_here", "_law_other", "_law_error", "_law_second", "_law_j"] : List PySem.Str).Nodup := by decide +kernel
    have hr1 := hr.r.mono hk
    have hgd := hr.g
    have hu := lt_cl hr.r
    have tk : Takes (cxOf (L2.CX P w) P w K mg base ["_law_k", "_law_thing_here", "_law_other", "_law_error", "_law_second", "_law_j"] "_law_right" (defScope (top 28)) a cdv A outer s H E) (fun c d _ H => E c d H) := takes_of rfl rfl rfl rfl
    show PSs _ _ (tS _ _ (m_law_right C))
    delta m_law_right
    exact (ss_cons (s_set (i := 2) nd rfl (.inl rfl) (e_ofL (l_lst (a_cons e_str a_nil)))) (ss_cons (s_set (i := 3) nd rfl (.inl rfl) (e_call (T.F 4 (by decide)) rfl (T.mgf 4 (by decide)) (T.kpf 4 (by decide)) (T.bdf 4 (by decide)) hr tk rfl rfl (a_cons (e_var (pv 0)) (a_cons (e_var (pv 1)) a_nil)))) (ss_cons (s_set (i := 4) nd rfl (.inl rfl) (e_call (T.F 4 (by decide)) rfl (T.mgf 4 (by decide)) (T.kpf 4 (by decide)) (T.bdf 4 (by decide)) hr tk rfl rfl (a_cons (e_var (pv 0)) (a_cons (e_var (pv 2)) a_nil)))) (ss_cons (s_if (L2.PW.pt (t_or (t_not (t_val (e_isi (c := (.own 0)) T.ok rfl (pe_glob rfl (T.mgc 0 (by decide)) rfl) (e_var (pv 3)) rfl (T.blt 2 (by decide))))) (t_or1 (t_not (t_val (e_isi (c := (.ty .verr)) T.ok rfl (pe_bltn rfl (T.blt 3 (by decide)) bt_verr rfl) (e_var (pv 3)) rfl (T.blt 2 (by decide)))))))) (ss_one (s_ret e_bl)) ss_nil) (ss_cons (s_if (L2.PW.pt (t_or (t_cmp (op_neA hu) ov_ne (e_call (T.F 5 (by decide)) rfl (T.mgf 5 (by decide)) (T.kpf 5 (by decide)) (T.bdf 5 (by decide)) hr tk rfl rfl (a_cons (e_var (pv 3)) a_nil)) (e_ofL (l_comp (own := [("_law_j", 5)]) rfl nd (pi_range1 rfl (T.blt 4 (by decide)) (a_cons e_int a_nil)) w_range1 (blkOk_by (by kernel_rfl)) (fun s_ H_ C_ cl_ fp_ => (gn_name (i := 5) nd rfl (.inl rfl) (.inr rfl) (by decide))) (fun s_ H_ C_ cl_ fp_ => pts_no) (fun s_ H_ C_ cl_ fp_ => (e_cmp (op_eqA hu) ov_eq (e_var (pv 5)) (e_var (pv 0)) (nomark _))))) (nomark _)) (t_or1 (t_cmp (op_neA hu) ov_ne (e_blt (call_reprA hgd hu) cv_repr rfl (T.blt 5 (by decide)) bt_repr (a_cons (e_call (T.F 6 (by decide)) rfl (T.mgf 6 (by decide)) (T.kpf 6 (by decide)) (T.bdf 6 (by decide)) hr tk rfl rfl (a_cons (e_var (pv 3)) a_nil)) a_nil) (by decide) rfl) (e_blt (call_reprA hgd hu) cv_repr rfl (T.blt 5 (by decide)) bt_repr (a_cons (e_var (pv 1)) a_nil) (by decide) rfl) (nomark _))))) (ss_one (s_ret e_bl)) ss_nil) (ss_cons (s_if (t_val (e_isi (c := (.ty .list)) T.ok rfl (pe_bltn rfl (T.blt 6 (by decide)) bt_list rfl) (e_var (pv 1)) rfl (T.blt 2 (by decide)))) (ss_one (s_expr (e_mt rfl PySem.F.plainAttrs_list PySem.F.slot_list_append PySem.F.type_list_append mt_append mv_append (e_var (pv 1)) (a_cons e_str a_nil)))) ss_nil) (ss_cons (s_expr (e_mt rfl PySem.F.plainAttrs_list PySem.F.slot_list_append PySem.F.type_list_append mt_append mv_append (e_var (pv 2)) (a_cons e_str a_nil))) (ss_one (s_ret (e_and (e_cmp (op_eqA hu) ov_eq (e_blt (call_reprA hgd hu) cv_repr rfl (T.blt 5 (by decide)) bt_repr (a_cons (e_call (T.F 6 (by decide)) rfl (T.mgf 6 (by decide)) (T.kpf 6 (by decide)) (T.bdf 6 (by decide)) hr tk rfl rfl (a_cons (e_var (pv 3)) a_nil)) a_nil) (by decide) rfl) (e_blt (call_reprA hgd hu) cv_repr rfl (T.blt 5 (by decide)) bt_repr (a_cons (e_var (pv 1)) a_nil) (by decide) rfl) (nomark _)) (e_one (e_cmp (op_eqA hu) ov_eq (e_call (T.F 6 (by decide)) rfl (T.mgf 6 (by decide)) (T.kpf 6 (by decide)) (T.bdf 6 (by decide)) hr tk rfl rfl (a_cons (e_var (pv 4)) a_nil)) (e_ofL (l_lst (a_cons e_str (a_cons e_str a_nil)))) (nomark _)))))))))))))
theorem d_law (T : Txt L P w K mg base cls fa fi ffd fid C k) (hk : 2 ≤ k) {a : Addr} {fd : FuncData} (F : Fun K "law" "law" (top 29) a fd) : FnG P w K mg base (k + 1) a fd ["_law_script"] (spC ⟨K, cls, L.ci.fld⟩ 1 (b_law.run C)) :=
  fnG_body (N := ["_law_script", "_law_k", "_law_stream_here", "_law_kind", "_law_plain"]) F ⟨rfl, rfl, rfl, by decide +kernel, rfl, by decide +kernel, by decide +kernel⟩ rfl rfl fun cdv A outer s H E hr => by
    have nd : (["_law_script", "_law_k", "_law_stream_here", "_law_kind", "_law_plain"] : List PySem.Str).Nodup := by decide +kernel
    have hr1 := hr.r.mono hk
    have hgd := hr.g
    have hu := lt_cl hr.r
    have tk : Takes (cxOf (L2.CX P w) P w K mg base ["_law_script", "_law_k", "_law_stream_here", "_law_kind", "_law_plain"] "law" (defScope (top 29)) a cdv A outer s H E) (fun c d _ H => E c d H) := takes_of rfl rfl rfl rfl
    show PSs _ _ (tS _ _ (m_law C))
    delta m_law
    exact (ss_cons (s_for (passes_of rfl) rfl (pi_range1 rfl (T.blt 4 (by decide)) (a_cons (e_blt (call_max2 rfl) cv_max rfl (T.blt 8 (by decide)) bt_max (a_cons e_int (a_cons (e_blt (call_min2 rfl) cv_min rfl (T.blt 7 (by decide)) bt_min (a_cons (e_blt call_len cv_len rfl (T.blt 0 (by decide)) bt_len (a_cons (e_var (pv 0)) a_nil) (by decide) rfl) (a_cons e_int a_nil)) (by decide) rfl) a_nil)) (by decide) rfl) a_nil)) w_range1 (g_name (i := 1) nd rfl (.inl rfl) (.inl rfl)) (ss_cons (s_set (i := 2) nd rfl (.inl rfl) (e_call (T.F 1 (by decide)) rfl (T.mgf 1 (by decide)) (T.kpf 1 (by decide)) (T.bdf 1 (by decide)) hr tk rfl rfl (a_cons (e_call (T.F 0 (by decide)) rfl (T.mgf 0 (by decide)) (T.kpf 0 (by decide)) (T.bdf 0 (by decide)) hr tk rfl rfl (a_cons (e_var (pv 0)) (a_cons (e_var (pv 1)) a_nil))) a_nil))) (ss_one (s_for (passes_of rfl) rfl (pi_range1 rfl (T.blt 4 (by decide)) (a_cons e_int a_nil)) w_range1 (g_name (i := 3) nd rfl (.inl rfl) (.inl rfl)) (ss_one (s_if (t_not (t_val (e_call (T.F 7 (by decide)) rfl (T.mgf 7 (by decide)) (T.kpf 7 (by decide)) (T.bdf 7 (by decide)) hr tk rfl rfl (a_cons (e_var (pv 3)) (a_cons (e_call (T.F 3 (by decide)) rfl (T.mgf 3 (by decide)) (T.kpf 3 (by decide)) (T.bdf 3 (by decide)) hr tk rfl rfl (a_cons (e_var (pv 2)) a_nil)) a_nil))))) (ss_one (s_ret e_bl)) ss_nil)))))) (ss_cons (s_set (i := 4) nd rfl (.inl rfl) (e_exc0 (c := 0) T.ok rfl (by decide) (T.exi 0 (by decide) rfl rfl) rfl (T.mgc 0 (by decide)) rfl (a_cons e_str a_nil))) (ss_one (s_ret (e_and (e_isi (c := (.ty .verr)) T.ok rfl (pe_bltn rfl (T.blt 3 (by decide)) bt_verr rfl) (e_var (pv 4)) rfl (T.blt 2 (by decide))) (e_one (e_cmp op_notInA ov_notIn e_bl (e_call (T.F 5 (by decide)) rfl (T.mgf 5 (by decide)) (T.kpf 5 (by decide)) (T.bdf 5 (by decide)) hr tk rfl rfl (a_cons (e_var (pv 4)) a_nil)) (by rfl))))))))
def tix : List Nat := [19, 20, 21, 24, 25, 26, 27, 28, 29]
def stm (i : Nat) : Stmt := top (tix.getD i 0)
theorem d_all {ffd : Nat → FuncData} (Fs : ∀ i, i < L.nf → Fun K (L.fname i) (L.fname i) (stm i) (fa i) (ffd i)) : ∀ (k : Nat) (C : Calls), 2 ≤ k → Txt L P w K mg base cls fa fi ffd fid C k → ∀ i, i < L.nf → ∃ b, B (L.fid i) = some b ∧ FnG P w K mg base (k + 1) (fa i) (ffd i) (L.fps i) (spC ⟨K, cls, L.ci.fld⟩ (L.fps i).length (b.run C)) :=
  fun k C hk T i hi => match i, hi with
  | 0, h => ⟨b_law_cell, rfl, d_law_cell T hk (Fs 0 h)⟩
  | 1, h => ⟨b_law_stream, rfl, d_law_stream T hk (Fs 1 h)⟩
  | 2, h => ⟨b_law_take, rfl, d_law_take T hk (Fs 2 h)⟩
  | 3, h => ⟨b_law_thing, rfl, d_law_thing T hk (Fs 3 h)⟩
  | 4, h => ⟨b_law_made, rfl, d_law_made T hk (Fs 4 h)⟩
  | 5, h => ⟨b_law_kinds, rfl, d_law_kinds T hk (Fs 5 h)⟩
  | 6, h => ⟨b_law_field, rfl, d_law_field T hk (Fs 6 h)⟩
  | 7, h => ⟨b_law_right, rfl, d_law_right T hk (Fs 7 h)⟩
  | 8, h => ⟨b_law, rfl, d_law T hk (Fs 8 h)⟩
  | n + 9, h => absurd h (Nat.not_lt.mpr (Nat.le_add_left 9 n))
end
/-! ### where the written part holds them -/
def kcls : Nat → Addr := fun c => ([24, 44, 63, 82, 101, 120, 139, 158, 177, 196, 215, 234, 253, 272, 291, 310, 329] : List Nat).getD c 0
def kfa : Nat → Addr := fun c => ([338, 345, 352, 373, 380, 387, 394, 399, 406] : List Nat).getD c 0
def kfi : Nat → Addr := fun c => ([0, 41, 60, 79, 98, 117, 136, 155, 174, 193, 212, 231, 250, 269, 288, 307, 326] : List Nat).getD c 0
section
variable {P : Program} {w : World} {K : PySem.W.Frag} {mg : PySem.Str → Option Value} {h : Heap}
def inn_NoNumber : Stmt := (clsBody (top 2)).getD 0 (.Pass ⟨0, 0, 0, 0⟩)
theorem in_NoNumber {base : Heap} {fd : FuncData} (F : Fun K "__init__" "NoNumber.__init__" inn_NoNumber (kfi 1) fd) (hB : BaseI K mg "CutError" (kcls 0)) (T : OexC K (kcls 1) ∧ PySem.W.findIn K (.ref (kcls 1)) (L.ci.fld 1) = some none) : FnOk P w K mg base CX0 1 (kfi 1) fd ["self", L.ci.fld 1] (spXI (kcls 1) (L.ci.fld 1)) :=
  init_ok F ⟨rfl, rfl, rfl, by decide +kernel, rfl, by decide +kernel, by decide +kernel⟩ rfl hB (by decide +kernel) (by decide +kernel) (by decide +kernel) (by decide +kernel) (by decide +kernel) _ (fun env => rfl) T.1 T.2
def inn_NoNet : Stmt := (clsBody (top 3)).getD 0 (.Pass ⟨0, 0, 0, 0⟩)
theorem in_NoNet {base : Heap} {fd : FuncData} (F : Fun K "__init__" "NoNet.__init__" inn_NoNet (kfi 2) fd) (hB : BaseI K mg "CutError" (kcls 0)) (T : OexC K (kcls 2) ∧ PySem.W.findIn K (.ref (kcls 2)) (L.ci.fld 2) = some none) : FnOk P w K mg base CX0 1 (kfi 2) fd ["self", L.ci.fld 2] (spXI (kcls 2) (L.ci.fld 2)) :=
  init_ok F ⟨rfl, rfl, rfl, by decide +kernel, rfl, by decide +kernel, by decide +kernel⟩ rfl hB (by decide +kernel) (by decide +kernel) (by decide +kernel) (by decide +kernel) (by decide +kernel) _ (fun env => rfl) T.1 T.2
def inn_NoNode : Stmt := (clsBody (top 4)).getD 0 (.Pass ⟨0, 0, 0, 0⟩)
theorem in_NoNode {base : Heap} {fd : FuncData} (F : Fun K "__init__" "NoNode.__init__" inn_NoNode (kfi 3) fd) (hB : BaseI K mg "CutError" (kcls 0)) (T : OexC K (kcls 3) ∧ PySem.W.findIn K (.ref (kcls 3)) (L.ci.fld 3) = some none) : FnOk P w K mg base CX0 1 (kfi 3) fd ["self", L.ci.fld 3] (spXI (kcls 3) (L.ci.fld 3)) :=
  init_ok F ⟨rfl, rfl, rfl, by decide +kernel, rfl, by decide +kernel, by decide +kernel⟩ rfl hB (by decide +kernel) (by decide +kernel) (by decide +kernel) (by decide +kernel) (by decide +kernel) _ (fun env => rfl) T.1 T.2
def inn_NoWire : Stmt := (clsBody (top 5)).getD 0 (.Pass ⟨0, 0, 0, 0⟩)
theorem in_NoWire {base : Heap} {fd : FuncData} (F : Fun K "__init__" "NoWire.__init__" inn_NoWire (kfi 4) fd) (hB : BaseI K mg "CutError" (kcls 0)) (T : OexC K (kcls 4) ∧ PySem.W.findIn K (.ref (kcls 4)) (L.ci.fld 4) = some none) : FnOk P w K mg base CX0 1 (kfi 4) fd ["self", L.ci.fld 4] (spXI (kcls 4) (L.ci.fld 4)) :=
  init_ok F ⟨rfl, rfl, rfl, by decide +kernel, rfl, by decide +kernel, by decide +kernel⟩ rfl hB (by decide +kernel) (by decide +kernel) (by decide +kernel) (by decide +kernel) (by decide +kernel) _ (fun env => rfl) T.1 T.2
def inn_NoSpot : Stmt := (clsBody (top 6)).getD 0 (.Pass ⟨0, 0, 0, 0⟩)
theorem in_NoSpot {base : Heap} {fd : FuncData} (F : Fun K "__init__" "NoSpot.__init__" inn_NoSpot (kfi 5) fd) (hB : BaseI K mg "CutError" (kcls 0)) (T : OexC K (kcls 5) ∧ PySem.W.findIn K (.ref (kcls 5)) (L.ci.fld 5) = some none) : FnOk P w K mg base CX0 1 (kfi 5) fd ["self", L.ci.fld 5] (spXI (kcls 5) (L.ci.fld 5)) :=
  init_ok F ⟨rfl, rfl, rfl, by decide +kernel, rfl, by decide +kernel, by decide +kernel⟩ rfl hB (by decide +kernel) (by decide +kernel) (by decide +kernel) (by decide +kernel) (by decide +kernel) _ (fun env => rfl) T.1 T.2
def inn_NoBox : Stmt := (clsBody (top 7)).getD 0 (.Pass ⟨0, 0, 0, 0⟩)
theorem in_NoBox {base : Heap} {fd : FuncData} (F : Fun K "__init__" "NoBox.__init__" inn_NoBox (kfi 6) fd) (hB : BaseI K mg "CutError" (kcls 0)) (T : OexC K (kcls 6) ∧ PySem.W.findIn K (.ref (kcls 6)) (L.ci.fld 6) = some none) : FnOk P w K mg base CX0 1 (kfi 6) fd ["self", L.ci.fld 6] (spXI (kcls 6) (L.ci.fld 6)) :=
  init_ok F ⟨rfl, rfl, rfl, by decide +kernel, rfl, by decide +kernel, by decide +kernel⟩ rfl hB (by decide +kernel) (by decide +kernel) (by decide +kernel) (by decide +kernel) (by decide +kernel) _ (fun env => rfl) T.1 T.2
def inn_NoWish : Stmt := (clsBody (top 8)).getD 0 (.Pass ⟨0, 0, 0, 0⟩)
theorem in_NoWish {base : Heap} {fd : FuncData} (F : Fun K "__init__" "NoWish.__init__" inn_NoWish (kfi 7) fd) (hB : BaseI K mg "CutError" (kcls 0)) (T : OexC K (kcls 7) ∧ PySem.W.findIn K (.ref (kcls 7)) (L.ci.fld 7) = some none) : FnOk P w K mg base CX0 1 (kfi 7) fd ["self", L.ci.fld 7] (spXI (kcls 7) (L.ci.fld 7)) :=
  init_ok F ⟨rfl, rfl, rfl, by decide +kernel, rfl, by decide +kernel, by decide +kernel⟩ rfl hB (by decide +kernel) (by decide +kernel) (by decide +kernel) (by decide +kernel) (by decide +kernel) _ (fun env => rfl) T.1 T.2
def inn_NoAim : Stmt := (clsBody (top 9)).getD 0 (.Pass ⟨0, 0, 0, 0⟩)
theorem in_NoAim {base : Heap} {fd : FuncData} (F : Fun K "__init__" "NoAim.__init__" inn_NoAim (kfi 8) fd) (hB : BaseI K mg "CutError" (kcls 0)) (T : OexC K (kcls 8) ∧ PySem.W.findIn K (.ref (kcls 8)) (L.ci.fld 8) = some none) : FnOk P w K mg base CX0 1 (kfi 8) fd ["self", L.ci.fld 8] (spXI (kcls 8) (L.ci.fld 8)) :=
  init_ok F ⟨rfl, rfl, rfl, by decide +kernel, rfl, by decide +kernel, by decide +kernel⟩ rfl hB (by decide +kernel) (by decide +kernel) (by decide +kernel) (by decide +kernel) (by decide +kernel) _ (fun env => rfl) T.1 T.2
def inn_NoOut : Stmt := (clsBody (top 10)).getD 0 (.Pass ⟨0, 0, 0, 0⟩)
theorem in_NoOut {base : Heap} {fd : FuncData} (F : Fun K "__init__" "NoOut.__init__" inn_NoOut (kfi 9) fd) (hB : BaseI K mg "CutError" (kcls 0)) (T : OexC K (kcls 9) ∧ PySem.W.findIn K (.ref (kcls 9)) (L.ci.fld 9) = some none) : FnOk P w K mg base CX0 1 (kfi 9) fd ["self", L.ci.fld 9] (spXI (kcls 9) (L.ci.fld 9)) :=
  init_ok F ⟨rfl, rfl, rfl, by decide +kernel, rfl, by decide +kernel, by decide +kernel⟩ rfl hB (by decide +kernel) (by decide +kernel) (by decide +kernel) (by decide +kernel) (by decide +kernel) _ (fun env => rfl) T.1 T.2
def inn_NoPattern : Stmt := (clsBody (top 11)).getD 0 (.Pass ⟨0, 0, 0, 0⟩)
theorem in_NoPattern {base : Heap} {fd : FuncData} (F : Fun K "__init__" "NoPattern.__init__" inn_NoPattern (kfi 10) fd) (hB : BaseI K mg "CutError" (kcls 0)) (T : OexC K (kcls 10) ∧ PySem.W.findIn K (.ref (kcls 10)) (L.ci.fld 10) = some none) : FnOk P w K mg base CX0 1 (kfi 10) fd ["self", L.ci.fld 10] (spXI (kcls 10) (L.ci.fld 10)) :=
  init_ok F ⟨rfl, rfl, rfl, by decide +kernel, rfl, by decide +kernel, by decide +kernel⟩ rfl hB (by decide +kernel) (by decide +kernel) (by decide +kernel) (by decide +kernel) (by decide +kernel) _ (fun env => rfl) T.1 T.2
def inn_NoFit : Stmt := (clsBody (top 12)).getD 0 (.Pass ⟨0, 0, 0, 0⟩)
theorem in_NoFit {base : Heap} {fd : FuncData} (F : Fun K "__init__" "NoFit.__init__" inn_NoFit (kfi 11) fd) (hB : BaseI K mg "CutError" (kcls 0)) (T : OexC K (kcls 11) ∧ PySem.W.findIn K (.ref (kcls 11)) (L.ci.fld 11) = some none) : FnOk P w K mg base CX0 1 (kfi 11) fd ["self", L.ci.fld 11] (spXI (kcls 11) (L.ci.fld 11)) :=
  init_ok F ⟨rfl, rfl, rfl, by decide +kernel, rfl, by decide +kernel, by decide +kernel⟩ rfl hB (by decide +kernel) (by decide +kernel) (by decide +kernel) (by decide +kernel) (by decide +kernel) _ (fun env => rfl) T.1 T.2
def inn_NoTree : Stmt := (clsBody (top 13)).getD 0 (.Pass ⟨0, 0, 0, 0⟩)
theorem in_NoTree {base : Heap} {fd : FuncData} (F : Fun K "__init__" "NoTree.__init__" inn_NoTree (kfi 12) fd) (hB : BaseI K mg "CutError" (kcls 0)) (T : OexC K (kcls 12) ∧ PySem.W.findIn K (.ref (kcls 12)) (L.ci.fld 12) = some none) : FnOk P w K mg base CX0 1 (kfi 12) fd ["self", L.ci.fld 12] (spXI (kcls 12) (L.ci.fld 12)) :=
  init_ok F ⟨rfl, rfl, rfl, by decide +kernel, rfl, by decide +kernel, by decide +kernel⟩ rfl hB (by decide +kernel) (by decide +kernel) (by decide +kernel) (by decide +kernel) (by decide +kernel) _ (fun env => rfl) T.1 T.2
def inn_NoName : Stmt := (clsBody (top 14)).getD 0 (.Pass ⟨0, 0, 0, 0⟩)
theorem in_NoName {base : Heap} {fd : FuncData} (F : Fun K "__init__" "NoName.__init__" inn_NoName (kfi 13) fd) (hB : BaseI K mg "CutError" (kcls 0)) (T : OexC K (kcls 13) ∧ PySem.W.findIn K (.ref (kcls 13)) (L.ci.fld 13) = some none) : FnOk P w K mg base CX0 1 (kfi 13) fd ["self", L.ci.fld 13] (spXI (kcls 13) (L.ci.fld 13)) :=
  init_ok F ⟨rfl, rfl, rfl, by decide +kernel, rfl, by decide +kernel, by decide +kernel⟩ rfl hB (by decide +kernel) (by decide +kernel) (by decide +kernel) (by decide +kernel) (by decide +kernel) _ (fun env => rfl) T.1 T.2
def inn_NoText : Stmt := (clsBody (top 15)).getD 0 (.Pass ⟨0, 0, 0, 0⟩)
theorem in_NoText {base : Heap} {fd : FuncData} (F : Fun K "__init__" "NoText.__init__" inn_NoText (kfi 14) fd) (hB : BaseI K mg "CutError" (kcls 0)) (T : OexC K (kcls 14) ∧ PySem.W.findIn K (.ref (kcls 14)) (L.ci.fld 14) = some none) : FnOk P w K mg base CX0 1 (kfi 14) fd ["self", L.ci.fld 14] (spXI (kcls 14) (L.ci.fld 14)) :=
  init_ok F ⟨rfl, rfl, rfl, by decide +kernel, rfl, by decide +kernel, by decide +kernel⟩ rfl hB (by decide +kernel) (by decide +kernel) (by decide +kernel) (by decide +kernel) (by decide +kernel) _ (fun env => rfl) T.1 T.2
def inn_Large : Stmt := (clsBody (top 16)).getD 0 (.Pass ⟨0, 0, 0, 0⟩)
theorem in_Large {base : Heap} {fd : FuncData} (F : Fun K "__init__" "Large.__init__" inn_Large (kfi 15) fd) (hB : BaseI K mg "CutError" (kcls 0)) (T : OexC K (kcls 15) ∧ PySem.W.findIn K (.ref (kcls 15)) (L.ci.fld 15) = some none) : FnOk P w K mg base CX0 1 (kfi 15) fd ["self", L.ci.fld 15] (spXI (kcls 15) (L.ci.fld 15)) :=
  init_ok F ⟨rfl, rfl, rfl, by decide +kernel, rfl, by decide +kernel, by decide +kernel⟩ rfl hB (by decide +kernel) (by decide +kernel) (by decide +kernel) (by decide +kernel) (by decide +kernel) _ (fun env => rfl) T.1 T.2
def inn_NoLine : Stmt := (clsBody (top 17)).getD 0 (.Pass ⟨0, 0, 0, 0⟩)
theorem in_NoLine {base : Heap} {fd : FuncData} (F : Fun K "__init__" "NoLine.__init__" inn_NoLine (kfi 16) fd) (hB : BaseI K mg "CutError" (kcls 0)) (T : OexC K (kcls 16) ∧ PySem.W.findIn K (.ref (kcls 16)) (L.ci.fld 16) = some none) : FnOk P w K mg base CX0 1 (kfi 16) fd ["self", L.ci.fld 16] (spXI (kcls 16) (L.ci.fld 16)) :=
  init_ok F ⟨rfl, rfl, rfl, by decide +kernel, rfl, by decide +kernel, by decide +kernel⟩ rfl hB (by decide +kernel) (by decide +kernel) (by decide +kernel) (by decide +kernel) (by decide +kernel) _ (fun env => rfl) T.1 T.2
theorem law_F {fa : Addr} (X : K.In h) (G : h.Ns mainGlobals mg) (hmg : mg "law" = some (.ref fa)) (e : staC L K kcls kfa kfi = true) (eb : basC K (kcls 0) = true)
    (co : ∀ c, c < L.ci.n → L.ci.isEx c = true → ∃ nm q N bs bm sn sub ab col dd k0 k1 k2 k3 k5, K.lookup (kcls c) = some (excClassObj nm q (kcls c) N bs bm true sn sub ab col dd k0 k1 k2 k3 k5 "ValueError.__new__") ∧ PySem.HandSPX.refsVE bm = true)
    (hF : ∀ i, i < L.nf → ∃ fd, Fun K (L.fname i) (L.fname i) (stm i) (kfa i) fd)
    (i_NoNumber : ∃ fd, Fun K "__init__" "NoNumber.__init__" inn_NoNumber (kfi 1) fd)
    (i_NoNet : ∃ fd, Fun K "__init__" "NoNet.__init__" inn_NoNet (kfi 2) fd)
    (i_NoNode : ∃ fd, Fun K "__init__" "NoNode.__init__" inn_NoNode (kfi 3) fd)
    (i_NoWire : ∃ fd, Fun K "__init__" "NoWire.__init__" inn_NoWire (kfi 4) fd)
    (i_NoSpot : ∃ fd, Fun K "__init__" "NoSpot.__init__" inn_NoSpot (kfi 5) fd)
    (i_NoBox : ∃ fd, Fun K "__init__" "NoBox.__init__" inn_NoBox (kfi 6) fd)
    (i_NoWish : ∃ fd, Fun K "__init__" "NoWish.__init__" inn_NoWish (kfi 7) fd)
    (i_NoAim : ∃ fd, Fun K "__init__" "NoAim.__init__" inn_NoAim (kfi 8) fd)
    (i_NoOut : ∃ fd, Fun K "__init__" "NoOut.__init__" inn_NoOut (kfi 9) fd)
    (i_NoPattern : ∃ fd, Fun K "__init__" "NoPattern.__init__" inn_NoPattern (kfi 10) fd)
    (i_NoFit : ∃ fd, Fun K "__init__" "NoFit.__init__" inn_NoFit (kfi 11) fd)
    (i_NoTree : ∃ fd, Fun K "__init__" "NoTree.__init__" inn_NoTree (kfi 12) fd)
    (i_NoName : ∃ fd, Fun K "__init__" "NoName.__init__" inn_NoName (kfi 13) fd)
    (i_NoText : ∃ fd, Fun K "__init__" "NoText.__init__" inn_NoText (kfi 14) fd)
    (i_Large : ∃ fd, Fun K "__init__" "Large.__init__" inn_Large (kfi 15) fd)
    (i_NoLine : ∃ fd, Fun K "__init__" "NoLine.__init__" inn_NoLine (kfi 16) fd)
    (n : Nat) : ∃ (W : Wd) (fd : FuncData), W.K = K ∧ (∀ (s : Shared) (u : Value), BindsTo s fd ⟨[u], []⟩ [("_law_script", u)]) ∧ ∀ base : Heap, K.In base → base.Ns mainGlobals mg → FnG P w K mg base (n + 4) fa fd ["_law_script"] (spC W 1 (lev B n 8)) := by
  have T := fun {c : Nat} (hc : c < L.ci.n) (hx : L.ci.isEx c = true) => staC_ex e co hc hx
  have hB := bas_of (staC_mgc X G e (show 0 < L.ci.n by decide)) eb
  have hF2 : ∀ i, i < L.nf → ∃ fd, Fun K (L.fname i) (L.fname i) (stm i) (kfa i) fd ∧ Binds K fd (L.fps i) [] := fun i hi => by
    obtain ⟨fd, F⟩ := hF i hi
    refine ⟨fd, F, ?_⟩
    match i, hi with
    | 0, _ => exact F.binds (ps := ["_law_script", "_law_k"]) fun _ _ _ _ _ _ us hl => match us, hl with | [_, _], _ => rfl
    | 1, _ => exact F.binds (ps := ["_law_cell_here"]) fun _ _ _ _ _ _ us hl => match us, hl with | [_], _ => rfl
    | 2, _ => exact F.binds (ps := ["_law_stream_here", "_law_many"]) fun _ _ _ _ _ _ us hl => match us, hl with | [_, _], _ => rfl
    | 3, _ => exact F.binds (ps := ["_law_stream_here"]) fun _ _ _ _ _ _ us hl => match us, hl with | [_], _ => rfl
    | 4, _ => exact F.binds (ps := ["_law_k", "_law_thing_here"]) fun _ _ _ _ _ _ us hl => match us, hl with | [_, _], _ => rfl
    | 5, _ => exact F.binds (ps := ["_law_error"]) fun _ _ _ _ _ _ us hl => match us, hl with | [_], _ => rfl
    | 6, _ => exact F.binds (ps := ["_law_error"]) fun _ _ _ _ _ _ us hl => match us, hl with | [_], _ => rfl
    | 7, _ => exact F.binds (ps := ["_law_k", "_law_thing_here"]) fun _ _ _ _ _ _ us hl => match us, hl with | [_, _], _ => rfl
    | 8, _ => exact F.binds (ps := ["_law_script"]) fun _ _ _ _ _ _ us hl => match us, hl with | [_], _ => rfl
    | n + 9, h => exact absurd h (Nat.not_lt.mpr (Nat.le_add_left 9 n))
  have hI : ∀ c, c < L.ci.n → L.init c = true → ∃ fd, Binds K fd ["self", L.ci.fld c] [] ∧ ∀ base, FnOk P w K mg base CX0 1 (kfi c) fd ["self", L.ci.fld c] (spXI (kcls c) (L.ci.fld c)) := fun c hc hx => by
    match c, hc, hx with
    | 0, _, hx => exact absurd hx (by decide)
    | 1, hc, _ => obtain ⟨fd, F⟩ := i_NoNumber; exact ⟨fd, F.binds (ps := ["self", "found"]) fun _ _ _ _ _ _ us hl => (match us, hl with | [_, _], _ => rfl), fun base => in_NoNumber F hB (T hc rfl)⟩
    | 2, hc, _ => obtain ⟨fd, F⟩ := i_NoNet; exact ⟨fd, F.binds (ps := ["self", "found"]) fun _ _ _ _ _ _ us hl => (match us, hl with | [_, _], _ => rfl), fun base => in_NoNet F hB (T hc rfl)⟩
    | 3, hc, _ => obtain ⟨fd, F⟩ := i_NoNode; exact ⟨fd, F.binds (ps := ["self", "found"]) fun _ _ _ _ _ _ us hl => (match us, hl with | [_, _], _ => rfl), fun base => in_NoNode F hB (T hc rfl)⟩
    | 4, hc, _ => obtain ⟨fd, F⟩ := i_NoWire; exact ⟨fd, F.binds (ps := ["self", "found"]) fun _ _ _ _ _ _ us hl => (match us, hl with | [_, _], _ => rfl), fun base => in_NoWire F hB (T hc rfl)⟩
    | 5, hc, _ => obtain ⟨fd, F⟩ := i_NoSpot; exact ⟨fd, F.binds (ps := ["self", "found"]) fun _ _ _ _ _ _ us hl => (match us, hl with | [_, _], _ => rfl), fun base => in_NoSpot F hB (T hc rfl)⟩
    | 6, hc, _ => obtain ⟨fd, F⟩ := i_NoBox; exact ⟨fd, F.binds (ps := ["self", "found"]) fun _ _ _ _ _ _ us hl => (match us, hl with | [_, _], _ => rfl), fun base => in_NoBox F hB (T hc rfl)⟩
    | 7, hc, _ => obtain ⟨fd, F⟩ := i_NoWish; exact ⟨fd, F.binds (ps := ["self", "found"]) fun _ _ _ _ _ _ us hl => (match us, hl with | [_, _], _ => rfl), fun base => in_NoWish F hB (T hc rfl)⟩
    | 8, hc, _ => obtain ⟨fd, F⟩ := i_NoAim; exact ⟨fd, F.binds (ps := ["self", "found"]) fun _ _ _ _ _ _ us hl => (match us, hl with | [_, _], _ => rfl), fun base => in_NoAim F hB (T hc rfl)⟩
    | 9, hc, _ => obtain ⟨fd, F⟩ := i_NoOut; exact ⟨fd, F.binds (ps := ["self", "found"]) fun _ _ _ _ _ _ us hl => (match us, hl with | [_, _], _ => rfl), fun base => in_NoOut F hB (T hc rfl)⟩
    | 10, hc, _ => obtain ⟨fd, F⟩ := i_NoPattern; exact ⟨fd, F.binds (ps := ["self", "found"]) fun _ _ _ _ _ _ us hl => (match us, hl with | [_, _], _ => rfl), fun base => in_NoPattern F hB (T hc rfl)⟩
    | 11, hc, _ => obtain ⟨fd, F⟩ := i_NoFit; exact ⟨fd, F.binds (ps := ["self", "found"]) fun _ _ _ _ _ _ us hl => (match us, hl with | [_, _], _ => rfl), fun base => in_NoFit F hB (T hc rfl)⟩
    | 12, hc, _ => obtain ⟨fd, F⟩ := i_NoTree; exact ⟨fd, F.binds (ps := ["self", "found"]) fun _ _ _ _ _ _ us hl => (match us, hl with | [_, _], _ => rfl), fun base => in_NoTree F hB (T hc rfl)⟩
    | 13, hc, _ => obtain ⟨fd, F⟩ := i_NoName; exact ⟨fd, F.binds (ps := ["self", "found"]) fun _ _ _ _ _ _ us hl => (match us, hl with | [_, _], _ => rfl), fun base => in_NoName F hB (T hc rfl)⟩
    | 14, hc, _ => obtain ⟨fd, F⟩ := i_NoText; exact ⟨fd, F.binds (ps := ["self", "row"]) fun _ _ _ _ _ _ us hl => (match us, hl with | [_, _], _ => rfl), fun base => in_NoText F hB (T hc rfl)⟩
    | 15, hc, _ => obtain ⟨fd, F⟩ := i_Large; exact ⟨fd, F.binds (ps := ["self", "many"]) fun _ _ _ _ _ _ us hl => (match us, hl with | [_, _], _ => rfl), fun base => in_Large F hB (T hc rfl)⟩
    | 16, hc, _ => obtain ⟨fd, F⟩ := i_NoLine; exact ⟨fd, F.binds (ps := ["self", "line"]) fun _ _ _ _ _ _ us hl => (match us, hl with | [_, _], _ => rfl), fun base => in_NoLine F hB (T hc rfl)⟩
    | n + 17, h, _ => exact absurd h (Nat.not_lt.mpr (Nat.le_add_left 17 n))
  obtain ⟨ffd, fid, S, Fs, hin⟩ := facts_of (P := P) (w := w) X G e (fun c hx hc => (by have q : ∀ c, c < L.ci.n → L.init c = true → L.ci.isEx c = true := (by decide); exact q c hc hx)) co hF2 hI
  have hlaw := S.mgf 8 (by decide)
  have e2 : fa = kfa 8 := by
    have z := hmg.symm.trans hlaw
    cases z
    rfl
  subst e2
  refine ⟨⟨K, kcls, L.ci.fld⟩, ffd 8, rfl, fun s u => ?_, fun base _ _ => tower_of S (hin base) (d_all Fs) n 8 (by decide)⟩
  obtain ⟨oc, od, kV, doc, pm, an, cdv, ct, osl, q, _⟩ := (Fs 8 (by decide)).ex
  rw [q]
  exact .of_eq rfl
end
end K04

namespace K04
open Nc L2 PySem PyProof.Rows
def takeV (s c : Int) : Int :=
  let n1 := (s * 48271 + 7919 * c + 37).fmod 2147483647
  let n2 := (n1 * n1).fmod 2147483629
  let g := (n2 * 69621 + 6101 * c).fmod 2147483587
  ((g * n2).fmod 2147483579).fdiv 16
theorem c_take {n : Nat} {x y : D} {h : Hs} : lev B (n + 1) f_law_take [x, y] h = (m_law_take (lev B n) [some x, some y, none, none, none] h).out := run_ap rfl
theorem take_ok {n : Nat} {h : Hs} {i : Nat} {a s c m : Int} (hi : h[i]? = some (.lst [.int a, .int s, .int c])) (hm : 0 < m) (hm2 : m.natAbs < 2 ^ 200) :
    ∃ r a' s' c', 0 ≤ r ∧ r < m ∧ lev B (n + 1) f_law_take [.ref i, .int m] h = .ok (.int r) (h.set i (.lst [.int a', .int s', .int c'])) := by
  have hm0 : m ≠ 0 := by omega
  have hlt : i < h.length := (List.getElem?_eq_some_iff.mp hi).1
  have hs : ∀ X, (List.set h i X)[i]? = some X := fun X => List.getElem?_set_self hlt
  rw [c_take]
  unfold m_law_take
  by_cases q : 0 < a
  · refine ⟨a.fmod m, a.fdiv m, s, c, Int.fmod_nonneg_of_pos _ hm, Int.fmod_lt_of_pos _ hm, ?_⟩
    simp [hi, q, vMod_i hm0, vDiv_i hm0 hm2, stL]
  · have b1 : ∀ x : Int, (x.fmod 2147483647).natAbs < 2 ^ 64 := fun x => by
      have := Int.fmod_nonneg_of_pos x (show (0 : Int) < 2147483647 by decide)
      have := Int.fmod_lt_of_pos x (show (0 : Int) < 2147483647 by decide)
      omega
    have b2 : ∀ x : Int, (x.fmod 2147483629).natAbs < 2 ^ 64 := fun x => by
      have := Int.fmod_nonneg_of_pos x (show (0 : Int) < 2147483629 by decide)
      have := Int.fmod_lt_of_pos x (show (0 : Int) < 2147483629 by decide)
      omega
    refine ⟨(takeV s (c + 1)).fmod m, a, s, c + 1, Int.fmod_nonneg_of_pos _ hm, Int.fmod_lt_of_pos _ hm, ?_⟩
    simp [hi, q, stL, vMul_r, vMul_l, vMod_i, hs, b1, b2, vMod_i hm0, vDiv_i]
    rfl
theorem c_cell {n : Nat} {x y : D} {h : Hs} : lev B (n + 1) f_law_cell [x, y] h = (m_law_cell (lev B n) [some x, some y] h).out := run_ap rfl
theorem cell_ok {n : Nat} {h : Hs} {i : Nat} {ns : List Int} (k : Nat) (hi : h[i]? = some (.fro (ns.map D.int))) : ∃ z, lev B (n + 1) f_law_cell [.ref i, .int (k : Int)] h = .ok (.int z) h := by
  rw [c_cell]
  unfold m_law_cell
  by_cases q : k < ns.length
  · exact ⟨ns[k], by simp [hi, q]⟩
  · exact ⟨86028121 * k + 59, by simp [hi, q, vMul_l]⟩
theorem c_stream {n : Nat} {x : D} {h : Hs} : lev B (n + 1) f_law_stream [x] h = (m_law_stream (lev B n) [some x] h).out := run_ap rfl
theorem stream_ok {n : Nat} {h : Hs} {z : Int} : ∃ a s c, lev B (n + 1) f_law_stream [.int z] h = .ok (.ref h.length) (h ++ [.lst [.int a, .int s, .int c]]) := by
  rw [c_stream]
  unfold m_law_stream
  by_cases q : 1000000000000000000 ≤ z
  · exact ⟨z, z.fmod 2147483629, 0, by simp [q, vPow_i, vMul_r, vMod_i, PySem.sizeLine_eq]⟩
  · exact ⟨0, z.fmod 2147483629, 0, by simp [q, vPow_i, vMul_r, vMod_i, PySem.sizeLine_eq]⟩

end K04

namespace K04
open Nc L2 PySem PyProof.Rows
theorem c_thing {n : Nat} {x : D} {h : Hs} : lev B (n + 1) f_law_thing [x] h = (m_law_thing (lev B n) [some x, none, none] h).out := run_ap rfl
def objs (L : Nat) (z : Int) : Hs := [.lst [.int z], .lst [.int z], .lst [.ref (L + 1), .int 1], .dct [], .lst [.int 1],
  .lst [.int z, .int 0, .str "", .str "a b", .non, .bl true, .bl false, .ref L, .ref (L + 2), .tup [.int z], .ref (L + 3), .tup [], .tup [.str "a", .ref (L + 4)]]]
def kind (L : Nat) (z : Int) (k : Nat) : D := ([.int z, .int 0, .str "", .str "a b", .non, .bl true, .bl false, .ref L, .ref (L + 2), .tup [.int z], .ref (L + 3), .tup [], .tup [.str "a", .ref (L + 4)]] : List D).getD k .non
theorem thing_ok {n : Nat} {h : Hs} {i : Nat} {a s c : Int} (hi : h[i]? = some (.lst [.int a, .int s, .int c])) :
    ∃ z k a' s' c', -1000000000000000000000000000000 < z ∧ z < 1000000000000000000000000000000 ∧ k < 13 ∧ lev B (n + 2) f_law_thing [.ref i] h = .ok (kind h.length z k) (h.set i (.lst [.int a', .int s', .int c']) ++ objs h.length z) := by
  obtain ⟨r, a1, s1, c1, h1, h2, e⟩ := take_ok (n := n) hi (m := 1999999999999999999999999999999) (by decide) (by decide)
  have hlt : i < h.length := (List.getElem?_eq_some_iff.mp hi).1
  have hs : ∀ X, (List.set h i X)[i]? = some X := fun X => List.getElem?_set_self hlt
  have hi2 : (h.set i (.lst [.int a1, .int s1, .int c1]) ++ objs h.length (r - 1000000000000000000000000000000 + 1))[i]? = some (.lst [.int a1, .int s1, .int c1]) := get_old (hs _)
  obtain ⟨r2, a2, s2, c2, h3, h4, e2⟩ := take_ok (n := n) hi2 (m := 13) (by decide) (by decide)
  obtain ⟨k, rfl⟩ := Int.eq_ofNat_of_zero_le h3
  refine ⟨r - 1000000000000000000000000000000 + 1, k, a2, s2, c2, by omega, by omega, by omega, ?_⟩
  rw [c_thing]
  unfold m_law_thing
  have hk : k < 13 := by omega
  have e3 := e2
  rw [set_old (hs _), List.set_set] at e3
  simp only [objs] at e3
  have g5 : ∀ X (o : Hs), (List.set h i X ++ o)[h.length + 5]? = o[5]? := fun X o => by
    have q : h.length = (List.set h i X).length := by simp
    rw [q, get_app]
  simp [vPow_i, vMul_l, e, PySem.sizeLine_eq, Nat.add_assoc, e3, g5]
  have q : ∀ ls : List D, ls.length = 13 → ls[k]? = some (ls.getD k .non) := fun ls hl => by
    rw [List.getD_eq_getElem?_getD, List.getElem?_eq_getElem (by omega)]; rfl
  rw [q _ rfl]
  simp [kind, objs]
end K04

namespace K04
open Nc L2 PySem PyProof.Rows
theorem len_z {z : Int} (h1 : -1000000000000000000000000000000 < z) (h2 : z < 1000000000000000000000000000000) : (PyData.int z).shown.length ≤ 31 := by
  show (Str.ofString (toString z)).length ≤ 31
  by_cases q : 0 ≤ z
  · exact Nat.le_succ_of_le (toString_length_le q (k := 30) (by decide) (by simpa using h2))
  · have := len_text_negI (show z < 0 by omega)
    have := toString_length_le (v := 0 - z) (by omega) (k := 30) (by decide) (by simp; omega)
    omega
theorem log_z {z : Int} (h1 : -1000000000000000000000000000000 < z) (h2 : z < 1000000000000000000000000000000) : z.natAbs.log2 < 1920 := by
  by_cases q : z.natAbs = 0
  · rw [q]; decide
  · exact (Nat.log2_lt q).mpr (Nat.lt_of_lt_of_le (show z.natAbs < 2 ^ 200 by omega) (Nat.pow_le_pow_right (by decide) (by decide)))
def GoodP (p : PyData) : Prop := p.showable = true ∧ p.depth ≤ 40 ∧ p.shown.length ≤ sizeLine
theorem e_a : (Str.ofString "[").length = 1 := by decide +kernel
theorem e_b : (Str.ofString "]").length = 1 := by decide +kernel
theorem e_c : (Str.ofString "(").length = 1 := by decide +kernel
theorem e_d : (Str.ofString ",)").length = 2 := by decide +kernel
theorem e_e : (Str.ofString ", ").length = 2 := by decide +kernel
theorem e_f : (Str.ofString "").length = 0 := by decide +kernel
theorem e_g : (reprText (Str.ofString "late")).length = 6 := by decide +kernel
theorem e_h : (Str.ofString (toString (1 : Int))).length = 1 := by decide +kernel
theorem e_h2 : (Str.ofString (Int.repr 1)).length = 1 := by decide +kernel
section
variable {z : Int} (h1 : -1000000000000000000000000000000 < z) (h2 : z < 1000000000000000000000000000000)
include h1 h2
theorem p_int : GoodP (.int z) := by
  have a := len_z h1 h2
  have b := log_z h1 h2
  exact ⟨by simp [PyData.showable, b], by simp [PyData.depth], by rw [sizeLine_eq]; omega⟩
theorem p_l1 : GoodP (.list [.int z]) := by
  have a := len_z h1 h2
  have b := log_z h1 h2
  refine ⟨by simp [PyData.showable, PyData.showableAll, b], by simp [PyData.depth, PyData.depthAll], ?_⟩
  rw [sizeLine_eq]
  simp [PyData.shown, PyData.shownAll, listText, textFrom, strLen_append, e_a, e_b, e_e, e_f, e_g, e_h, e_h2] at a ⊢
  omega
theorem p_l1b : GoodP (.list [.int z, .str "late"]) := by
  have a := len_z h1 h2
  have b := log_z h1 h2
  refine ⟨by simp [PyData.showable, PyData.showableAll, b], by simp [PyData.depth, PyData.depthAll], ?_⟩
  rw [sizeLine_eq]
  simp [PyData.shown, PyData.shownAll, listText, textFrom, strLen_append, e_a, e_b, e_e, e_f, e_g, e_h, e_h2] at a ⊢
  omega
theorem p_l2 : GoodP (.list [.list [.int z], .int 1]) := by
  have a := len_z h1 h2
  have b := log_z h1 h2
  refine ⟨by simp [PyData.showable, PyData.showableAll, b]; decide, by simp [PyData.depth, PyData.depthAll], ?_⟩
  rw [sizeLine_eq]
  simp [PyData.shown, PyData.shownAll, listText, textFrom, strLen_append, e_a, e_b, e_e, e_f, e_g, e_h, e_h2] at a ⊢
  omega
theorem p_l2b : GoodP (.list [.list [.int z], .int 1, .str "late"]) := by
  have a := len_z h1 h2
  have b := log_z h1 h2
  refine ⟨by simp [PyData.showable, PyData.showableAll, b]; decide, by simp [PyData.depth, PyData.depthAll], ?_⟩
  rw [sizeLine_eq]
  simp [PyData.shown, PyData.shownAll, listText, textFrom, strLen_append, e_a, e_b, e_e, e_f, e_g, e_h, e_h2] at a ⊢
  omega
theorem p_t1 : GoodP (.tuple [.int z]) := by
  have a := len_z h1 h2
  have b := log_z h1 h2
  refine ⟨by simp [PyData.showable, PyData.showableAll, b], by simp [PyData.depth, PyData.depthAll], ?_⟩
  rw [sizeLine_eq]
  simp [PyData.shown, PyData.shownAll, tupleText, Str.join, strLen_append, e_a, e_b, e_c, e_d, e_e, e_f, e_g, e_h, e_h2] at a ⊢
  omega
end
theorem p_c (p : PyData) (h : (p.showable && decide (p.depth ≤ 40) && decide (p.shown.length ≤ 16777216)) = true) : GoodP p := by
  rw [Bool.and_eq_true, Bool.and_eq_true, decide_eq_true_iff, decide_eq_true_iff] at h
  exact ⟨h.1.1, h.1.2, by rw [sizeLine_eq]; exact h.2⟩
end K04

namespace K04
open Nc L2 PySem PyProof.Rows
def Good (h : Hs) (d : D) : Prop := ∃ p, GoodP p ∧ ∀ more, toPy (h ++ more) d = some p ∧ (p.hasDict = false ∨ isDct (h ++ more) d = true)
def ThingOk (h : Hs) (d : D) : Prop := Good h d ∧ ((∀ more, vIsi ci (.ty .list) d (h ++ more) = .ok (.bl false) (h ++ more)) ∨
  ∃ i xs, d = .ref i ∧ h[i]? = some (.lst xs) ∧ xs.length < 1000 ∧ Good (h.set i (.lst (xs ++ [.str "late"]))) d)
theorem refPy_lst {h : Hs} {n i : Nat} {ds : List D} (q : h[i]? = some (.lst ds)) : refPy h (n + 1) i = (pysOf (refPy h n) ds).map .list := by
  unfold refPy
  rw [q]
theorem refPy_dct {h : Hs} {n i : Nat} (q : h[i]? = some (.dct [])) : refPy h (n + 1) i = some (.dict []) := by
  unfold refPy
  rw [q]
theorem toPy_l1 {h : Hs} {i : Nat} {z : Int} (q : h[i]? = some (.lst [.int z])) : toPy h (.ref i) = some (.list [.int z]) := by
  show refPy h (23 + 1) i = _
  rw [refPy_lst q]; rfl
theorem toPy_l1b {h : Hs} {i : Nat} {z : Int} {s : PySem.Str} (q : h[i]? = some (.lst [.int z, .str s])) : toPy h (.ref i) = some (.list [.int z, .str s]) := by
  show refPy h (23 + 1) i = _
  rw [refPy_lst q]; rfl
theorem toPy_l2 {h : Hs} {i j : Nat} {z : Int} (q : h[i]? = some (.lst [.ref j, .int 1])) (q2 : h[j]? = some (.lst [.int z])) : toPy h (.ref i) = some (.list [.list [.int z], .int 1]) := by
  show refPy h (23 + 1) i = _
  rw [refPy_lst q]
  simp only [pysOf, pyOf]
  rw [show refPy h 23 j = _ from refPy_lst (n := 22) q2]; rfl
theorem toPy_l2b {h : Hs} {i j : Nat} {z : Int} {s : PySem.Str} (q : h[i]? = some (.lst [.ref j, .int 1, .str s])) (q2 : h[j]? = some (.lst [.int z])) : toPy h (.ref i) = some (.list [.list [.int z], .int 1, .str s]) := by
  show refPy h (23 + 1) i = _
  rw [refPy_lst q]
  simp only [pysOf, pyOf]
  rw [show refPy h 23 j = _ from refPy_lst (n := 22) q2]; rfl
theorem toPy_tl {h : Hs} {j : Nat} {s : PySem.Str} (q2 : h[j]? = some (.lst [.int 1])) : toPy h (.tup [.str s, .ref j]) = some (.tuple [.str s, .list [.int 1]]) := by
  unfold toPy
  simp only [pysOf, pyOf]
  rw [show refPy h 24 j = _ from refPy_lst (n := 23) q2]; rfl
theorem toPy_d {h : Hs} {j : Nat} (q2 : h[j]? = some (.dct [])) : toPy h (.ref j) = some (.dict []) := refPy_dct (n := 23) q2
theorem isi_s {h : Hs} {d : D} {t : Ty} (q : tagOf ci h d = some (.ty t)) (n : t ≠ .list) (n2 : t ≠ .bool) : vIsi ci (.ty .list) d h = .ok (.bl false) h := by
  unfold vIsi
  rw [q]
  cases t <;> first | rfl | exact absurd rfl n | exact absurd rfl n2
theorem isi_b {h : Hs} {b : Bool} : vIsi ci (.ty .list) (.bl b) h = .ok (.bl false) h := rfl
theorem g_obj {h1 : Hs} {z : Int} {more : Hs} {j : Nat} {o : Ob} (q : (objs h1.length z)[j]? = some o) : (h1 ++ objs h1.length z ++ more)[h1.length + j]? = some o := get_old (by rw [get_app]; exact q)
theorem kind_ok {h1 : Hs} {z : Int} (hz1 : -1000000000000000000000000000000 < z) (hz2 : z < 1000000000000000000000000000000) : ∀ k, k < 13 → ThingOk (h1 ++ objs h1.length z) (kind h1.length z k)
  | 0, _ => ⟨⟨.int z, p_int hz1 hz2, fun more => ⟨rfl, .inl rfl⟩⟩, .inl fun more => isi_s (t := .int) rfl (by decide) (by decide)⟩
  | 1, _ => ⟨⟨.int 0, p_c (.int 0) (by decide +kernel), fun more => ⟨rfl, .inl rfl⟩⟩, .inl fun more => isi_s (t := .int) rfl (by decide) (by decide)⟩
  | 2, _ => ⟨⟨.str "", p_c (.str "") (by decide +kernel), fun more => ⟨rfl, .inl rfl⟩⟩, .inl fun more => isi_s (t := .str) rfl (by decide) (by decide)⟩
  | 3, _ => ⟨⟨.str "a b", p_c (.str "a b") (by decide +kernel), fun more => ⟨rfl, .inl rfl⟩⟩, .inl fun more => isi_s (t := .str) rfl (by decide) (by decide)⟩
  | 4, _ => ⟨⟨.none, p_c .none (by decide +kernel), fun more => ⟨rfl, .inl rfl⟩⟩, .inl fun more => isi_s (t := .non) rfl (by decide) (by decide)⟩
  | 5, _ => ⟨⟨.bool true, p_c (.bool true) (by decide +kernel), fun more => ⟨rfl, .inl rfl⟩⟩, .inl fun more => isi_b⟩
  | 6, _ => ⟨⟨.bool false, p_c (.bool false) (by decide +kernel), fun more => ⟨rfl, .inl rfl⟩⟩, .inl fun more => isi_b⟩
  | 7, _ => ⟨⟨.list [.int z], p_l1 hz1 hz2, fun more => ⟨toPy_l1 (g_obj (j := 0) rfl), .inl rfl⟩⟩, .inr ⟨h1.length, [.int z], rfl, by rw [get_app0]; rfl, Nat.le_of_ble_eq_true rfl, .list [.int z, .str "late"], p_l1b hz1 hz2, fun more => ⟨toPy_l1b (by rw [set_app0]; exact get_old (by rw [get_app0]; rfl)), .inl rfl⟩⟩⟩
  | 8, _ => ⟨⟨.list [.list [.int z], .int 1], p_l2 hz1 hz2, fun more => ⟨toPy_l2 (g_obj (j := 2) rfl) (g_obj (j := 1) rfl), .inl rfl⟩⟩, .inr ⟨h1.length + 2, [.ref (h1.length + 1), .int 1], rfl, by rw [get_app]; rfl, Nat.le_of_ble_eq_true rfl, .list [.list [.int z], .int 1, .str "late"], p_l2b hz1 hz2, fun more => ⟨toPy_l2b (j := h1.length + 1) (by rw [set_app]; exact get_old (by rw [get_app]; rfl)) (by rw [set_app]; exact get_old (by rw [get_app]; rfl)), .inl rfl⟩⟩⟩
  | 9, _ => ⟨⟨.tuple [.int z], p_t1 hz1 hz2, fun more => ⟨rfl, .inl rfl⟩⟩, .inl fun more => isi_s (t := .tuple) rfl (by decide) (by decide)⟩
  | 10, _ => ⟨⟨.dict [], p_c (.dict []) (by decide +kernel), fun more => ⟨toPy_d (g_obj (j := 3) rfl), .inr (by
      show isDct (h1 ++ objs h1.length z ++ more) (.ref (h1.length + 3)) = true
      unfold isDct
      dsimp only
      rw [show (h1 ++ objs h1.length z ++ more)[h1.length + 3]? = some (.dct []) from g_obj (j := 3) rfl])⟩⟩, .inl fun more => isi_s (t := .dict) (by
      show tagOf ci (h1 ++ objs h1.length z ++ more) (.ref (h1.length + 3)) = _
      unfold tagOf
      dsimp only
      rw [show (h1 ++ objs h1.length z ++ more)[h1.length + 3]? = some (.dct []) from g_obj (j := 3) rfl]) (by decide) (by decide)⟩
  | 11, _ => ⟨⟨.tuple [], p_c (.tuple []) (by decide +kernel), fun more => ⟨rfl, .inl rfl⟩⟩, .inl fun more => isi_s (t := .tuple) rfl (by decide) (by decide)⟩
  | 12, _ => ⟨⟨.tuple [.str "a", .list [.int 1]], p_c (.tuple [.str "a", .list [.int 1]]) (by decide +kernel), fun more => ⟨toPy_tl (g_obj (j := 4) rfl), .inl rfl⟩⟩, .inl fun more => isi_s (t := .tuple) rfl (by decide) (by decide)⟩
  | n + 13, h => absurd h (by omega)
end K04

namespace K04
open Nc L2 PySem PyProof.Rows
theorem isEx_all : ∀ c, c < 17 → (c < ci.n ∧ ci.isEx c = true) := by decide +kernel
theorem ve {c : Nat} {d : D} {h : Hs} (q : c < 17) : vExc ci c [d] h = .ok (.exc c [d]) h := by
  unfold vExc
  dsimp only
  rw [if_pos (isEx_all c q)]
theorem tag_e {c : Nat} {fs : List D} {h : Hs} (q : c < 17) : tagOf ci h (.exc c fs) = some (.own c) := by
  unfold tagOf
  dsimp only
  rw [if_pos (isEx_all c q)]
theorem isi_e {c j : Nat} {fs : List D} {h : Hs} (q : c < 17) (z : j < 17) : vIsi ci (.own j) (.exc c fs) h = .ok (.bl (ci.sub c j)) h := by
  unfold vIsi
  rw [tag_e q]
  have : ci.has (.own j) = true := decide_eq_true z
  simp [this, isA]
theorem isi_v {c : Nat} {fs : List D} {h : Hs} (q : c < 17) : vIsi ci (.ty .verr) (.exc c fs) h = .ok (.bl true) h := by
  unfold vIsi
  rw [tag_e q]
  simp [Ci.has, isA, (isEx_all c q).2]
theorem c_made {n : Nat} {x y : D} {h : Hs} : lev B (n + 1) f_law_made [x, y] h = (m_law_made (lev B n) [some x, some y, none] h).out := run_ap rfl
theorem e16 (d : D) : ∀ k, k < 16 → ([.exc 1 [d], .exc 2 [d], .exc 3 [d], .exc 4 [d], .exc 5 [d], .exc 6 [d], .exc 7 [d], .exc 8 [d], .exc 9 [d], .exc 10 [d], .exc 11 [d], .exc 12 [d], .exc 13 [d], .exc 14 [d], .exc 15 [d], .exc 16 [d]] : List D)[k]? = some (.exc (k + 1) [d]) := fun k hk => by
  have : k = 0 ∨ k = 1 ∨ k = 2 ∨ k = 3 ∨ k = 4 ∨ k = 5 ∨ k = 6 ∨ k = 7 ∨ k = 8 ∨ k = 9 ∨ k = 10 ∨ k = 11 ∨ k = 12 ∨ k = 13 ∨ k = 14 ∨ k = 15 := by omega
  rcases this with rfl | rfl | rfl | rfl | rfl | rfl | rfl | rfl | rfl | rfl | rfl | rfl | rfl | rfl | rfl | rfl <;> rfl
theorem made_ok {n k : Nat} {d : D} {h : Hs} (hk : k < 16) : ∃ more, lev B (n + 1) f_law_made [.int (k : Int), d] h = .ok (.exc (k + 1) [d]) (h ++ more) := by
  rw [c_made]
  unfold m_law_made
  simp [ve, PySem.sizeLine_eq, Nat.add_assoc, e16 d k hk]
theorem c_kinds {n : Nat} {x : D} {h : Hs} : lev B (n + 1) f_law_kinds [x] h = (m_law_kinds (lev B n) [some x, none] h).out := run_ap rfl
theorem kinds_ok {n c : Nat} {fs : List D} {h : Hs} (hc : c < 17) : ∃ more, lev B (n + 1) f_law_kinds [.exc c fs] h = .ok (.ref (h.length + 10)) (h ++ more) ∧ more[10]? = some (.lst ((List.range 16).map fun j => .bl (ci.sub c (j + 1)))) := by
  rw [c_kinds]
  unfold m_law_kinds
  simp [isi_e hc, PySem.sizeLine_eq, Nat.add_assoc]
  rfl
theorem c_field {n : Nat} {x : D} {h : Hs} : lev B (n + 1) f_law_field [x] h = (m_law_field (lev B n) [some x] h).out := run_ap rfl
theorem attr_e {c : Nat} {d : D} {f : PySem.Str} {h : Hs} (q : c < 17) (z : ci.fld c = f) : vAttr ci f (.exc c [d]) h = .ok d h := by
  unfold vAttr
  dsimp only
  rw [if_pos ⟨(isEx_all c q).1, (isEx_all c q).2, z⟩]
theorem field_ok {n c : Nat} {d : D} {h : Hs} (h1 : 1 ≤ c) (h2 : c < 17) : lev B (n + 1) f_law_field [.exc c [d]] h = .ok d h := by
  rw [c_field]
  unfold m_law_field
  have s0 : ∀ c, c < 17 → ∀ j, j < 17 → 0 < j → ci.sub c j = (c == j) := by decide +kernel
  have s : ∀ c j, c < 17 → j < 17 → 0 < j → ci.sub c j = (c == j) := fun c j a b => s0 c a j b
  by_cases a : c = 14
  · subst a; simp [isi_e, s, attr_e h2 (show ci.fld 14 = "row" from rfl)]
  · by_cases b : c = 15
    · subst b; simp [isi_e, s, attr_e h2 (show ci.fld 15 = "many" from rfl)]
    · by_cases e : c = 16
      · subst e; simp [isi_e, s, attr_e h2 (show ci.fld 16 = "line" from rfl)]
      · have z : ∀ c, c < 17 → 1 ≤ c → c ≠ 14 → c ≠ 15 → c ≠ 16 → ci.fld c = "found" := by decide +kernel
        simp [isi_e, h2, s, a, b, e, attr_e h2 (z c h2 h1 a b e)]
end K04

namespace K04
open Nc L2 PySem PyProof.Rows
theorem pys_bl (f : Nat → Option PyData) : ∀ bs : List Bool, pysOf f (bs.map .bl) = some (bs.map .bool)
  | [] => rfl
  | b :: bs => by
    have := pys_bl f bs
    simp only [List.map_cons, pysOf, pyOf, this]
theorem toPy_bls {h : Hs} {i : Nat} {bs : List Bool} (q : h[i]? = some (.lst (bs.map .bl))) : toPy h (.ref i) = some (.list (bs.map .bool)) := by
  show refPy h (23 + 1) i = _
  rw [refPy_lst q, pys_bl]; rfl
theorem vNe_l {h : Hs} {i j : Nat} {p : PyData} (e1 : toPy h (.ref i) = some p) (e2 : toPy h (.ref j) = some p) (s : SeqAt.shaped p = true) (r : PyData.eqv p p = true) : vNe (.ref i) (.ref j) h = .ok (.bl false) h := by
  show (match toPy h (.ref i), toPy h (.ref j) with
    | some p, some q => if SeqAt.shaped p = true ∧ SeqAt.shaped q = true then Out.ok (D.bl (!(PyData.eqv p q))) h else .err
    | _, _ => .err) = _
  rw [e1, e2]
  dsimp only
  rw [if_pos ⟨s, s⟩, r]
  rfl
theorem vEq_l {h : Hs} {i j : Nat} {p : PyData} (e1 : toPy h (.ref i) = some p) (e2 : toPy h (.ref j) = some p) (s : SeqAt.shaped p = true) (r : PyData.eqv p p = true) : vEq (.ref i) (.ref j) h = .ok (.bl true) h := by
  show (match toPy h (.ref i), toPy h (.ref j) with
    | some p, some q => if SeqAt.shaped p = true ∧ SeqAt.shaped q = true then Out.ok (D.bl (id (PyData.eqv p q))) h else .err
    | _, _ => .err) = _
  rw [e1, e2]
  dsimp only
  rw [if_pos ⟨s, s⟩, r]
  rfl
theorem repr_ok {h : Hs} {d : D} (g : Good h d) : ∃ t, ∀ more, vRepr [d] (h ++ more) = .ok (.str t) (h ++ more) := by
  obtain ⟨p, g, q⟩ := g
  refine ⟨p.shown, fun more => ?_⟩
  obtain ⟨q1, q2⟩ := q more
  unfold vRepr
  dsimp only
  rw [q1]
  dsimp only
  rw [if_pos ⟨g.1, g.2.1, g.2.2, q2⟩]
def jk (k : Nat) : List Bool := (List.range 16).map fun (j : Nat) => ((j : Int) == (k : Int))
theorem kd : ∀ k, k < 16 → ((List.range 16).map fun (j : Nat) => ci.sub (k + 1) (j + 1)) = jk k := by decide +kernel
theorem kd2 : ∀ k, k < 16 → SeqAt.shaped (.list ((jk k).map .bool)) = true := by decide +kernel
theorem kd3 : ∀ k, k < 16 → PyData.eqv (.list ((jk k).map .bool)) (.list ((jk k).map .bool)) = true := by decide +kernel
theorem kd4 : SeqAt.shaped (.list [.str "b", .str "c"]) = true ∧ PyData.eqv (.list [.str "b", .str "c"]) (.list [.str "b", .str "c"]) = true := by decide +kernel
theorem c_right {n : Nat} {x y : D} {h : Hs} : lev B (n + 1) f_law_right [x, y] h = (m_law_right (lev B n) [some x, some y, none, none, none, none] h).out := run_ap rfl
theorem comp_ok {k : Nat} {e : Nc.Env} {h : Hs} (hk : k < 16) (h0 : e[0]? = some (some (.int k))) (hl : e.length = 6) :
    mComp (mU vRng (mCons (mK (.int 16)) mNil)) (gNm 5) mYes (mB vEq (mVar 5) (mVar 0)) [5] e h = .ok ((jk k).map .bl) h := by
  unfold mComp
  simp only [mU_ap, mCons_ap, mK_ap, mNil_ap, bind_ok]
  have : vRng [.int 16] h = .ok (.seq ((List.range 16).map fun (k : Nat) => D.int ((k : Int)))) h := vRng1 (j := 16) (by decide)
  rw [this]
  simp only [rbind_ok]
  have := compF_seq (g := gNm 5) (t := mYes) (el := mB vEq (mVar 5) (mVar 0)) (e0 := wipeE e [5]) (fun (j : Nat) => D.bl ((j : Int) == (k : Int))) FUEL 0 ((List.range 16).map fun (k : Nat) => D.int ((k : Int))) [] h (by rw [sizeLine_eq]; simp) (fun j d q => by
    have hj : j < 16 := by
      have := (List.getElem?_eq_some_iff.mp q).1
      simpa using this
    have hd : d = .int j := by
      rw [List.getElem?_map, List.getElem?_range hj] at q
      exact (Option.some.inj q).symm
    subst hd
    refine ⟨_, rfl, rfl, ?_⟩
    have z : ((wipeE e [5]).set 5 (some (.int j)))[0]? = some (some (.int k)) := by
      simp [wipeE, h0]
    have z2 : ((wipeE e [5]).set 5 (some (.int j)))[5]? = some (some (.int j)) := by
      simp [wipeE, hl]
    simp [z, z2]) (by simp) (by simp [FUEL]) rfl
  rw [this]
  simp [jk]
def app0 (h : Hs) (d : D) : Hs := match d with
  | .ref i => (match h[i]? with
    | some (.lst xs) => h.set i (.lst (xs ++ [.str "late"]))
    | _ => h)
  | _ => h
theorem isTy_ref {h : Hs} {i : Nat} {xs : List D} (q : h[i]? = some (.lst xs)) : isTy "list" (.ref i) h = true := by
  unfold isTy getL
  simp [q]
theorem app_ok {h : Hs} {i : Nat} {xs : List D} {d : D} (q : h[i]? = some (.lst xs)) (z : xs.length < 1000) : vAppend (.ref i) [d] h = .ok .non (h.set i (.lst (xs ++ [d]))) := by
  unfold vAppend
  dsimp only
  rw [q]
  dsimp only
  rw [if_pos (by rw [sizeLine_eq]; omega)]
theorem isi_l {h : Hs} {i : Nat} {xs : List D} (q : h[i]? = some (.lst xs)) : vIsi ci (.ty .list) (.ref i) h = .ok (.bl true) h := by
  unfold vIsi tagOf
  dsimp only
  rw [q]
  rfl
theorem toPy_bc {h : Hs} {i : Nat} (q : h[i]? = some (.lst [.str "b", .str "c"])) : toPy h (.ref i) = some (.list [.str "b", .str "c"]) := by
  show refPy h (23 + 1) i = _
  rw [refPy_lst q]; rfl
/-- the second half -/
theorem half_ok {n k : Nat} {hb tl : Hs} {d : D} (hk : k < 16) (g : Good hb d) : (SO.out (sSeq (sDrop (mMt "list" vAppend (mVar 2) (mCons (mK (D.str (Str.ofString "c"))) mNil)))
              (sRet
                (vAnd
                  (mB vEq (mU vRepr (mCons (mCall (lev B (n + 1) f_law_field) 1 (mCons (mVar 3) mNil)) mNil))
                    (mU vRepr (mCons (mVar 1) mNil)))
                  (mB vEq (mCall (lev B (n + 1) f_law_field) 1 (mCons (mVar 4) mNil))
                    (mU vNew
                      (mLen
                        (mCons (mK (D.str (Str.ofString "b")))
                          (mCons (mK (D.str (Str.ofString "c"))) mNil)))))))
       [some (D.int k), some d, some (D.ref hb.length), some (D.exc (k + 1) [d]), some (D.exc (k + 1) [D.ref hb.length]), none] (hb ++ .lst [.str "b"] :: tl))) = .ok (.bl true) (hb ++ .lst [.str "b", .str "c"] :: (tl ++ [.lst [.str "b", .str "c"]])) := by
  obtain ⟨r1, e5⟩ := repr_ok g
  have f1 : ∀ (h : Hs) (d : D), lev B (n + 1) f_law_field [.exc (k + 1) [d]] h = .ok d h := fun h d => field_ok (by omega) (by omega)
  have q1 : (hb ++ .lst [.str "b"] :: tl)[hb.length]? = some (.lst [.str "b"]) := by simp
  have q2 := app_ok (d := .str "c") q1 (Nat.le_of_ble_eq_true rfl)
  have q3 := isTy_ref q1
  have e8 : vEq (.ref hb.length) (.ref (hb.length + (tl.length + 1))) (hb ++ .lst [.str "b", .str "c"] :: (tl ++ [.lst [.str "b", .str "c"]])) = .ok (.bl true) (hb ++ .lst [.str "b", .str "c"] :: (tl ++ [.lst [.str "b", .str "c"]])) := by
    refine vEq_l (toPy_bc (by simp)) (toPy_bc ?_) kd4.1 kd4.2
    have := get_app0 (h := hb ++ ([.lst [.str "b", .str "c"]] ++ tl)) (more := [.lst [.str "b", .str "c"]])
    simpa [Nat.add_assoc] using this
  simp at q2
  simp [q2, q3, e5, f1, e8, PySem.sizeLine_eq]
/-- the first half: up to the tests of the kinds and the field -/
theorem right_ok {n k : Nat} {d : D} {h : Hs} (hk : k < 16) (t : ThingOk h d) : ∃ h', lev B (n + 2) f_law_right [.int (k : Int), d] h = .ok (.bl true) h' ∧ ∀ j o, h[j]? = some o → d ≠ .ref j → h'[j]? = some o := by
  obtain ⟨g, t⟩ := t
  obtain ⟨m1, e1⟩ := made_ok (n := n) (d := d) (h := h ++ [.lst [.str "b"]]) hk
  obtain ⟨m2, e2⟩ := made_ok (n := n) (d := .ref h.length) (h := h ++ ([.lst [.str "b"]] ++ m1)) hk
  obtain ⟨m3, e3, e4⟩ := kinds_ok (n := n) (c := k + 1) (fs := [d]) (h := h ++ ([.lst [.str "b"]] ++ (m1 ++ m2))) (by omega)
  obtain ⟨r1, e5⟩ := repr_ok g
  have f1 : ∀ (h : Hs) (d : D), lev B (n + 1) f_law_field [.exc (k + 1) [d]] h = .ok d h := fun h d => field_ok (by omega) (by omega)
  have s0 : ci.sub (k + 1) 0 = true := by
    have : ∀ k, k < 16 → ci.sub (k + 1) 0 = true := by decide +kernel
    exact this k hk
  rw [c_right]
  unfold m_law_right
  have cc : ∀ h', mComp (mU vRng (mCons (mK (D.int 16)) mNil)) (gNm 5) mYes (mB vEq (mVar 5) (mVar 0)) [5] [some (D.int k), some d, some (D.ref h.length), some (D.exc (k + 1) [d]), some (D.exc (k + 1) [D.ref h.length]), none] h' = .ok ((jk k).map .bl) h' := fun h' => comp_ok hk rfl rfl
  rw [kd k hk |>.symm ▸ rfl |> fun (z : ((List.range 16).map fun (j : Nat) => D.bl (ci.sub (k + 1) (j + 1))) = (jk k).map D.bl) => z] at e4
  have e7 : vNe (.ref (h.length + (m1.length + m2.length + 1) + 10)) (.ref (h.length + (m1.length + (m2.length + m3.length) + 1))) (h ++ .lst [.str "b"] :: (m1 ++ (m2 ++ (m3 ++ [.lst ((jk k).map .bl)])))) = .ok (.bl false) (h ++ .lst [.str "b"] :: (m1 ++ (m2 ++ (m3 ++ [.lst ((jk k).map .bl)])))) := by
    refine vNe_l (p := .list ((jk k).map .bool)) (toPy_bls ?_) (toPy_bls ?_) (kd2 k hk) (kd3 k hk)
    · have := get_app (h := h ++ ([.lst [.str "b"]] ++ (m1 ++ m2))) (more := m3 ++ [.lst ((jk k).map .bl)]) (j := 10)
      rw [get_old e4] at this
      simpa [Nat.add_assoc] using this
    · have := get_app0 (h := h ++ ([.lst [.str "b"]] ++ (m1 ++ (m2 ++ m3)))) (more := [.lst ((jk k).map .bl)])
      simpa [Nat.add_assoc] using this
  simp at e1 e2 e3
  simp [e1, e2, PySem.sizeLine_eq, isi_e (show k + 1 < 17 by omega), isi_v (show k + 1 < 17 by omega), s0, e3, cc, e7, f1, e5]
  generalize m1 ++ (m2 ++ (m3 ++ [Ob.lst (List.map D.bl (jk k))])) = tl
  rcases t with t | ⟨i, xs, rfl, hi, hx, g2⟩
  · rw [t]
    have := half_ok (n := n) (tl := tl) hk g
    simp only [bind_ok, vTest_bl, toS_ok, if_false, Bool.false_eq_true, seq_nx]
    rw [this]
    refine ⟨_, rfl, fun j o hj _ => get_old hj⟩
  · have q1 : (h ++ .lst [.str "b"] :: tl)[i]? = some (.lst xs) := get_old hi
    have hl : h.length = (h.set i (.lst (xs ++ [.str "late"]))).length := by simp
    have := half_ok (n := n) (tl := tl) hk g2
    rw [← hl] at this
    rw [isi_l q1]
    simp only [bind_ok, vTest_bl, toS_ok, if_true, sDrop_ap, mMt_ap, mVar_ap, List.getElem?_cons_succ, List.getElem?_cons_zero, getE_some, isTy_ref q1, mCons_ap, mK_ap, mNil_ap, app_ok q1 hx, seq_nx, set_old hi]
    rw [this]
    refine ⟨_, rfl, fun j o hj nj => get_old ?_⟩
    rw [List.getElem?_set_ne (fun z => nj (by rw [z]))]
    exact hj
end K04

namespace K04
open Nc L2 PySem PyProof.Rows
theorem kind_ne {L j : Nat} {z : Int} (hj : j < L) : ∀ k, k < 13 → kind L z k ≠ .ref j := fun k hk e => by
  have : k = 0 ∨ k = 1 ∨ k = 2 ∨ k = 3 ∨ k = 4 ∨ k = 5 ∨ k = 6 ∨ k = 7 ∨ k = 8 ∨ k = 9 ∨ k = 10 ∨ k = 11 ∨ k = 12 := by omega
  rcases this with rfl | rfl | rfl | rfl | rfl | rfl | rfl | rfl | rfl | rfl | rfl | rfl | rfl <;> simp [kind] at e <;> omega
theorem turn_ok {n j i : Nat} {h : Hs} {a s c : Int} {o : Ob} (hj : j < 16) (hi : h[i]? = some (.lst [.int a, .int s, .int c])) (h0 : h[0]? = some o) (n0 : i ≠ 0) :
    ∃ d h1 h2, lev B (n + 2) f_law_thing [.ref i] h = .ok d h1 ∧ lev B (n + 2) f_law_right [.int (j : Int), d] h1 = .ok (.bl true) h2 ∧ h2[0]? = some o ∧ ∃ a' s' c', h2[i]? = some (.lst [.int a', .int s', .int c']) := by
  obtain ⟨z, k, a', s', c', z1, z2, hk, e⟩ := thing_ok (n := n) hi
  have hl : h.length = (h.set i (.lst [.int a', .int s', .int c'])).length := by simp
  have hlt : i < h.length := (List.getElem?_eq_some_iff.mp hi).1
  have hlt0 : 0 < h.length := (List.getElem?_eq_some_iff.mp h0).1
  rw [hl] at e
  obtain ⟨h2, e2, p⟩ := right_ok (n := n) (k := j) hj (kind_ok (h1 := h.set i (.lst [.int a', .int s', .int c'])) z1 z2 k hk)
  refine ⟨_, _, h2, e, e2, p 0 o (get_old ?_) (kind_ne (by rw [← hl]; exact hlt0) k hk), a', s', c', p i _ (get_old (List.getElem?_set_self hlt)) (kind_ne (by rw [← hl]; exact hlt) k hk)⟩
  rw [List.getElem?_set_ne n0]
  exact h0
theorem notIn_ok {h : Hs} {a : Nat} (q : h[a]? = some (.lst ((List.range 16).map fun (j : Nat) => .bl (ci.sub 0 (j + 1))))) : vNotIn (.bl true) (.ref a) h = .ok (.bl true) h := by
  unfold vNotIn vInB items getL
  dsimp only
  rw [q]
  rfl
theorem exc0_ok {h : Hs} {s : PySem.Str} : vExc0 ci 0 [.str s] h = .ok (.exc 0 []) h := by
  unfold vExc0
  dsimp only
  rw [if_pos (isEx_all 0 (by decide))]
theorem c_law {n : Nat} {x : D} {h : Hs} : lev B (n + 1) f_law [x] h = (m_law (lev B n) [some x, none, none, none, none] h).out := run_ap rfl
def Inv0 (o : Ob) (e : Nc.Env) (h : Hs) : Prop := ∃ x1 x2 x3, e = [some (.ref 0), x1, x2, x3, none] ∧ h[0]? = some o
def Inv1 (o : Ob) (i : Nat) (e : Nc.Env) (h : Hs) : Prop := ∃ x1 x3, e = [some (.ref 0), x1, some (.ref i), x3, none] ∧ h[0]? = some o ∧ i ≠ 0 ∧ ∃ a s c, h[i]? = some (.lst [.int a, .int s, .int c])
def bdy1 : SM := sIf (mNot (mTest (mCall (lev B 11 f_law_right) 2 (mCons (mVar 3) (mCons (mCall (lev B 11 f_law_thing) 1 (mCons (mVar 2) mNil)) mNil))))) (sRet (mK (.bl false))) sNil
theorem inner : ∀ (o : Ob) (i : Nat) (e : Nc.Env) (h : Hs), Inv1 o i e h → ∃ e' h', loopF (.seq ((List.range 16).map fun (k : Nat) => D.int (k : Int))) (gNm 3) bdy1 FUEL 0 e h = .nx e' h' ∧ Inv1 o i e' h' := fun o i e h hi => by
  obtain ⟨e', h', p, q⟩ := loopF_seq (g := gNm 3) (b := bdy1) (fun _ e h => Inv1 o i e h) FUEL 0 ((List.range 16).map fun (k : Nat) => D.int (k : Int)) e h (fun j d e h hd hi => by
    have hj : j < 16 := by
      have := (List.getElem?_eq_some_iff.mp hd).1
      simpa using this
    have hd2 : d = .int j := by
      rw [List.getElem?_map, List.getElem?_range hj] at hd
      exact (Option.some.inj hd).symm
    subst hd2
    obtain ⟨x1, x3, rfl, h0, n0, a, s, c, hs⟩ := hi
    obtain ⟨d, h1, h2, e1, e2, p0, a', s', c', p1⟩ := turn_ok (n := 9) hj hs h0 n0
    refine ⟨_, _, [some (.ref 0), x1, some (.ref i), some (.int j), none], h2, rfl, .inl ?_, x1, some (.int j), rfl, p0, n0, a', s', c', p1⟩
    unfold bdy1
    simp [e1, e2]) hi (by simp) (by simp [FUEL])
  exact ⟨e', h', p, q⟩
def bdy0 : SM := sSeq (sAsg (mCall (lev B 11 f_law_stream) 1 (mCons (mCall (lev B 11 f_law_cell) 2 (mCons (mVar 0) (mCons (mVar 1) mNil))) mNil)) (gNm 2)) (sFor (mU vRng (mCons (mK (.int 16)) mNil)) (gNm 3) bdy1)
theorem outer (ns : List Int) : ∀ (o : Ob) (m : Nat) (e : Nc.Env) (h : Hs), o = .fro (ns.map D.int) → m < 1000 → Inv0 o e h → ∃ e' h', loopF (.seq ((List.range m).map fun (k : Nat) => D.int (k : Int))) (gNm 1) bdy0 FUEL 0 e h = .nx e' h' ∧ Inv0 o e' h' := fun o m e h ho hm hi => by
  obtain ⟨e', h', p, q⟩ := loopF_seq (g := gNm 1) (b := bdy0) (fun _ e h => Inv0 o e h) FUEL 0 ((List.range m).map fun (k : Nat) => D.int (k : Int)) e h (fun j d e h hd hi => by
    have hj : j < m := by
      have := (List.getElem?_eq_some_iff.mp hd).1
      simpa using this
    have hd2 : d = .int j := by
      rw [List.getElem?_map, List.getElem?_range hj] at hd
      exact (Option.some.inj hd).symm
    subst hd2
    obtain ⟨x1, x2, x3, rfl, h0⟩ := hi
    subst ho
    obtain ⟨z, e1⟩ := cell_ok (n := 10) j h0
    obtain ⟨a, s, c, e2⟩ := stream_ok (n := 10) (h := h) (z := z)
    obtain ⟨e', h', p, y1, y3, rfl, q0, _⟩ := inner (.fro (ns.map D.int)) h.length [some (.ref 0), some (.int j), some (.ref h.length), x3, none] (h ++ [.lst [.int a, .int s, .int c]]) ⟨_, _, rfl, get_old h0, by
      have := (List.getElem?_eq_some_iff.mp h0).1
      omega, a, s, c, by simp⟩
    have r : vRng [.int 16] (h ++ [.lst [.int a, .int s, .int c]]) = .ok (.seq ((List.range 16).map fun (k : Nat) => D.int ((k : Int)))) (h ++ [.lst [.int a, .int s, .int c]]) := vRng1 (j := 16) (by decide)
    have pf := sFor_of (m := mU vRng (mCons (mK (.int 16)) mNil)) (e := [some (.ref 0), some (.int j), some (.ref h.length), x3, none]) (g := gNm 3) (b := bdy1) (by simp only [mU_ap, mCons_ap, mK_ap, mNil_ap, bind_ok]; exact r) p
    refine ⟨_, _, [some (.ref 0), y1, some (.ref h.length), y3, none], h', rfl, .inl ?_, y1, some (.ref h.length), y3, rfl, q0⟩
    unfold bdy0
    simp only [sSeq_ap, sAsg_ap, mCall_ap, mCons_ap, mVar_ap, mNil_ap, List.set_cons_succ, List.set_cons_zero, List.getElem?_cons_succ, List.getElem?_cons_zero, getE_some, bind_ok, List.length_cons, List.length_nil, if_true, e1, e2, toS_ok, gNm_ap, seq_nx, Nat.zero_add, Nat.reduceAdd]
    exact pf) hi (by simp) (by simp [FUEL]; omega)
  exact ⟨e', h', p, q⟩
theorem t1 (ns : List Int) : mU vMin (mCons (mU vLen (mCons (mVar 0) mNil)) (mCons (mK (.int 10)) mNil)) [some (.ref 0), none, none, none, none] [.fro (ns.map D.int)] = .ok (.int (if (10 : Int) < (ns.length : Int) then (10 : Int) else (ns.length : Int))) [.fro (ns.map D.int)] := by
  simp
theorem t2 (ns : List Int) : mU vMax (mCons (mK (.int 2)) (mCons (mU vMin (mCons (mU vLen (mCons (mVar 0) mNil)) (mCons (mK (.int 10)) mNil))) mNil)) [some (.ref 0), none, none, none, none] [.fro (ns.map D.int)] = .ok (.int (if (if (10 : Int) < (ns.length : Int) then (10 : Int) else (ns.length : Int)) > 2 then (if (10 : Int) < (ns.length : Int) then (10 : Int) else (ns.length : Int)) else 2)) [.fro (ns.map D.int)] := by
  have := t1 ns
  simp only [mU_ap, mCons_ap, mK_ap, bind_ok, mNil_ap] at this ⊢
  rw [this]
  rfl
theorem t3 (ns : List Int) (m : Nat) (em : (if (if (10 : Int) < (ns.length : Int) then (10 : Int) else (ns.length : Int)) > 2 then (if (10 : Int) < (ns.length : Int) then (10 : Int) else (ns.length : Int)) else 2) = (m : Int)) (hm : m < 1000) : mU vRng (mCons (mU vMax (mCons (mK (.int 2)) (mCons (mU vMin (mCons (mU vLen (mCons (mVar 0) mNil)) (mCons (mK (.int 10)) mNil))) mNil))) mNil) [some (.ref 0), none, none, none, none] [.fro (ns.map D.int)] = .ok (.seq ((List.range m).map fun (k : Nat) => D.int ((k : Int)))) [.fro (ns.map D.int)] := by
  have := t2 ns
  rw [em] at this
  have r : vRng [.int (m : Int)] [.fro (ns.map D.int)] = .ok (.seq ((List.range m).map fun (k : Nat) => D.int ((k : Int)))) [.fro (ns.map D.int)] := vRng1 (by omega)
  rw [mU_ap, mCons_ap, this, bind_ok, mNil_ap, bind_ok, bind_ok]
  exact r
theorem law_ok' (ns : List Int) : ∃ h', lev B 12 f_law [.ref 0] [.fro (ns.map D.int)] = .ok (.bl true) h' := by
  rw [c_law]
  unfold m_law
  show ∃ h', SO.out (sSeq (sFor (mU vRng (mCons (mU vMax (mCons (mK (.int 2)) (mCons (mU vMin (mCons (mU vLen (mCons (mVar 0) mNil)) (mCons (mK (.int 10)) mNil))) mNil))) mNil)) (gNm 1) bdy0) _ _ _) = _
  obtain ⟨m, hm, em⟩ : ∃ m : Nat, m < 1000 ∧ (if (if (10 : Int) < (ns.length : Int) then (10 : Int) else (ns.length : Int)) > 2 then (if (10 : Int) < (ns.length : Int) then (10 : Int) else (ns.length : Int)) else 2) = (m : Int) := by
    by_cases q : (10 : Int) < (ns.length : Int)
    · exact ⟨10, by decide, by simp [q]⟩
    · by_cases q2 : (ns.length : Int) > 2
      · exact ⟨ns.length, by omega, by rw [if_neg q, if_pos q2]⟩
      · exact ⟨2, by decide, by rw [if_neg q, if_neg q2]; rfl⟩
  obtain ⟨e', h', p, y1, y2, y3, rfl, q0⟩ := outer ns (.fro (ns.map D.int)) m [some (.ref 0), none, none, none, none] [.fro (ns.map D.int)] rfl hm ⟨_, _, _, rfl, rfl⟩
  obtain ⟨mr, e3, e4⟩ := kinds_ok (n := 10) (c := 0) (fs := []) (h := h') (by decide)
  have e5 : vNotIn (.bl true) (.ref (h'.length + 10)) (h' ++ mr) = .ok (.bl true) (h' ++ mr) := notIn_ok (by rw [get_app]; exact e4)
  refine ⟨h' ++ mr, ?_⟩
  have r : vRng [.int (m : Int)] [.fro (ns.map D.int)] = .ok (.seq ((List.range m).map fun (k : Nat) => D.int ((k : Int)))) [.fro (ns.map D.int)] := vRng1 (by omega)
  have mm : vMin [.int (ns.length : Int), .int 10] [.fro (ns.map D.int)] = .ok (.int (if (10 : Int) < (ns.length : Int) then (10 : Int) else (ns.length : Int))) [.fro (ns.map D.int)] := rfl
  have mx : ∀ t : Int, vMax [.int 2, .int t] [.fro (ns.map D.int)] = .ok (.int (if t > 2 then t else 2)) [.fro (ns.map D.int)] := fun t => rfl
  have pf : sFor (mU vRng (mCons (mU vMax (mCons (mK (.int 2)) (mCons (mU vMin (mCons (mU vLen (mCons (mVar 0) mNil)) (mCons (mK (.int 10)) mNil))) mNil))) mNil)) (gNm 1) bdy0 [some (.ref 0), none, none, none, none] [.fro (ns.map D.int)] = .nx [some (.ref 0), y1, y2, y3, none] h' := by
    exact sFor_of (t3 ns m em hm) p
  simp only [sSeq_ap, mU_ap, mCons_ap, mVar_ap, mNil_ap, mK_ap, List.getElem?_cons_succ, List.getElem?_cons_zero, getE_some, bind_ok, pf, toS_ok, seq_nx, sAsg_ap, exc0_ok, gNm_ap, List.set_cons_succ, List.set_cons_zero, sRet_ap, vAnd_ap, isi_v (show 0 < 17 by decide), andK_t, mB_ap, mCall_ap, List.length_cons, List.length_nil, if_true, Nat.zero_add, e3, e5, out_rt]
end K04

open Nc L2 PySem PySem.W PyProof.Rows
set_option maxHeartbeats 0 in
theorem PySem.Challenge.cw_noughtcut_k04_refusals_apart_holds : PySem.Challenge.rw_noughtcut_k04_refusals_apart.Holds := by
  w_on; o_law; k_head; (case hw => w_witness2)
  k_fill
  refine walk_ofG (n := 63) (k := 16) (x := "_law_script") (f := lev K04.B 12 8) rfl (by decide) rfl ⟨⟨rfl, by decide, by decide⟩, rfl⟩ (fun w h Y => PySem.W.kIn_of Y) (fun w a o e => noLst_of (K := _) ?nolst a o e) (fun w mg fa h KX G hmg => K04.law_F KX G hmg ?sta ?bas (fun c hc hx => ?co) (fun i hi => ?hF) ?i_NoNumber ?i_NoNet ?i_NoNode ?i_NoWire ?i_NoSpot ?i_NoBox ?i_NoWish ?i_NoAim ?i_NoOut ?i_NoPattern ?i_NoFit ?i_NoTree ?i_NoName ?i_NoText ?i_Large ?i_NoLine 12) fun ns _ _ => K04.law_ok' ns
  case nolst => kernel_rfl
  case sta => kernel_rfl
  case bas => kernel_rfl
  case co =>
    match c, hc with
    | 0, _ => exact exo_ofK (by kernel_rfl) (by kernel_rfl)
    | 1, _ => exact exo_ofK (by kernel_rfl) (by kernel_rfl)
    | 2, _ => exact exo_ofK (by kernel_rfl) (by kernel_rfl)
    | 3, _ => exact exo_ofK (by kernel_rfl) (by kernel_rfl)
    | 4, _ => exact exo_ofK (by kernel_rfl) (by kernel_rfl)
    | 5, _ => exact exo_ofK (by kernel_rfl) (by kernel_rfl)
    | 6, _ => exact exo_ofK (by kernel_rfl) (by kernel_rfl)
    | 7, _ => exact exo_ofK (by kernel_rfl) (by kernel_rfl)
    | 8, _ => exact exo_ofK (by kernel_rfl) (by kernel_rfl)
    | 9, _ => exact exo_ofK (by kernel_rfl) (by kernel_rfl)
    | 10, _ => exact exo_ofK (by kernel_rfl) (by kernel_rfl)
    | 11, _ => exact exo_ofK (by kernel_rfl) (by kernel_rfl)
    | 12, _ => exact exo_ofK (by kernel_rfl) (by kernel_rfl)
    | 13, _ => exact exo_ofK (by kernel_rfl) (by kernel_rfl)
    | 14, _ => exact exo_ofK (by kernel_rfl) (by kernel_rfl)
    | 15, _ => exact exo_ofK (by kernel_rfl) (by kernel_rfl)
    | 16, _ => exact exo_ofK (by kernel_rfl) (by kernel_rfl)
    | n + 17, h => exact absurd h (Nat.not_lt.mpr (Nat.le_add_left 17 n))
  case hF =>
    match i, hi with
    | 0, _ => exact ⟨_, fun_ofK (by kernel_rfl) (by kernel_rfl) (by kernel_rfl)⟩
    | 1, _ => exact ⟨_, fun_ofK (by kernel_rfl) (by kernel_rfl) (by kernel_rfl)⟩
    | 2, _ => exact ⟨_, fun_ofK (by kernel_rfl) (by kernel_rfl) (by kernel_rfl)⟩
    | 3, _ => exact ⟨_, fun_ofK (by kernel_rfl) (by kernel_rfl) (by kernel_rfl)⟩
    | 4, _ => exact ⟨_, fun_ofK (by kernel_rfl) (by kernel_rfl) (by kernel_rfl)⟩
    | 5, _ => exact ⟨_, fun_ofK (by kernel_rfl) (by kernel_rfl) (by kernel_rfl)⟩
    | 6, _ => exact ⟨_, fun_ofK (by kernel_rfl) (by kernel_rfl) (by kernel_rfl)⟩
    | 7, _ => exact ⟨_, fun_ofK (by kernel_rfl) (by kernel_rfl) (by kernel_rfl)⟩
    | 8, _ => exact ⟨_, fun_ofK (by kernel_rfl) (by kernel_rfl) (by kernel_rfl)⟩
    | n + 9, h => exact absurd h (Nat.not_lt.mpr (Nat.le_add_left 9 n))
  case i_NoNumber => exact ⟨_, fun_ofK (by kernel_rfl) (by kernel_rfl) (by kernel_rfl)⟩
  case i_NoNet => exact ⟨_, fun_ofK (by kernel_rfl) (by kernel_rfl) (by kernel_rfl)⟩
  case i_NoNode => exact ⟨_, fun_ofK (by kernel_rfl) (by kernel_rfl) (by kernel_rfl)⟩
  case i_NoWire => exact ⟨_, fun_ofK (by kernel_rfl) (by kernel_rfl) (by kernel_rfl)⟩
  case i_NoSpot => exact ⟨_, fun_ofK (by kernel_rfl) (by kernel_rfl) (by kernel_rfl)⟩
  case i_NoBox => exact ⟨_, fun_ofK (by kernel_rfl) (by kernel_rfl) (by kernel_rfl)⟩
  case i_NoWish => exact ⟨_, fun_ofK (by kernel_rfl) (by kernel_rfl) (by kernel_rfl)⟩
  case i_NoAim => exact ⟨_, fun_ofK (by kernel_rfl) (by kernel_rfl) (by kernel_rfl)⟩
  case i_NoOut => exact ⟨_, fun_ofK (by kernel_rfl) (by kernel_rfl) (by kernel_rfl)⟩
  case i_NoPattern => exact ⟨_, fun_ofK (by kernel_rfl) (by kernel_rfl) (by kernel_rfl)⟩
  case i_NoFit => exact ⟨_, fun_ofK (by kernel_rfl) (by kernel_rfl) (by kernel_rfl)⟩
  case i_NoTree => exact ⟨_, fun_ofK (by kernel_rfl) (by kernel_rfl) (by kernel_rfl)⟩
  case i_NoName => exact ⟨_, fun_ofK (by kernel_rfl) (by kernel_rfl) (by kernel_rfl)⟩
  case i_NoText => exact ⟨_, fun_ofK (by kernel_rfl) (by kernel_rfl) (by kernel_rfl)⟩
  case i_Large => exact ⟨_, fun_ofK (by kernel_rfl) (by kernel_rfl) (by kernel_rfl)⟩
  case i_NoLine => exact ⟨_, fun_ofK (by kernel_rfl) (by kernel_rfl) (by kernel_rfl)⟩
