import PyProof.Rows.All
import Wide.All
import OpenK.AllK
import Wide.FinOn
import KE.KStateDown
import HandS.ForMost
import HandS.ForExc
import HandS.Defaults
import HandS.Wide
import HandS.Gcd
import HandS.Style
import HandS.TupAny
import HandS.TupMul
import HandS.IsInst
import HandS.Deep
import HandS.NoneIn
import HandS.CallSlots
import HandS.ExcOwn
import HandS.TryMany
import HandS.ExcInit
import HandS.ExcField
import HandS.Flow
import HandS.EndBits
import HandS.HeadEnd
import HandS.Head0
import HandS.Head1
import HandS.Head2
import HandS.HeadHook1
import HandS.HeadHook2
import PySem.Challenge.RW_tautparcel_k01_whole_ratios_in_lowest_te
import HandS.Head3
import HandS.ExcCtx
import HandS.Property
import HandS.HeadNt
set_option Elab.async false
set_option linter.all false
set_option maxRecDepth 100000
set_option maxHeartbeats 4000000
namespace Ev
open PySem PySem.Spec PyProof.Rows L2

/-! ### data, by value -/
inductive D where
  | non | bl (b : Bool) | int (i : Int) | str (s : Str) | tup (xs : List D) | lst (xs : List D) | fl (xs : List D)
  | ins (c : Str) (ns : List Str) (xs : List D)

/-- what a slot holds -/
inductive Ent where
  | un | val (d : D) | mu (xs : List D) | exn (c : Str) (ns : List Str) (xs : List D)
abbrev Sto := List Ent
inductive Res (α : Type) where
  | ok (a : α) (e : Sto) | err (c : Str) (ns : List Str) (xs : List D) (e : Sto) | bad
def Res.bind {α β : Type} (r : Res α) (k : α → Sto → Res β) : Res β := match r with
  | .ok a e => k a e
  | .err c ns xs e => .err c ns xs e
  | .bad => .bad
@[simp] theorem Res.bind_ok {α β : Type} (a : α) (e : Sto) (k : α → Sto → Res β) : (Res.ok a e).bind k = k a e := rfl
@[simp] theorem Res.bind_err {α β : Type} (c : Str) (ns : List Str) (xs : List D) (e : Sto) (k : α → Sto → Res β) : (Res.err c ns xs e : Res α).bind k = .err c ns xs e := rfl
@[simp] theorem Res.bind_bad {α β : Type} (k : α → Sto → Res β) : (Res.bad : Res α).bind k = .bad := rfl

/-- where one stands: the written part, the module's names, the exception at hand (its address, its dict), the slots that others watch -/
structure Wd where
  K : PySem.W.Frag
  mg : Str → Option Value
  F : Addr × Value × Option Addr
  R : List Nat

mutual
def Rep (Γ : Wd) (B : Hp) : D → V → Prop
  | .non, v => v = .non
  | .bl b, v => v = .bl b
  | .int i, v => v = .int i
  | .str s, v => v = .str s
  | .tup xs, v => ∃ a vs, v = .ref a ∧ SqT Γ.K B a vs ∧ Reps Γ B xs vs
  | .lst xs, v => ∃ a vs, v = .ref a ∧ B a = some (.lst vs) ∧ Reps Γ B xs vs
  | .fl xs, v => ∃ a vs, v = .ref a ∧ SqL Γ.K B a vs ∧ Reps Γ B xs vs
  | .ins c ns xs, v => ∃ a dx C vs, v = .ref a ∧ Γ.mg c = some (.ref C) ∧ B a = some (.ins C dx (ns.zip vs)) ∧ ns.length = vs.length ∧ Reps Γ B xs vs
def Reps (Γ : Wd) (B : Hp) : List D → List V → Prop
  | [], vs => vs = []
  | d :: ds, vs => ∃ v r, vs = v :: r ∧ Rep Γ B d v ∧ Reps Γ B ds r
end

theorem sqT_mono {K : PySem.W.Frag} {H H' : Hp} {a : Addr} {xs : List V} (e : Same H H') : SqT K H a xs → SqT K H' a xs :=
  Or.imp_left fun held => held.imp (e _ _) fun ⟨o, fixed⟩ => ⟨o, e _ _ fixed⟩
mutual
theorem Rep.mono {Γ : Wd} {B B' : Hp} (e : Same B B') : ∀ (d : D) (v : V), Rep Γ B d v → Rep Γ B' d v
  | .non, v, h => h
  | .bl b, v, h => h
  | .int i, v, h => h
  | .str s, v, h => h
  | .tup xs, v, h => by
    obtain ⟨a, vs, e1, e2, e3⟩ := h
    exact ⟨a, vs, e1, sqT_mono e e2, Reps.mono e xs vs e3⟩
  | .lst xs, v, h => by
    obtain ⟨a, vs, e1, e2, e3⟩ := h
    exact ⟨a, vs, e1, e _ _ e2, Reps.mono e xs vs e3⟩
  | .fl xs, v, h => by
    obtain ⟨a, vs, e1, e2, e3⟩ := h
    exact ⟨a, vs, e1, e.seq e2, Reps.mono e xs vs e3⟩
  | .ins c ns xs, v, h => by
    obtain ⟨a, dx, C, vs, e1, e2, e3, e4, e5⟩ := h
    exact ⟨a, dx, C, vs, e1, e2, e _ _ e3, e4, Reps.mono e xs vs e5⟩
theorem Reps.mono {Γ : Wd} {B B' : Hp} (e : Same B B') : ∀ (ds : List D) (vs : List V), Reps Γ B ds vs → Reps Γ B' ds vs
  | [], vs, h => h
  | d :: ds, vs, h => by
    obtain ⟨v, r, e1, e2, e3⟩ := h
    exact ⟨v, r, e1, Rep.mono e d v e2, Reps.mono e ds r e3⟩
end
theorem Reps.length {Γ : Wd} {B : Hp} : ∀ {ds : List D} {vs : List V}, Reps Γ B ds vs → ds.length = vs.length
  | [], vs, h => by
    have h' : vs = [] := h
    rw [h']
    rfl
  | d :: ds, vs, h => by
    obtain ⟨v, r, e1, e2, e3⟩ := h
    rw [e1, List.length_cons, List.length_cons, Reps.length e3]
theorem Reps.get {Γ : Wd} {B : Hp} : ∀ {ds : List D} {vs : List V} {i : Nat} {d : D}, Reps Γ B ds vs → ds[i]? = some d → ∃ v, vs[i]? = some v ∧ Rep Γ B d v
  | [], vs, i, d, h, q => by simp at q
  | d :: ds, vs, 0, d', h, q => by
    obtain ⟨v, r, e1, e2, e3⟩ := h
    have e : d = d' := by simpa using q
    subst e
    exact ⟨v, by rw [e1]; rfl, e2⟩
  | d :: ds, vs, i + 1, d', h, q => by
    obtain ⟨v, r, e1, e2, e3⟩ := h
    obtain ⟨w, h1, h2⟩ := Reps.get (i := i) e3 (by simpa using q)
    exact ⟨w, by rw [e1]; simpa using h1, h2⟩
theorem Reps.get' {Γ : Wd} {B : Hp} : ∀ {ds : List D} {vs : List V} {i : Nat} {v : V}, Reps Γ B ds vs → vs[i]? = some v → ∃ d, ds[i]? = some d ∧ Rep Γ B d v
  | [], vs, i, d, h, q => by
    have h' : vs = [] := h
    rw [h'] at q
    simp at q
  | d :: ds, vs, 0, d', h, q => by
    obtain ⟨v, r, e1, e2, e3⟩ := h
    rw [e1] at q
    have e : v = d' := by simpa using q
    subst e
    exact ⟨d, rfl, e2⟩
  | d :: ds, vs, i + 1, d', h, q => by
    obtain ⟨v, r, e1, e2, e3⟩ := h
    rw [e1] at q
    obtain ⟨w, h1, h2⟩ := Reps.get' (i := i) e3 (by simpa using q)
    exact ⟨w, by simpa using h1, h2⟩
theorem Reps.append {Γ : Wd} {B : Hp} : ∀ {ds es : List D} {vs ws : List V}, Reps Γ B ds vs → Reps Γ B es ws → Reps Γ B (ds ++ es) (vs ++ ws)
  | [], es, vs, ws, h, k => by
    have h' : vs = [] := h
    rw [h']
    exact k
  | d :: ds, es, vs, ws, h, k => by
    obtain ⟨v, r, e1, e2, e3⟩ := h
    exact ⟨v, r ++ ws, by rw [e1]; rfl, e2, Reps.append e3 k⟩
theorem Reps.one {Γ : Wd} {B : Hp} {d : D} {v : V} (h : Rep Γ B d v) : Reps Γ B [d] [v] := ⟨v, [], rfl, h, rfl⟩
theorem Reps.set {Γ : Wd} {B : Hp} {d : D} {v : V} (h : Rep Γ B d v) : ∀ {ds : List D} {vs : List V} (i : Nat), Reps Γ B ds vs → Reps Γ B (ds.set i d) (vs.set i v)
  | [], vs, i, k => by
    have k' : vs = [] := k
    rw [k']
    rfl
  | e :: ds, vs, 0, k => by
    obtain ⟨w, r, e1, e2, e3⟩ := k
    exact ⟨v, r, by rw [e1]; rfl, h, e3⟩
  | e :: ds, vs, i + 1, k => by
    obtain ⟨w, r, e1, e2, e3⟩ := k
    exact ⟨w, r.set i v, by rw [e1]; rfl, e2, Reps.set h i e3⟩
theorem Reps.take {Γ : Wd} {B : Hp} : ∀ {ds : List D} {vs : List V} (n : Nat), Reps Γ B ds vs → Reps Γ B (ds.take n) (vs.take n)
  | ds, vs, 0, _ => by simp; rfl
  | [], vs, n + 1, k => by
    have k' : vs = [] := k
    rw [k']
    simp; rfl
  | e :: ds, vs, n + 1, k => by
    obtain ⟨w, r, e1, e2, e3⟩ := k
    exact ⟨w, r.take n, by rw [e1]; rfl, e2, Reps.take n e3⟩
theorem Reps.drop {Γ : Wd} {B : Hp} : ∀ {ds : List D} {vs : List V} (n : Nat), Reps Γ B ds vs → Reps Γ B (ds.drop n) (vs.drop n)
  | ds, vs, 0, h => h
  | [], vs, n + 1, k => by
    have k' : vs = [] := k
    rw [k']
    simp; rfl
  | e :: ds, vs, n + 1, k => by
    obtain ⟨w, r, e1, e2, e3⟩ := k
    rw [e1]
    exact Reps.drop n e3

/-! ### the state -/
def EntOk (Γ : Wd) (B H : Hp) : Ent → Option V → Prop
  | .un, _ => True
  | .val d, o => ∃ v, o = some v ∧ Rep Γ B d v
  | .mu xs, o => ∃ p vs, o = some (.ref p) ∧ B p = none ∧ H p = some (.lst vs) ∧ Reps Γ B xs vs
  | .exn c ns xs, o => ∃ dd vs, o = some (.ref Γ.F.1) ∧ (Γ.F.2.2 = some dd ∧ ∃ C, Γ.mg c = some (.ref C) ∧ Γ.F.2.1 = .ref C) ∧ H dd = some (.xd (ns.zip vs)) ∧ ns.length = vs.length ∧ Reps Γ B xs vs
def Own (env : Sto) (σ : L2.St) (p : Addr) : Prop := ∃ (i : Nat) (xs : List D), env[i]? = some (.mu xs) ∧ σ[i]? = some (some (.ref p))
structure StOk (Γ : Wd) (env : Sto) (σ : L2.St) (B H : Hp) : Prop where
  same : Same B H
  len : env.length = σ.length
  ent : ∀ (i : Nat) (e : Ent) (o : Option V), env[i]? = some e → σ[i]? = some o → EntOk Γ B H e o
  dis : ∀ (i j : Nat) (xs ys : List D) (p : Addr), env[i]? = some (.mu xs) → env[j]? = some (.mu ys) → σ[i]? = some (some (.ref p)) → σ[j]? = some (some (.ref p)) → i = j
structure Ext (Γ : Wd) (env : Sto) (σ : L2.St) (B H : Hp) (env' : Sto) (σ' : L2.St) (B' H' : Hp) : Prop where
  b : Same B B'
  t : ∀ p, H p ≠ none → H' p ≠ none
  f : ∀ p o, H p = some o → ¬ Own env σ p → H' p = some o ∧ (B p = none → B' p = none) ∧ ¬ Own env' σ' p
  r : ∀ i ∈ Γ.R, σ'[i]? = σ[i]? ∧ ∀ xs p, env[i]? = some (.mu xs) → σ[i]? = some (some (.ref p)) → (∃ ys, env'[i]? = some (.mu ys)) ∨ B' p ≠ none
section
variable {Γ : Wd} {env env' env2 : Sto} {σ σ' σ2 : L2.St} {B H B' H' B2 H2 : Hp}
theorem Ext.refl : Ext Γ env σ B H env σ B H := ⟨Same.refl _, fun _ h => h, fun p o h n => ⟨h, fun q => q, n⟩, fun i _ => ⟨rfl, fun xs p e _ => .inl ⟨xs, e⟩⟩⟩
theorem Ext.trans (a : Ext Γ env σ B H env' σ' B' H') (c : Ext Γ env' σ' B' H' env2 σ2 B2 H2) : Ext Γ env σ B H env2 σ2 B2 H2 where
  b := a.b.trans c.b
  t := fun p h => c.t p (a.t p h)
  f := fun p o h n => by
    obtain ⟨h1, h2, h3⟩ := a.f p o h n
    obtain ⟨k1, k2, k3⟩ := c.f p o h1 h3
    exact ⟨k1, fun q => k2 (h2 q), k3⟩
  r := fun i hi => by
    obtain ⟨h1, h2⟩ := a.r i hi
    obtain ⟨k1, k2⟩ := c.r i hi
    refine ⟨k1.trans h1, fun xs p e1 e2 => ?_⟩
    rcases h2 xs p e1 e2 with ⟨ys, q⟩ | q
    · exact k2 ys p q (h1.trans e2)
    · refine .inr fun z => q ?_
      cases e : B' p with
      | none => rfl
      | some o =>
        have := c.b p o e
        rw [z] at this
        cases this
theorem EntOk.up {e : Ent} {o : Option V} (sb : Same B B') (hm : ∀ xs p, e = .mu xs → o = some (.ref p) → B' p = none) (sh : Same H H') (h : EntOk Γ B H e o) : EntOk Γ B' H' e o := by
  cases e with
  | un => trivial
  | val d =>
    obtain ⟨v, e1, e2⟩ := h
    exact ⟨v, e1, Rep.mono sb d v e2⟩
  | mu xs =>
    obtain ⟨p, vs, e1, e2, e3, e4⟩ := h
    exact ⟨p, vs, e1, hm xs p rfl e1, sh _ _ e3, Reps.mono sb xs vs e4⟩
  | exn c ns xs =>
    obtain ⟨dd, vs, e1, e2, e3, e4, e5⟩ := h
    exact ⟨dd, vs, e1, e2, sh _ _ e3, e4, Reps.mono sb xs vs e5⟩
/-- the heap grew -/
theorem StOk.grow (s : StOk Γ env σ B H) (sb : Same B B') (sh : Same H H') (sbh : Same B' H') (ho : ∀ p, Own env σ p → B' p = none) : StOk Γ env σ B' H' :=
  ⟨sbh, s.len, fun i e o h1 h2 => (s.ent i e o h1 h2).up sb (fun xs p e1 e2 => ho p ⟨i, xs, by rw [h1, e1], by rw [h2, e2]⟩) sh, s.dis⟩
theorem Ext.grow (sb : Same B B') (sh : Same H H') (hn : ∀ p o, H p = some o → B p = none → B' p = none) : Ext Γ env σ B H env σ B' H' :=
  ⟨sb, fun p h z => h (sh.free z), fun p o h n => ⟨sh p o h, hn p o h, n⟩, fun i _ => ⟨rfl, fun xs p e _ => .inl ⟨xs, e⟩⟩⟩
theorem StOk.own_none (s : StOk Γ env σ B H) {p : Addr} (h : Own env σ p) : B p = none ∧ ∃ vs, H p = some (.lst vs) := by
  obtain ⟨i, xs, e1, e2⟩ := h
  obtain ⟨q, vs, h1, h2, h3, _⟩ := s.ent i _ _ e1 e2
  cases h1
  exact ⟨h2, vs, h3⟩
theorem StOk.own_tracked (s : StOk Γ env σ B H) {p : Addr} (h : Own env σ p) : H p ≠ none := by
  obtain ⟨_, vs, e⟩ := s.own_none h
  rw [e]
  exact fun z => nomatch z
theorem StOk.fresh_own (s : StOk Γ env σ B H) {p : Addr} (h : H p = none) : ¬ Own env σ p := fun z => s.own_tracked z h
theorem StOk.bfresh (s : StOk Γ env σ B H) {p : Addr} (h : H p = none) : B p = none := s.same.free h
theorem same_upd {H : Hp} {p : Addr} {o : HO} (h : H p = none) : Same H (upd H p o) := fun b x e => by
  rw [upd_ne (ne_of_none e h)]
  exact e
theorem same_upd2 {B H : Hp} {p : Addr} {o : HO} (s : Same B H) : Same (upd B p o) (upd H p o) := fun b x e => by
  by_cases hb : b = p
  · subst hb
    rw [upd_same] at e ⊢
    exact e
  · rw [upd_ne hb] at e ⊢
    exact s b x e
/-- a new thing, frozen -/
theorem StOk.new (s : StOk Γ env σ B H) {p : Addr} {o : HO} (h : H p = none) : StOk Γ env σ (upd B p o) (upd H p o) :=
  s.grow (same_upd (s.bfresh h)) (same_upd h) (same_upd2 s.same) fun q hq => by
    rw [upd_ne]
    · exact (s.own_none hq).1
    · rintro rfl
      exact s.own_tracked hq h
theorem Ext.new (s : StOk Γ env σ B H) {p : Addr} {o : HO} (h : H p = none) : Ext Γ env σ B H env σ (upd B p o) (upd H p o) :=
  Ext.grow (same_upd (s.bfresh h)) (same_upd h) fun q u hq hb => by
    rw [upd_ne (ne_of_none hq h)]
    exact hb
/-- a new thing that is not frozen -/
theorem StOk.newM (s : StOk Γ env σ B H) {p : Addr} {o : HO} (h : H p = none) : StOk Γ env σ B (upd H p o) :=
  s.grow (Same.refl _) (same_upd h) (s.same.trans (same_upd h)) fun q hq => (s.own_none hq).1
theorem Ext.newM {p : Addr} {o : HO} (h : H p = none) : Ext Γ env σ B H env σ B (upd H p o) :=
  Ext.grow (Same.refl _) (same_upd h) fun q u hq hb => hb
/-- a tracked thing is frozen -/
theorem same_frz {B H : Hp} {p : Addr} {o : HO} (s : Same B H) (h : H p = some o) : Same (upd B p o) H := fun b x e => by
  by_cases hb : b = p
  · subst hb
    rw [upd_same] at e
    rw [h]
    exact e
  · rw [upd_ne hb] at e
    exact s b x e
theorem StOk.frz (s : StOk Γ env σ B H) {p : Addr} {o : HO} (hb : B p = none) (h : H p = some o) (ho : ¬ Own env σ p) : StOk Γ env σ (upd B p o) H :=
  s.grow (same_upd hb) (Same.refl _) (same_frz s.same h) fun q hq => by
    rw [upd_ne]
    · exact (s.own_none hq).1
    · rintro rfl
      exact ho hq
/-- what a thing that is raised bears -/
def XnOk (Γ : Wd) (B H : Hp) (c : Str) (ns : List Str) (xs : List D) (cls : Value) (d : Option Addr) : Prop :=
  ∃ C dd vs, Γ.mg c = some (.ref C) ∧ cls = .ref C ∧ d = some dd ∧ H dd = some (.xd (ns.zip vs)) ∧ ns.length = vs.length ∧ Reps Γ B xs vs

/-- what is wanted behind an expression -/
def Post {α : Type} (Γ : Wd) (W : WX) (env : Sto) (σ : L2.St) (B H : Hp) (Φ : α → Sto → Hp → Hp → Prop) : Res α → Prop
  | .ok a env' => ∀ B' H', StOk Γ env' σ B' H' → Ext Γ env σ B H env' σ B' H' → Φ a env' B' H'
  | .err c ns xs env' => ∀ cls d B' H', StOk Γ env' σ B' H' → Ext Γ env σ B H env' σ B' H' → XnOk Γ B' H' c ns xs cls d → W cls d σ H'
  | .bad => False
theorem Post.bind {α β : Type} {W : WX} {Φ : β → Sto → Hp → Hp → Prop} {r : Res α} {k : α → Sto → Res β} (h : Post Γ W env σ B H Φ (r.bind k)) :
    Post Γ W env σ B H (fun a env' B' H' => Post Γ W env' σ B' H' Φ (k a env')) r := by
  cases r with
  | ok a e =>
    intro B' H' s x
    cases hk : k a e with
    | ok b e2 =>
      rw [Res.bind_ok, hk] at h
      exact fun B2 H2 s2 x2 => h B2 H2 s2 (x.trans x2)
    | err c ns xs e2 =>
      rw [Res.bind_ok, hk] at h
      exact fun cls d B2 H2 s2 x2 => h cls d B2 H2 s2 (x.trans x2)
    | bad =>
      rw [Res.bind_ok, hk] at h
      exact h.elim
  | err c ns xs e => exact h
  | bad => exact h
theorem Post.mono {α : Type} {W : WX} {Φ Ψ : α → Sto → Hp → Hp → Prop} {r : Res α} (h : Post Γ W env σ B H Φ r) (i : ∀ a env' B' H', StOk Γ env' σ B' H' → Ext Γ env σ B H env' σ B' H' → Φ a env' B' H' → Ψ a env' B' H') : Post Γ W env σ B H Ψ r := by
  cases r with
  | ok a e => exact fun B' H' s x => i a e B' H' s x (h B' H' s x)
  | err c ns xs e => exact h
  | bad => exact h
theorem Post.here {α : Type} {W : WX} {Φ : α → Sto → Hp → Hp → Prop} {a : α} (s : StOk Γ env σ B H) (h : Post Γ W env σ B H Φ (.ok a env)) : Φ a env B H := h B H s Ext.refl
end

/-! ### readings -/
abbrev DenV := Sto → Res D
abbrev DenT := Sto → Res Bool
abbrev DenF := Sto → Res Ent
def tV (Γ : Wd) (W : WX) (f : DenV) : TE := fun σ H Q => ∃ env B, StOk Γ env σ B H ∧ Post Γ W env σ B H (fun d _ B' H' => ∀ v, Rep Γ B' d v → Q v H') (f env)
def tT (Γ : Wd) (W : WX) (f : DenT) : TT := fun σ H Q => ∃ env B, StOk Γ env σ B H ∧ Post Γ W env σ B H (fun b _ _ H' => Q b H') (f env)
/-- a list that may be handed over: new, or of a slot that nobody watches -/
def FreeR (Γ : Wd) (env : Sto) (σ : L2.St) (H : Hp) (p : Addr) : Prop := H p = none ∨ ∃ (i : Nat) (xs : List D), i ∉ Γ.R ∧ env[i]? = some (.mu xs) ∧ σ[i]? = some (some (.ref p))
theorem FreeR.back {Γ : Wd} {env env1 : Sto} {σ σ1 : L2.St} {B H B1 H1 : Hp} {p : Addr} (s1 : StOk Γ env1 σ1 B1 H1) (x : Ext Γ env σ B H env1 σ1 B1 H1) (h : FreeR Γ env1 σ1 H1 p) : FreeR Γ env σ H p := by
  by_cases e : H p = none
  · exact .inl e
  · rcases h with h | ⟨i, xs, hi, e1, e2⟩
    · exact absurd h (x.t p e)
    · by_cases o : Own env σ p
      · obtain ⟨j, ys, k1, k2⟩ := o
        by_cases hj : j ∈ Γ.R
        · obtain ⟨r1, r2⟩ := x.r j hj
          rcases r2 ys p k1 k2 with ⟨zs, q⟩ | q
          · exact absurd (s1.dis i j xs zs p e1 q e2 (r1.trans k2)) (fun z => hi (z ▸ hj))
          · exact absurd (s1.own_none ⟨i, xs, e1, e2⟩).1 q
        · exact .inr ⟨j, ys, hj, k1, k2⟩
      · cases hp : H p with
        | none => exact absurd hp e
        | some u => exact absurd ⟨i, xs, e1, e2⟩ (x.f p u hp o).2.2
theorem FreeR.ne {Γ : Wd} {env : Sto} {σ : L2.St} {H : Hp} {p q : Addr} {o : HO} (h : FreeR Γ env σ H p) (hq : H q = some o) (n : ¬ Own env σ q) : q ≠ p := by
  rintro rfl
  rcases h with h | ⟨i, xs, hi, e1, e2⟩
  · rw [h] at hq; cases hq
  · exact n ⟨i, xs, e1, e2⟩
def RetOk (Γ : Wd) (P : Addr → Prop) (env' : Sto) (σ' : L2.St) (B' H' : Hp) : Ent → V → Prop
  | .val d, v => Rep Γ B' d v
  | .mu xs, v => ∃ p vs, v = .ref p ∧ P p ∧ B' p = none ∧ H' p = some (.lst vs) ∧ Reps Γ B' xs vs ∧ ¬ Own env' σ' p
  | _, _ => False
def tF (Γ : Wd) (W : WX) (f : DenF) : TE := fun σ H Q => ∃ env B, StOk Γ env σ B H ∧ Post Γ W env σ B H (fun r env' B' H' => ∀ v, RetOk Γ (FreeR Γ env σ H) env' σ B' H' r v → Q v H') (f env)
abbrev SV (X : Cx) (Γ : Wd) (W : WX) (e : Expr) (f : DenV) : Prop := PE X e (tV Γ W f)
abbrev ST (X : Cx) (Γ : Wd) (W : WX) (e : Expr) (f : DenT) : Prop := PT X e (tT Γ W f)
abbrev SF (X : Cx) (Γ : Wd) (W : WX) (e : Expr) (f : DenF) : Prop := PE X e (tF Γ W f)
section
variable {X : Cx} {e : Expr}
theorem imE {t t' : TE} (h : PE X e t) (i : ∀ σ H Q, t' σ H Q → t σ H Q) : PE X e t' := ⟨fun pins s σ H Q I q => h.run pins s σ H Q I (i σ H Q q)⟩
theorem imT {t t' : TT} (h : PT X e t) (i : ∀ σ H Q, t' σ H Q → t σ H Q) : PT X e t' := ⟨fun pins s σ H Q I q => h.run pins s σ H Q I (i σ H Q q)⟩
theorem imW {t t' : TT} (h : PW X e t) (i : ∀ σ H Q, t' σ H Q → t σ H Q) : PW X e t' := ⟨fun wh pins s σ H Q I q => h.run wh pins s σ H Q I (i σ H Q q)⟩
theorem imS {st : Stmt} {t t' : TS} (h : PS X st t) (i : ∀ Q σ H, t' Q σ H → t Q σ H) : PS X st t' := ⟨fun pins s σ H Q I q => h.run pins s σ H Q I (i Q σ H q)⟩
theorem imSs {st : List Stmt} {t t' : TS} (h : PSs X st t) (i : ∀ Q σ H, t' Q σ H → t Q σ H) : PSs X st t' := ⟨fun pins s σ H Q I q => h.run pins s σ H Q I (i Q σ H q)⟩
end
/-- a thing as data -/
def Ent.dat : Ent → Option D
  | .val d => some d
  | .mu xs => some (.lst xs)
  | _ => none
def frzE (r : Ent) (e : Sto) : Res D := match r with
  | .val d => .ok d e
  | .mu xs => .ok (.lst xs) e
  | _ => .bad
def dFrz (f : DenF) : DenV := fun env => (f env).bind frzE
def dVal (f : DenV) : DenF := fun env => (f env).bind fun d e => .ok (.val d) e
section
variable {X : Cx} {Γ : Wd} {W : WX} {e : Expr}
theorem Ext.frz {env env' : Sto} {σ σ' : L2.St} {B H B' H' : Hp} {a : Addr} {o : HO} (x : Ext Γ env σ B H env' σ' B' H') (h0 : FreeR Γ env σ H a) (h1 : B' a = none) : Ext Γ env σ B H env' σ' (upd B' a o) H' where
  b := x.b.trans (same_upd h1)
  t := x.t
  f := fun p u hp n => by
    obtain ⟨k1, k2, k3⟩ := x.f p u hp n
    exact ⟨k1, fun q => by rw [upd_ne (h0.ne hp n)]; exact k2 q, k3⟩
  r := fun i hi => by
    obtain ⟨k1, k2⟩ := x.r i hi
    refine ⟨k1, fun xs p e1 e2 => ?_⟩
    rcases k2 xs p e1 e2 with q | q
    · exact .inl q
    · refine .inr fun z => q ?_
      cases e : B' p with
      | none => rfl
      | some u =>
        have := same_upd (o := o) h1 p u e
        rw [z] at this
        cases this
/-- a fresh list goes where it may be read by all -/
theorem sFrz {f : DenF} (h : SF X Γ W e f) : SV X Γ W e (dFrz f) := imE h fun σ H Q ⟨env, B, s, p⟩ => by
  refine ⟨env, B, s, ?_⟩
  have p' : Post Γ W env σ B H (fun d _ B' H' => ∀ v, Rep Γ B' d v → Q v H') ((f env).bind frzE) := p
  cases hf : f env with
  | bad =>
    rw [hf] at p'
    exact p'
  | err c ns xs env' =>
    rw [hf] at p'
    exact p'
  | ok r env' =>
    rw [hf] at p'
    intro B' H' s' x v hv
    cases r with
    | val d => exact p' B' H' s' x v hv
    | mu xs =>
      obtain ⟨a, vs, rfl, h0, h1, h2, h3, h4⟩ := hv
      exact p' (upd B' a (.lst vs)) H' (s'.frz h1 h2 h4) (x.frz h0 h1) _ ⟨a, vs, rfl, upd_same, Reps.mono (same_upd h1) xs vs h3⟩
    | un => exact hv.elim
    | exn c ns xs => exact hv.elim
theorem sVal {f : DenV} (h : SV X Γ W e f) : SF X Γ W e (dVal f) := imE h fun σ H Q ⟨env, B, s, p⟩ =>
  ⟨env, B, s, p.bind.mono fun d env' B' H' s' x q v hv => Post.here s' q v hv⟩
end
end Ev
set_option Elab.async false
set_option linter.all false
set_option maxRecDepth 100000
set_option maxHeartbeats 4000000
namespace Ev
open PySem PySem.Spec PyProof.Rows L2

/-! ### == of data -/
mutual
def D.py : D → PyData
  | .non => .none
  | .bl b => .bool b
  | .int i => .int i
  | .str s => .str s
  | .tup xs => .tuple (pys xs)
  | .lst xs => .list (pys xs)
  | .fl xs => .list (pys xs)
  | .ins _ _ _ => .dict []
def pys : List D → List PyData
  | [] => []
  | d :: ds => d.py :: pys ds
end
def deq (a b : D) : Bool := PyData.eqv a.py b.py
def deqs (a b : List D) : Bool := PyData.eqvAll (pys a) (pys b)
mutual
/-- no instance within, the texts sound, not deeper than n -/
def shp : Nat → D → Bool
  | _, .non => true
  | _, .bl _ => true
  | _, .int _ => true
  | _, .str s => PyData.strOk s
  | 0, .tup _ => false
  | 0, .lst _ => false
  | n + 1, .tup xs => shps n xs
  | n + 1, .lst xs => shps n xs
  | 0, .fl _ => false
  | n + 1, .fl xs => shps n xs
  | _, .ins _ _ _ => false
def shps : Nat → List D → Bool
  | _, [] => true
  | n, d :: ds => shp n d && shps n ds
end
mutual
theorem shp_ok : ∀ (n : Nat) (d : D), shp n d = true → d.py.canLay0 = true ∧ d.py.depth ≤ n
  | n, .non, _ => by simp [D.py, PyData.canLay0, PyData.depth]
  | n, .bl b, _ => by simp [D.py, PyData.canLay0, PyData.depth]
  | n, .int b, _ => by simp [D.py, PyData.canLay0, PyData.depth]
  | n, .str b, h => by
    have h' : PyData.strOk b = true := by simpa [shp] using h
    simp [D.py, PyData.canLay0, PyData.depth, h']
  | 0, .tup xs, h => by simp [shp] at h
  | 0, .lst xs, h => by simp [shp] at h
  | 0, .fl xs, h => by simp [shp] at h
  | n + 1, .tup xs, h => by
    have h' : shps n xs = true := by simpa [shp] using h
    obtain ⟨h1, h2⟩ := shps_ok n xs h'
    simp [D.py, PyData.canLay0, PyData.depth, h1, h2]
  | n + 1, .lst xs, h => by
    have h' : shps n xs = true := by simpa [shp] using h
    obtain ⟨h1, h2⟩ := shps_ok n xs h'
    simp [D.py, PyData.canLay0, PyData.depth, h1, h2]
  | n + 1, .fl xs, h => by
    have h' : shps n xs = true := by simpa [shp] using h
    obtain ⟨h1, h2⟩ := shps_ok n xs h'
    simp [D.py, PyData.canLay0, PyData.depth, h1, h2]
  | n, .ins _ _ _, h => by
    cases n <;> simp [shp] at h
theorem shps_ok : ∀ (n : Nat) (ds : List D), shps n ds = true → PyData.canLayAll0 (pys ds) = true ∧ PyData.depthAll (pys ds) ≤ n
  | n, [], _ => by simp [pys, PyData.canLayAll0, PyData.depthAll]
  | n, d :: ds, h => by
    have h' : shp n d = true ∧ shps n ds = true := by simpa [shps] using h
    obtain ⟨h1, h2⟩ := shp_ok n d h'.1
    obtain ⟨h3, h4⟩ := shps_ok n ds h'.2
    simp only [pys, PyData.canLayAll0, PyData.depthAll, h1, h3, Bool.and_self, true_and]
    omega
end
theorem shaped_of {d : D} (h : shp 64 d = true) : SeqAt.shaped d.py = true := by
  obtain ⟨h1, h2⟩ := shp_ok 64 d h
  unfold SeqAt.shaped
  rw [h1, decide_eq_true h2]
  rfl

def D.isN : D → Bool
  | .non => true
  | _ => false
/-! ### operands that are read at their use -/
inductive Ar where
  | s (i : Nat) | v (d : D)
def ArOk (Γ : Wd) (B : Hp) (σ : L2.St) : Ar → V → Prop
  | .s i, v => σ[i]? = some (some v)
  | .v d, v => Rep Γ B d v
theorem ArOk.mono {Γ : Wd} {B B' : Hp} {σ : L2.St} (e : Same B B') {a : Ar} {v : V} (h : ArOk Γ B σ a v) : ArOk Γ B' σ a v := by
  cases a with
  | s i => exact h
  | v d => exact Rep.mono e d v h
def Ar.get : Ar → Sto → Option D
  | .v d, _ => some d
  | .s i, env => match env[i]? with
    | some (.val d) => some d
    | some (.mu xs) => some (.lst xs)
    | _ => none
/-- a thing as it stands now: its parts are frozen, itself perhaps not -/
def RepT (Γ : Wd) (B H : Hp) (d : D) (v : V) : Prop := Rep Γ B d v ∨ ∃ xs p vs, d = .lst xs ∧ v = .ref p ∧ H p = some (.lst vs) ∧ Reps Γ B xs vs
section
variable {Γ : Wd} {W : WX} {env env' : Sto} {σ : L2.St} {B H B' H' : Hp} {v : V}
theorem Ar.now (s : StOk Γ env σ B H) {a : Ar} {d : D} (h : ArOk Γ B σ a v) (g : a.get env = some d) : RepT Γ B H d v := by
  cases a with
  | v d' =>
    have e : d' = d := Option.some.inj g
    subst e
    exact .inl h
  | s i =>
    have h' : σ[i]? = some (some v) := h
    have g' : (match env[i]? with | some (.val d) => some d | some (.mu xs) => some (.lst xs) | _ => none) = some d := g
    cases e : env[i]? with
    | none => rw [e] at g'; cases g'
    | some en =>
      rw [e] at g'
      have k := s.ent i en _ e h'
      cases en with
      | val d' =>
        have e2 : d' = d := Option.some.inj g'
        subst e2
        obtain ⟨w, e3, r⟩ := k
        cases e3
        exact .inl r
      | mu xs =>
        have e2 : D.lst xs = d := Option.some.inj g'
        subst e2
        obtain ⟨p, vs, e3, _, hp, r⟩ := k
        cases e3
        exact .inr ⟨xs, p, vs, rfl, rfl, hp, r⟩
      | un => cases g'
      | exn c ns xs => cases g'
theorem RepT.tup {xs : List D} (s : Same B H) (h : RepT Γ B H (.tup xs) v) : ∃ p vs, v = .ref p ∧ SqT Γ.K H p vs ∧ Reps Γ B xs vs := by
  rcases h with ⟨a, vs, e, q, r⟩ | ⟨ys, p, vs, e1, e2, q, r⟩
  · exact ⟨a, vs, e, sqT_mono s q, r⟩
  · cases e1
theorem RepT.lst {xs : List D} (s : Same B H) (h : RepT Γ B H (.lst xs) v) : ∃ p vs, v = .ref p ∧ H p = some (.lst vs) ∧ Reps Γ B xs vs := by
  rcases h with ⟨a, vs, e, q, r⟩ | ⟨ys, p, vs, e1, e2, q, r⟩
  · exact ⟨a, vs, e, s _ _ q, r⟩
  · cases e1
    exact ⟨p, vs, e2, q, r⟩
theorem RepT.fl {xs : List D} (s : Same B H) (h : RepT Γ B H (.fl xs) v) : ∃ p vs, v = .ref p ∧ SqL Γ.K H p vs ∧ Reps Γ B xs vs := by
  rcases h with ⟨a, vs, e, q, r⟩ | ⟨ys, p, vs, e1, e2, q, r⟩
  · exact ⟨a, vs, e, s.seq q, r⟩
  · cases e1
/-- the items of a list or tuple -/
def D.its : D → Option (List D)
  | .tup xs => some xs
  | .lst xs => some xs
  | .fl xs => some xs
  | _ => none
theorem RepT.seq {d : D} {xs : List D} (s : Same B H) (h : RepT Γ B H d v) (e : d.its = some xs) : ∃ p vs, v = .ref p ∧ (SqL Γ.K H p vs ∨ SqT Γ.K H p vs) ∧ Reps Γ B xs vs := by
  cases d with
  | tup ys =>
    cases e
    obtain ⟨p, vs, h1, h2, h3⟩ := h.tup s
    exact ⟨p, vs, h1, .inr h2, h3⟩
  | lst ys =>
    cases e
    obtain ⟨p, vs, h1, h2, h3⟩ := h.lst s
    exact ⟨p, vs, h1, .inl (.inl (.inl h2)), h3⟩
  | fl ys =>
    cases e
    obtain ⟨p, vs, h1, h2, h3⟩ := h.fl s
    exact ⟨p, vs, h1, .inl h2, h3⟩
  | _ => cases e
theorem RepT.int {i : Int} (h : RepT Γ B H (.int i) v) : v = .int i := by
  rcases h with h | ⟨ys, p, vs, e1, e2, q, r⟩
  · exact h
  · cases e1
theorem RepT.bl {i : Bool} (h : RepT Γ B H (.bl i) v) : v = .bl i := by
  rcases h with h | ⟨ys, p, vs, e1, e2, q, r⟩
  · exact h
  · cases e1
theorem RepT.str {i : Str} (h : RepT Γ B H (.str i) v) : v = .str i := by
  rcases h with h | ⟨ys, p, vs, e1, e2, q, r⟩
  · exact h
  · cases e1
theorem RepT.non (h : RepT Γ B H .non v) : v = .non := by
  rcases h with h | ⟨ys, p, vs, e1, e2, q, r⟩
  · exact h
  · cases e1
theorem RepT.none_iff {d : D} (h : RepT Γ B H d v) : decide (v = .non) = d.isN := by
  cases d with
  | non => rw [h.non]; rfl
  | bl b => rw [h.bl]; rfl
  | int b => rw [h.int]; rfl
  | str b => rw [h.str]; rfl
  | tup xs =>
    rcases h with ⟨a, vs, e, q, r⟩ | ⟨ys, p, vs, e1, e2, q, r⟩
    · rw [e]; rfl
    · rw [e2]; rfl
  | lst xs =>
    rcases h with ⟨a, vs, e, q, r⟩ | ⟨ys, p, vs, e1, e2, q, r⟩
    · rw [e]; rfl
    · rw [e2]; rfl
  | fl xs =>
    rcases h with ⟨a, vs, e, q, r⟩ | ⟨ys, p, vs, e1, e2, q, r⟩
    · rw [e]; rfl
    · rw [e2]; rfl
  | ins c ns xs =>
    rcases h with ⟨a, dx, C, vs, e, q⟩ | ⟨ys, p, vs, e1, e2, q, r⟩
    · rw [e]; rfl
    · rw [e2]; rfl
mutual
theorem Rep.dp : ∀ (n : Nat) (d : D) (v : V), shp n d = true → Rep Γ B d v → Dp Γ.K B v d.py
  | _, .non, v, _, h => by
    have h' : v = .non := h
    rw [h']; exact .non
  | _, .bl b, v, _, h => by
    have h' : v = .bl b := h
    rw [h']; exact .bl b
  | _, .int b, v, _, h => by
    have h' : v = .int b := h
    rw [h']; exact .int b
  | _, .str b, v, _, h => by
    have h' : v = .str b := h
    rw [h']; exact .str b
  | 0, .tup xs, v, q, h => by simp [shp] at q
  | 0, .lst xs, v, q, h => by simp [shp] at q
  | 0, .fl xs, v, q, h => by simp [shp] at q
  | n + 1, .tup xs, v, q, h => by
    obtain ⟨a, vs, e, k, r⟩ := h
    rw [e]
    exact .tup k (Reps.dp n xs vs (by simpa [shp] using q) r)
  | n + 1, .lst xs, v, q, h => by
    obtain ⟨a, vs, e, k, r⟩ := h
    rw [e]
    exact .lst (.inl (.inl k)) (Reps.dp n xs vs (by simpa [shp] using q) r)
  | n + 1, .fl xs, v, q, h => by
    obtain ⟨a, vs, e, k, r⟩ := h
    rw [e]
    exact .lst k (Reps.dp n xs vs (by simpa [shp] using q) r)
  | n, .ins _ _ _, v, q, h => by
    cases n <;> simp [shp] at q
theorem Reps.dp : ∀ (n : Nat) (ds : List D) (vs : List V), shps n ds = true → Reps Γ B ds vs → DpAll Γ.K B vs (pys ds)
  | n, [], vs, _, h => by
    have h' : vs = [] := h
    rw [h']; exact .nil
  | n, d :: ds, vs, q, h => by
    obtain ⟨v, r, e1, e2, e3⟩ := h
    have q' : shp n d = true ∧ shps n ds = true := by simpa [shps] using q
    rw [e1]
    exact .cons (Rep.dp n d v q'.1 e2) (Reps.dp n ds r q'.2 e3)
end
theorem RepT.dp {d : D} (s : Same B H) (q : shp 64 d = true) (h : RepT Γ B H d v) : Dp Γ.K H v d.py := by
  rcases h with h | ⟨xs, p, vs, rfl, rfl, hp, r⟩
  · exact Rep.dp 64 d v q (Rep.mono s d v h)
  · exact .lst (.inl (.inl hp)) (Reps.dp 63 xs vs (by simpa [shp] using q) (Reps.mono s xs vs r))
/-- what an operation may hand back -/
theorem Post.val {P0 : Addr → Prop} {Q : VK} {d : D} (s : StOk Γ env σ B H) (h : Post Γ W env σ B H (fun r env' B' H' => ∀ v, RetOk Γ P0 env' σ B' H' r v → Q v H') (.ok (.val d) env)) (r : Rep Γ B d v) : Q v H := Post.here s h v r
theorem Post.newT {P0 : Addr → Prop} {Q : VK} {xs : List D} {p : Addr} {vs : List V} (s : StOk Γ env σ B H) (h : Post Γ W env σ B H (fun r env' B' H' => ∀ v, RetOk Γ P0 env' σ B' H' r v → Q v H') (.ok (.val (.tup xs)) env)) (r : Reps Γ B xs vs) (hp : H p = none) : Q (.ref p) (upd H p (.tup vs)) :=
  h _ _ (s.new hp) (Ext.new s hp) _ ⟨p, vs, rfl, .inl (.inl upd_same), Reps.mono (same_upd (s.bfresh hp)) xs vs r⟩
theorem Post.newL {P0 : Addr → Prop} {Q : VK} {xs : List D} {p : Addr} {vs : List V} (h0 : ∀ p, H p = none → P0 p) (s : StOk Γ env σ B H) (h : Post Γ W env σ B H (fun r env' B' H' => ∀ v, RetOk Γ P0 env' σ B' H' r v → Q v H') (.ok (.mu xs) env)) (r : Reps Γ B xs vs) (hp : H p = none) : Q (.ref p) (upd H p (.lst vs)) :=
  h _ _ (s.newM hp) (Ext.newM hp) _ ⟨p, vs, rfl, h0 p hp, s.bfresh hp, upd_same, r, s.fresh_own hp⟩
theorem Ext.h0 {σ' : L2.St} (x : Ext Γ env σ B H env' σ' B' H') : ∀ p, H' p = none → H p = none := fun p h => by
  cases e : H p with
  | none => rfl
  | some o => exact absurd h (x.t p (by rw [e]; exact fun z => nomatch z))
end
abbrev DenL := Sto → Res Ar
abbrev DenA := Sto → Res (List Ar)
abbrev DenVs := Sto → Res (List D)
def ArsOk (Γ : Wd) (B : Hp) (σ : L2.St) : List Ar → List V → Prop
  | [], vs => vs = []
  | a :: as, vs => ∃ v r, vs = v :: r ∧ ArOk Γ B σ a v ∧ ArsOk Γ B σ as r
theorem ArsOk.mono {Γ : Wd} {B B' : Hp} {σ : L2.St} (e : Same B B') : ∀ {as : List Ar} {vs : List V}, ArsOk Γ B σ as vs → ArsOk Γ B' σ as vs
  | [], vs, h => h
  | a :: as, vs, h => by
    obtain ⟨v, r, e1, e2, e3⟩ := h
    exact ⟨v, r, e1, e2.mono e, ArsOk.mono e e3⟩
def tL (Γ : Wd) (W : WX) (f : DenL) : TE := fun σ H Q => ∃ env B, StOk Γ env σ B H ∧ Post Γ W env σ B H (fun a _ B' H' => ∀ v, ArOk Γ B' σ a v → Q v H') (f env)
def tAr (Γ : Wd) (W : WX) (f : DenA) : TA := fun σ H Q => ∃ env B, StOk Γ env σ B H ∧ Post Γ W env σ B H (fun a _ B' H' => ∀ v, ArsOk Γ B' σ a v → Q v H') (f env)
def tVs (Γ : Wd) (W : WX) (f : DenVs) : TA := fun σ H Q => ∃ env B, StOk Γ env σ B H ∧ Post Γ W env σ B H (fun a _ B' H' => ∀ v, Reps Γ B' a v → Q v H') (f env)
abbrev SL (X : Cx) (Γ : Wd) (W : WX) (e : Expr) (f : DenL) : Prop := PE X e (tL Γ W f)
abbrev SA (X : Cx) (Γ : Wd) (W : WX) (es : List Expr) (f : DenA) : Prop := PA X es (tAr Γ W f)
abbrev SVs (X : Cx) (Γ : Wd) (W : WX) (es : List Expr) (f : DenVs) : Prop := PA X es (tVs Γ W f)
theorem imA {X : Cx} {es : List Expr} {t t' : TA} (h : PA X es t) (i : ∀ σ H Q, t' σ H Q → t σ H Q) : PA X es t' := ⟨fun pos pins s σ H Q I q => h.run pos pins s σ H Q I (i σ H Q q)⟩

section
variable {X : Cx} {Γ : Wd} {W : WX} {e a b c : Expr} {es : List Expr} {pos : Pos}
/-! ### constants, names -/
def dC (d : D) : DenV := fun env => .ok d env
theorem sC {v : V} {d : D} (h : PE X e (tC v)) (r : ∀ B, Rep Γ B d v) : SV X Γ W e (dC d) := imE h fun σ H Q ⟨env, B, s, p⟩ => Post.here s p v (r B)
theorem sInt {i : Int} {j : Nat} : SV X Γ W (.Constant (.int i) j pos) (dC (.int i)) := sC pe_int fun _ => rfl
theorem sBl {i : Bool} {j : Nat} : SV X Γ W (.Constant (.bool i) j pos) (dC (.bl i)) := sC pe_bl fun _ => rfl
theorem sNon {j : Nat} : SV X Γ W (.Constant .none j pos) (dC .non) := sC pe_non fun _ => rfl
theorem sStr {i : Str} {j : Nat} : SV X Γ W (.Constant (.str i) j pos) (dC (.str i)) := sC pe_str fun _ => rfl
/-- a name, to be kept: a list is frozen -/
def dVar (i : Nat) : DenV := fun env => match env[i]? with
  | some (.val d) => .ok d env
  | some (.mu xs) => .ok (.lst xs) (env.set i (.val (.lst xs)))
  | _ => .bad
theorem Sto.set_get {env : Sto} {i j : Nat} {x e : Ent} (h : (env.set i x)[j]? = some e) : (i = j ∧ e = x) ∨ (i ≠ j ∧ env[j]? = some e) := by
  by_cases q : i = j
  · subst q
    by_cases k : i < env.length
    · rw [List.getElem?_set_self k] at h
      exact .inl ⟨rfl, (Option.some.inj h).symm⟩
    · rw [List.getElem?_eq_none (by rw [List.length_set]; omega)] at h
      cases h
  · rw [List.getElem?_set_ne q] at h
    exact .inr ⟨q, h⟩
theorem Own.freeze {env : Sto} {σ : L2.St} {i : Nat} {d : D} {p : Addr} (h : Own (env.set i (.val d)) σ p) : Own env σ p := by
  obtain ⟨j, xs, e1, e2⟩ := h
  rcases Sto.set_get e1 with ⟨_, q⟩ | ⟨_, q⟩
  · cases q
  · exact ⟨j, xs, q, e2⟩
/-- a list of a slot is frozen -/
theorem StOk.freeze {env : Sto} {σ : L2.St} {B H : Hp} {i : Nat} {xs : List D} {p : Addr} {vs : List V} (s : StOk Γ env σ B H) (hi : env[i]? = some (.mu xs)) (hs : σ[i]? = some (some (.ref p))) (hb : B p = none) (hp : H p = some (.lst vs)) (r : Reps Γ B xs vs) :
    StOk Γ (env.set i (.val (.lst xs))) σ (upd B p (.lst vs)) H where
  same := same_frz s.same hp
  len := by rw [List.length_set]; exact s.len
  ent := fun j e o h1 h2 => by
    rcases Sto.set_get h1 with ⟨rfl, rfl⟩ | ⟨ne, q⟩
    · rw [hs] at h2
      cases h2
      exact ⟨_, rfl, p, vs, rfl, upd_same, Reps.mono (same_upd hb) xs vs r⟩
    · refine (s.ent j e o q h2).up (same_upd hb) (fun ys q' e1 e2 => ?_) (Same.refl _)
      subst e1
      have hq : q' ≠ p := fun z => by
        subst z
        rw [e2] at h2
        exact ne (s.dis i j xs ys q' hi q hs h2)
      rw [upd_ne hq]
      exact (s.own_none ⟨j, ys, q, by rw [h2, e2]⟩).1
  dis := fun j k ys zs q h1 h2 h3 h4 => by
    rcases Sto.set_get h1 with ⟨_, z⟩ | ⟨_, q1⟩
    · cases z
    · rcases Sto.set_get h2 with ⟨_, z⟩ | ⟨_, q2⟩
      · cases z
      · exact s.dis j k ys zs q q1 q2 h3 h4
theorem Ext.freeze {env : Sto} {σ : L2.St} {B H : Hp} {i : Nat} {xs : List D} {p : Addr} {vs : List V} (s : StOk Γ env σ B H) (hi : env[i]? = some (.mu xs)) (hs : σ[i]? = some (some (.ref p))) (hb : B p = none) :
    Ext Γ env σ B H (env.set i (.val (.lst xs))) σ (upd B p (.lst vs)) H where
  b := same_upd hb
  t := fun _ h => h
  f := fun q o hq n => ⟨hq, fun z => by
    rw [upd_ne]
    · exact z
    · rintro rfl
      exact n ⟨i, xs, hi, hs⟩, fun z => n z.freeze⟩
  r := fun j hj => ⟨rfl, fun ys q e1 e2 => by
    by_cases z : i = j
    · subst z
      rw [hs] at e2
      cases e2
      exact .inr (by rw [upd_same]; exact fun z => nomatch z)
    · exact .inl ⟨ys, by rw [List.getElem?_set_ne z]; exact e1⟩⟩
theorem StOk.slot {env : Sto} {σ : L2.St} {B H : Hp} {i : Nat} {e : Ent} (s : StOk Γ env σ B H) (h : env[i]? = some e) : ∃ o, σ[i]? = some o ∧ EntOk Γ B H e o := by
  have hl : i < σ.length := by
    rw [← s.len]
    exact (List.getElem?_eq_some_iff.mp h).1
  exact ⟨σ[i], List.getElem?_eq_getElem hl, s.ent i e _ h (List.getElem?_eq_getElem hl)⟩
theorem sVar {i : Nat} (h : PE X e (tVar i)) : SV X Γ W e (dVar i) := imE h fun σ H Q ⟨env, B, s, p⟩ => by
  have p' : Post Γ W env σ B H (fun d _ B' H' => ∀ v, Rep Γ B' d v → Q v H') (match env[i]? with
    | some (.val d) => .ok d env
    | some (.mu xs) => .ok (.lst xs) (env.set i (.val (.lst xs)))
    | _ => .bad) := p
  cases hi : env[i]? with
  | none => rw [hi] at p'; exact p'.elim
  | some en =>
    rw [hi] at p'
    obtain ⟨o, ho, k⟩ := s.slot hi
    cases en with
    | val d =>
      obtain ⟨v, rfl, r⟩ := k
      exact ⟨v, ho, Post.here s p' v r⟩
    | mu xs =>
      obtain ⟨q, vs, rfl, hb, hq, r⟩ := k
      exact ⟨_, ho, p' _ _ (s.freeze hi ho hb hq r) (Ext.freeze s hi ho hb) _ ⟨q, vs, rfl, upd_same, Reps.mono (same_upd hb) xs vs r⟩⟩
    | un => exact p'.elim
    | exn c ns xs => exact p'.elim
/-- a name, to be read at its use -/
def dSlot (i : Nat) : DenL := fun env => match env[i]? with
  | some (.val d) => .ok (.v d) env
  | some (.mu xs) => .ok (.s i) env
  | _ => .bad
theorem sSlot {i : Nat} (h : PE X e (tVar i)) : SL X Γ W e (dSlot i) := imE h fun σ H Q ⟨env, B, s, p⟩ => by
  have p' : Post Γ W env σ B H (fun d _ B' H' => ∀ v, ArOk Γ B' σ d v → Q v H') (match env[i]? with
    | some (.val d) => .ok (.v d) env
    | some (.mu xs) => .ok (.s i) env
    | _ => .bad) := p
  cases hi : env[i]? with
  | none => rw [hi] at p'; exact p'.elim
  | some en =>
    rw [hi] at p'
    obtain ⟨o, ho, k⟩ := s.slot hi
    cases en with
    | val d =>
      obtain ⟨v, rfl, r⟩ := k
      exact ⟨v, ho, Post.here s p' v r⟩
    | mu xs =>
      obtain ⟨q, vs, rfl, hb, hq, r⟩ := k
      exact ⟨_, ho, Post.here s p' _ ho⟩
    | un => exact p'.elim
    | exn c ns xs => exact p'.elim
def dLV (f : DenV) : DenL := fun env => (f env).bind fun d e => .ok (.v d) e
theorem sLV {f : DenV} (h : SV X Γ W e f) : SL X Γ W e (dLV f) := imE h fun σ H Q ⟨env, B, s, p⟩ =>
  ⟨env, B, s, p.bind.mono fun d env' B' H' s' x q v hv => Post.here s' q v hv⟩
/-! ### two operands -/
def dBin (g : D → D → Option Ent) (f1 f2 : DenL) : DenF := fun env => (f1 env).bind fun a e1 => (f2 e1).bind fun b e2 => match a.get e2, b.get e2 with
  | some x, some y => (match g x y with
    | some r => .ok r e2
    | none => .bad)
  | _, _ => .bad
/-- the rule r serves g -/
def Serves (Γ : Wd) (W : WX) (r : R2) (g : D → D → Option Ent) : Prop := ∀ {x y : D} {ent : Ent} {env : Sto} {σ : L2.St} {B H : Hp} {P0 : Addr → Prop} {v w : V} {Q : VK}, g x y = some ent → StOk Γ env σ B H → RepT Γ B H x v → RepT Γ B H y w → (∀ p, H p = none → P0 p) →
  Post Γ W env σ B H (fun r env' B' H' => ∀ v, RetOk Γ P0 env' σ B' H' r v → Q v H') (.ok ent env) → r v w H Q
theorem tOp_of {r : R2} {g : D → D → Option Ent} {f1 f2 : DenL} (hg : Serves Γ W r g) {σ : L2.St} {H : Hp} {Q : VK} (h : tF Γ W (dBin g f1 f2) σ H Q) : tOp r (tL Γ W f1) (tL Γ W f2) σ H Q := by
  obtain ⟨env, B, s, p⟩ := h
  refine ⟨env, B, s, p.bind.mono fun a e1 B1 H1 s1 x1 q1 v hv => ⟨e1, B1, s1, q1.bind.mono fun b e2 B2 H2 s2 x2 q2 w hw => ?_⟩⟩
  cases ha : a.get e2 with
  | none => rw [ha] at q2; exact q2.elim
  | some x =>
    cases hb : b.get e2 with
    | none => rw [ha, hb] at q2; exact q2.elim
    | some y =>
      rw [ha, hb] at q2
      cases hr : g x y with
      | none =>
        have q3 : Post Γ W e2 σ B2 H2 (fun r env' B' H' => ∀ v, RetOk Γ (FreeR Γ env σ H) env' σ B' H' r v → Q v H') (match g x y with | some r => .ok r e2 | none => .bad) := q2
        rw [hr] at q3
        exact q3.elim
      | some ent =>
        have q3 : Post Γ W e2 σ B2 H2 (fun r env' B' H' => ∀ v, RetOk Γ (FreeR Γ env σ H) env' σ B' H' r v → Q v H') (match g x y with | some r => .ok r e2 | none => .bad) := q2
        rw [hr] at q3
        exact hg hr s2 (Ar.now s2 (hv.mono x2.b) ha) (Ar.now s2 hw hb) (fun p hp => .inl (x1.h0 p (x2.h0 p hp))) q3
theorem sBin {op : Operator} {r : R2} {g : D → D → Option Ent} {f1 f2 : DenL} (ho : OpR X (binaryOp op) r) (hg : Serves Γ W r g) (ha : SL X Γ W a f1) (hb : SL X Γ W b f2) : SF X Γ W (.BinOp a op b pos) (dBin g f1 f2) :=
  imE (pe_op ho ha hb) fun σ H Q h => tOp_of hg h
end
end Ev

set_option Elab.async false
set_option linter.all false
set_option maxRecDepth 100000
set_option maxHeartbeats 4000000
namespace Ev
open PySem PySem.Spec PyProof.Rows L2

theorem LN_le {n : Nat} (h : n ≤ 1000000) : n ≤ sizeLine := Nat.le_trans h (by decide)
theorem LN_lt {n : Nat} (h : n ≤ 1000000) : n < sizeLine := Nat.lt_of_le_of_lt h (by decide)

/-! ### arithmetic -/
def mulOk (i j : Int) : Bool := decide (i.natAbs.log2 + j.natAbs.log2 < 1000000)
def divOk (j : Int) : Bool := decide (j ≠ 0 ∧ j.natAbs.log2 < 9000)
def gAdd : D → D → Option Ent
  | .int i, .int j => some (.val (.int (i + j)))
  | .str a, .str b => if a.length + b.length ≤ 1000000 then some (.val (.str (a ++ b))) else none
  | .lst xs, .lst ys => if xs.length + ys.length ≤ 1000000 then some (.mu (xs ++ ys)) else none
  | .tup xs, .tup ys => if xs.length + ys.length ≤ 1000000 then some (.val (.tup (xs ++ ys))) else none
  | _, _ => none
def gSub : D → D → Option Ent
  | .int i, .int j => some (.val (.int (i - j)))
  | _, _ => none
def repD (k : Nat) (xs : List D) : List D := (List.replicate k xs).flatten
def gMul : D → D → Option Ent
  | .int i, .int j => if mulOk i j = true then some (.val (.int (i * j))) else none
  | .lst xs, .int k => if -(2 ^ 62) ≤ k ∧ k ≤ 2 ^ 62 ∧ xs.length * k.toNat ≤ 1000000 then some (.mu (repD k.toNat xs)) else none
  | .tup xs, .int k => if xs ≠ [] ∧ 2 ≤ k ∧ k ≤ 1000 ∧ xs.length ≤ 1000 then some (.val (.tup (repD k.toNat xs))) else none
  | _, _ => none
def gDiv : D → D → Option Ent
  | .int i, .int j => if divOk j = true then some (.val (.int (i.fdiv j))) else none
  | _, _ => none
def gMod : D → D → Option Ent
  | .int i, .int j => if j = 0 then none else some (.val (.int (i.fmod j)))
  | _, _ => none
def gPow : D → D → Option Ent
  | .int i, .int j => if 0 ≤ j ∧ j ≤ 1000000 ∧ i.natAbs < 2 ^ 64 then some (.val (.int (i ^ j.toNat))) else none
  | _, _ => none
def gShr : D → D → Option Ent
  | .int i, .int j => if 0 ≤ j then some (.val (.int (i / 2 ^ j.toNat))) else none
  | _, _ => none
def gAnd : D → D → Option Ent
  | .int i, .int j => some (.val (.int (Builtin.bitAnd i j)))
  | _, _ => none
theorem op_fdivX {X : Cx} : OpR X (binaryOp .FloorDiv) (rI (fun _ j => j ≠ 0 ∧ j.natAbs.log2 < 9000) fun i j => .int (i.fdiv j)) := opI fun _ _ _ _ _ _ _ hc q => floordiv_int hc.1 q (.inl (PyProof.noPylong_of_log2 hc.2))

section
variable {X : Cx} {Γ : Wd} {W : WX}
theorem Serves.or1 {r r' : R2} {g : D → D → Option Ent} (h : Serves Γ W r g) : Serves Γ W (fun x y H Q => r x y H Q ∨ r' x y H Q) g := fun e s h1 h2 h0 p => .inl (h e s h1 h2 h0 p)
/-- the reading of + -/
def rAddE (K : PySem.W.Frag) : R2 := fun x y H Q => ((rI0 fun i j => .int (i + j)) x y H Q ∨ (∃ i j, x = .str i ∧ y = .str j ∧ i.length + j.length ≤ sizeLine ∧ Q (.str (i ++ j)) H)) ∨ (rCat x y H Q ∨ rCatA K x y H Q)
theorem op_addE : OpR X (binaryOp .Add) (rAddE X.K) := (op_add.or op_add_str).or (op_cat.or op_catA)
theorem rep_nil {Γ : Wd} {B : Hp} {xs : List D} {vs : List V} (r : Reps Γ B xs vs) : vs = [] ↔ xs = [] := by
  have e := r.length
  constructor
  · intro h; rw [h] at e; exact List.length_eq_zero_iff.mp e
  · intro h; rw [h] at e; exact List.length_eq_zero_iff.mp e.symm
theorem sv_add : Serves Γ W (rAddE Γ.K) gAdd := by
  intro x y ent env σ B H P0 v w Q hg s hx hy h0 p
  cases x with
  | int i => cases y with
    | int j =>
      cases hg
      exact .inl (.inl ⟨i, j, hx.int, hy.int, Post.val s p rfl⟩)
    | _ => cases hg
  | str i => cases y with
    | str j =>
      have hg' : (if i.length + j.length ≤ 1000000 then some (Ent.val (.str (i ++ j))) else none) = some ent := hg
      split at hg'
      · cases hg'
        rename_i hl
        exact .inl (.inr ⟨i, j, hx.str, hy.str, LN_le hl, Post.val s p rfl⟩)
      · cases hg'
    | _ => cases hg
  | lst xs => cases y with
    | lst ys =>
      have hg' : (if xs.length + ys.length ≤ 1000000 then some (Ent.mu (xs ++ ys)) else none) = some ent := hg
      split at hg'
      · cases hg'
        rename_i hl
        obtain ⟨a, vs, e1, e2, e3⟩ := hx.lst s.same
        obtain ⟨b, ws, k1, k2, k3⟩ := hy.lst s.same
        exact .inr (.inl ⟨a, b, vs, ws, e1, k1, e2, k2, LN_le (by rw [← e3.length, ← k3.length]; exact hl), fun q hq => Post.newL h0 s p (e3.append k3) hq⟩)
      · cases hg'
    | _ => cases hg
  | tup xs => cases y with
    | tup ys =>
      have hg' : (if xs.length + ys.length ≤ 1000000 then some (Ent.val (.tup (xs ++ ys))) else none) = some ent := hg
      split at hg'
      · cases hg'
        rename_i hl
        have hx' := hx
        have hy' := hy
        obtain ⟨a, vs, e1, e2, e3⟩ := hx.tup s.same
        obtain ⟨b, ws, k1, k2, k3⟩ := hy.tup s.same
        refine .inr (.inr ⟨a, b, vs, ws, e1, k1, e2, k2, LN_le (by rw [← e3.length, ← k3.length]; exact hl), fun z => ?_, fun z1 z2 => ?_, fun _ _ q hq => Post.newT s p (e3.append k3) hq⟩)
        · have z' := (rep_nil e3).mp z
          subst z'
          rw [← k1]
          rcases hy' with r | ⟨_, _, _, c, _⟩
          · exact Post.val s p r
          · cases c
        · have z' := (rep_nil k3).mp z2
          subst z'
          rw [← e1]
          rcases hx' with r | ⟨_, _, _, c, _⟩
          · refine Post.val s p ?_
            rw [List.append_nil]
            exact r
          · cases c
      · cases hg'
    | _ => cases hg
  | _ => cases hg
theorem sv_sub : Serves Γ W (rI0 fun i j => .int (i - j)) gSub := by
  intro x y ent env σ B H P0 v w Q hg s hx hy h0 p
  cases x with
  | int i => cases y with
    | int j =>
      cases hg
      exact ⟨i, j, hx.int, hy.int, Post.val s p rfl⟩
    | _ => cases hg
  | _ => cases hg
def rMulE (K : PySem.W.Frag) : R2 := fun x y H Q => rI CMulW (fun i j => .int (i * j)) x y H Q ∨ (rRep x y H Q ∨ rRepT K x y H Q)
theorem op_mulE : OpR X (binaryOp .Mult) (rMulE X.K) := op_mulW.or (op_rep.or op_repT)
theorem Reps.repeat {Γ : Wd} {B : Hp} {xs : List D} {vs : List V} (r : Reps Γ B xs vs) : ∀ k : Nat, Reps Γ B (repD k xs) (List.replicate k vs).flatten
  | 0 => rfl
  | k + 1 => by
    show Reps Γ B (List.replicate (k + 1) xs).flatten _
    rw [List.replicate_succ, List.replicate_succ, List.flatten_cons, List.flatten_cons]
    exact r.append (Reps.repeat r k)
theorem sv_mul : Serves Γ W (rMulE Γ.K) gMul := by
  intro x y ent env σ B H P0 v w Q hg s hx hy h0 p
  cases x with
  | int i => cases y with
    | int j =>
      have hg' : (if mulOk i j = true then some (Ent.val (.int (i * j))) else none) = some ent := hg
      split at hg'
      · cases hg'
        rename_i hl
        exact .inl ⟨i, j, hx.int, hy.int, (of_decide_eq_true hl : i.natAbs.log2 + j.natAbs.log2 < 1000000), Post.val s p rfl⟩
      · cases hg'
    | _ => cases hg
  | lst xs => cases y with
    | int k =>
      have hg' : (if -(2 ^ 62) ≤ k ∧ k ≤ 2 ^ 62 ∧ xs.length * k.toNat ≤ 1000000 then some (Ent.mu (repD k.toNat xs)) else none) = some ent := hg
      split at hg'
      · cases hg'
        rename_i hl
        obtain ⟨a, vs, e1, e2, e3⟩ := hx.lst s.same
        exact .inr (.inl ⟨a, k, vs, e1, hy.int, e2, by have := hl.1; omega, by have := hl.2.1; omega, LN_le (by rw [← e3.length]; exact hl.2.2), fun q hq => Post.newL h0 s p (e3.repeat _) hq⟩)
      · cases hg'
    | _ => cases hg
  | tup xs => cases y with
    | int k =>
      have hg' : (if xs ≠ [] ∧ 2 ≤ k ∧ k ≤ 1000 ∧ xs.length ≤ 1000 then some (Ent.val (.tup (repD k.toNat xs))) else none) = some ent := hg
      split at hg'
      · cases hg'
        rename_i hl
        obtain ⟨a, vs, e1, e2, e3⟩ := hx.tup s.same
        exact .inr (.inr ⟨a, k, vs, e1, hy.int, e2, fun z => hl.1 ((rep_nil e3).mp z), hl.2.1, hl.2.2.1, by rw [← e3.length]; exact hl.2.2.2, fun q hq => Post.newT s p (e3.repeat _) hq⟩)
      · cases hg'
    | _ => cases hg
  | _ => cases hg
theorem sv_div : Serves Γ W (rI (fun _ j => j ≠ 0 ∧ j.natAbs.log2 < 9000) fun i j => .int (i.fdiv j)) gDiv := by
  intro x y ent env σ B H P0 v w Q hg s hx hy h0 p
  cases x with
  | int i => cases y with
    | int j =>
      have hg' : (if divOk j = true then some (Ent.val (.int (i.fdiv j))) else none) = some ent := hg
      split at hg'
      · cases hg'
        rename_i hl
        exact ⟨i, j, hx.int, hy.int, of_decide_eq_true hl, Post.val s p rfl⟩
      · cases hg'
    | _ => cases hg
  | _ => cases hg
theorem sv_mod : Serves Γ W (rI (fun _ j => j ≠ 0) fun i j => .int (i.fmod j)) gMod := by
  intro x y ent env σ B H P0 v w Q hg s hx hy h0 p
  cases x with
  | int i => cases y with
    | int j =>
      have hg' : (if j = 0 then none else some (Ent.val (.int (i.fmod j)))) = some ent := hg
      split at hg'
      · cases hg'
      · cases hg'
        rename_i hl
        exact ⟨i, j, hx.int, hy.int, hl, Post.val s p rfl⟩
    | _ => cases hg
  | _ => cases hg
theorem sv_pow : Serves Γ W (rI CPow fun i j => .int (i ^ j.toNat)) gPow := by
  intro x y ent env σ B H P0 v w Q hg s hx hy h0 p
  cases x with
  | int i => cases y with
    | int j =>
      have hg' : (if 0 ≤ j ∧ j ≤ 1000000 ∧ i.natAbs < 2 ^ 64 then some (Ent.val (.int (i ^ j.toNat))) else none) = some ent := hg
      split at hg'
      · cases hg'
        rename_i hl
        exact ⟨i, j, hx.int, hy.int, hl, Post.val s p rfl⟩
      · cases hg'
    | _ => cases hg
  | _ => cases hg
theorem sv_shr : Serves Γ W (rI (fun _ j => 0 ≤ j) fun i j => .int (i / 2 ^ j.toNat)) gShr := by
  intro x y ent env σ B H P0 v w Q hg s hx hy h0 p
  cases x with
  | int i => cases y with
    | int j =>
      have hg' : (if 0 ≤ j then some (Ent.val (.int (i / 2 ^ j.toNat))) else none) = some ent := hg
      split at hg'
      · cases hg'
        rename_i hl
        exact ⟨i, j, hx.int, hy.int, hl, Post.val s p rfl⟩
      · cases hg'
    | _ => cases hg
  | _ => cases hg
theorem sv_and : Serves Γ W (rI0 fun i j => .int (Builtin.bitAnd i j)) gAnd := by
  intro x y ent env σ B H P0 v w Q hg s hx hy h0 p
  cases x with
  | int i => cases y with
    | int j =>
      cases hg
      exact ⟨i, j, hx.int, hy.int, Post.val s p rfl⟩
    | _ => cases hg
  | _ => cases hg
/-! ### comparisons -/
def vb (b : Bool) : Option Ent := some (.val (.bl b))
def gEq (a b : D) : Option Ent := if shp 64 a = true ∧ shp 64 b = true then vb (deq a b) else none
def gNe (a b : D) : Option Ent := if shp 64 a = true ∧ shp 64 b = true then vb (!deq a b) else none
def gLt : D → D → Option Ent
  | .int i, .int j => vb (decide (i < j))
  | _, _ => none
def gLe : D → D → Option Ent
  | .int i, .int j => vb (decide (i ≤ j))
  | _, _ => none
def gGt : D → D → Option Ent
  | .int i, .int j => vb (decide (j < i))
  | _, _ => none
def gGe : D → D → Option Ent
  | .int i, .int j => vb (decide (j ≤ i))
  | _, _ => none
def gIs : D → D → Option Ent
  | x, .non => vb x.isN
  | .bl a, .bl b => vb (decide (a = b))
  | _, _ => none
def gIsNot : D → D → Option Ent
  | x, .non => vb (!x.isN)
  | .bl a, .bl b => vb (!decide (a = b))
  | _, _ => none
theorem sv_eq : Serves Γ W (rEqD Γ.K) gEq := by
  intro x y ent env σ B H P0 v w Q hg s hx hy h0 p
  unfold gEq at hg
  split at hg
  · cases hg
    rename_i hl
    exact ⟨_, _, hx.dp s.same hl.1, hy.dp s.same hl.2, shaped_of hl.1, shaped_of hl.2, Post.val s p rfl⟩
  · cases hg
theorem sv_ne : Serves Γ W (rNeD Γ.K) gNe := by
  intro x y ent env σ B H P0 v w Q hg s hx hy h0 p
  unfold gNe at hg
  split at hg
  · cases hg
    rename_i hl
    exact ⟨_, _, hx.dp s.same hl.1, hy.dp s.same hl.2, shaped_of hl.1, shaped_of hl.2, Post.val s p rfl⟩
  · cases hg
theorem sv_cmpI {f : Int → Int → Bool} {g : D → D → Option Ent} (h1 : ∀ i j, g (.int i) (.int j) = vb (f i j)) (h2 : ∀ x y ent, g x y = some ent → ∃ i j, x = .int i ∧ y = .int j) : Serves Γ W (rI0 fun i j => .bl (f i j)) g := by
  intro x y ent env σ B H P0 v w Q hg s hx hy h0 p
  obtain ⟨i, j, rfl, rfl⟩ := h2 x y ent hg
  rw [h1] at hg
  cases hg
  exact ⟨i, j, hx.int, hy.int, Post.val s p rfl⟩
theorem sv_lt : Serves Γ W (rI0 fun i j => .bl (decide (i < j))) gLt := sv_cmpI (fun _ _ => rfl) fun x y ent h => by
  cases x <;> cases y <;> first | exact ⟨_, _, rfl, rfl⟩ | cases h
theorem sv_le : Serves Γ W (rI0 fun i j => .bl (decide (i ≤ j))) gLe := sv_cmpI (fun _ _ => rfl) fun x y ent h => by
  cases x <;> cases y <;> first | exact ⟨_, _, rfl, rfl⟩ | cases h
theorem sv_gt : Serves Γ W (rI0 fun i j => .bl (decide (j < i))) gGt := sv_cmpI (fun _ _ => rfl) fun x y ent h => by
  cases x <;> cases y <;> first | exact ⟨_, _, rfl, rfl⟩ | cases h
theorem sv_ge : Serves Γ W (rI0 fun i j => .bl (decide (j ≤ i))) gGe := sv_cmpI (fun _ _ => rfl) fun x y ent h => by
  cases x <;> cases y <;> first | exact ⟨_, _, rfl, rfl⟩ | cases h
def rIsE : R2 := fun x y H Q => (y = .non ∧ Q (.bl (decide (x = .non))) H) ∨ rIsB x y H Q
def rIsNotE : R2 := fun x y H Q => (y = .non ∧ Q (.bl (!decide (x = .non))) H) ∨ rNotB x y H Q
theorem op_isE : OpR X (compareOp .Is) rIsE := op_isN.or op_isBl
theorem op_isNotE : OpR X (compareOp .IsNot) rIsNotE := op_notN.or op_notBl
theorem sv_is : Serves Γ W rIsE gIs := by
  intro x y ent env σ B H P0 v w Q hg s hx hy h0 p
  cases y with
  | non =>
    have hg' : vb x.isN = some ent := by
      cases x <;> exact hg
    cases hg'
    refine .inl ⟨hy.non, ?_⟩
    rw [hx.none_iff]
    exact Post.val s p rfl
  | bl b => cases x with
    | bl a =>
      cases hg
      exact .inr ⟨a, b, hx.bl, hy.bl, Post.val s p rfl⟩
    | _ => cases hg
  | _ => cases x <;> cases hg
theorem sv_isNot : Serves Γ W rIsNotE gIsNot := by
  intro x y ent env σ B H P0 v w Q hg s hx hy h0 p
  cases y with
  | non =>
    have hg' : vb (!x.isN) = some ent := by
      cases x <;> exact hg
    cases hg'
    refine .inl ⟨hy.non, ?_⟩
    rw [hx.none_iff]
    exact Post.val s p rfl
  | bl b => cases x with
    | bl a =>
      cases hg
      exact .inr ⟨a, b, hx.bl, hy.bl, Post.val s p rfl⟩
    | _ => cases hg
  | _ => cases x <;> cases hg

variable {e a b c : Expr} {pos : Pos} {f1 f2 f3 : DenL} {g g' : D → D → Option Ent} {r r' : R2}
/-- a comparison as a value -/
theorem sCmp {op : CmpOp} (ho : OpR X (compareOp op) r) (hg : Serves Γ W r g) (ha : SL X Γ W a f1) (hb : SL X Γ W b f2) (hm : behindInMarks op b = false) : SF X Γ W (.Compare a [op] [b] pos) (dBin g f1 f2) :=
  imE (pe_cmpR ho ha hb hm) fun σ H Q h => tOp_of hg h
def dTB (f : DenF) : DenT := fun env => (f env).bind fun r e => match r with
  | .val (.bl b) => .ok b e
  | _ => .bad
theorem tTB_of {f : DenF} {σ : L2.St} {H : Hp} {Q : Bool → Hp → Prop} (h : tT Γ W (dTB f) σ H Q) : tF Γ W f σ H (fun x H' => ∃ k, x = .bl k ∧ Q k H') := by
  obtain ⟨env, B, s, p⟩ := h
  refine ⟨env, B, s, p.bind.mono fun r e1 B1 H1 s1 x1 q1 v hv => ?_⟩
  cases r with
  | val d => cases d with
    | bl k => exact ⟨k, hv, Post.here s1 q1⟩
    | _ => exact q1.elim
  | _ => exact q1.elim
/-- as a test -/
theorem sCmpT {op : CmpOp} (ho : OpR X (compareOp op) r) (hg : Serves Γ W r g) (ha : SL X Γ W a f1) (hb : SL X Γ W b f2) (hm : behindInMarks op b = false) : ST X Γ W (.Compare a [op] [b] pos) (dTB (dBin g f1 f2)) :=
  imT (pt_cmpR ho ha hb hm) fun σ H Q h => tOp_of hg (tTB_of h)
/-- a op b op' c -/
def dChain (g g' : D → D → Option Ent) (f1 f2 f3 : DenL) : DenF := fun env => (f1 env).bind fun a e1 => (f2 e1).bind fun b e2 => match a.get e2, b.get e2 with
  | some x, some y => (match g x y with
    | some (.val (.bl true)) => (f3 e2).bind fun c e3 => (match b.get e3, c.get e3 with
      | some y, some z => (match g' y z with
        | some r => .ok r e3
        | none => .bad)
      | _, _ => .bad)
    | some (.val (.bl false)) => .ok (.val (.bl false)) e2
    | _ => .bad)
  | _, _ => .bad
theorem tChain_of (hg : Serves Γ W r g) (hg' : Serves Γ W r' g') {σ : L2.St} {H : Hp} {Q : VK} (h : tF Γ W (dChain g g' f1 f2 f3) σ H Q) : tChain r r' (tL Γ W f1) (tL Γ W f2) (tL Γ W f3) σ H Q := by
  obtain ⟨env, B, s, p⟩ := h
  refine ⟨env, B, s, p.bind.mono fun a e1 B1 H1 s1 x1 q1 v hv => ⟨e1, B1, s1, q1.bind.mono fun b e2 B2 H2 s2 x2 q2 w hw => ?_⟩⟩
  cases ha : a.get e2 with
  | none => rw [ha] at q2; exact q2.elim
  | some x =>
    cases hb : b.get e2 with
    | none => rw [ha, hb] at q2; exact q2.elim
    | some y =>
      rw [ha, hb] at q2
      have q3 : Post Γ W e2 σ B2 H2 (fun r env' B' H' => ∀ v, RetOk Γ (FreeR Γ env σ H) env' σ B' H' r v → Q v H') (match g x y with
        | some (.val (.bl true)) => (f3 e2).bind fun c e3 => (match b.get e3, c.get e3 with
          | some y, some z => (match g' y z with
            | some r => .ok r e3
            | none => .bad)
          | _, _ => .bad)
        | some (.val (.bl false)) => .ok (.val (.bl false)) e2
        | _ => .bad) := q2
      have h02 : ∀ p, H2 p = none → H p = none := fun p hp => x1.h0 p (x2.h0 p hp)
      cases hr : g x y with
      | none => rw [hr] at q3; exact q3.elim
      | some ent =>
        rw [hr] at q3
        refine hg (P0 := FreeR Γ env σ H) hr s2 (Ar.now s2 (hv.mono x2.b) ha) (Ar.now s2 hw hb) (fun p hp => .inl (h02 p hp)) ?_
        cases ent with
        | val d => cases d with
          | bl k =>
            intro B3 H3 s3 x3 u hu
            refine ⟨k, hu, ?_⟩
            cases k with
            | false =>
              rw [if_neg Bool.false_ne_true]
              exact q3 B3 H3 s3 x3 _ rfl
            | true =>
              rw [if_pos rfl]
              have q4 : Post Γ W e2 σ B3 H3 (fun r env' B' H' => ∀ v, RetOk Γ (FreeR Γ env σ H) env' σ B' H' r v → Q v H') ((f3 e2).bind fun c e3 => (match b.get e3, c.get e3 with
                | some y, some z => (match g' y z with
                  | some r => .ok r e3
                  | none => .bad)
                | _, _ => .bad)) := by
                have q5 : Post Γ W e2 σ B2 H2 (fun r env' B' H' => ∀ v, RetOk Γ (FreeR Γ env σ H) env' σ B' H' r v → Q v H') ((f3 e2).bind fun c e3 => (match b.get e3, c.get e3 with
                  | some y, some z => (match g' y z with
                    | some r => .ok r e3
                    | none => .bad)
                  | _, _ => .bad)) := q3
                exact (show Post Γ W e2 σ B2 H2 (fun (_ : Unit) env' B' H' => Post Γ W env' σ B' H' (fun r env' B' H' => ∀ v, RetOk Γ (FreeR Γ env σ H) env' σ B' H' r v → Q v H') ((f3 env').bind fun c e3 => (match b.get e3, c.get e3 with
                  | some y, some z => (match g' y z with
                    | some r => .ok r e3
                    | none => .bad)
                  | _, _ => .bad))) (Res.ok () e2) from (Post.bind (α := Unit) (r := .ok () e2) (k := fun _ env' => (f3 env').bind fun c e3 => (match b.get e3, c.get e3 with
                  | some y, some z => (match g' y z with
                    | some r => .ok r e3
                    | none => .bad)
                  | _, _ => .bad)) q5)) B3 H3 s3 x3
              refine ⟨e2, B3, s3, q4.bind.mono fun c' e3 B4 H4 s4 x4 q6 z hz => ?_⟩
              cases hb3 : b.get e3 with
              | none => rw [hb3] at q6; exact q6.elim
              | some y' =>
                cases hc3 : c'.get e3 with
                | none => rw [hb3, hc3] at q6; exact q6.elim
                | some z' =>
                  rw [hb3, hc3] at q6
                  have q7 : Post Γ W e3 σ B4 H4 (fun r env' B' H' => ∀ v, RetOk Γ (FreeR Γ env σ H) env' σ B' H' r v → Q v H') (match g' y' z' with | some r => .ok r e3 | none => .bad) := q6
                  cases hr' : g' y' z' with
                  | none => rw [hr'] at q7; exact q7.elim
                  | some ent' =>
                    rw [hr'] at q7
                    exact hg' hr' s4 (Ar.now s4 (hw.mono (x3.b.trans x4.b)) hb3) (Ar.now s4 hz hc3) (fun p hp => .inl (h02 p (x3.h0 p (x4.h0 p hp)))) q7
          | _ => exact q3.elim
        | _ => exact q3.elim
theorem sChain {op op' : CmpOp} (ho : OpR X (compareOp op) r) (ho' : OpR X (compareOp op') r') (hg : Serves Γ W r g) (hg' : Serves Γ W r' g') (ha : SL X Γ W a f1) (hb : SL X Γ W b f2) (hc : SL X Γ W c f3)
    (hm : lastMarks [op, op'] [b, c] = false) : SF X Γ W (.Compare a [op, op'] [b, c] pos) (dChain g g' f1 f2 f3) := imE (pe_chain ho ho' ha hb hc hm) fun σ H Q h => tChain_of hg hg' h
theorem sChainT {op op' : CmpOp} (ho : OpR X (compareOp op) r) (ho' : OpR X (compareOp op') r') (hg : Serves Γ W r g) (hg' : Serves Γ W r' g') (ha : SL X Γ W a f1) (hb : SL X Γ W b f2) (hc : SL X Γ W c f3)
    (hm : lastMarks [op, op'] [b, c] = false) : ST X Γ W (.Compare a [op, op'] [b, c] pos) (dTB (dChain g g' f1 f2 f3)) := imT (pt_chain ho ho' ha hb hc hm) fun σ H Q h => tChain_of hg hg' (tTB_of h)

/-! ### signs, truth -/
def dNeg (f : DenV) : DenV := fun env => (f env).bind fun d e => match d with
  | .int i => .ok (.int (-i)) e
  | _ => .bad
theorem sNeg {f : DenV} (h : SV X Γ W a f) : SV X Γ W (.UnaryOp .USub a pos) (dNeg f) := imE (pe_un un_neg h) fun σ H Q ⟨env, B, s, p⟩ => by
  refine ⟨env, B, s, p.bind.mono fun d e1 B1 H1 s1 x1 q1 v hv => ?_⟩
  cases d with
  | int i => exact ⟨i, hv, Post.here s1 q1 _ rfl⟩
  | _ => exact q1.elim
/-- a truth value, as a test -/
def dBT (f : DenV) : DenT := fun env => (f env).bind fun d e => match d with
  | .bl b => .ok b e
  | _ => .bad
theorem tBT_of {f : DenV} {σ : L2.St} {H : Hp} {Q : Bool → Hp → Prop} (h : tT Γ W (dBT f) σ H Q) : tV Γ W f σ H (fun x H' => ∃ k, x = .bl k ∧ Q k H') := by
  obtain ⟨env, B, s, p⟩ := h
  refine ⟨env, B, s, p.bind.mono fun r e1 B1 H1 s1 x1 q1 v hv => ?_⟩
  cases r with
  | bl k => exact ⟨k, hv, Post.here s1 q1⟩
  | _ => exact q1.elim
/-- truth of a thing -/
def truth : D → Option Bool
  | .non => some false
  | .bl b => some b
  | .int i => some (i != 0)
  | .str s => if s.length ≤ 1000000 then some ((s.length : Int) != 0) else none
  | .tup xs => some (!xs.isEmpty)
  | .lst xs => some (!xs.isEmpty)
  | .fl xs => some (!xs.isEmpty)
  | .ins _ _ _ => none
def dTru (f : DenL) : DenT := fun env => (f env).bind fun a e => match a.get e with
  | some d => (match truth d with
    | some b => .ok b e
    | none => .bad)
  | none => .bad
theorem isEmpty_reps {Γ : Wd} {B : Hp} {xs : List D} {vs : List V} (r : Reps Γ B xs vs) : xs.isEmpty = vs.isEmpty := by
  have e := r.length
  cases xs <;> cases vs <;> first | rfl | cases e
theorem RepT.truth {B H : Hp} {d : D} {v : V} {k : Bool} (s : Same B H) (h : RepT Γ B H d v) (e : truth d = some k) : TruV Γ.K v H k := by
  cases d with
  | non => cases e; rw [h.non]; rfl
  | bl b => cases e; rw [h.bl]; rfl
  | int b => cases e; rw [h.int]; rfl
  | str z =>
    have e' : (if z.length ≤ 1000000 then some ((z.length : Int) != 0) else none) = some k := e
    split at e'
    · cases e'
      rename_i hl
      rw [h.str]
      exact ⟨LN_le hl, rfl⟩
    · cases e'
  | tup xs =>
    cases e
    obtain ⟨p, vs, e1, e2, e3⟩ := h.tup s
    rw [e1, isEmpty_reps e3]
    exact .inr (.inl ⟨vs, e2, rfl⟩)
  | lst xs =>
    cases e
    obtain ⟨p, vs, e1, e2, e3⟩ := h.lst s
    rw [e1, isEmpty_reps e3]
    exact .inl ⟨vs, .inl (.inl e2), rfl⟩
  | fl xs =>
    cases e
    obtain ⟨p, vs, e1, e2, e3⟩ := h.fl s
    rw [e1, isEmpty_reps e3]
    exact .inl ⟨vs, e2, rfl⟩
  | ins c ns xs => cases e
theorem sTru (hK : X.K = Γ.K) (ha : SL X Γ W a f1) (he : ∀ whole, isTrue a X.env whole = (do let v ← whole; standAt a.pos; holding [v] (truthy v)) := by intro _; rfl) : ST X Γ W a (dTru f1) :=
  imT (pt_truth ha he) fun σ H Q ⟨env, B, s, p⟩ => by
    refine ⟨env, B, s, p.bind.mono fun d e1 B1 H1 s1 x1 q1 v hv => ?_⟩
    cases hd : d.get e1 with
    | none => rw [hd] at q1; exact q1.elim
    | some y =>
      rw [hd] at q1
      have q2 : Post Γ W e1 σ B1 H1 (fun b _ _ H' => Q b H') (match Ev.truth y with | some b => .ok b e1 | none => .bad) := q1
      cases ht : Ev.truth y with
      | none => rw [ht] at q2; exact q2.elim
      | some k =>
        rw [ht] at q2
        refine ⟨k, ?_, Post.here s1 q2⟩
        rw [hK]
        exact (Ar.now s1 hv hd).truth s1.same ht
/-! ### not, and, or, if -/
def dNotT (f : DenT) : DenT := fun env => (f env).bind fun b e => .ok (!b) e
def dAndT (f g : DenT) : DenT := fun env => (f env).bind fun b e => if b = true then g e else .ok false e
def dOrT (f g : DenT) : DenT := fun env => (f env).bind fun b e => if b = true then .ok true e else g e
variable {t1 t2 : DenT} {rest : List Expr}
theorem sNotT (h : ST X Γ W a t1) : ST X Γ W (.UnaryOp .Not a pos) (dNotT t1) := imT (pt_not h) fun σ H Q ⟨env, B, s, p⟩ =>
  ⟨env, B, s, p.bind.mono fun b e1 B1 H1 s1 x1 q1 => Post.here s1 q1⟩
abbrev SW (X : Cx) (Γ : Wd) (W : WX) (e : Expr) (f : DenT) : Prop := PW X e (tT Γ W f)
theorem sAndT1 (h : ST X Γ W a t1) : SW X Γ W (.BoolOp .And [a] pos) t1 := pw_and1 h
theorem sOrT1 (h : ST X Γ W a t1) : SW X Γ W (.BoolOp .Or [a] pos) t1 := pw_or1 h
theorem sAndT (h : ST X Γ W a t1) (k : SW X Γ W (.BoolOp .And (b :: rest) pos) t2) : SW X Γ W (.BoolOp .And (a :: b :: rest) pos) (dAndT t1 t2) := imW (pw_and h k) fun σ H Q ⟨env, B, s, p⟩ => by
  refine ⟨env, B, s, p.bind.mono fun b e1 B1 H1 s1 x1 q1 => ?_⟩
  cases b with
  | true =>
    rw [if_pos rfl] at q1 ⊢
    exact ⟨e1, B1, s1, q1⟩
  | false =>
    rw [if_neg Bool.false_ne_true] at q1 ⊢
    exact Post.here s1 q1
theorem sOrT (h : ST X Γ W a t1) (k : SW X Γ W (.BoolOp .Or (b :: rest) pos) t2) : SW X Γ W (.BoolOp .Or (a :: b :: rest) pos) (dOrT t1 t2) := imW (pw_or h k) fun σ H Q ⟨env, B, s, p⟩ => by
  refine ⟨env, B, s, p.bind.mono fun b e1 B1 H1 s1 x1 q1 => ?_⟩
  cases b with
  | true =>
    rw [if_pos rfl] at q1 ⊢
    exact Post.here s1 q1
  | false =>
    rw [if_neg Bool.false_ne_true] at q1 ⊢
    exact ⟨e1, B1, s1, q1⟩
theorem sWT (h : SW X Γ W a t1) : ST X Γ W a t1 := h.pt
/-- as values, all but the last truth values -/
def dAndV (f g : DenV) : DenV := fun env => (dBT f env).bind fun b e => if b = true then g e else .ok (.bl false) e
def dOrV (f g : DenV) : DenV := fun env => (dBT f env).bind fun b e => if b = true then .ok (.bl true) e else g e
def dNotV (f : DenV) : DenV := fun env => (dBT f env).bind fun b e => .ok (.bl (!b)) e
variable {v1 v2 : DenV} {op : BoolOp}
theorem sOneV (h : SV X Γ W a v1) : SV X Γ W (.BoolOp op [a] pos) v1 := pe_one h
theorem tBT_bind {α : Type} {f : DenV} {k : Bool → Sto → Res α} {Φ : α → Sto → Hp → Hp → Prop} {env : Sto} {σ : L2.St} {B H : Hp} (p : Post Γ W env σ B H Φ ((dBT f env).bind k)) :
    Post Γ W env σ B H (fun d e1 B1 H1 => ∀ v, Rep Γ B1 d v → ∃ c, v = .bl c ∧ Post Γ W e1 σ B1 H1 Φ (k c e1)) (f env) := by
  have p2 := p.bind
  unfold dBT at p2
  refine p2.bind.mono fun d e1 B1 H1 s1 x1 q1 v hv => ?_
  cases d with
  | bl c => exact ⟨c, hv, Post.here s1 q1⟩
  | _ => exact q1.elim
theorem sAndV (h : SV X Γ W a v1) (k : SV X Γ W (.BoolOp .And (b :: rest) pos) v2) : SV X Γ W (.BoolOp .And (a :: b :: rest) pos) (dAndV v1 v2) := imE (pe_and h k) fun σ H Q ⟨env, B, s, p⟩ => by
  refine ⟨env, B, s, (tBT_bind p).mono fun d e1 B1 H1 s1 x1 q1 v hv => ?_⟩
  obtain ⟨c, rfl, q2⟩ := q1 v hv
  refine ⟨c, rfl, ?_⟩
  cases c with
  | true =>
    rw [if_pos rfl] at q2 ⊢
    exact ⟨e1, B1, s1, q2⟩
  | false =>
    rw [if_neg Bool.false_ne_true] at q2 ⊢
    exact Post.here s1 q2 _ rfl
theorem sOrV (h : SV X Γ W a v1) (k : SV X Γ W (.BoolOp .Or (b :: rest) pos) v2) : SV X Γ W (.BoolOp .Or (a :: b :: rest) pos) (dOrV v1 v2) := imE (pe_or h k) fun σ H Q ⟨env, B, s, p⟩ => by
  refine ⟨env, B, s, (tBT_bind p).mono fun d e1 B1 H1 s1 x1 q1 v hv => ?_⟩
  obtain ⟨c, rfl, q2⟩ := q1 v hv
  refine ⟨c, rfl, ?_⟩
  cases c with
  | true =>
    rw [if_pos rfl] at q2 ⊢
    exact Post.here s1 q2 _ rfl
  | false =>
    rw [if_neg Bool.false_ne_true] at q2 ⊢
    exact ⟨e1, B1, s1, q2⟩
theorem sNotV (h : SV X Γ W a v1) : SV X Γ W (.UnaryOp .Not a pos) (dNotV v1) := imE (pe_not h) fun σ H Q ⟨env, B, s, p⟩ => by
  refine ⟨env, B, s, (tBT_bind p).mono fun d e1 B1 H1 s1 x1 q1 v hv => ?_⟩
  obtain ⟨c, rfl, q2⟩ := q1 v hv
  exact ⟨c, rfl, Post.here s1 q2 _ rfl⟩
/-- a if t else b -/
def dIf (t : DenT) (f g : DenV) : DenV := fun env => (t env).bind fun b e => if b = true then f e else g e
theorem sIf (h : ST X Γ W c t1) (ha : SV X Γ W a v1) (hb : SV X Γ W b v2) : SV X Γ W (.IfExp c a b pos) (dIf t1 v1 v2) := imE (pe_ifExp h ha hb) fun σ H Q ⟨env, B, s, p⟩ => by
  refine ⟨env, B, s, p.bind.mono fun b e1 B1 H1 s1 x1 q1 => ?_⟩
  cases b with
  | true =>
    rw [if_pos rfl] at q1 ⊢
    exact ⟨e1, B1, s1, q1⟩
  | false =>
    rw [if_neg Bool.false_ne_true] at q1 ⊢
    exact ⟨e1, B1, s1, q1⟩
def dIfF (t : DenT) (f g : DenF) : DenF := fun env => (t env).bind fun b e => if b = true then f e else g e
theorem RetOk.imp {P P' : Addr → Prop} {env' : Sto} {σ' : L2.St} {B' H' : Hp} {r : Ent} {v : V} (h : ∀ p, P p → P' p) (k : RetOk Γ P env' σ' B' H' r v) : RetOk Γ P' env' σ' B' H' r v := by
  cases r with
  | val d => exact k
  | mu xs =>
    obtain ⟨p, vs, e1, e2, e3⟩ := k
    exact ⟨p, vs, e1, h p e2, e3⟩
  | _ => exact k
theorem sIfF {u1 u2 : DenF} (h : ST X Γ W c t1) (ha : SF X Γ W a u1) (hb : SF X Γ W b u2) : SF X Γ W (.IfExp c a b pos) (dIfF t1 u1 u2) := imE (pe_ifExp h ha hb) fun σ H Q ⟨env, B, s, p⟩ => by
  refine ⟨env, B, s, p.bind.mono fun b e1 B1 H1 s1 x1 q1 => ?_⟩
  cases b with
  | true =>
    rw [if_pos rfl] at q1 ⊢
    exact ⟨e1, B1, s1, q1.mono fun r env' B' H' s' x' q v hv => q v (hv.imp fun p hp => hp.back s1 x1)⟩
  | false =>
    rw [if_neg Bool.false_ne_true] at q1 ⊢
    exact ⟨e1, B1, s1, q1.mono fun r env' B' H' s' x' q v hv => q v (hv.imp fun p hp => hp.back s1 x1)⟩
end
end Ev

set_option Elab.async false
set_option linter.all false
set_option maxRecDepth 100000
set_option maxHeartbeats 4000000
namespace Ev
open PySem PySem.Spec PyProof.Rows L2

section
variable {X : Cx} {Γ : Wd} {W : WX} {e a b c : Expr} {es : List Expr} {pos : Pos} {f1 f2 f3 : DenL} {r : R2} {g : D → D → Option Ent}
/-! ### several things -/
def dVs : List DenV → DenVs
  | [] => fun env => .ok [] env
  | f :: fs => fun env => (f env).bind fun d e => (dVs fs e).bind fun ds e2 => .ok (d :: ds) e2
theorem sVsNil : SVs X Γ W [] (dVs []) := imA pa_nil fun σ H Q ⟨env, B, s, p⟩ => Post.here s p [] rfl
theorem sVsCons {f : DenV} {fs : List DenV} (h : SV X Γ W e f) (k : SVs X Γ W es (dVs fs)) (hs : starEach (e :: es) X.env = (false, eval e X.env) :: starEach es X.env := by rfl) : SVs X Γ W (e :: es) (dVs (f :: fs)) :=
  imA (pa_cons h k hs) fun σ H Q ⟨env, B, s, p⟩ =>
    ⟨env, B, s, p.bind.mono fun d e1 B1 H1 s1 x1 q1 v hv => ⟨e1, B1, s1, q1.bind.mono fun ds e2 B2 H2 s2 x2 q2 vs hvs => Post.here s2 q2 (v :: vs) ⟨v, vs, rfl, Rep.mono x2.b d v hv, hvs⟩⟩⟩
def dArs : List DenL → DenA
  | [] => fun env => .ok [] env
  | f :: fs => fun env => (f env).bind fun d e => (dArs fs e).bind fun ds e2 => .ok (d :: ds) e2
theorem sArNil : SA X Γ W [] (dArs []) := imA pa_nil fun σ H Q ⟨env, B, s, p⟩ => Post.here s p [] rfl
theorem sArCons {f : DenL} {fs : List DenL} (h : SL X Γ W e f) (k : SA X Γ W es (dArs fs)) (hs : starEach (e :: es) X.env = (false, eval e X.env) :: starEach es X.env := by rfl) : SA X Γ W (e :: es) (dArs (f :: fs)) :=
  imA (pa_cons h k hs) fun σ H Q ⟨env, B, s, p⟩ =>
    ⟨env, B, s, p.bind.mono fun d e1 B1 H1 s1 x1 q1 v hv => ⟨e1, B1, s1, q1.bind.mono fun ds e2 B2 H2 s2 x2 q2 vs hvs => Post.here s2 q2 (v :: vs) ⟨v, vs, rfl, hv.mono x2.b, hvs⟩⟩⟩
def dTup (fs : List DenV) : DenV := fun env => (dVs fs env).bind fun ds e => if ds.length ≤ 1000000 then .ok (.tup ds) e else .bad
def dLst (fs : List DenV) : DenF := fun env => (dVs fs env).bind fun ds e => if ds.length ≤ 1000000 then .ok (.mu ds) e else .bad
theorem sTup {fs : List DenV} {k : Nat} (h : SVs X Γ W es (dVs fs)) : SV X Γ W (.Tuple es k pos) (dTup fs) := imE (pe_tup h) fun σ H Q ⟨env, B, s, p⟩ => by
  refine ⟨env, B, s, p.bind.mono fun ds e1 B1 H1 s1 x1 q1 vs hvs => ?_⟩
  split at q1
  · rename_i hl
    exact ⟨LN_le (by rw [← hvs.length]; exact hl), fun p hp => q1 _ _ (s1.new hp) (Ext.new s1 hp) _ ⟨p, vs, rfl, .inl (.inl upd_same), Reps.mono (same_upd (s1.bfresh hp)) ds vs hvs⟩⟩
  · exact q1.elim
theorem sLst {fs : List DenV} (h : SVs X Γ W es (dVs fs)) : SF X Γ W (.List es pos) (dLst fs) := imE (pe_lst h) fun σ H Q ⟨env, B, s, p⟩ => by
  refine ⟨env, B, s, p.bind.mono fun ds e1 B1 H1 s1 x1 q1 vs hvs => ?_⟩
  split at q1
  · rename_i hl
    exact ⟨LN_le (by rw [← hvs.length]; exact hl), fun p hp => q1 _ _ (s1.newM hp) (Ext.newM hp) _ ⟨p, vs, rfl, .inl (x1.h0 p hp), s1.bfresh hp, upd_same, hvs, s1.fresh_own hp⟩⟩
  · exact q1.elim
/-! ### subscripts -/
def gIx : D → D → Option Ent
  | .tup xs, .int i => (atI xs i).map .val
  | .lst xs, .int i => (atI xs i).map .val
  | .fl xs, .int i => (atI xs i).map .val
  | .str s, .int i => if s.length ≤ 1000000 then (atI s.cps.toList i).map fun c => .val (.str ⟨#[c]⟩) else none
  | _, _ => none
theorem Reps.atI {B : Hp} {xs : List D} {vs : List V} {i : Int} {d : D} (r : Reps Γ B xs vs) (h : L2.atI xs i = some d) : ∃ v, L2.atI vs i = some v ∧ Rep Γ B d v := by
  unfold L2.atI at h ⊢
  rw [← r.length]
  cases e : ixN xs.length i with
  | none => rw [e] at h; cases h
  | some j =>
    rw [e] at h
    exact r.get h
theorem sv_ix : Serves Γ W (rIx Γ.K) gIx := by
  intro x y ent env σ B H P0 v w Q hg s hx hy h0 p
  have key : ∀ (xs : List D) (i : Int), (L2.atI xs i).map Ent.val = some ent → ∀ vs, Reps Γ B xs vs → ∃ v, L2.atI vs i = some v ∧ Q v H := fun xs i hm vs r => by
    cases ha : L2.atI xs i with
    | none => rw [ha] at hm; cases hm
    | some d =>
      rw [ha] at hm
      cases hm
      obtain ⟨v, h1, h2⟩ := r.atI ha
      exact ⟨v, h1, Post.val s p h2⟩
  cases y with
  | int i =>
    cases x with
    | tup xs =>
      obtain ⟨q, vs, e1, e2, e3⟩ := hx.tup s.same
      obtain ⟨z, k1, k2⟩ := key xs i hg vs e3
      exact .inr (.inl ⟨q, vs, i, z, e1, hy.int, e2, k1, k2⟩)
    | lst xs =>
      obtain ⟨q, vs, e1, e2, e3⟩ := hx.lst s.same
      obtain ⟨z, k1, k2⟩ := key xs i hg vs e3
      exact .inl ⟨q, vs, i, z, e1, hy.int, .inl (.inl e2), k1, k2⟩
    | fl xs =>
      obtain ⟨q, vs, e1, e2, e3⟩ := hx.fl s.same
      obtain ⟨z, k1, k2⟩ := key xs i hg vs e3
      exact .inl ⟨q, vs, i, z, e1, hy.int, e2, k1, k2⟩
    | str z =>
      have hg' : (if z.length ≤ 1000000 then (L2.atI z.cps.toList i).map (fun c => Ent.val (.str ⟨#[c]⟩)) else none) = some ent := hg
      split at hg'
      · rename_i hl
        cases ha : L2.atI z.cps.toList i with
        | none => rw [ha] at hg'; cases hg'
        | some c =>
          rw [ha] at hg'
          cases hg'
          exact .inr (.inr ⟨z, i, c, hx.str, hy.int, LN_le hl, ha, Post.val s p rfl⟩)
      · cases hg'
    | _ => cases hg
  | _ => cases x <;> cases hg
theorem sIx (hK : X.K = Γ.K) (ha : SL X Γ W a f1) (hb : SL X Γ W b f2) (hs : PlainIx b := by exact fun _ _ => rfl) : SF X Γ W (.Subscript a b pos) (dBin gIx f1 f2) :=
  imE (pe_ix (ix_seq (X := X)) ha hb hs) fun σ H Q h => by
    rw [hK]
    exact tOp_of sv_ix h
/-! ### slices -/
abbrev DenP := Sto → Res (Option Int)
def dPn : DenP := fun env => .ok none env
def dPs (f : DenV) : DenP := fun env => (f env).bind fun d e => match d with
  | .int i => .ok (some i) e
  | _ => .bad
def tP (Γ : Wd) (W : WX) (f : DenP) : TO := fun σ H Q => ∃ env B, StOk Γ env σ B H ∧ Post Γ W env σ B H (fun o _ _ H' => Q o H') (f env)
abbrev SP' (X : Cx) (Γ : Wd) (W : WX) (e : Option Expr) (f : DenP) : Prop := PO X e (tP Γ W f)
theorem imO {e : Option Expr} {t t' : TO} (h : PO X e t) (i : ∀ σ H Q, t' σ H Q → t σ H Q) : PO X e t' := ⟨fun pins s σ H Q I q => h.run pins s σ H Q I (i σ H Q q)⟩
theorem sPn : SP' X Γ W none dPn := imO po_none fun σ H Q ⟨env, B, s, p⟩ => Post.here s p
theorem sPs {f : DenV} (h : SV X Γ W e f) : SP' X Γ W (some e) (dPs f) := imO (po_some h) fun σ H Q ⟨env, B, s, p⟩ => by
  refine ⟨env, B, s, p.bind.mono fun d e1 B1 H1 s1 x1 q1 v hv => ?_⟩
  cases d with
  | int i => exact ⟨i, hv, Post.here s1 q1⟩
  | _ => exact q1.elim
def cutD (xs : List D) (lo hi : Option Int) : List D := (xs.drop (HT.sIx xs.length 0 lo)).take (HT.sIx xs.length xs.length hi - HT.sIx xs.length 0 lo)
def gSl (x : D) (lo hi : Option Int) : Option Ent := match x with
  | .tup xs => some (.val (.tup (cutD xs lo hi)))
  | .lst xs => some (.mu (cutD xs lo hi))
  | .fl xs => some (.mu (cutD xs lo hi))
  | _ => none
def dSl (f : DenL) (l h : DenP) : DenF := fun env => (f env).bind fun a e1 => (l e1).bind fun lo e2 => (h e2).bind fun hi e3 => match a.get e3 with
  | some x => (match gSl x lo hi with
    | some r => .ok r e3
    | none => .bad)
  | none => .bad
theorem Reps.cut {B : Hp} {xs : List D} {vs : List V} (r : Reps Γ B xs vs) (lo hi : Option Int) : Reps Γ B (cutD xs lo hi) (cutV vs lo hi) := by
  unfold cutD cutV
  rw [← r.length]
  exact (r.drop _).take _
theorem cutD_whole {xs : List D} {lo hi : Option Int} (h : HT.sIx xs.length 0 lo = 0 ∧ HT.sIx xs.length xs.length hi = xs.length) : cutD xs lo hi = xs := by
  unfold cutD
  rw [h.1, h.2]
  simp
theorem sSl {el eh : Option Expr} {l h : DenP} {p2 : Pos} (hK : X.K = Γ.K) (ha : SL X Γ W a f1) (hl : SP' X Γ W el l) (hh : SP' X Γ W eh h) : SF X Γ W (.Subscript a (.Slice el eh none p2) pos) (dSl f1 l h) :=
  imE (pe_slice ((sl_list (X := X)).or (sl_tupA (X := X))) ha hl hh) fun σ H Q ⟨env, B, s, p⟩ => by
    refine ⟨env, B, s, p.bind.mono fun a' e1 B1 H1 s1 x1 q1 v hv => ⟨e1, B1, s1, q1.bind.mono fun lo e2 B2 H2 s2 x2 q2 => ⟨e2, B2, s2, q2.bind.mono fun hi e3 B3 H3 s3 x3 q3 => ?_⟩⟩⟩
    cases ha : a'.get e3 with
    | none => rw [ha] at q3; exact q3.elim
    | some x =>
      rw [ha] at q3
      have hx := Ar.now s3 (hv.mono (x2.b.trans x3.b)) ha
      have h0 : ∀ p, H3 p = none → FreeR Γ env σ H p := fun p hp => .inl (x1.h0 p (x2.h0 p (x3.h0 p hp)))
      cases x with
      | tup xs =>
        have q4 : Post Γ W e3 σ B3 H3 (fun r env' B' H' => ∀ v, RetOk Γ (FreeR Γ env σ H) env' σ B' H' r v → Q v H') (.ok (.val (.tup (cutD xs lo hi))) e3) := q3
        have hx' := hx
        obtain ⟨q, vs, k1, k2, k3⟩ := hx.tup s3.same
        refine .inr ⟨q, vs, k1, by rw [hK]; exact k2, fun hw => ?_, fun hw p hp => Post.newT s3 q4 (k3.cut lo hi) hp⟩
        rw [← k1]
        rw [← k3.length] at hw
        rw [cutD_whole hw] at q4
        rcases hx' with r | ⟨_, _, _, c, _⟩
        · exact Post.val s3 q4 r
        · cases c
      | lst xs =>
        have q4 : Post Γ W e3 σ B3 H3 (fun r env' B' H' => ∀ v, RetOk Γ (FreeR Γ env σ H) env' σ B' H' r v → Q v H') (.ok (.mu (cutD xs lo hi)) e3) := q3
        obtain ⟨q, vs, k1, k2, k3⟩ := hx.lst s3.same
        exact .inl ⟨q, vs, k1, .inl (.inl k2), fun p hp => Post.newL h0 s3 q4 (k3.cut lo hi) hp⟩
      | fl xs =>
        have q4 : Post Γ W e3 σ B3 H3 (fun r env' B' H' => ∀ v, RetOk Γ (FreeR Γ env σ H) env' σ B' H' r v → Q v H') (.ok (.mu (cutD xs lo hi)) e3) := q3
        obtain ⟨q, vs, k1, k2, k3⟩ := hx.fl s3.same
        exact .inl ⟨q, vs, k1, by rw [hK]; exact k2, fun p hp => Post.newL h0 s3 q4 (k3.cut lo hi) hp⟩
      | _ => exact q3.elim
/-! ### built-in functions -/
def getAll : List Ar → Sto → Option (List D)
  | [], _ => some []
  | a :: as, env => match a.get env, getAll as env with
    | some d, some ds => some (d :: ds)
    | _, _ => none
def RepTs (Γ : Wd) (B H : Hp) : List D → List V → Prop
  | [], vs => vs = []
  | d :: ds, vs => ∃ v r, vs = v :: r ∧ RepT Γ B H d v ∧ RepTs Γ B H ds r
theorem getAll_now {env : Sto} {σ : L2.St} {B H : Hp} (s : StOk Γ env σ B H) : ∀ {as : List Ar} {vs : List V} {ds : List D}, ArsOk Γ B σ as vs → getAll as env = some ds → RepTs Γ B H ds vs
  | [], vs, ds, h, g => by
    cases g
    exact h
  | a :: as, vs, ds, h, g => by
    obtain ⟨v, r, e1, e2, e3⟩ := h
    have g' : (match a.get env, getAll as env with | some d, some ds => some (d :: ds) | _, _ => none) = some ds := g
    cases ha : a.get env with
    | none => rw [ha] at g'; cases g'
    | some d =>
      cases hr : getAll as env with
      | none => rw [ha, hr] at g'; cases g'
      | some ds' =>
        rw [ha, hr] at g'
        cases g'
        exact ⟨v, r, e1, Ar.now s e2 ha, getAll_now s e3 hr⟩
def ServesN (Γ : Wd) (W : WX) (r : List V → Hp → VK → Prop) (g : List D → Option Ent) : Prop := ∀ {ds : List D} {ent : Ent} {env : Sto} {σ : L2.St} {B H : Hp} {P0 : Addr → Prop} {vs : List V} {Q : VK}, g ds = some ent → StOk Γ env σ B H → RepTs Γ B H ds vs → (∀ p, H p = none → P0 p) →
  Post Γ W env σ B H (fun r env' B' H' => ∀ v, RetOk Γ P0 env' σ B' H' r v → Q v H') (.ok ent env) → r vs H Q
def dCB (g : List D → Option Ent) (fs : DenA) : DenF := fun env => (fs env).bind fun as e => match getAll as e with
  | some ds => (match g ds with
    | some r => .ok r e
    | none => .bad)
  | none => .bad
theorem tCB_of {r : List V → Hp → VK → Prop} {g : List D → Option Ent} {fs : DenA} (hg : ServesN Γ W r g) {σ : L2.St} {H : Hp} {Q : VK} (h : tF Γ W (dCB g fs) σ H Q) : tCB r (tAr Γ W fs) σ H Q := by
  obtain ⟨env, B, s, p⟩ := h
  refine ⟨env, B, s, p.bind.mono fun as e1 B1 H1 s1 x1 q1 vs hvs => ?_⟩
  cases ha : getAll as e1 with
  | none => rw [ha] at q1; exact q1.elim
  | some ds =>
    rw [ha] at q1
    have q2 : Post Γ W e1 σ B1 H1 (fun r env' B' H' => ∀ v, RetOk Γ (FreeR Γ env σ H) env' σ B' H' r v → Q v H') (match g ds with | some r => .ok r e1 | none => .bad) := q1
    cases hr : g ds with
    | none => rw [hr] at q2; exact q2.elim
    | some ent =>
      rw [hr] at q2
      exact hg hr s1 (getAll_now s1 hvs ha) (fun p hp => .inl (x1.h0 p hp)) q2
theorem sCB {r : List V → Hp → VK → Prop} {g : List D → Option Ent} {fs : DenA} {id : String} {x : Str} {p : Pos} (hc : CallR X (.builtin id) r) (hg : ServesN Γ W r g) (gl : Gl X x) (hm : X.mg x = none) (hv : bootBuiltins x = some (.builtin id)) (ha : SA X Γ W (e :: es) fs) (hn : x ≠ "__name__" := by decide) (hdb : (x == ("__debug__" : Str)) = false := by decide)
    (he : starEach (e :: es) X.env = (false, eval e X.env) :: starEach es X.env := by rfl) (hpl : (backTo pos (starEach es X.env)).any (·.1) = false := by rfl) : SF X Γ W (.Call (.Name x p) (e :: es) [] pos) (dCB g fs) :=
  imE (pe_callB hc gl hm hv ha hn hdb he hpl) fun σ H Q h => tCB_of hg h
theorem sCT {r : List V → Hp → VK → Prop} {g : List D → Option Ent} {fs : DenA} {T : String} {x : Str} {p : Pos} (hc : CallR X (.type T) r) (hg : ServesN Γ W r g) (gl : Gl X x) (hm : X.mg x = none) (hv : bootBuiltins x = some (.type T)) (ha : SA X Γ W (e :: es) fs) (hn : x ≠ "__name__" := by decide) (hdb : (x == ("__debug__" : Str)) = false := by decide)
    (he : starEach (e :: es) X.env = (false, eval e X.env) :: starEach es X.env := by rfl) (hpl : (backTo pos (starEach es X.env)).any (·.1) = false := by rfl) : SF X Γ W (.Call (.Name x p) (e :: es) [] pos) (dCB g fs) :=
  imE (pe_callTy hc gl hm hv ha hn hdb he hpl) fun σ H Q h => tCB_of hg h
theorem sCG {r : List V → Hp → VK → Prop} {g : List D → Option Ent} {fs : DenA} {id : String} {x : Str} {p : Pos} (hc : CallR X (.builtin id) r) (hg : ServesN Γ W r g) (gl : Gl X x) (hm : X.mg x = some (.builtin id)) (ha : SA X Γ W (e :: es) fs) (hdb : (x == ("__debug__" : Str)) = false := by decide)
    (he : starEach (e :: es) X.env = (false, eval e X.env) :: starEach es X.env := by rfl) (hpl : (backTo pos (starEach es X.env)).any (·.1) = false := by rfl) : SF X Γ W (.Call (.Name x p) (e :: es) [] pos) (dCB g fs) :=
  imE (pe_callBfun hc gl hm ha hdb he hpl) fun σ H Q h => tCB_of hg h
theorem RepTs.one {B H : Hp} {d : D} {vs : List V} (h : RepTs Γ B H [d] vs) : ∃ v, vs = [v] ∧ RepT Γ B H d v := by
  obtain ⟨v, r, e1, e2, e3⟩ := h
  have e3' : r = [] := e3
  exact ⟨v, by rw [e1, e3'], e2⟩
theorem RepTs.two {B H : Hp} {d d' : D} {vs : List V} (h : RepTs Γ B H [d, d'] vs) : ∃ v w, vs = [v, w] ∧ RepT Γ B H d v ∧ RepT Γ B H d' w := by
  obtain ⟨v, r, e1, e2, e3⟩ := h
  obtain ⟨w, e4, e5⟩ := RepTs.one e3
  exact ⟨v, w, by rw [e1, e4], e2, e5⟩
def gLen : List D → Option Ent
  | [.str z] => if z.length ≤ 1000000 then some (.val (.int z.length)) else none
  | [.tup xs] => some (.val (.int xs.length))
  | [.lst xs] => some (.val (.int xs.length))
  | [.fl xs] => some (.val (.int xs.length))
  | _ => none
def rLenE (K : PySem.W.Frag) : List V → Hp → VK → Prop := fun xs H Q => (∃ p ys, xs = [.ref p] ∧ (SqL K H p ys ∨ SqT K H p ys) ∧ Q (.int ys.length) H) ∨ (∃ z : Str, xs = [.str z] ∧ z.length ≤ sizeLine ∧ Q (.int z.length) H)
theorem sv_len : ServesN Γ W (rLenE Γ.K) gLen := by
  intro ds ent env σ B H P0 vs Q hg s hx h0 p
  cases ds with
  | nil => cases hg
  | cons d r =>
    cases r with
    | cons _ _ => cases d <;> cases hg
    | nil =>
      obtain ⟨v, rfl, k⟩ := hx.one
      have key : ∀ xs, d.its = some xs → ent = .val (.int xs.length) → rLenE Γ.K [v] H Q := fun xs h1 h2 => by
        subst h2
        obtain ⟨q, ws, rfl, k2, k3⟩ := k.seq s.same h1
        refine .inl ⟨q, ws, rfl, k2, ?_⟩
        rw [← k3.length]
        exact Post.val s p rfl
      cases d with
      | str z =>
        have hg' : (if z.length ≤ 1000000 then some (Ent.val (.int z.length)) else none) = some ent := hg
        split at hg'
        · rename_i hl
          cases hg'
          rw [k.str]
          exact .inr ⟨z, rfl, LN_le hl, Post.val s p rfl⟩
        · cases hg'
      | tup xs => exact key xs rfl (Option.some.inj hg).symm
      | lst xs => exact key xs rfl (Option.some.inj hg).symm
      | fl xs => exact key xs rfl (Option.some.inj hg).symm
      | _ => cases hg
theorem call_lenE : CallR X (.builtin "len") (rLenE X.K) := (call_len_seq (X := X)).or fun pins s σ H xs us Q I r h => by
  obtain ⟨z, e, h1, q⟩ := h
  exact call_len_str pins s σ H xs us Q I r ⟨z, e, h1, q⟩
def gList : List D → Option Ent
  | [.tup xs] => some (.mu xs)
  | [.lst xs] => some (.mu xs)
  | [.fl xs] => some (.mu xs)
  | _ => none
theorem sv_list : ServesN Γ W (fun xs H Q => ∃ p ys, xs = [.ref p] ∧ (SqL Γ.K H p ys ∨ SqT Γ.K H p ys) ∧ ∀ l, H l = none → Q (.ref l) (upd H l (.lst ys))) gList := by
  intro ds ent env σ B H P0 vs Q hg s hx h0 p
  cases ds with
  | nil => cases hg
  | cons d r =>
    cases r with
    | cons _ _ => cases d <;> cases hg
    | nil =>
      obtain ⟨v, rfl, k⟩ := hx.one
      have key : ∀ xs, d.its = some xs → ent = .mu xs → ∃ p ys, [v] = [V.ref p] ∧ (SqL Γ.K H p ys ∨ SqT Γ.K H p ys) ∧ ∀ l, H l = none → Q (.ref l) (upd H l (.lst ys)) := fun xs h1 h2 => by
        subst h2
        obtain ⟨q, ws, rfl, k2, k3⟩ := k.seq s.same h1
        exact ⟨q, ws, rfl, k2, fun l hl => Post.newL h0 s p k3 hl⟩
      cases d with
      | tup xs => exact key xs rfl (Option.some.inj hg).symm
      | lst xs => exact key xs rfl (Option.some.inj hg).symm
      | fl xs => exact key xs rfl (Option.some.inj hg).symm
      | _ => cases hg
def gTuple : List D → Option Ent
  | [.tup xs] => some (.val (.tup xs))
  | [.lst xs] => some (.val (.tup xs))
  | [.fl xs] => some (.val (.tup xs))
  | _ => none
theorem sv_tuple : ServesN Γ W (fun xs H Q => ∃ p ys, xs = [.ref p] ∧ ((SqL Γ.K H p ys ∧ ∀ l, H l = none → Q (.ref l) (upd H l (.tup ys))) ∨ (SqT Γ.K H p ys ∧ Q (.ref p) H))) gTuple := by
  intro ds ent env σ B H P0 vs Q hg s hx h0 p
  cases ds with
  | nil => cases hg
  | cons d r =>
    cases r with
    | cons _ _ => cases d <;> cases hg
    | nil =>
      obtain ⟨v, rfl, k⟩ := hx.one
      cases d with
      | tup xs =>
        have h2 : ent = .val (.tup xs) := (Option.some.inj hg).symm
        subst h2
        have k' := k
        obtain ⟨q, ws, e1, e2, e3⟩ := k.tup s.same
        refine ⟨q, ws, by rw [e1], .inr ⟨e2, ?_⟩⟩
        rw [← e1]
        rcases k' with r | ⟨_, _, _, c, _⟩
        · exact Post.val s p r
        · cases c
      | lst xs =>
        have h2 : ent = .val (.tup xs) := (Option.some.inj hg).symm
        subst h2
        obtain ⟨q, ws, e1, e2, e3⟩ := k.lst s.same
        exact ⟨q, ws, by rw [e1], .inl ⟨.inl (.inl e2), fun l hl => Post.newT s p e3 hl⟩⟩
      | fl xs =>
        have h2 : ent = .val (.tup xs) := (Option.some.inj hg).symm
        subst h2
        obtain ⟨q, ws, e1, e2, e3⟩ := k.fl s.same
        exact ⟨q, ws, by rw [e1], .inl ⟨e2, fun l hl => Post.newT s p e3 hl⟩⟩
      | _ => cases hg
def gAbs : List D → Option Ent
  | [.int i] => some (.val (.int (if i < 0 then -i else i)))
  | _ => none
theorem sv_abs : ServesN Γ W (fun xs H Q => ∃ i, xs = [.int i] ∧ Q (.int (if i < 0 then -i else i)) H) gAbs := by
  intro ds ent env σ B H P0 vs Q hg s hx h0 p
  cases ds with
  | nil => cases hg
  | cons d r =>
    cases r with
    | cons _ _ => cases d <;> cases hg
    | nil =>
      obtain ⟨v, rfl, k⟩ := hx.one
      cases d with
      | int i =>
        cases hg
        exact ⟨i, by rw [k.int], Post.val s p rfl⟩
      | _ => cases hg
def gInt : List D → Option Ent
  | [.int i] => some (.val (.int i))
  | [.bl k] => some (.val (.int (if k then 1 else 0)))
  | _ => none
theorem sv_int : ServesN Γ W (fun xs H Q => (∃ i, xs = [.int i] ∧ Q (.int i) H) ∨ ∃ k, xs = [.bl k] ∧ Q (.int (if k then 1 else 0)) H) gInt := by
  intro ds ent env σ B H P0 vs Q hg s hx h0 p
  cases ds with
  | nil => cases hg
  | cons d r =>
    cases r with
    | cons _ _ => cases d <;> cases hg
    | nil =>
      obtain ⟨v, rfl, k⟩ := hx.one
      cases d with
      | int i =>
        cases hg
        exact .inl ⟨i, by rw [k.int], Post.val s p rfl⟩
      | bl i =>
        cases hg
        exact .inr ⟨i, by rw [k.bl], Post.val s p rfl⟩
      | _ => cases hg
def gGcd : List D → Option Ent
  | [.int i, .int j] => some (.val (.int ((Nat.gcd i.natAbs j.natAbs : Nat) : Int)))
  | _ => none
theorem sv_gcd : ServesN Γ W rGcd gGcd := by
  intro ds ent env σ B H P0 vs Q hg s hx h0 p
  match ds, hg, hx with
  | [.int i, .int j], hg, hx =>
    obtain ⟨v, w, rfl, k1, k2⟩ := hx.two
    cases hg
    exact ⟨i, j, by rw [k1.int, k2.int], Post.val s p rfl⟩
/-! ### isinstance -/
def tyN : D → String
  | .non => "NoneType" | .bl _ => "bool" | .int _ => "int" | .str _ => "str" | .tup _ => "tuple" | .lst _ => "list" | .fl _ => "list" | .ins _ _ _ => ""
theorem RepT.ty {B H : Hp} {d : D} {v : V} (s : Same B H) (h : RepT Γ B H d v) (hd : tyN d ≠ "") : TyX Γ.K H v (.type (tyN d)) := by
  have hL : ∀ p vs, SqL Γ.K H p vs → TyX Γ.K H (.ref p) (.type "list") := fun p vs q => by
    rcases q with (q | ⟨o, q⟩) | ⟨o, its, n, k1, k2, _⟩
    · exact .base (.lst q)
    · exact .base (.frz q)
    · exact .kList k1 k2
  cases d with
  | non => rw [h.non]; exact .base .non
  | bl b => rw [h.bl]; exact .base (.bl b)
  | int b => rw [h.int]; exact .base (.int b)
  | str b => rw [h.str]; exact .base (.str b)
  | tup xs =>
    obtain ⟨p, vs, rfl, q, _⟩ := h.tup s
    rcases q with (q | ⟨o, q⟩) | ⟨o, its, n, k1, k2, _⟩
    · exact .base (.tup q)
    · exact .fTuple q
    · exact .kTuple k1 k2
  | lst xs =>
    obtain ⟨p, vs, rfl, q, _⟩ := h.lst s
    exact hL p vs (.inl (.inl q))
  | fl xs =>
    obtain ⟨p, vs, rfl, q, _⟩ := h.fl s
    exact hL p vs q
  | ins c ns xs => exact (hd rfl).elim
def isT (d : D) (c : String) : Bool := match d with
  | .bl _ => c == "bool" || c == "int"
  | .int _ => c == "int"
  | .str _ => c == "str"
  | .tup _ => c == "tuple"
  | .lst _ => c == "list"
  | .fl _ => c == "list"
  | _ => false
def okT (c : String) : Bool := c == "bool" || c == "int" || c == "str" || c == "tuple" || c == "list"
def isTN (t c : String) : Bool := if t == "bool" then c == "bool" || c == "int" else if t == "NoneType" then false else t == c
theorem kit_table : ∀ t ∈ ["NoneType", "bool", "int", "str", "tuple", "list"], ∀ c ∈ ["bool", "int", "str", "tuple", "list"], kitB t c = some (isTN t c) := by decide +kernel
theorem kit_isT {K : PySem.W.Frag} {d : D} {c : String} (hd : tyN d ≠ "") (hc : okT c = true) : PySem.W.kitOne K (.type (tyN d)) (.type c) = some (isT d c) := by
  have h : c ∈ ["bool", "int", "str", "tuple", "list"] := by
    unfold okT at hc
    simp only [Bool.or_eq_true, beq_iff_eq] at hc
    simp only [List.mem_cons, List.not_mem_nil, or_false]
    rcases hc with (((h | h) | h) | h) | h
    · exact .inl h
    · exact .inr (.inl h)
    · exact .inr (.inr (.inl h))
    · exact .inr (.inr (.inr (.inl h)))
    · exact .inr (.inr (.inr (.inr h)))
  have ht : tyN d ∈ ["NoneType", "bool", "int", "str", "tuple", "list"] := by
    cases d with
    | ins _ _ _ => exact (hd rfl).elim
    | _ => simp [tyN]
  have e := kit_ty (K := K) (kit_table _ ht c h)
  rw [e]
  congr 1
  simp only [List.mem_cons, List.not_mem_nil, or_false] at h
  cases d with
  | ins _ _ _ => exact (hd rfl).elim
  | _ => rcases h with rfl | rfl | rfl | rfl | rfl <;> rfl
def isTs (d : D) (cs : List String) : Bool := cs.any (isT d)
theorem kit_isTs {K : PySem.W.Frag} {d : D} (hd : tyN d ≠ "") : ∀ {cs : List String}, cs.all okT = true → PySem.W.kitAny K (.type (tyN d)) (cs.map Value.type) = some (isTs d cs)
  | [], _ => kitAny_nil
  | c :: cs, h => by
    obtain ⟨h1, h2⟩ := Bool.and_eq_true_iff.mp (show (okT c && cs.all okT) = true from h)
    refine kitAny_cons (kit_isT hd h1) (fun z => ?_) (fun z => ?_)
    · rw [kit_isTs hd h2]
      unfold isTs
      rw [List.any_cons, z, Bool.false_or]
    · unfold isTs
      rw [List.any_cons, z, Bool.true_or]
def noIns : D → Bool
  | .ins _ _ _ => false
  | _ => true
theorem tyN_ne {d : D} (h : noIns d = true) : tyN d ≠ "" := by
  cases d with
  | ins _ _ _ => cases h
  | _ => exact (by simp [tyN])
def dIsi (cs : List String) (f : DenL) : DenV := fun env => (f env).bind fun a e => match a.get e with
  | some d => if noIns d = true then .ok (.bl (isTs d cs)) e else .bad
  | none => .bad
theorem tIsi {cs : List String} {σ : L2.St} {H : Hp} {Q : VK} (h : tV Γ W (dIsi cs f1) σ H Q) : tL Γ W f1 σ H fun v H1 => ∃ d e1 B1, StOk Γ e1 σ B1 H1 ∧ RepT Γ B1 H1 d v ∧ noIns d = true ∧ ∀ B2 H2, StOk Γ e1 σ B2 H2 → Ext Γ e1 σ B1 H1 e1 σ B2 H2 → Q (.bl (isTs d cs)) H2 := by
  obtain ⟨env, B, s, p⟩ := h
  refine ⟨env, B, s, p.bind.mono fun a e1 B1 H1 s1 x1 q1 v hv => ?_⟩
  cases ha : a.get e1 with
  | none => rw [ha] at q1; exact q1.elim
  | some d =>
    rw [ha] at q1
    have q2 : Post Γ W e1 σ B1 H1 (fun d _ B' H' => ∀ v, Rep Γ B' d v → Q v H') (if noIns d = true then .ok (.bl (isTs d cs)) e1 else .bad) := q1
    by_cases hn : noIns d = true
    · rw [if_pos hn] at q2
      exact ⟨d, e1, B1, s1, Ar.now s1 hv ha, hn, fun B2 H2 s2 x2 => q2 B2 H2 s2 x2 _ rfl⟩
    · rw [if_neg hn] at q2
      exact q2.elim
theorem sIsi {c : String} {x n : Str} {p p2 : Pos} (hK : X.K = Γ.K) (gl : Gl X x) (hm : X.mg x = none) (hv : bootBuiltins x = some (.builtin "isinstance")) (ha : SL X Γ W a f1) (hc : PE X (.Name n p2) (tC (.ty c))) (ok : okT c = true) (hn : x ≠ "__name__" := by decide) (hdb : (x == ("__debug__" : Str)) = false := by decide)
    (he : starEach [a, .Name n p2] X.env = (false, eval a X.env) :: starEach [.Name n p2] X.env := by rfl) : SV X Γ W (.Call (.Name x p) [a, .Name n p2] [] pos) (dIsi [c] f1) :=
  imE (pe_callB (call_isi (X := X)) gl hm hv (pa_cons ha (pa_cons hc pa_nil) he) hn hdb he) fun σ H Q h => by
    refine (fun {α : Prop} {β : Prop} (f : α → β) (x : α) => f x) (fun k => ?_) (tIsi h)
    obtain ⟨env, B, s, p⟩ := k
    refine ⟨env, B, s, p.mono fun a e1 B1 H1 s1 x1 q1 v hv => ?_⟩
    obtain ⟨d, e2, B2, s2, r2, nd, q2⟩ := q1 v hv
    refine ⟨v, .ty c, .type (tyN d), .type c, isT d c, rfl, .ty c, ?_, kit_isT (tyN_ne nd) ok, ?_⟩
    · rw [hK]; exact r2.ty s2.same (tyN_ne nd)
    · have z := q2 B2 H1 s2 Ext.refl
      unfold isTs at z
      rw [List.any_cons, List.any_nil, Bool.or_false] at z
      exact z
/-- names of classes -/
inductive TyNames (X : Cx) : List Expr → List String → Prop
  | nil : TyNames X [] []
  | cons {n : Str} {p : Pos} {c : String} {es : List Expr} {cs : List String} (h : PE X (.Name n p) (tC (.ty c))) (hs : starEach (.Name n p :: es) X.env = (false, eval (.Name n p) X.env) :: starEach es X.env) (r : TyNames X es cs) : TyNames X (.Name n p :: es) (c :: cs)
def tTys (cs : List String) : TA := fun _ H Q => Q (cs.map V.ty) H
theorem TyNames.pa {es : List Expr} {cs : List String} (h : TyNames X es cs) : PA X es (tTys cs) := by
  induction h with
  | nil => exact imA pa_nil fun σ H Q q => q
  | @cons n p c es cs h hs r ih => exact imA (pa_cons h ih hs) fun σ H Q q => q
theorem clsv_all : ∀ cs : List String, Paired ClsV (cs.map V.ty) (cs.map Value.type)
  | [] => .nil
  | c :: cs => .cons (.ty c) (clsv_all cs)
theorem sIsiT {cs : List String} {x : Str} {p p2 : Pos} {k : Nat} (hK : X.K = Γ.K) (gl : Gl X x) (hm : X.mg x = none) (hv : bootBuiltins x = some (.builtin "isinstance")) (ha : SL X Γ W a f1) (hc : TyNames X es cs) (ok : cs.all okT = true) (hz : cs.length ≤ 100) (hn : x ≠ "__name__" := by decide) (hdb : (x == ("__debug__" : Str)) = false := by decide)
    (he : starEach [a, .Tuple es k p2] X.env = (false, eval a X.env) :: starEach [.Tuple es k p2] X.env := by rfl) : SV X Γ W (.Call (.Name x p) [a, .Tuple es k p2] [] pos) (dIsi cs f1) :=
  imE (pe_callB (call_isiT (X := X)) gl hm hv (pa_cons ha (pa_cons (pe_tup hc.pa) pa_nil) he) hn hdb he) fun σ H Q h => by
    refine (fun {α : Prop} {β : Prop} (f : α → β) (x : α) => f x) (fun k => ?_) (tIsi h)
    obtain ⟨env, B, s, p⟩ := k
    refine ⟨env, B, s, p.mono fun a e1 B1 H1 s1 x1 q1 v hv => ⟨LN_le (by rw [List.length_map]; omega), fun t ht => ?_⟩⟩
    obtain ⟨d, e2, B2, s2, r2, nd, q2⟩ := q1 v hv
    have s3 := s2.newM (o := .tup (cs.map V.ty)) ht
    refine ⟨v, t, cs.map V.ty, .type (tyN d), cs.map Value.type, isTs d cs, rfl, upd_same, clsv_all cs, ?_, kit_isTs (tyN_ne nd) ok, q2 B2 _ s3 (Ext.newM ht)⟩
    rw [hK]
    refine RepT.ty s3.same ?_ (tyN_ne nd)
    rcases r2 with r | ⟨xs, p, vs, e1, e2, e3, e4⟩
    · exact .inl r
    · exact .inr ⟨xs, p, vs, e1, e2, same_upd ht _ _ e3, e4⟩
end
end Ev

set_option Elab.async false
set_option linter.all false
set_option maxRecDepth 100000
set_option maxHeartbeats 4000000
namespace Ev
open PySem PySem.Spec PyProof.Rows L2

/-! ### statements -/
inductive Fl where
  | nx | bk | ct | rt (r : Ent)
abbrev DenS := Sto → Res Fl
section
variable {Γ : Wd} {W : WX} {env env1 env' : Sto} {σ σ1 σ' : L2.St} {B H B1 H1 B' H' : Hp}
def PostS (Γ : Wd) (W : WX) (env : Sto) (σ : L2.St) (B H : Hp) (Dn : Ends) : Res Fl → Prop
  | .ok .nx env' => ∀ σ' B' H', StOk Γ env' σ' B' H' → Ext Γ env σ B H env' σ' B' H' → Dn.nx σ' H'
  | .ok .bk env' => ∀ σ' B' H', StOk Γ env' σ' B' H' → Ext Γ env σ B H env' σ' B' H' → Dn.bk σ' H'
  | .ok .ct env' => ∀ σ' B' H', StOk Γ env' σ' B' H' → Ext Γ env σ B H env' σ' B' H' → Dn.ct σ' H'
  | .ok (.rt r) env' => ∀ v σ' B' H', StOk Γ env' σ' B' H' → Ext Γ env σ B H env' σ' B' H' → RetOk Γ (FreeR Γ env σ H) env' σ' B' H' r v → Dn.rt v H'
  | .err c ns xs env' => ∀ cls d σ' B' H', StOk Γ env' σ' B' H' → Ext Γ env σ B H env' σ' B' H' → XnOk Γ B' H' c ns xs cls d → W cls d σ' H'
  | .bad => False
theorem PostS.fwd {Dn : Ends} {r : Res Fl} (s1 : StOk Γ env1 σ1 B1 H1) (x : Ext Γ env σ B H env1 σ1 B1 H1) (h : PostS Γ W env σ B H Dn r) : PostS Γ W env1 σ1 B1 H1 Dn r := by
  cases r with
  | ok f e =>
    cases f with
    | nx => exact fun σ' B' H' s y => h σ' B' H' s (x.trans y)
    | bk => exact fun σ' B' H' s y => h σ' B' H' s (x.trans y)
    | ct => exact fun σ' B' H' s y => h σ' B' H' s (x.trans y)
    | rt r => exact fun v σ' B' H' s y q => h v σ' B' H' s (x.trans y) (q.imp fun p hp => hp.back s1 x)
  | err c ns xs e => exact fun cls d σ' B' H' s y q => h cls d σ' B' H' s (x.trans y) q
  | bad => exact h
/-- an expression, then a statement's end -/
theorem PostS.bind {α : Type} {Dn : Ends} {r : Res α} {k : α → Sto → Res Fl} (h : PostS Γ W env σ B H Dn (r.bind k)) :
    Post Γ W env σ B H (fun a e1 B1 H1 => Ext Γ env σ B H e1 σ B1 H1 ∧ PostS Γ W env σ B H Dn (k a e1)) r := by
  cases r with
  | ok a e => exact fun B' H' s x => ⟨x, h⟩
  | err c ns xs e => exact fun cls d B' H' s x q => h cls d σ B' H' s x q
  | bad => exact h
end
def tS (Γ : Wd) (W : WX) (f : DenS) : TS := fun Dn σ H => ∃ env B, StOk Γ env σ B H ∧ PostS Γ W env σ B H Dn (f env)
abbrev SS (X : Cx) (Γ : Wd) (W : WX) (st : Stmt) (f : DenS) : Prop := PS X st (tS Γ W f)
abbrev SSs (X : Cx) (Γ : Wd) (W : WX) (st : List Stmt) (f : DenS) : Prop := PSs X st (tS Γ W f)
def dSkip : DenS := fun env => .ok .nx env
def dSeq (f g : DenS) : DenS := fun env => match f env with
  | .ok .nx e => g e
  | r => r
def dIfS (t : DenT) (f g : DenS) : DenS := fun env => (t env).bind fun b e => if b = true then f e else g e
section
variable {X : Cx} {Γ : Wd} {W : WX} {e a b c : Expr} {es : List Expr} {pos : Pos} {st : Stmt} {rest body orelse : List Stmt} {f g : DenS}
theorem sNil : SSs X Γ W [] dSkip := imSs pss_nil fun Q σ H ⟨env, B, s, p⟩ => p σ B H s Ext.refl
theorem sPass : SS X Γ W (.Pass pos) dSkip := imS ps_pass fun Q σ H ⟨env, B, s, p⟩ => p σ B H s Ext.refl
theorem sCons (h : SS X Γ W st f) (k : SSs X Γ W rest g) : SSs X Γ W (st :: rest) (dSeq f g) := imSs (pss_cons h k) fun Q σ H ⟨env, B, s, p⟩ => by
  refine ⟨env, B, s, ?_⟩
  have p' : PostS Γ W env σ B H Q (match f env with | .ok .nx e => g e | r => r) := p
  cases hf : f env with
  | ok fl e1 =>
    rw [hf] at p'
    cases fl with
    | nx => exact fun σ' B' H' s' x => ⟨e1, B', s', PostS.fwd s' x p'⟩
    | bk => exact p'
    | ct => exact p'
    | rt r => exact p'
  | err c ns xs e1 =>
    rw [hf] at p'
    exact p'
  | bad =>
    rw [hf] at p'
    exact p'
theorem sOne (h : SS X Γ W st f) : SSs X Γ W [st] f := pss_one h
def dBreak : DenS := fun env => .ok .bk env
def dCont : DenS := fun env => .ok .ct env
theorem sBreak : SS X Γ W (.Break pos) dBreak := imS ps_break fun Q σ H ⟨env, B, s, p⟩ => p σ B H s Ext.refl
theorem sCont : SS X Γ W (.Continue pos) dCont := imS ps_continue fun Q σ H ⟨env, B, s, p⟩ => p σ B H s Ext.refl
theorem sDoc {x : Str} {j : Nat} {pos' : Pos} : SS X Γ W (.Expr (.Constant (.str x) j pos) pos') dSkip := imS ps_doc fun Q σ H ⟨env, B, s, p⟩ => p σ B H s Ext.refl
theorem sIfS {t : DenT} (h : ST X Γ W c t) (ha : SSs X Γ W body f) (hb : SSs X Γ W orelse g) : SS X Γ W (.If c body orelse pos) (dIfS t f g) := imS (ps_if h ha hb) fun Q σ H ⟨env, B, s, p⟩ => by
  refine ⟨env, B, s, p.bind.mono fun b e1 B1 H1 s1 x1 q1 => ?_⟩
  obtain ⟨x, q⟩ := q1
  cases b with
  | true =>
    rw [if_pos rfl] at q ⊢
    exact ⟨e1, B1, s1, PostS.fwd s1 x q⟩
  | false =>
    rw [if_neg Bool.false_ne_true] at q ⊢
    exact ⟨e1, B1, s1, PostS.fwd s1 x q⟩
/-! ### return -/
def dRet (f : DenF) : DenS := fun env => (f env).bind fun r e => .ok (.rt r) e
def dRetN : DenS := fun env => .ok (.rt (.val .non)) env
theorem sRet {f : DenF} (h : SF X Γ W e f) : SS X Γ W (.Return (some e) pos) (dRet f) := imS (ps_ret h) fun Q σ H ⟨env, B, s, p⟩ =>
  ⟨env, B, s, p.bind.mono fun r e1 B1 H1 s1 x1 q1 v hv => q1.2 v σ B1 H1 s1 q1.1 hv⟩
theorem sRetN : SS X Γ W (.Return none pos) dRetN := imS ps_retN fun Q σ H ⟨env, B, s, p⟩ => p .non σ B H s Ext.refl rfl
/-- a local list is handed over -/
def dGive (i : Nat) : DenS := fun env => match env[i]? with
  | some (.val d) => .ok (.rt (.val d)) env
  | some (.mu xs) => .ok (.rt (.mu xs)) (env.set i .un)
  | _ => .bad
/-! ### stores -/
theorem StOk.setV {env : Sto} {σ : L2.St} {B H : Hp} {i : Nat} {d : D} {v : V} (s : StOk Γ env σ B H) (r : Rep Γ B d v) : StOk Γ (env.set i (.val d)) (σ.set i (some v)) B H where
  same := s.same
  len := by rw [List.length_set, List.length_set]; exact s.len
  ent := fun j e o h1 h2 => by
    rcases Sto.set_get h1 with ⟨rfl, rfl⟩ | ⟨ne, q⟩
    · have hl : i < σ.length := by
        have z := (List.getElem?_eq_some_iff.mp h2).1
        rw [List.length_set] at z
        exact z
      rw [List.getElem?_set_self hl] at h2
      cases h2
      exact ⟨v, rfl, r⟩
    · rw [List.getElem?_set_ne ne] at h2
      exact s.ent j e o q h2
  dis := fun j k ys zs q h1 h2 h3 h4 => by
    rcases Sto.set_get h1 with ⟨_, z⟩ | ⟨n1, q1⟩
    · cases z
    · rcases Sto.set_get h2 with ⟨_, z⟩ | ⟨n2, q2⟩
      · cases z
      · rw [List.getElem?_set_ne n1] at h3
        rw [List.getElem?_set_ne n2] at h4
        exact s.dis j k ys zs q q1 q2 h3 h4
theorem Own.setV {env : Sto} {σ : L2.St} {i : Nat} {d : D} {o : Option V} {p : Addr} (h : Own (env.set i (.val d)) (σ.set i o) p) : Own env σ p := by
  obtain ⟨j, xs, e1, e2⟩ := h
  rcases Sto.set_get e1 with ⟨_, q⟩ | ⟨n, q⟩
  · cases q
  · rw [List.getElem?_set_ne n] at e2
    exact ⟨j, xs, q, e2⟩
theorem Ext.setV {env env1 : Sto} {σ σ1 : L2.St} {B H B1 H1 : Hp} {i : Nat} {d : D} {o : Option V} (x : Ext Γ env σ B H env1 σ1 B1 H1) (hi : i ∉ Γ.R) : Ext Γ env σ B H (env1.set i (.val d)) (σ1.set i o) B1 H1 where
  b := x.b
  t := x.t
  f := fun p o h n => by
    obtain ⟨k1, k2, k3⟩ := x.f p o h n
    exact ⟨k1, k2, fun z => k3 z.setV⟩
  r := fun j hj => by
    have ne : i ≠ j := fun z => hi (z ▸ hj)
    obtain ⟨k1, k2⟩ := x.r j hj
    refine ⟨by rw [List.getElem?_set_ne ne]; exact k1, fun xs p e1 e2 => ?_⟩
    rcases k2 xs p e1 e2 with ⟨ys, q⟩ | q
    · exact .inl ⟨ys, by rw [List.getElem?_set_ne ne]; exact q⟩
    · exact .inr q
theorem StOk.setM {env : Sto} {σ : L2.St} {B H : Hp} {i : Nat} {xs : List D} {p : Addr} {vs : List V} (s : StOk Γ env σ B H) (hb : B p = none) (hp : H p = some (.lst vs)) (r : Reps Γ B xs vs) (ho : ¬ Own env σ p) : StOk Γ (env.set i (.mu xs)) (σ.set i (some (.ref p))) B H where
  same := s.same
  len := by rw [List.length_set, List.length_set]; exact s.len
  ent := fun j e o h1 h2 => by
    rcases Sto.set_get h1 with ⟨rfl, rfl⟩ | ⟨ne, q⟩
    · have hl : i < σ.length := by
        have z := (List.getElem?_eq_some_iff.mp h2).1
        rw [List.length_set] at z
        exact z
      rw [List.getElem?_set_self hl] at h2
      cases h2
      exact ⟨p, vs, rfl, hb, hp, r⟩
    · rw [List.getElem?_set_ne ne] at h2
      exact s.ent j e o q h2
  dis := fun j k ys zs q h1 h2 h3 h4 => by
    rcases Sto.set_get h1 with ⟨z1, _⟩ | ⟨n1, q1⟩
    · rcases Sto.set_get h2 with ⟨z2, _⟩ | ⟨n2, q2⟩
      · exact z1.symm.trans z2
      · subst z1
        have hl : i < σ.length := by
          have z := (List.getElem?_eq_some_iff.mp h3).1
          rw [List.length_set] at z
          exact z
        rw [List.getElem?_set_self hl] at h3
        cases h3
        rw [List.getElem?_set_ne n2] at h4
        exact absurd ⟨k, zs, q2, h4⟩ ho
    · rw [List.getElem?_set_ne n1] at h3
      rcases Sto.set_get h2 with ⟨z2, _⟩ | ⟨n2, q2⟩
      · subst z2
        have hl : i < σ.length := by
          have z := (List.getElem?_eq_some_iff.mp h4).1
          rw [List.length_set] at z
          exact z
        rw [List.getElem?_set_self hl] at h4
        cases h4
        exact absurd ⟨j, ys, q1, h3⟩ ho
      · rw [List.getElem?_set_ne n2] at h4
        exact s.dis j k ys zs q q1 q2 h3 h4
theorem Own.setM {env : Sto} {σ : L2.St} {i : Nat} {ys : List D} {p q : Addr} (h : Own (env.set i (.mu ys)) (σ.set i (some (.ref p))) q) : q = p ∨ Own env σ q := by
  obtain ⟨j, xs, e1, e2⟩ := h
  rcases Sto.set_get e1 with ⟨z, _⟩ | ⟨n, k⟩
  · subst z
    have hl : i < σ.length := by
      have z := (List.getElem?_eq_some_iff.mp e2).1
      rw [List.length_set] at z
      exact z
    rw [List.getElem?_set_self hl] at e2
    cases e2
    exact .inl rfl
  · rw [List.getElem?_set_ne n] at e2
    exact .inr ⟨j, xs, k, e2⟩
theorem Ext.setM {env env1 : Sto} {σ σ1 : L2.St} {B H B1 H1 : Hp} {i : Nat} {xs : List D} {p : Addr} (x : Ext Γ env σ B H env1 σ1 B1 H1) (h0 : FreeR Γ env σ H p) (hi : i ∉ Γ.R) : Ext Γ env σ B H (env1.set i (.mu xs)) (σ1.set i (some (.ref p))) B1 H1 where
  b := x.b
  t := x.t
  f := fun q o h n => by
    obtain ⟨k1, k2, k3⟩ := x.f q o h n
    refine ⟨k1, k2, fun z => ?_⟩
    rcases z.setM with rfl | z
    · exact h0.ne h n rfl
    · exact k3 z
  r := fun j hj => by
    have ne : i ≠ j := fun z => hi (z ▸ hj)
    obtain ⟨k1, k2⟩ := x.r j hj
    refine ⟨by rw [List.getElem?_set_ne ne]; exact k1, fun xs p e1 e2 => ?_⟩
    rcases k2 xs p e1 e2 with ⟨ys, q⟩ | q
    · exact .inl ⟨ys, by rw [List.getElem?_set_ne ne]; exact q⟩
    · exact .inr q
/-- x = e -/
def dSet (i : Nat) (f : DenF) : DenS := fun env => (f env).bind fun r e => match r with
  | .val d => .ok .nx (e.set i (.val d))
  | .mu xs => .ok .nx (e.set i (.mu xs))
  | _ => .bad
theorem tSet_of {i : Nat} {f : DenF} (hi : i ∉ Γ.R) {σ : L2.St} {H : Hp} {Q : Ends} (h : tS Γ W (dSet i f) Q σ H) : tAsg (tF Γ W f) (gName i) Q σ H := by
  obtain ⟨env, B, s, p⟩ := h
  refine ⟨env, B, s, p.bind.mono fun r e1 B1 H1 s1 x1 q1 v hv => ?_⟩
  obtain ⟨x, q⟩ := q1
  cases r with
  | val d => exact q _ _ _ (s1.setV hv) (x.setV hi)
  | mu xs =>
    obtain ⟨a, vs, rfl, h0, h1, h2, h3, h4⟩ := hv
    exact q _ _ _ (s1.setM h1 h2 h3 h4) (x.setM h0 hi)
  | un => exact q.elim
  | exn _ _ _ => exact q.elim
theorem sSet {i : Nat} {x : Str} {f : DenF} {pos' : Pos} (hi : i ∉ Γ.R) (h : SF X Γ W e f) (hN : X.N.Nodup) (hx : X.N[i]? = some x) (hl : Loc X.env.scope x) (hs : swapsWith e (some (.Name x pos')) pos.line X.env = pure false := by rfl) (hf : X.fn x = true ∨ X.env.scope.names.lookup x = some .local := by first | exact .inl rfl | exact .inr rfl | assumption) :
    SS X Γ W (.Assign [.Name x pos'] e pos) (dSet i f) := imS (ps_set hN hx hl h hs hf) fun Q σ H k => tSet_of hi k
/-! ### targets -/
abbrev Asg := D → Sto → Option Sto
def tG (Γ : Wd) (f : Asg) : TG := fun v σ H Q => ∃ env B d env', StOk Γ env σ B H ∧ Rep Γ B d v ∧ f d env = some env' ∧ ∀ σ', StOk Γ env' σ' B H → Ext Γ env σ B H env' σ' B H → Q σ' H
theorem imG {X : Cx} {e : Expr} {t t' : TG} (h : PG X e t) (i : ∀ v σ H Q, t' v σ H Q → t v σ H Q) : PG X e t' := ⟨fun pins s σ H v u Q I r q => h.run pins s σ H v u Q I r (i v σ H Q q)⟩
end
end Ev

set_option Elab.async false
set_option linter.all false
set_option maxRecDepth 100000
set_option maxHeartbeats 4000000
namespace Ev
open PySem PySem.Spec PyProof.Rows L2

section
variable {X : Cx} {Γ : Wd} {W : WX} {e a b c tg : Expr} {es : List Expr} {pos : Pos} {st : Stmt} {rest body orelse : List Stmt} {f g : DenS}
/-! ### a local list is handed over -/
def dMove (i : Nat) : DenF := fun env => match env[i]? with
  | some (.val d) => .ok (.val d) env
  | some (.mu xs) => .ok (.mu xs) (env.set i .un)
  | _ => .bad
theorem StOk.forget {env : Sto} {σ : L2.St} {B H : Hp} {i : Nat} (s : StOk Γ env σ B H) : StOk Γ (env.set i .un) σ B H where
  same := s.same
  len := by rw [List.length_set]; exact s.len
  ent := fun j e o h1 h2 => by
    rcases Sto.set_get h1 with ⟨_, rfl⟩ | ⟨ne, q⟩
    · trivial
    · exact s.ent j e o q h2
  dis := fun j k ys zs q h1 h2 h3 h4 => by
    rcases Sto.set_get h1 with ⟨_, z⟩ | ⟨n1, q1⟩
    · cases z
    · rcases Sto.set_get h2 with ⟨_, z⟩ | ⟨n2, q2⟩
      · cases z
      · exact s.dis j k ys zs q q1 q2 h3 h4
theorem Own.forget {env : Sto} {σ : L2.St} {i : Nat} {p : Addr} (h : Own (env.set i .un) σ p) : Own env σ p := by
  obtain ⟨j, xs, e1, e2⟩ := h
  rcases Sto.set_get e1 with ⟨_, q⟩ | ⟨n, q⟩
  · cases q
  · exact ⟨j, xs, q, e2⟩
theorem Ext.forget {env : Sto} {σ : L2.St} {B H : Hp} {i : Nat} (hi : i ∉ Γ.R) : Ext Γ env σ B H (env.set i .un) σ B H where
  b := Same.refl _
  t := fun _ h => h
  f := fun p o h n => ⟨h, fun z => z, fun z => n z.forget⟩
  r := fun j hj => ⟨rfl, fun xs p e1 e2 => .inl ⟨xs, by rw [List.getElem?_set_ne (show i ≠ j from fun z => hi (by rw [z]; exact hj))]; exact e1⟩⟩
theorem sMove {i : Nat} (hi : i ∉ Γ.R) (h : PE X e (tVar i)) : SF X Γ W e (dMove i) := imE h fun σ H Q ⟨env, B, s, p⟩ => by
  have p' : Post Γ W env σ B H (fun r env' B' H' => ∀ v, RetOk Γ (FreeR Γ env σ H) env' σ B' H' r v → Q v H') (match env[i]? with
    | some (.val d) => .ok (.val d) env
    | some (.mu xs) => .ok (.mu xs) (env.set i .un)
    | _ => .bad) := p
  cases hh : env[i]? with
  | none => rw [hh] at p'; exact p'.elim
  | some en =>
    rw [hh] at p'
    obtain ⟨o, ho, k⟩ := s.slot hh
    cases en with
    | val d =>
      obtain ⟨v, rfl, r⟩ := k
      exact ⟨v, ho, Post.here s p' v r⟩
    | mu xs =>
      obtain ⟨q, vs, rfl, hb, hq, r⟩ := k
      refine ⟨_, ho, p' B H s.forget (Ext.forget hi) _ ⟨q, vs, rfl, .inr ⟨i, xs, hi, hh, ho⟩, hb, hq, r, ?_⟩⟩
      rintro ⟨j, ys, e1, e2⟩
      rcases Sto.set_get e1 with ⟨_, z⟩ | ⟨n, z⟩
      · cases z
      · exact n (s.dis i j xs ys q hh z ho e2)
    | un => exact p'.elim
    | exn c ns xs => exact p'.elim
/-! ### targets -/
/-- only these slots differ -/
def Touch (own : List Nat) (σ σ' : L2.St) : Prop := σ'.length = σ.length ∧ ∀ j, j ∉ own → σ'[j]? = σ[j]?
theorem Touch.refl {own : List Nat} {σ : L2.St} : Touch own σ σ := ⟨rfl, fun _ _ => rfl⟩
theorem Touch.trans {own : List Nat} {σ σ1 σ2 : L2.St} (a : Touch own σ σ1) (c : Touch own σ1 σ2) : Touch own σ σ2 := ⟨c.1.trans a.1, fun j h => (c.2 j h).trans (a.2 j h)⟩
theorem Touch.set {own : List Nat} {σ : L2.St} {i : Nat} {o : Option V} (h : i ∈ own) : Touch own σ (σ.set i o) := ⟨List.length_set, fun j hj => List.getElem?_set_ne (show i ≠ j from fun z => hj (by rw [← z]; exact h))⟩
def tGo (Γ : Wd) (own : List Nat) (f : Asg) : TG := fun v σ H Q => ∃ env B d env', StOk Γ env σ B H ∧ Rep Γ B d v ∧ f d env = some env' ∧ ∀ σ', StOk Γ env' σ' B H → Ext Γ env σ B H env' σ' B H → Touch own σ σ' → Q σ' H
def asN (i : Nat) : Asg := fun d env => some (env.set i (.val d))
theorem gN {i : Nat} {x : Str} {own : List Nat} (ho : i ∈ own) (hi : i ∉ Γ.R) (hN : X.N.Nodup) (hx : X.N[i]? = some x) (hl : Loc X.env.scope x) (hf : X.fn x = true ∨ X.env.scope.names.lookup x = some .local := by first | exact .inl rfl | exact .inr rfl | assumption) : PG X (.Name x pos) (tGo Γ own (asN i)) :=
  imG (pg_name hN hx hl hf) fun v σ H Q ⟨env, B, d, env', s, r, e, q⟩ => by
    cases e
    exact q _ (s.setV r) (Ext.setV Ext.refl hi) (Touch.set ho)
abbrev Asgs := List D → Sto → Option Sto
def tGs (Γ : Wd) (own : List Nat) (f : Asgs) : TGs := fun vs σ H Q => ∃ env B ds env', StOk Γ env σ B H ∧ Reps Γ B ds vs ∧ f ds env = some env' ∧ ∀ σ', StOk Γ env' σ' B H → Ext Γ env σ B H env' σ' B H → Touch own σ σ' → Q σ' H
theorem imGs {X : Cx} {es : List Expr} {t t' : TGs} (h : PGs X es t) (i : ∀ v σ H Q, t' v σ H Q → t v σ H Q) : PGs X es t' := ⟨fun pins s σ H v u Q I r q => h.run pins s σ H v u Q I r (i v σ H Q q)⟩
def asNil : Asgs := fun ds env => match ds with
  | [] => some env
  | _ => none
def asCons (f : Asg) (g : Asgs) : Asgs := fun ds env => match ds with
  | [] => none
  | d :: ds => (f d env).bind (g ds)
theorem gsNil {own : List Nat} : PGs X [] (tGs Γ own asNil) := imGs pgs_nil fun v σ H Q ⟨env, B, ds, env', s, r, e, q⟩ => by
  cases ds with
  | nil => cases e; exact ⟨r, q σ s Ext.refl Touch.refl⟩
  | cons _ _ => cases e
theorem gsCons {f : Asg} {g : Asgs} {own : List Nat} (h : PG X e (tGo Γ own f)) (k : PGs X es (tGs Γ own g)) (hs : (assignEach (e :: es) X.env).map (·.2) = assign e X.env :: (assignEach es X.env).map (·.2) := by rfl) : PGs X (e :: es) (tGs Γ own (asCons f g)) := imGs (pgs_cons h k hs) fun vs σ H Q ⟨env, B, ds, env', s, r, e, q⟩ => by
  cases ds with
  | nil => cases e
  | cons d ds =>
    obtain ⟨v, r', e1, e2, e3⟩ := r
    cases hf : f d env with
    | none =>
      have e' : (f d env).bind (g ds) = some env' := e
      rw [hf] at e'; cases e'
    | some env1 =>
      have e' : (f d env).bind (g ds) = some env' := e
      rw [hf] at e'
      exact ⟨v, r', e1, env, B, d, env1, s, e2, hf, fun σ1 s1 x1 t1 => ⟨env1, B, ds, env', s1, e3, e', fun σ2 s2 x2 t2 => q σ2 s2 (x1.trans x2) (t1.trans t2)⟩⟩
def asT (n : Nat) (g : Asgs) : Asg := fun d env => match d with
  | .tup ds => if ds.length = n then g ds env else none
  | .lst ds => if ds.length = n then g ds env else none
  | _ => none
theorem PG.or {t t' : TG} (h : PG X tg t) (k : PG X tg t') : PG X tg (fun v σ H Q => t v σ H Q ∨ t' v σ H Q) := ⟨fun pins s σ H v u Q I r q => q.elim (h.run pins s σ H v u Q I r) (k.run pins s σ H v u Q I r)⟩
theorem gT {k n : Nat} {g : Asgs} {own : List Nat} (hK : X.K = Γ.K) (hc : X.calm = true) (h : PGs X es (tGs Γ own g)) (hn : (assignEach es X.env).length = n := by rfl) (hst : (assignEach es X.env).findIdx? (·.1) = none := by rfl) : PG X (.Tuple es k pos) (tGo Γ own (asT n g)) :=
  imG (PG.or (pg_tup hc h hn hst) (pg_unl hc h hn hst)) fun v σ H Q ⟨env, B, d, env', s, r, e, q⟩ => by
    cases d with
    | tup ds =>
      have e' : (if ds.length = n then g ds env else none) = some env' := e
      split at e'
      · rename_i hl
        obtain ⟨a, vs, rfl, k1, k2⟩ := r
        exact .inl ⟨a, vs, rfl, by rw [hK]; exact sqT_mono s.same k1, k2.length.symm.trans hl, env, B, ds, env', s, k2, e', q⟩
      · cases e'
    | lst ds =>
      have e' : (if ds.length = n then g ds env else none) = some env' := e
      split at e'
      · rename_i hl
        obtain ⟨a, vs, rfl, k1, k2⟩ := r
        exact .inr ⟨a, vs, rfl, .inl (.inl (s.same _ _ k1)), k2.length.symm.trans hl, env, B, ds, env', s, k2, e', q⟩
      · cases e'
    | _ => cases e
/-- a target, from a value -/
def dAsg (t : Asg) (f : DenV) : DenS := fun env => (f env).bind fun d e => match t d e with
  | some e' => .ok .nx e'
  | none => .bad
theorem sAsg {t : Asg} {f : DenV} {own : List Nat} (h : SV X Γ W e f) (hg : PG X tg (tGo Γ own t)) (hs : swapsWithSole [tg] e pos.line X.env = pure false := by rfl) (hw : swappedStores [tg] e X.env = pure none := by rfl) (h1 : (assignEach [tg] X.env).map (·.2) = [assign tg X.env] := by rfl) : SS X Γ W (.Assign [tg] e pos) (dAsg t f) :=
  imS (ps_asg h hg hs hw h1) fun Q σ H ⟨env, B, s, p⟩ => by
    refine ⟨env, B, s, p.bind.mono fun d e1 B1 H1 s1 x1 q1 v hv => ?_⟩
    obtain ⟨x, q⟩ := q1
    cases ht : t d e1 with
    | none => rw [ht] at q; exact q.elim
    | some e2 =>
      rw [ht] at q
      exact ⟨e1, B1, d, e2, s1, hv, ht, fun σ2 s2 x2 _ => q σ2 B1 H1 s2 (x.trans x2)⟩
/-- x, y = e1, e2 -/
def dPar (i j : Nat) (fs : DenVs) : DenS := fun env => (fs env).bind fun ds e => match ds with
  | [a, b] => .ok .nx ((e.set i (.val a)).set j (.val b))
  | _ => .bad
theorem sPar {i j : Nat} {x y : Str} {fs : DenVs} {px py pt : Pos} {kt k2 : Nat} {pt2 : Pos} (hi0 : i ∉ Γ.R) (hj0 : j ∉ Γ.R) (hc : X.calm = true) (hN : X.N.Nodup) (hi : X.N[i]? = some x) (hj : X.N[j]? = some y) (hij : i ≠ j)
    (hx : X.env.scope.names.lookup x = some .local) (hy : X.env.scope.names.lookup y = some .local) (ha : SVs X Γ W [a, b] fs)
    (hw : swappedStores [.Tuple [.Name x px, .Name y py] kt pt] (.Tuple [a, b] k2 pt2) X.env = pure (some [x, y]) := by rfl)
    (hs : swapsWithSole [.Tuple [.Name x px, .Name y py] kt pt] (.Tuple [a, b] k2 pt2) pos.line X.env = pure false := by rfl) :
    SS X Γ W (.Assign [.Tuple [.Name x px, .Name y py] kt pt] (.Tuple [a, b] k2 pt2) pos) (dPar i j fs) :=
  imS (ps_par hc hN hi hj hij hx hy ha hw hs) fun Q σ H ⟨env, B, s, p⟩ => by
    refine ⟨env, B, s, p.bind.mono fun ds e1 B1 H1 s1 x1 q1 vs hv => ?_⟩
    obtain ⟨x, q⟩ := q1
    match ds, q, hv with
    | [d1, d2], q, hv =>
      obtain ⟨v, r, e1', k1, w, r2, e2', k2, k3⟩ := hv
      have k3' : r2 = [] := k3
      exact ⟨v, w, by rw [e1', e2', k3'], q _ _ _ ((s1.setV k1).setV k2) ((x.setV hi0).setV hj0)⟩
/-- x op= e -/
def dAug (i : Nat) (g : D → D → Option Ent) (f : DenV) : DenS := fun env => match env[i]? with
  | some (.val d) => (f env).bind fun y e => (match g d y with
    | some (.val z) => .ok .nx (e.set i (.val z))
    | _ => .bad)
  | _ => .bad
theorem sAug {i : Nat} {x : Str} {op : Operator} {ti : TIp} {g : D → D → Option Ent} {f : DenV} {pos' : Pos} (hi : i ∉ Γ.R) (h : SV X Γ W e f) (ho : PIp X op ti) (hg : ∀ {d y z : D} {B H : Hp} {v w : V} {Q : VK}, g d y = some (.val z) → Rep Γ B d v → Rep Γ B y w → (∀ u, Rep Γ B z u → Q u H) → ti v w H Q)
    (hN : X.N.Nodup) (hx : X.N[i]? = some x) (hl : Loc X.env.scope x) (hf : X.fn x = true ∨ X.env.scope.names.lookup x = some .local := by first | exact .inl rfl | exact .inr rfl | assumption) :
    SS X Γ W (.AugAssign (.Name x pos') op e pos) (dAug i g f) := imS (ps_aug hN hx hl h ho hf) fun Q σ H ⟨env, B, s, p⟩ => by
  have p' : PostS Γ W env σ B H Q (match env[i]? with
    | some (.val d) => (f env).bind fun y e => (match g d y with
      | some (.val z) => .ok .nx (e.set i (.val z))
      | _ => .bad)
    | _ => .bad) := p
  cases hh : env[i]? with
  | none => rw [hh] at p'; exact p'.elim
  | some en =>
    rw [hh] at p'
    obtain ⟨o, ho', k⟩ := s.slot hh
    cases en with
    | val d =>
      obtain ⟨v, rfl, r⟩ := k
      refine ⟨v, ho', env, B, s, p'.bind.mono fun y e1 B1 H1 s1 x1 q1 w hw => ?_⟩
      obtain ⟨x, q⟩ := q1
      cases hgd : g d y with
      | none => rw [hgd] at q; exact q.elim
      | some en =>
        rw [hgd] at q
        cases en with
        | val z => exact hg hgd (Rep.mono x1.b d v r) hw fun u hu => q _ _ _ (s1.setV hu) (x.setV hi)
        | _ => exact q.elim
    | _ => exact p'.elim
theorem aug_add {d y z : D} {B H : Hp} {v w : V} {Q : VK} (h : gAdd d y = some (.val z)) (r : Rep Γ B d v) (k : Rep Γ B y w) (hd : ∃ i, d = .int i) (q : ∀ u, Rep Γ B z u → Q u H) : (ipI fun i j => i + j) v w H Q := by
  obtain ⟨i, rfl⟩ := hd
  cases y with
  | int j => cases h; exact ⟨i, j, r, k, q _ rfl⟩
  | _ => cases h
def gAddI : D → D → Option Ent
  | .int i, .int j => some (.val (.int (i + j)))
  | _, _ => none
theorem augI_add {d y z : D} {B H : Hp} {v w : V} {Q : VK} (h : gAddI d y = some (.val z)) (r : Rep Γ B d v) (k : Rep Γ B y w) (q : ∀ u, Rep Γ B z u → Q u H) : (ipI fun i j => i + j) v w H Q := by
  cases d with
  | int i => cases y with
    | int j => cases h; exact ⟨i, j, r, k, q _ rfl⟩
    | _ => cases h
  | _ => cases h
theorem augI_sub {d y z : D} {B H : Hp} {v w : V} {Q : VK} (h : gSub d y = some (.val z)) (r : Rep Γ B d v) (k : Rep Γ B y w) (q : ∀ u, Rep Γ B z u → Q u H) : (ipI fun i j => i - j) v w H Q := by
  cases d with
  | int i => cases y with
    | int j => cases h; exact ⟨i, j, r, k, q _ rfl⟩
    | _ => cases h
  | _ => cases h
/-! ### lists that change -/
theorem StOk.write {env : Sto} {σ : L2.St} {B H : Hp} {i : Nat} {xs ys : List D} {p : Addr} {ws : List V} (s : StOk Γ env σ B H) (hi : env[i]? = some (.mu xs)) (hs : σ[i]? = some (some (.ref p))) (r : Reps Γ B ys ws) :
    StOk Γ (env.set i (.mu ys)) σ B (upd H p (.lst ws)) where
  same := fun q o hq => by
    have hb := (s.own_none ⟨i, xs, hi, hs⟩).1
    rw [upd_ne (ne_of_none hq hb)]
    exact s.same q o hq
  len := by rw [List.length_set]; exact s.len
  ent := fun j e o h1 h2 => by
    have hb := (s.own_none ⟨i, xs, hi, hs⟩).1
    rcases Sto.set_get h1 with ⟨rfl, rfl⟩ | ⟨ne, q⟩
    · rw [hs] at h2
      cases h2
      exact ⟨p, ws, rfl, hb, upd_same, r⟩
    · have k := s.ent j e o q h2
      cases e with
      | un => trivial
      | val d => exact k
      | mu zs =>
        obtain ⟨q', vs, e1, e2, e3, e4⟩ := k
        subst e1
        refine ⟨q', vs, rfl, e2, ?_, e4⟩
        rw [upd_ne]
        · exact e3
        · rintro rfl
          exact ne (s.dis i j xs zs q' hi q hs h2)
      | exn c ns zs =>
        obtain ⟨dd, vs, e1, e2, e3, e4, e5⟩ := k
        refine ⟨dd, vs, e1, e2, ?_, e4, e5⟩
        rw [upd_ne]
        · exact e3
        · rintro rfl
          obtain ⟨_, us, z⟩ := s.own_none ⟨i, xs, hi, hs⟩
          rw [z] at e3
          cases e3
  dis := fun j k ys' zs q h1 h2 h3 h4 => by
    have m : ∀ {j : Nat} {zs : List D}, (env.set i (.mu ys))[j]? = some (.mu zs) → ∃ us, env[j]? = some (.mu us) := fun {j zs} h => by
      rcases Sto.set_get h with ⟨rfl, _⟩ | ⟨_, q⟩
      · exact ⟨_, hi⟩
      · exact ⟨_, q⟩
    obtain ⟨u1, k1⟩ := m h1
    obtain ⟨u2, k2⟩ := m h2
    exact s.dis j k u1 u2 q k1 k2 h3 h4
theorem Own.write {env : Sto} {σ : L2.St} {i : Nat} {xs ys : List D} {q : Addr} (hi : env[i]? = some (.mu xs)) (h : Own (env.set i (.mu ys)) σ q) : Own env σ q := by
  obtain ⟨j, zs, e1, e2⟩ := h
  rcases Sto.set_get e1 with ⟨rfl, _⟩ | ⟨n, k⟩
  · exact ⟨i, xs, hi, e2⟩
  · exact ⟨j, zs, k, e2⟩
theorem Ext.write {env : Sto} {σ : L2.St} {B H : Hp} {i : Nat} {xs ys : List D} {p : Addr} {ws : List V} (s : StOk Γ env σ B H) (hi : env[i]? = some (.mu xs)) (hs : σ[i]? = some (some (.ref p))) :
    Ext Γ env σ B H (env.set i (.mu ys)) σ B (upd H p (.lst ws)) where
  b := Same.refl _
  t := fun q h => by
    by_cases z : q = p
    · subst z; rw [upd_same]; exact fun z => nomatch z
    · rw [upd_ne z]; exact h
  f := fun q o h n => ⟨by
    rw [upd_ne]
    · exact h
    · rintro rfl
      exact n ⟨i, xs, hi, hs⟩, fun z => z, fun z => n (z.write hi)⟩
  r := fun j hj => ⟨rfl, fun zs q e1 e2 => by
    by_cases z : i = j
    · subst z
      exact .inl ⟨ys, List.getElem?_set_self (List.getElem?_eq_some_iff.mp e1).1⟩
    · exact .inl ⟨zs, by rw [List.getElem?_set_ne z]; exact e1⟩⟩
/-- xs[k] = e, xs in slot i -/
def dPut (i : Nat) (fk fe : DenV) : DenS := fun env => (fe env).bind fun d e1 => match e1[i]? with
  | some (.mu _) => (fk e1).bind fun k e2 => (match k, e2[i]? with
    | .int k, some (.mu xs) => (match ixN xs.length k with
      | some j => .ok .nx (e2.set i (.mu (xs.set j d)))
      | none => .bad)
    | _, _ => .bad)
  | _ => .bad
theorem sPut {i : Nat} {fk fe : DenV} {k : Expr} {tpos : Pos} (ho : PE X a (tVar i)) (hk : SV X Γ W k fk) (he : SV X Γ W e fe) (hs : swapsWithSole [.Subscript a k tpos] e pos.line X.env = pure false := by rfl) (hw : swappedStores [.Subscript a k tpos] e X.env = pure none := by rfl)
    (h1 : (assignEach [.Subscript a k tpos] X.env).map (·.2) = [assign (.Subscript a k tpos) X.env] := by rfl)
    (h2 : ∀ v, assign (.Subscript a k tpos) X.env v = (do
      let ov ← holding [v] (eval a X.env)
      let iv ← holding [v, ov] (eval k X.env)
      standAt tpos
      holding [v, ov, iv] (setItem ov iv v)
      release [v, ov, iv] []) := by intro _; rfl) :
    SS X Γ W (.Assign [.Subscript a k tpos] e pos) (dPut i fk fe) := imS (ps_asg he (pg_sub ho hk set_list h2) hs hw h1) fun Q σ H ⟨env, B, s, p⟩ => by
  refine ⟨env, B, s, p.bind.mono fun d e1 B1 H1 s1 x1 q1 v hv => ?_⟩
  obtain ⟨x, q⟩ := q1
  have q' : PostS Γ W e1 σ B1 H1 Q (match e1[i]? with
    | some (.mu _) => (fk e1).bind fun k e2 => (match k, e2[i]? with
      | .int k, some (.mu xs) => (match ixN xs.length k with
        | some j => .ok .nx (e2.set i (.mu (xs.set j d)))
        | none => .bad)
      | _, _ => .bad)
    | _ => .bad) := PostS.fwd s1 x q
  cases hh : e1[i]? with
  | none => rw [hh] at q'; exact q'.elim
  | some en =>
    rw [hh] at q'
    obtain ⟨o, ho', k0⟩ := s1.slot hh
    cases en with
    | mu xs0 =>
      obtain ⟨p0, vs0, rfl, hb, hp, r0⟩ := k0
      refine ⟨_, ho', e1, B1, s1, q'.bind.mono fun kk e2 B2 H2 s2 x2 q2 w hw => ?_⟩
      obtain ⟨x', q3⟩ := q2
      cases kk with
      | int kk =>
        cases h2 : e2[i]? with
        | none => rw [h2] at q3; exact q3.elim
        | some en2 =>
          rw [h2] at q3
          cases en2 with
          | mu xs =>
            obtain ⟨o2, ho2, k2⟩ := s2.slot h2
            obtain ⟨p2, vs, e2', hb2, hp2, r2⟩ := k2
            rw [ho'] at ho2
            cases ho2
            cases e2'
            have q4 : PostS Γ W e1 σ B1 H1 Q (match ixN xs.length kk with
              | some j => .ok .nx (e2.set i (.mu (xs.set j d)))
              | none => .bad) := q3
            cases hj : ixN xs.length kk with
            | none => rw [hj] at q4; exact q4.elim
            | some j =>
              rw [hj] at q4
              exact ⟨p0, vs, kk, j, rfl, hw, hp2, by rw [← r2.length]; exact hj, q4 _ _ _ (s2.write h2 ho' (r2.set (Rep.mono x2.b d v hv) j)) (x'.trans (Ext.write s2 h2 ho'))⟩
          | _ => exact q3.elim
      | _ => exact q3.elim
    | _ => exact q'.elim
/-! ### expressions as statements -/
def dExp (f : DenV) : DenS := fun env => (f env).bind fun _ e => .ok .nx e
theorem sExp {f : DenV} (h : SV X Γ W e f) (hs : swapsWith e none pos.line X.env = pure false := by rfl) : SS X Γ W (.Expr e pos) (dExp f) := imS (ps_expr h hs) fun Q σ H ⟨env, B, s, p⟩ =>
  ⟨env, B, s, p.bind.mono fun d e1 B1 H1 s1 x1 q1 v hv => q1.2 σ B1 H1 s1 q1.1⟩
/-- xs.append(e) -/
def dApp (i : Nat) (f : DenV) : DenV := fun env => match env[i]? with
  | some (.mu _) => (f env).bind fun d e => (match e[i]? with
    | some (.mu xs) => if xs.length < 1000000 then .ok .non (e.set i (.mu (xs ++ [d]))) else .bad
    | _ => .bad)
  | _ => .bad
theorem sApp {i : Nat} {f : DenV} {p1 cpos : Pos} (hK : X.K = Γ.K) (ho : PE X a (tVar i)) (h : SV X Γ W e f) (hbase : attributeBase a "append" X.env (eval a X.env) = eval a X.env := by rfl)
    (hfew : ((backTo cpos (starEach [e] X.env)).all (fun x => !x.1) && (backToKw cpos (keywordEach [] X.env)).all (fun x => x.1.isSome)
      && decide (([e] : List Expr).length + ([] : List Keyword).length + (if ([] : List Keyword).isEmpty then 0 else 1) < 30)) = true := by rfl)
    (hline : (p1.endLine == cpos.line) = true := by rfl) (hs : starEach [e] X.env = (false, eval e X.env) :: starEach [] X.env := by rfl) (hplain : (backTo cpos (starEach [] X.env)).any (·.1) = false := by rfl) :
    SV X Γ W (.Call (.Attribute a "append" p1) [e] [] cpos) (dApp i f) :=
  imE (pe_bm PySem.F.plainAttrs_list PySem.F.slot_list_append PySem.F.type_list_append mt_append ho (pa_cons h pa_nil hs) hbase hfew hline hs hplain) fun σ H Q ⟨env, B, s, p⟩ => by
    have p' : Post Γ W env σ B H (fun d _ B' H' => ∀ v, Rep Γ B' d v → Q v H') (match env[i]? with
      | some (.mu _) => (f env).bind fun d e => (match e[i]? with
        | some (.mu xs) => if xs.length < 1000000 then .ok .non (e.set i (.mu (xs ++ [d]))) else .bad
        | _ => .bad)
      | _ => .bad) := p
    cases hh : env[i]? with
    | none => rw [hh] at p'; exact p'.elim
    | some en =>
      rw [hh] at p'
      obtain ⟨o, ho', k0⟩ := s.slot hh
      cases en with
      | mu xs0 =>
        obtain ⟨p0, vs0, rfl, hb, hp, r0⟩ := k0
        refine ⟨.ref p0, ho', .inl ⟨rfl, vs0, .inl (.inl hp)⟩, env, B, s, p'.bind.mono fun d e1 B1 H1 s1 x1 q1 v hv => ?_⟩
        cases h2 : e1[i]? with
        | none => rw [h2] at q1; exact q1.elim
        | some en2 =>
          rw [h2] at q1
          cases en2 with
          | mu xs =>
            obtain ⟨o2, ho2, k2⟩ := s1.slot h2
            obtain ⟨p2, vs, e2', hb2, hp2, r2⟩ := k2
            rw [ho'] at ho2
            cases ho2
            cases e2'
            have q4 : Post Γ W e1 σ B1 H1 (fun d _ B' H' => ∀ v, Rep Γ B' d v → Q v H') (if xs.length < 1000000 then .ok .non (e1.set i (.mu (xs ++ [d]))) else .bad) := q1
            split at q4
            · rename_i hl
              exact ⟨p0, vs, v, rfl, rfl, hp2, LN_lt (by rw [← r2.length]; omega), q4 _ _ (s1.write h2 ho' (r2.append (Reps.one hv))) (Ext.write s1 h2 ho') _ rfl⟩
            · exact q4.elim
          | _ => exact q1.elim
      | _ => exact p'.elim
/-! ### what is walked -/
structure Grow (B H B' H' : Hp) : Prop where
  b : Same B B'
  h : Same H H'
  s : Same B' H'
  n : ∀ p o, H p = some o → B p = none → B' p = none
theorem Grow.refl {B H : Hp} (s : Same B H) : Grow B H B H := ⟨Same.refl _, Same.refl _, s, fun _ _ _ h => h⟩
theorem StOk.growG {env : Sto} {σ : L2.St} {B H B' H' : Hp} (s : StOk Γ env σ B H) (g : Grow B H B' H') : StOk Γ env σ B' H' :=
  s.grow g.b g.h g.s fun p hp => by
    obtain ⟨h1, vs, h2⟩ := s.own_none hp
    exact g.n p _ h2 h1
theorem Ext.growG {env : Sto} {σ : L2.St} {B H B' H' : Hp} (g : Grow B H B' H') : Ext Γ env σ B H env σ B' H' := Ext.grow g.b g.h g.n
def Walks (Γ : Wd) (J : It) (items : List D) (B : Hp) : Prop := ∀ (i : Nat) (B2 H2 : Hp), Same B B2 → Same B2 H2 →
  (∀ d, items[i]? = some d → J.go i H2 ∧ ∀ x H3, J.yld i H2 x H3 → ∃ B3, Grow B2 H2 B3 H3 ∧ Rep Γ B3 d x) ∧ (items.length ≤ i → J.stop i H2)
theorem Walks.mono {J : It} {items : List D} {B B' : Hp} (h : Walks Γ J items B) (s : Same B B') : Walks Γ J items B' := fun i B2 H2 k1 k2 => h i B2 H2 (s.trans k1) k2
abbrev DenI := Sto → Res (List D)
def tI (Γ : Wd) (W : WX) (f : DenI) : TI := fun σ H R => ∃ env B, StOk Γ env σ B H ∧ Post Γ W env σ B H (fun items _ B' H' => ∀ J, Walks Γ J items B' → R J H') (f env)
abbrev SI (X : Cx) (Γ : Wd) (W : WX) (tg iter : Expr) (f : DenI) : Prop := PI X tg iter (tI Γ W f)
theorem imI {X : Cx} {tg e : Expr} {t t' : TI} (h : PI X tg e t) (i : ∀ σ H Q, t' σ H Q → t σ H Q) : PI X tg e t' := ⟨fun pins s σ H Q I q => h.run pins s σ H Q I (i σ H Q q)⟩
/-- a list or a tuple -/
def iSeq (K : PySem.W.Frag) (tl : TE) : TI := fun σ H R => tl σ H fun x H1 => ∃ a, x = .ref a ∧ (((∃ xs, SqL K H1 a xs) ∧ R (Itl K a) H1) ∨ ((∃ xs, SqT K H1 a xs) ∧ R (Itt K a) H1))
/-- one object, just made -/
theorem one_own {X : Cx} {pins : List (Addr × Obj)} {σ : L2.St} {H : Hp} {s : Shared} (I : Inv X pins σ H s) : ∀ b ∈ [s.heap.objs.size], FpOk X pins H b :=
  List.forall_mem_cons.mpr ⟨I.fpOk (Nat.le_refl _) (I.hok.fresh (Nat.le_refl _)), nofun⟩
theorem starts_list {X : Cx} {pins : List (Addr × Obj)} {σ : L2.St} {H : Hp} {s : Shared} {tg : Expr} {R : It → Hp → Prop} {E : Value → Shared → Prop} {a : Addr} {xs : List V} (I : Inv X pins σ H s) (sq : SqL X.K H a xs) (q : R (Itl X.K a) H) :
    wpAny (model X.prog X.w) X.A (pyIter (.ref a)) (PIE X pins σ tg R) E s :=
  have ⟨_, _, at_, _⟩ := I.list sq
  wpAny_pyIter_list at_.isList ⟨_, _, _, _, H, rfl, I.kept (t' := s.toks) fun _ _ => Heap.get?_push_of_some _, turn_list a _, ⟨_, Heap.get?_push_size _ rfl, rfl, rfl⟩, one_own I, q⟩
theorem starts_tup {X : Cx} {pins : List (Addr × Obj)} {σ : L2.St} {H : Hp} {s : Shared} {tg : Expr} {R : It → Hp → Prop} {E : Value → Shared → Prop} {a : Addr} {xs : List V} (I : Inv X pins σ H s) (sq : SqT X.K H a xs) (q : R (Itt X.K a) H) :
    wpAny (model X.prog X.w) X.A (pyIter (.ref a)) (PIE X pins σ tg R) E s :=
  have ⟨its, _, (at_ : s.heap.IsTuple a its.toArray), _⟩ := I.tuple sq
  wpAny_pyIter_tuple at_ ⟨_, _, _, _, H, rfl, I.kept (t' := s.toks) fun _ _ => Heap.get?_push_of_some _, turn_tuple a _, ⟨_, Heap.get?_push_size _ rfl, rfl, rfl⟩, one_own I, q⟩
theorem pi_seq {l : Expr} {tl : TE} (hl : PE X l tl) : PI X tg l (iSeq X.K tl) := by
  constructor
  intro pins s σ H R I goal
  refine thn (hl.run pins s σ H _ I goal) ?_
  rintro _ s1 ⟨_, G, J, rel, a, rfl, q⟩
  cases rel
  exact q.elim (fun ⟨⟨_, sq⟩, r⟩ => starts_list J sq r) fun ⟨⟨_, sq⟩, r⟩ => starts_tup J sq r
def dIt (f : DenV) : DenI := fun env => (f env).bind fun d e => match d.its with
  | some xs => .ok xs e
  | none => .bad
theorem walks_list {a : Addr} {items : List D} {B : Hp} {vs : List V} (h : SqL Γ.K B a vs) (r : Reps Γ B items vs) : Walks Γ (Itl Γ.K a) items B := fun i B2 H2 k1 k2 => by
  have hq : SqL Γ.K H2 a vs := k2.seq (k1.seq h)
  refine ⟨fun d hd => ?_, fun hl => ⟨vs, hq, by rw [← r.length]; exact hl⟩⟩
  obtain ⟨v, hv, rv⟩ := r.get hd
  refine ⟨⟨vs, v, hq, hv⟩, fun x H3 y => ?_⟩
  obtain ⟨e, y⟩ := y
  subst e
  have e2 : v = x := Option.some.inj (hv.symm.trans (y vs hq))
  subst e2
  exact ⟨B2, Grow.refl k2, Rep.mono k1 d v rv⟩
theorem walks_tup {a : Addr} {items : List D} {B : Hp} {vs : List V} (h : SqT Γ.K B a vs) (r : Reps Γ B items vs) : Walks Γ (Itt Γ.K a) items B := fun i B2 H2 k1 k2 => by
  have hq : SqT Γ.K H2 a vs := sqT_mono k2 (sqT_mono k1 h)
  refine ⟨fun d hd => ?_, fun hl => ⟨vs, hq, by rw [← r.length]; exact hl⟩⟩
  obtain ⟨v, hv, rv⟩ := r.get hd
  refine ⟨⟨vs, v, hq, hv⟩, fun x H3 y => ?_⟩
  obtain ⟨e, y⟩ := y
  subst e
  have e2 : v = x := Option.some.inj (hv.symm.trans (y vs hq))
  subst e2
  exact ⟨B2, Grow.refl k2, Rep.mono k1 d v rv⟩
theorem sIt {f : DenV} (hK : X.K = Γ.K) (h : SV X Γ W e f) : SI X Γ W tg e (dIt f) := imI (pi_seq h) fun σ H R ⟨env, B, s, p⟩ => by
  refine ⟨env, B, s, p.bind.mono fun d e1 B1 H1 s1 x1 q1 v hv => ?_⟩
  cases d with
  | tup xs =>
    obtain ⟨a, vs, rfl, k1, k2⟩ := hv
    exact ⟨a, rfl, .inr ⟨⟨vs, by rw [hK]; exact sqT_mono s1.same k1⟩, by rw [hK]; exact Post.here s1 q1 _ (walks_tup k1 k2)⟩⟩
  | lst xs =>
    obtain ⟨a, vs, rfl, k1, k2⟩ := hv
    exact ⟨a, rfl, .inl ⟨⟨vs, .inl (.inl (s1.same _ _ k1))⟩, by rw [hK]; exact Post.here s1 q1 _ (walks_list (.inl (.inl k1)) k2)⟩⟩
  | fl xs =>
    obtain ⟨a, vs, rfl, k1, k2⟩ := hv
    exact ⟨a, rfl, .inl ⟨⟨vs, by rw [hK]; exact s1.same.seq k1⟩, by rw [hK]; exact Post.here s1 q1 _ (walks_list k1 k2)⟩⟩
  | _ => exact q1.elim
/-- lo, lo + 1, .. -/
def rngD (lo : Int) (n : Nat) : List D := (List.range n).map fun i => .int (lo + (i : Nat))
theorem walks_rng {lo : Int} {n : Nat} {B : Hp} : Walks Γ (Itr lo n) (rngD lo n) B := fun i B2 H2 k1 k2 => by
  unfold rngD
  refine ⟨fun d hd => ?_, fun hl => by rw [List.length_map, List.length_range] at hl; exact hl⟩
  rw [List.getElem?_map] at hd
  cases hr : (List.range n)[i]? with
  | none => rw [hr] at hd; cases hd
  | some j =>
    rw [hr] at hd
    cases hd
    have hi := List.getElem?_eq_some_iff.mp hr
    obtain ⟨h1, h2⟩ := hi
    rw [List.length_range] at h1
    rw [List.getElem_range] at h2
    subst h2
    exact ⟨h1, fun x H3 y => ⟨B2, by rw [y.1]; exact Grow.refl k2, y.2⟩⟩
def dRng1 (f : DenA) : DenI := fun env => (f env).bind fun as e => match getAll as e with
  | some [.int j] => if -(2 ^ 62) ≤ j ∧ j < 2 ^ 62 then .ok (rngD 0 j.toNat) e else .bad
  | _ => .bad
theorem sRng1 {f : DenA} {p : Pos} (hg : Gl X "range") (hm : X.mg "range" = none) (ha : SA X Γ W [a] f) (hs : starEach [a] X.env = [(false, eval a X.env)] := by rfl) : SI X Γ W tg (.Call (.Name "range" p) [a] [] pos) (dRng1 f) :=
  imI (pi_range1 hg hm ha hs) fun σ H R ⟨env, B, s, p⟩ => by
    refine ⟨env, B, s, p.bind.mono fun as e1 B1 H1 s1 x1 q1 vs hv => ?_⟩
    cases hh : getAll as e1 with
    | none => rw [hh] at q1; exact q1.elim
    | some ds =>
      rw [hh] at q1
      have r := getAll_now s1 hv hh
      match ds, q1, r with
      | [.int j], q1, r =>
        obtain ⟨v, rfl, k⟩ := r.one
        have q2 : Post Γ W e1 σ B1 H1 (fun items _ B' H' => ∀ J, Walks Γ J items B' → R J H') (if -(2 ^ 62) ≤ j ∧ j < 2 ^ 62 then .ok (rngD 0 j.toNat) e1 else .bad) := q1
        split at q2
        · rename_i hl
          exact ⟨j, by rw [k.int], hl.1, hl.2, Post.here s1 q2 _ walks_rng⟩
        · exact q2.elim
def dRng2 (f : DenA) : DenI := fun env => (f env).bind fun as e => match getAll as e with
  | some [.int i, .int j] => if (-(2 ^ 62) ≤ i ∧ i < 2 ^ 62) ∧ (-(2 ^ 62) ≤ j ∧ j < 2 ^ 62) then .ok (rngD i (j - i).toNat) e else .bad
  | _ => .bad
theorem sRng2 {f : DenA} {p : Pos} (hg : Gl X "range") (hm : X.mg "range" = none) (ha : SA X Γ W [a, b] f) (hs : starEach [a, b] X.env = [(false, eval a X.env), (false, eval b X.env)] := by rfl) (hs2 : starEach [b] X.env = [(false, eval b X.env)] := by rfl) : SI X Γ W tg (.Call (.Name "range" p) [a, b] [] pos) (dRng2 f) :=
  imI (pi_range2 hg hm ha hs hs2) fun σ H R ⟨env, B, s, p⟩ => by
    refine ⟨env, B, s, p.bind.mono fun as e1 B1 H1 s1 x1 q1 vs hv => ?_⟩
    cases hh : getAll as e1 with
    | none => rw [hh] at q1; exact q1.elim
    | some ds =>
      rw [hh] at q1
      have r := getAll_now s1 hv hh
      match ds, q1, r with
      | [.int i, .int j], q1, r =>
        obtain ⟨v, w, rfl, k, k'⟩ := r.two
        have q2 : Post Γ W e1 σ B1 H1 (fun items _ B' H' => ∀ J, Walks Γ J items B' → R J H') (if (-(2 ^ 62) ≤ i ∧ i < 2 ^ 62) ∧ (-(2 ^ 62) ≤ j ∧ j < 2 ^ 62) then .ok (rngD i (j - i).toNat) e1 else .bad) := q1
        split at q2
        · rename_i hl
          exact ⟨i, j, by rw [k.int, k'.int], ⟨hl.1.1, hl.1.2, hl.2.1, hl.2.2⟩, Post.here s1 q2 _ walks_rng⟩
        · exact q2.elim
/-! ### for -/
def loopF (t : Asg) (body : DenS) : List D → DenS
  | [] => fun env => .ok .nx env
  | d :: ds => fun env => match t d env with
    | none => .bad
    | some e1 => (match body e1 with
      | .ok .nx e2 => loopF t body ds e2
      | .ok .ct e2 => loopF t body ds e2
      | .ok .bk e2 => .ok .nx e2
      | r => r)
def dFor (t : Asg) (it : DenI) (body : DenS) : DenS := fun env => (it env).bind fun items e => loopF t body items e
theorem sFor {t : Asg} {it : DenI} {own : List Nat} (hp : PassesOwn (model X.prog X.w) X.A X.env X.xe) (hc : X.calm = true) (hi : SI X Γ W tg e it) (hg : PG X tg (tGo Γ own t)) (hb : SSs X Γ W body f) (hs : ∀ x, foldedSetIterable e X.env x = pure x := by intro _; rfl) : SS X Γ W (.For tg e body [] pos) (dFor t it f) :=
  imS (ps_for hp hc hi hg hb hs) fun Q σ H ⟨env, B, s, p⟩ => by
    refine ⟨env, B, s, p.bind.mono fun items e1 B1 H1 s1 x1 q1 J hJ => ?_⟩
    obtain ⟨x, q⟩ := q1
    have q0 : PostS Γ W e1 σ B1 H1 Q (loopF t f items e1) := PostS.fwd s1 x q
    refine ⟨fun i m σ2 H2 => m = items.length - i ∧ i ≤ items.length ∧ ∃ e2 B2, StOk Γ e2 σ2 B2 H2 ∧ Same B1 B2 ∧ PostS Γ W e2 σ2 B2 H2 Q (loopF t f (items.drop i) e2),
      ⟨items.length, by simp, Nat.zero_le _, e1, B1, s1, Same.refl _, q0⟩, ?_⟩
    rintro i m σ2 H2 ⟨rfl, hi, e2, B2, s2, sb, q2⟩
    have hw := hJ i B2 H2 sb s2.same
    by_cases hlt : i < items.length
    · obtain ⟨hgo, hyld⟩ := hw.1 items[i] (List.getElem?_eq_getElem hlt)
      refine .inr ⟨hgo, fun σ3 H3 => ∃ e3 B3, StOk Γ e3 σ3 B3 H3 ∧ Same B1 B3 ∧ PostS Γ W e3 σ3 B3 H3 Q (loopF t f (items.drop (i + 1)) e3), fun σ3 H3 ⟨e3, B3, s3, sb3, q3⟩ => ⟨items.length - (i + 1), by omega, rfl, hlt, e3, B3, s3, sb3, q3⟩, fun v H3 hy => ?_⟩
      obtain ⟨B3, gr, rv⟩ := hyld v H3 hy
      have s3 := s2.growG gr
      have q3 := PostS.fwd s3 (Ext.growG gr) q2
      rw [List.drop_eq_getElem_cons hlt] at q3
      have q4 : PostS Γ W e2 σ2 B3 H3 Q (match t items[i] e2 with
        | none => .bad
        | some e1 => (match f e1 with
          | .ok .nx e2 => loopF t f (items.drop (i + 1)) e2
          | .ok .ct e2 => loopF t f (items.drop (i + 1)) e2
          | .ok .bk e2 => .ok .nx e2
          | r => r)) := q3
      cases ht : t items[i] e2 with
      | none => rw [ht] at q4; exact q4.elim
      | some e3 =>
        rw [ht] at q4
        refine ⟨e2, B3, items[i], e3, s3, rv, ht, fun σ4 s4 x4 _ => ⟨e3, B3, s4, ?_⟩⟩
        have q5 : PostS Γ W e3 σ4 B3 H3 Q (match f e3 with
          | .ok .nx e2 => loopF t f (items.drop (i + 1)) e2
          | .ok .ct e2 => loopF t f (items.drop (i + 1)) e2
          | .ok .bk e2 => .ok .nx e2
          | r => r) := PostS.fwd s4 x4 q4
        have sb4 : Same B1 B3 := sb.trans gr.b
        cases hf : f e3 with
        | bad => rw [hf] at q5; exact q5.elim
        | err c ns xs e4 => rw [hf] at q5; exact q5
        | ok fl e4 =>
          rw [hf] at q5
          cases fl with
          | nx => exact fun σ5 B5 H5 s5 x5 => ⟨e4, B5, s5, sb4.trans x5.b, PostS.fwd s5 x5 q5⟩
          | ct => exact fun σ5 B5 H5 s5 x5 => ⟨e4, B5, s5, sb4.trans x5.b, PostS.fwd s5 x5 q5⟩
          | bk => exact q5
          | rt r => exact q5
    · have e : i = items.length := by omega
      subst e
      rw [List.drop_length] at q2
      exact .inl ⟨hw.2 (Nat.le_refl _), q2 _ _ _ s2 Ext.refl⟩
/-! ### while -/
def iterW (c : DenT) (body : DenS) : Nat → Sto → Option (Res Fl)
  | 0, _ => none
  | n + 1, env => match c env with
    | .bad => some .bad
    | .err k ns xs e => some (.err k ns xs e)
    | .ok false e => some (.ok .nx e)
    | .ok true e => (match body e with
      | .ok .nx e2 => iterW c body n e2
      | .ok .ct e2 => iterW c body n e2
      | .ok .bk e2 => some (.ok .nx e2)
      | r => some r)
open Classical in
noncomputable def dWhile (c : DenT) (body : DenS) : DenS := fun env => if h : ∃ n r, iterW c body n env = some r then h.choose_spec.choose else .bad
theorem iterW_mono {c : DenT} {body : DenS} : ∀ {n : Nat} {env : Sto} {r : Res Fl}, iterW c body n env = some r → ∀ k, iterW c body (n + k) env = some r
  | 0, env, r, h, k => by cases h
  | n + 1, env, r, h, k => by
    rw [show n + 1 + k = (n + k) + 1 by omega]
    unfold iterW at h ⊢
    cases hc : c env with
    | bad => rw [hc] at h; exact h
    | err _ _ _ _ => rw [hc] at h; exact h
    | ok b e =>
      rw [hc] at h
      cases b with
      | false => exact h
      | true =>
        have h' : (match body e with
          | .ok .nx e2 => iterW c body n e2
          | .ok .ct e2 => iterW c body n e2
          | .ok .bk e2 => some (.ok .nx e2)
          | r => some r) = some r := h
        show (match body e with
          | .ok .nx e2 => iterW c body (n + k) e2
          | .ok .ct e2 => iterW c body (n + k) e2
          | .ok .bk e2 => some (.ok .nx e2)
          | r => some r) = some r
        cases hb : body e with
        | bad => rw [hb] at h'; exact h'
        | err _ _ _ _ => rw [hb] at h'; exact h'
        | ok fl e2 =>
          rw [hb] at h'
          cases fl with
          | nx => exact iterW_mono h' k
          | ct => exact iterW_mono h' k
          | bk => exact h'
          | rt r => exact h'
theorem iterW_one {c : DenT} {body : DenS} {n m : Nat} {env : Sto} {r q : Res Fl} (h : iterW c body n env = some r) (k : iterW c body m env = some q) : r = q := by
  have h1 := iterW_mono h m
  have k1 := iterW_mono k n
  rw [Nat.add_comm] at k1
  rw [h1] at k1
  exact Option.some.inj k1
theorem dWhile_of {c : DenT} {body : DenS} {n : Nat} {env : Sto} {r : Res Fl} (h : iterW c body n env = some r) : dWhile c body env = r := by
  have hx : ∃ n r, iterW c body n env = some r := ⟨n, r, h⟩
  unfold dWhile
  rw [dif_pos hx]
  exact iterW_one hx.choose_spec.choose_spec h
/-- one turn -/
theorem iterW_turn {c : DenT} {body : DenS} {env e e2 : Sto} (hc : c env = .ok true e) (hb : body e = .ok .nx e2 ∨ body e = .ok .ct e2) (n : Nat) : iterW c body (n + 1) env = iterW c body n e2 := by
  rcases hb with hb | hb
  · unfold iterW
    rw [hc]
    simp only
    rw [hb]
    cases n <;> rfl
  · unfold iterW
    rw [hc]
    simp only
    rw [hb]
    cases n <;> rfl
theorem dWhile_turn {c : DenT} {body : DenS} {env e e2 : Sto} (hc : c env = .ok true e) (hb : body e = .ok .nx e2 ∨ body e = .ok .ct e2) : dWhile c body env = dWhile c body e2 := by
  by_cases h : ∃ n r, iterW c body n e2 = some r
  · obtain ⟨n, r, h⟩ := h
    rw [dWhile_of h]
    exact dWhile_of (n := n + 1) ((iterW_turn hc hb n).trans h)
  · have h2 : ¬ ∃ n r, iterW c body n env = some r := by
      rintro ⟨n, r, k⟩
      cases n with
      | zero => cases k
      | succ n => exact h ⟨n, r, (iterW_turn hc hb n).symm.trans k⟩
    unfold dWhile
    rw [dif_neg h, dif_neg h2]
theorem dWhile_end {c : DenT} {body : DenS} {env e : Sto} (hc : c env = .ok false e) : dWhile c body env = .ok .nx e := dWhile_of (n := 1) (by unfold iterW; rw [hc])
theorem sWhile {t : DenT} (hp : PassesOwn (model X.prog X.w) X.A X.env X.xe) (hc : ST X Γ W c t) (hb : SSs X Γ W body f) : SS X Γ W (.While c body [] pos) (dWhile t f) := imS (ps_while hp hc hb) fun Q σ H ⟨env, B, s, p⟩ => by
  have p' : PostS Γ W env σ B H Q (dWhile t f env) := p
  have hx : ∃ n r, iterW t f n env = some r := by
    by_cases h : ∃ n r, iterW t f n env = some r
    · exact h
    · unfold dWhile at p'
      rw [dif_neg h] at p'
      exact p'.elim
  obtain ⟨n, r, hn⟩ := hx
  rw [dWhile_of hn] at p'
  refine ⟨fun m σ2 H2 => ∃ e2 B2 r2, StOk Γ e2 σ2 B2 H2 ∧ iterW t f m e2 = some r2 ∧ PostS Γ W e2 σ2 B2 H2 Q r2, ⟨n, env, B, r, s, hn, p'⟩, ?_⟩
  rintro m σ2 H2 ⟨e2, B2, r2, s2, hi, q2⟩
  cases m with
  | zero => cases hi
  | succ m =>
    have hi' : (match t e2 with
      | .bad => some .bad
      | .err k ns xs e => some (.err k ns xs e)
      | .ok false e => some (.ok .nx e)
      | .ok true e => (match f e with
        | .ok .nx e2 => iterW t f m e2
        | .ok .ct e2 => iterW t f m e2
        | .ok .bk e2 => some (.ok .nx e2)
        | r => some r)) = some r2 := hi
    refine ⟨e2, B2, s2, ?_⟩
    cases ht : t e2 with
    | bad => rw [ht] at hi'; cases hi'; exact q2.elim
    | err k ns xs e3 => rw [ht] at hi'; cases hi'; exact fun cls d B3 H3 s3 x3 z => q2 cls d σ2 B3 H3 s3 x3 z
    | ok b e3 =>
      rw [ht] at hi'
      intro B3 H3 s3 x3
      cases b with
      | false =>
        cases hi'
        rw [if_neg Bool.false_ne_true]
        exact q2 _ _ _ s3 x3
      | true =>
        rw [if_pos rfl]
        have hi2 : (match f e3 with
          | .ok .nx e2 => iterW t f m e2
          | .ok .ct e2 => iterW t f m e2
          | .ok .bk e2 => some (.ok .nx e2)
          | r => some r) = some r2 := hi'
        refine ⟨fun σ4 H4 => ∃ e4 B4, StOk Γ e4 σ4 B4 H4 ∧ iterW t f m e4 = some r2 ∧ PostS Γ W e4 σ4 B4 H4 Q r2, fun σ4 H4 ⟨e4, B4, s4, h4, q4⟩ => ⟨m, Nat.lt_succ_self m, e4, B4, r2, s4, h4, q4⟩, e3, B3, s3, ?_⟩
        have q3 := PostS.fwd s3 x3 q2
        cases hf : f e3 with
        | bad => rw [hf] at hi2; cases hi2; exact q3.elim
        | err c ns xs e4 => rw [hf] at hi2; cases hi2; exact q3
        | ok fl e4 =>
          rw [hf] at hi2
          cases fl with
          | nx => exact fun σ5 B5 H5 s5 x5 => ⟨e4, B5, s5, hi2, PostS.fwd s5 x5 q3⟩
          | ct => exact fun σ5 B5 H5 s5 x5 => ⟨e4, B5, s5, hi2, PostS.fwd s5 x5 q3⟩
          | bk => cases hi2; exact q3
          | rt r => cases hi2; exact q3
end
end Ev
set_option Elab.async false
set_option linter.all false
set_option maxRecDepth 100000
set_option maxHeartbeats 4000000
namespace Ev
open PySem PySem.Spec PyProof.Rows L2

mutual
theorem Rep.ctx {Γ Γ' : Wd} {B : Hp} (hK : Γ.K = Γ'.K) (hm : Γ.mg = Γ'.mg) : ∀ (d : D) (v : V), Rep Γ B d v → Rep Γ' B d v
  | .non, v, h => h
  | .bl b, v, h => h
  | .int i, v, h => h
  | .str s, v, h => h
  | .tup xs, v, h => by
    obtain ⟨a, vs, e1, e2, e3⟩ := h
    exact ⟨a, vs, e1, by rw [← hK]; exact e2, Reps.ctx hK hm xs vs e3⟩
  | .lst xs, v, h => by
    obtain ⟨a, vs, e1, e2, e3⟩ := h
    exact ⟨a, vs, e1, e2, Reps.ctx hK hm xs vs e3⟩
  | .fl xs, v, h => by
    obtain ⟨a, vs, e1, e2, e3⟩ := h
    exact ⟨a, vs, e1, by rw [← hK]; exact e2, Reps.ctx hK hm xs vs e3⟩
  | .ins c ns xs, v, h => by
    obtain ⟨a, dx, C, vs, e1, e2, e3, e4, e5⟩ := h
    exact ⟨a, dx, C, vs, e1, by rw [← hm]; exact e2, e3, e4, Reps.ctx hK hm xs vs e5⟩
theorem Reps.ctx {Γ Γ' : Wd} {B : Hp} (hK : Γ.K = Γ'.K) (hm : Γ.mg = Γ'.mg) : ∀ (ds : List D) (vs : List V), Reps Γ B ds vs → Reps Γ' B ds vs
  | [], vs, h => h
  | d :: ds, vs, h => by
    obtain ⟨v, r, e1, e2, e3⟩ := h
    exact ⟨v, r, e1, Rep.ctx hK hm d v e2, Reps.ctx hK hm ds r e3⟩
end
theorem XnOk.ctx {Γ Γ' : Wd} {B H : Hp} {c : Str} {ns : List Str} {xs : List D} {cls : Value} {d : Option Addr} (hK : Γ.K = Γ'.K) (hm : Γ.mg = Γ'.mg) (h : XnOk Γ B H c ns xs cls d) : XnOk Γ' B H c ns xs cls d := by
  obtain ⟨C, dd, vs, e1, e2, e3, e4, e5, e6⟩ := h
  exact ⟨C, dd, vs, by rw [← hm]; exact e1, e2, e3, e4, e5, Reps.ctx hK hm xs vs e6⟩

/-! ### functions -/
inductive FR where
  | ok (r : Ent) (ps : List Ent) | err (c : Str) (ns : List Str) (xs : List D) (ps : List Ent) | bad
abbrev Fn := List Ent → FR
def finF (np : Nat) : Res Fl → FR
  | .ok .nx e => .ok (.val .non) (e.take np)
  | .ok (.rt r) e => .ok r (e.take np)
  | .err c ks xs e => .err c ks xs (e.take np)
  | _ => .bad
def mkFn (np ns : Nat) (body : DenS) : Fn := fun args => if args.length = np then finF np (body (args ++ List.replicate (ns - np) .un)) else .bad
theorem mkFn_len {np ns : Nat} {body : DenS} (args : List Ent) (h : args.length ≠ np) : mkFn np ns body args = .bad := if_neg h
/-- what a call leaves -/
structure FExt (Γ : Wd) (args : Sto) (vs : List V) (B H : Hp) (ps : Sto) (B' H' : Hp) : Prop where
  b : Same B B'
  s : Same B' H'
  t : ∀ p, H p ≠ none → H' p ≠ none
  f : ∀ p o, H p = some o → ¬ Own args (vs.map some) p → H' p = some o ∧ (B p = none → B' p = none)
  r : ∀ i ∈ Γ.R, ∀ xs p, args[i]? = some (.mu xs) → vs[i]? = some (.ref p) → ∃ e, ps[i]? = some e ∧ EntOk Γ B' H' e (some (.ref p)) ∧ ((∃ ys, e = .mu ys) ∨ B' p ≠ none)
def RetF (Γ : Wd) (H B' H' : Hp) : Ent → V → Prop
  | .val d, v => Rep Γ B' d v
  | .mu xs, v => ∃ p vs, v = .ref p ∧ H p = none ∧ B' p = none ∧ H' p = some (.lst vs) ∧ Reps Γ B' xs vs
  | _, _ => False
def PostF (Γ : Wd) (args : Sto) (vs : List V) (B H : Hp) (Q : VK) (E : XK) : FR → Prop
  | .ok r ps => ∀ v B' H', FExt Γ args vs B H ps B' H' → RetF Γ H B' H' r v → Q v H'
  | .err c ns xs ps => ∀ cls d B' H', FExt Γ args vs B H ps B' H' → XnOk Γ B' H' c ns xs cls d → E cls d H'
  | .bad => False
/-- the context of a def's body -/
abbrev wdOf (K : PySem.W.Frag) (mg : Str → Option Value) (R : List Nat) : Wd := ⟨K, mg, (0, .none, none), R⟩
def spOf (K : PySem.W.Frag) (mg : Str → Option Value) (R : List Nat) (np : Nat) (g : Fn) : Sp := fun vs H Q E => ∃ B args, args.length = np ∧ StOk (wdOf K mg R) args (vs.map some) B H ∧ (∀ (i : Nat) xs, args[i]? = some (.mu xs) → i ∈ R) ∧ PostF (wdOf K mg R) args vs B H Q E (g args)
theorem spOf_len {K : PySem.W.Frag} {mg : Str → Option Value} {R : List Nat} {np : Nat} {g : Fn} (vs : List V) (H : Hp) (Q : VK) (E : XK) (h : spOf K mg R np g vs H Q E) : vs.length = np := by
  obtain ⟨B, args, h1, h2, _⟩ := h
  have := h2.len
  rw [List.length_map] at this
  omega
section
variable {P : Program} {w : World} {K : PySem.W.Frag} {mg : Str → Option Value} {base : Heap}
/-- a def's body serves its function -/
theorem fn_body {R : List Nat} {np : Nat} {f : DenS} {N : List Str} {vs : List V} {H : Hp} {Q : VK} {E : XK} (h : spOf K mg R np (mkFn np N.length f) vs H Q E) :
    tS (wdOf K mg R) (fun cls d _ H => E cls d H) f { nx := fun _ H' => Q .non H', rt := Q } (L2.start N vs) H := by
  obtain ⟨B, args, hl, s, hm, p⟩ := h
  have hv := spOf_len vs H Q E ⟨B, args, hl, s, hm, p⟩
  have hs : L2.start N vs = vs.map some ++ List.replicate (N.length - np) none := by
    unfold L2.start
    rw [hv]
  have lenA : args.length = (vs.map some).length := s.len
  have lenR : (List.replicate (N.length - np) Ent.un).length = (List.replicate (N.length - np) (none : Option V)).length := by simp
  have getL : ∀ {i : Nat} {e : Ent}, (args ++ List.replicate (N.length - np) Ent.un)[i]? = some e → args[i]? = some e ∨ e = .un := fun {i e} q => by
    rw [List.getElem?_append] at q
    split at q
    · exact .inl q
    · rw [List.getElem?_replicate] at q
      split at q
      · exact .inr (Option.some.inj q).symm
      · cases q
  have getS : ∀ {i : Nat} {e : Ent}, args[i]? = some e → (vs.map some ++ List.replicate (N.length - np) none)[i]? = (vs.map some)[i]? := fun {i e} q => by
    have : i < (vs.map some).length := by rw [← lenA]; exact (List.getElem?_eq_some_iff.mp q).1
    rw [List.getElem?_append_left this]
  have ownE : ∀ {p : Addr}, Own (args ++ List.replicate (N.length - np) Ent.un) (vs.map some ++ List.replicate (N.length - np) none) p → Own args (vs.map some) p := fun {p} ⟨i, xs, e1, e2⟩ => by
    rcases getL e1 with q | q
    · rw [getS q] at e2
      exact ⟨i, xs, q, e2⟩
    · cases q
  have s0 : StOk (wdOf K mg R) (args ++ List.replicate (N.length - np) Ent.un) (L2.start N vs) B H := by
    rw [hs]
    refine ⟨s.same, by rw [List.length_append, List.length_append, lenA, lenR], fun i e o h1 h2 => ?_, fun i j xs ys p h1 h2 h3 h4 => ?_⟩
    · rcases getL h1 with q | q
      · rw [getS q] at h2
        exact s.ent i e o q h2
      · subst q; trivial
    · rcases getL h1 with q | q
      · rcases getL h2 with q' | q'
        · rw [getS q] at h3
          rw [getS q'] at h4
          exact s.dis i j xs ys p q q' h3 h4
        · cases q'
      · cases q
  refine ⟨_, B, s0, ?_⟩
  have fext : ∀ {e σ' B' H'}, StOk (wdOf K mg R) e σ' B' H' → Ext (wdOf K mg R) (args ++ List.replicate (N.length - np) Ent.un) (L2.start N vs) B H e σ' B' H' → FExt (wdOf K mg R) args vs B H (e.take np) B' H' := fun {e σ' B' H'} s' x => by
    refine ⟨x.b, s'.same, x.t, fun p o hp hn => ?_, fun i hi xs p e1 e2 => ?_⟩
    · obtain ⟨k1, k2, _⟩ := x.f p o hp (by rw [hs]; exact fun z => hn (ownE z))
      exact ⟨k1, k2⟩
    · obtain ⟨r1, r2⟩ := x.r i hi
      have hil : i < args.length := (List.getElem?_eq_some_iff.mp e1).1
      have e1' : (args ++ List.replicate (N.length - np) Ent.un)[i]? = some (.mu xs) := by rw [List.getElem?_append_left hil]; exact e1
      have e2' : (L2.start N vs)[i]? = some (some (.ref p)) := by
        rw [hs, getS e1, List.getElem?_map, e2]
        rfl
      have e3 : σ'[i]? = some (some (.ref p)) := r1.trans e2'
      have hl3 : i < e.length := by rw [s'.len]; exact (List.getElem?_eq_some_iff.mp e3).1
      refine ⟨e[i], by rw [List.getElem?_take_of_lt (by omega)]; exact List.getElem?_eq_getElem hl3, s'.ent i _ _ (List.getElem?_eq_getElem hl3) e3, ?_⟩
      rcases r2 xs p e1' e2' with ⟨ys, q⟩ | q
      · rw [List.getElem?_eq_getElem hl3] at q
        exact .inl ⟨ys, Option.some.inj q⟩
      · exact .inr q
  have free : ∀ {p : Addr}, FreeR (wdOf K mg R) (args ++ List.replicate (N.length - np) Ent.un) (L2.start N vs) H p → H p = none := fun {p} q => by
    rcases q with q | ⟨i, xs, hi, e1, e2⟩
    · exact q
    · rcases getL e1 with q | q
      · exact absurd (hm i xs q) hi
      · cases q
  have p' : PostF (wdOf K mg R) args vs B H Q E (finF np (f (args ++ List.replicate (N.length - np) Ent.un))) := by
    unfold mkFn at p
    rw [if_pos hl] at p
    exact p
  cases hf : f (args ++ List.replicate (N.length - np) Ent.un) with
  | bad => rw [hf] at p'; exact p'.elim
  | err c ks xs e =>
    rw [hf] at p'
    exact fun cls d σ' B' H' s' x q => p' cls d B' H' (fext s' x) q
  | ok fl e =>
    rw [hf] at p'
    cases fl with
    | nx => exact fun σ' B' H' s' x => p' .non B' H' (fext s' x) rfl
    | bk => exact p'.elim
    | ct => exact p'.elim
    | rt r =>
      refine fun v σ' B' H' s' x q => p' v B' H' (fext s' x) ?_
      cases r with
      | val d => exact q
      | mu xs =>
        obtain ⟨a, us, e1, e2, e3, e4, e5, _⟩ := q
        exact ⟨a, us, e1, free e2, e3, e4, e5⟩
      | un => exact q.elim
      | exn _ _ _ => exact q.elim
theorem fn_ok {x qual : Str} {params : Arguments} {body : List Stmt} {scope : Scope} {dvs : List V} {kws : List (Str × V)} {a : Addr} {fd : FuncData} {N ps : List Str} {k np : Nat} {R : List Nat} {f : DenS} (F : FunD K x qual params body scope dvs kws a fd) (S : FnScope N ps scope) (hn : ps.length = np)
    (hbody : ∀ (cdv : Value) (A : Around) (outer : List Env) (s : Shared) (H : Hp) (E : XK), Room k (A.deeper (envOfC qual scope s.heap.objs.size a cdv)) →
      SSs (cxOf (L2.CX P w) P w K mg base N qual scope a cdv A outer s H E) (wdOf K mg R) (fun cls d _ H => E cls d H) body f) : FnOk P w K mg base (L2.CX P w) (k + 1) a fd ps (spOf K mg R np (mkFn np N.length f)) :=
  F.ok S (fun vs H Q E h => (spOf_len vs H Q E h).trans hn.symm) fun cdv A outer s H vs Q E hr h => ⟨_, hbody cdv A outer s H E hr, fn_body h⟩
end

theorem Reps.toC {Γ : Wd} {R : List Nat} {B : Hp} {ds : List D} {vs : List V} (h : Reps Γ B ds vs) : Reps (wdOf Γ.K Γ.mg R) B ds vs := Reps.ctx (Γ := Γ) (Γ' := wdOf Γ.K Γ.mg R) rfl rfl ds vs h
theorem Reps.ofC {Γ : Wd} {R : List Nat} {B : Hp} {ds : List D} {vs : List V} (h : Reps (wdOf Γ.K Γ.mg R) B ds vs) : Reps Γ B ds vs := Reps.ctx (Γ := wdOf Γ.K Γ.mg R) (Γ' := Γ) rfl rfl ds vs h
theorem Rep.ofC {Γ : Wd} {R : List Nat} {B : Hp} {d : D} {v : V} (h : Rep (wdOf Γ.K Γ.mg R) B d v) : Rep Γ B d v := Rep.ctx (Γ := wdOf Γ.K Γ.mg R) (Γ' := Γ) rfl rfl d v h
theorem Rep.toC {Γ : Wd} {R : List Nat} {B : Hp} {d : D} {v : V} (h : Rep Γ B d v) : Rep (wdOf Γ.K Γ.mg R) B d v := Rep.ctx (Γ := Γ) (Γ' := wdOf Γ.K Γ.mg R) rfl rfl d v h
theorem XnOk.ofC {Γ : Wd} {R : List Nat} {B H : Hp} {c : Str} {ns : List Str} {xs : List D} {cls : Value} {d : Option Addr} (h : XnOk (wdOf Γ.K Γ.mg R) B H c ns xs cls d) : XnOk Γ B H c ns xs cls d := XnOk.ctx (Γ := wdOf Γ.K Γ.mg R) (Γ' := Γ) rfl rfl h
/-! ### calls -/
def frzS (env : Sto) (j : Nat) : Sto := match env[j]? with
  | some (.mu xs) => env.set j (.val (.lst xs))
  | _ => env
def frzAr : List Ar → Sto → Sto
  | [], env => env
  | .v _ :: as, env => frzAr as env
  | .s j :: as, env => frzAr as (frzS env j)
theorem frzS_get {env : Sto} {j : Nat} (a : Ar) : a.get (frzS env j) = a.get env := by
  unfold frzS
  cases h : env[j]? with
  | none => rfl
  | some en =>
    cases en with
    | mu xs =>
      cases a with
      | v d => rfl
      | s k =>
        show (match (env.set j (.val (.lst xs)))[k]? with | some (.val d) => some d | some (.mu xs) => some (.lst xs) | _ => none) = (match env[k]? with | some (.val d) => some d | some (.mu xs) => some (.lst xs) | _ => none)
        by_cases e : j = k
        · subst e
          rw [List.getElem?_set_self (List.getElem?_eq_some_iff.mp h).1, h]
        · rw [List.getElem?_set_ne e]
    | _ => rfl
theorem frzS_all {env : Sto} {j : Nat} : ∀ as : List Ar, getAll as (frzS env j) = getAll as env
  | [] => rfl
  | a :: as => by
    show (match a.get (frzS env j), getAll as (frzS env j) with | some d, some ds => some (d :: ds) | _, _ => none) = _
    rw [frzS_get, frzS_all as]
    rfl
section
variable {Γ : Wd}
theorem frzS_ok {env : Sto} {σ : L2.St} {B H : Hp} {j : Nat} (s : StOk Γ env σ B H) : ∃ B1, StOk Γ (frzS env j) σ B1 H ∧ Ext Γ env σ B H (frzS env j) σ B1 H ∧ ∀ d v, σ[j]? = some (some v) → (Ar.s j).get env = some d → Rep Γ B1 d v := by
  unfold frzS
  cases h : env[j]? with
  | none =>
    refine ⟨B, s, Ext.refl, fun d v _ g => ?_⟩
    have g' : (match env[j]? with | some (.val d) => some d | some (.mu xs) => some (.lst xs) | _ => none) = some d := g
    rw [h] at g'; cases g'
  | some en =>
    obtain ⟨o, ho, k⟩ := s.slot h
    cases en with
    | mu xs =>
      obtain ⟨q, vs, rfl, hb, hq, r⟩ := k
      refine ⟨upd B q (.lst vs), s.freeze h ho hb hq r, Ext.freeze s h ho hb, fun d v hv g => ?_⟩
      have g' : (match env[j]? with | some (.val d) => some d | some (.mu xs) => some (.lst xs) | _ => none) = some d := g
      rw [h] at g'; cases g'
      rw [ho] at hv; cases hv
      exact ⟨q, vs, rfl, upd_same, Reps.mono (same_upd hb) xs vs r⟩
    | val d =>
      refine ⟨B, s, Ext.refl, fun d' v hv g => ?_⟩
      have g' : (match env[j]? with | some (.val d) => some d | some (.mu xs) => some (.lst xs) | _ => none) = some d' := g
      rw [h] at g'; cases g'
      obtain ⟨u, rfl, r⟩ := k
      rw [ho] at hv; cases hv
      exact r
    | un =>
      refine ⟨B, s, Ext.refl, fun d v _ g => ?_⟩
      have g' : (match env[j]? with | some (.val d) => some d | some (.mu xs) => some (.lst xs) | _ => none) = some d := g
      rw [h] at g'; cases g'
    | exn _ _ _ =>
      refine ⟨B, s, Ext.refl, fun d v _ g => ?_⟩
      have g' : (match env[j]? with | some (.val d) => some d | some (.mu xs) => some (.lst xs) | _ => none) = some d := g
      rw [h] at g'; cases g'
theorem frzAr_ok {σ : L2.St} {H : Hp} : ∀ {as : List Ar} {env : Sto} {B : Hp} {vs : List V} {ds : List D}, StOk Γ env σ B H → ArsOk Γ B σ as vs → getAll as env = some ds →
    ∃ B1, StOk Γ (frzAr as env) σ B1 H ∧ Ext Γ env σ B H (frzAr as env) σ B1 H ∧ Reps Γ B1 ds vs
  | [], env, B, vs, ds, s, h, g => by
    cases g
    exact ⟨B, s, Ext.refl, h⟩
  | a :: as, env, B, vs, ds, s, h, g => by
    obtain ⟨v, r, rfl, e2, e3⟩ := h
    have g' : (match a.get env, getAll as env with | some d, some ds => some (d :: ds) | _, _ => none) = some ds := g
    cases ha : a.get env with
    | none => rw [ha] at g'; cases g'
    | some d =>
      cases hr : getAll as env with
      | none => rw [ha, hr] at g'; cases g'
      | some ds' =>
        rw [ha, hr] at g'
        cases g'
        cases a with
        | v d0 =>
          obtain ⟨B1, s1, x1, k1⟩ := frzAr_ok s e3 hr
          have e : d0 = d := Option.some.inj ha
          subst e
          exact ⟨B1, s1, x1, v, r, rfl, Rep.mono x1.b _ _ e2, k1⟩
        | s j =>
          obtain ⟨B1, s1, x1, k1⟩ := frzS_ok (j := j) s
          obtain ⟨B2, s2, x2, k2⟩ := frzAr_ok s1 (ArsOk.mono x1.b e3) ((frzS_all as).trans hr)
          exact ⟨B2, s2, x1.trans x2, v, r, rfl, Rep.mono x2.b _ _ (k1 d v e2 ha), k2⟩
end
/-- nothing of it stands at an address -/
def D.flat : D → Bool
  | .non => true
  | .bl _ => true
  | .int _ => true
  | .str _ => true
  | _ => false
def Ent.flat : Ent → Bool
  | .val d => d.flat
  | _ => false
theorem flat_rep {Γ : Wd} {B B' : Hp} {d : D} {v : V} (h : d.flat = true) (r : Rep Γ B d v) : Rep Γ B' d v := by
  cases d with
  | tup _ => cases h
  | lst _ => cases h
  | fl _ => cases h
  | ins _ _ _ => cases h
  | _ => exact r
/-- a call, everything by value -/
def dCall (g : Fn) (dfl : List D) (fs : DenA) : DenF := fun env => (fs env).bind fun as e => match getAll as e with
  | some ds => (match g ((ds ++ dfl).map .val) with
    | .ok r _ => if r.flat = true then .ok r e else .ok r (frzAr as e)
    | .err c ns xs _ => .err c ns xs (frzAr as e)
    | .bad => .bad)
  | none => .bad
section
variable {X : Cx} {Γ : Wd} {W : WX} {e : Expr} {es : List Expr} {pos p : Pos} {x : Str} {f : Addr} {fd : FuncData} {ps : List Str} {k np : Nat} {R : List Nat} {g : Fn} {ds : List Value} {dvs : List V} {dfl : List D} {fs : DenA}
theorem args_ok {σ : L2.St} {B H : Hp} {ds : List D} {vs : List V} (s : Same B H) (r : Reps (wdOf Γ.K Γ.mg R) B ds vs) : StOk (wdOf Γ.K Γ.mg R) (ds.map .val) (vs.map some) B H where
  same := s
  len := by rw [List.length_map, List.length_map, r.length]
  ent := fun i e o h1 h2 => by
    rw [List.getElem?_map] at h1 h2
    cases hd : ds[i]? with
    | none => rw [hd] at h1; cases h1
    | some d =>
      rw [hd] at h1
      cases h1
      obtain ⟨v, hv, rv⟩ := r.get hd
      rw [hv] at h2
      cases h2
      exact ⟨v, rfl, rv⟩
  dis := fun i j xs ys p h1 => by
    rw [List.getElem?_map] at h1
    cases hd : ds[i]? with
    | none => rw [hd] at h1; cases h1
    | some d => rw [hd] at h1; cases h1
theorem no_own {ds : List D} {σ : L2.St} {p : Addr} : ¬ Own (ds.map .val) σ p := by
  rintro ⟨i, xs, h1, _⟩
  rw [List.getElem?_map] at h1
  cases hd : ds[i]? with
  | none => rw [hd] at h1; cases h1
  | some d => rw [hd] at h1; cases h1
/-- the reading of such a call -/
theorem tCall_of (hK : X.K = Γ.K) (hm : X.mg = Γ.mg) (hdf : ∀ B, Reps Γ B dfl dvs) (ga : ∀ args, args.length ≠ np → g args = .bad) {σ : L2.St} {H : Hp} {Q : VK} (h : tF Γ W (dCall g dfl fs) σ H Q) : tCallSD (spOf X.K X.mg R np g) dvs (WE W) (tAr Γ W fs) σ H Q := by
  obtain ⟨env, B, s, p⟩ := h
  have p' : Post Γ W env σ B H (fun r env' B' H' => ∀ v, RetOk Γ (FreeR Γ env σ H) env' σ B' H' r v → Q v H') ((fs env).bind fun as e => match getAll as e with
    | some ds => (match g ((ds ++ dfl).map .val) with
      | .ok r _ => if r.flat = true then .ok r e else .ok r (frzAr as e)
      | .err c ns xs _ => .err c ns xs (frzAr as e)
      | .bad => .bad)
    | none => .bad) := p
  refine ⟨env, B, s, ?_⟩
  cases hfs : fs env with
  | bad => rw [hfs] at p'; exact p'
  | err c ns xs e1 => rw [hfs] at p'; exact p'
  | ok as e1 =>
    have p2 := p'
    rw [hfs] at p2
    have q0 := Post.bind p2
    intro B1 H1 s1 x1 vs hvs
    have q1 : Post Γ W e1 σ B1 H1 (fun r env' B' H' => ∀ v, RetOk Γ (FreeR Γ env σ H) env' σ B' H' r v → Q v H') (match getAll as e1 with
      | some ds => (match g ((ds ++ dfl).map .val) with
        | .ok r _ => if r.flat = true then .ok r e1 else .ok r (frzAr as e1)
        | .err c ns xs _ => .err c ns xs (frzAr as e1)
        | .bad => .bad)
      | none => .bad) := q0 B1 H1 s1 x1
    cases ha : getAll as e1 with
    | none => rw [ha] at q1; exact q1.elim
    | some ds =>
      rw [ha] at q1
      obtain ⟨B2, s2, x2, r2⟩ := frzAr_ok s1 hvs ha
      have rc : Reps (wdOf Γ.K Γ.mg R) B2 (ds ++ dfl) (vs ++ dvs) := (r2.append (hdf B2)).toC
      have q2 : Post Γ W e1 σ B1 H1 (fun r env' B' H' => ∀ v, RetOk Γ (FreeR Γ env σ H) env' σ B' H' r v → Q v H') (match g ((ds ++ dfl).map .val) with
          | .ok r _ => if r.flat = true then .ok r e1 else .ok r (frzAr as e1)
          | .err c ns xs _ => .err c ns xs (frzAr as e1)
          | .bad => .bad) := q1
      have nlen : ((ds ++ dfl).map Ent.val).length = np := by
        by_cases hz : ((ds ++ dfl).map Ent.val).length = np
        · exact hz
        · rw [ga _ hz] at q2
          exact q2.elim
      rw [hK, hm]
      refine ⟨B2, (ds ++ dfl).map .val, nlen, args_ok (σ := σ) s2.same rc, fun i xs hi => ?_, ?_⟩
      · exfalso
        rw [List.getElem?_map] at hi
        cases hd : (ds ++ dfl)[i]? with
        | none => rw [hd] at hi; cases hi
        | some d => rw [hd] at hi; cases hi
      · skip
        have own_up : ∀ {B' H' : Hp} {pz : Sto}, FExt (wdOf Γ.K Γ.mg R) ((ds ++ dfl).map .val) (vs ++ dvs) B2 H1 pz B' H' → Grow B2 H1 B' H' := fun {B' H' pz} fx =>
          ⟨fx.b, fun p o hp => (fx.f p o hp no_own).1, fx.s, fun p o hp => (fx.f p o hp no_own).2⟩
        cases hg : g ((ds ++ dfl).map .val) with
        | bad => rw [hg] at q2; exact q2.elim
        | err c ns xs pz =>
          rw [hg] at q2
          intro cls d B' H' fx xn
          have gr := own_up fx
          exact q2 cls d B' H' (s2.growG gr) (x2.trans (Ext.growG gr)) xn.ofC
        | ok r pz =>
          rw [hg] at q2
          intro v B' H' fx rv
          have gr := own_up fx
          by_cases hfl : r.flat = true
          · have q3 : Post Γ W e1 σ B1 H1 (fun r env' B' H' => ∀ v, RetOk Γ (FreeR Γ env σ H) env' σ B' H' r v → Q v H') (.ok r e1) := by
              rw [← if_pos (c := r.flat = true) (t := Res.ok r e1) (e := Res.ok r (frzAr as e1)) hfl]
              exact q2
            have gr1 : Grow B1 H1 B1 H' := ⟨Same.refl _, gr.h, s1.same.trans gr.h, fun _ _ _ z => z⟩
            refine q3 B1 H' (s1.growG gr1) (Ext.growG gr1) v ?_
            cases r with
            | val d => exact flat_rep hfl (Rep.ofC rv)
            | _ => cases hfl
          · have q3 : Post Γ W e1 σ B1 H1 (fun r env' B' H' => ∀ v, RetOk Γ (FreeR Γ env σ H) env' σ B' H' r v → Q v H') (.ok r (frzAr as e1)) := by
              rw [← if_neg (c := r.flat = true) (t := Res.ok r e1) (e := Res.ok r (frzAr as e1)) hfl]
              exact q2
            refine q3 B' H' (s2.growG gr) (x2.trans (Ext.growG gr)) v ?_
            cases r with
            | val d => exact Rep.ofC rv
            | mu xs =>
              obtain ⟨a, us, e1', e2', e3', e4', e5'⟩ := rv
              exact ⟨a, us, e1', .inl (x1.h0 a e2'), e3', e4', Reps.ofC e5', fun z => s2.own_tracked z e2'⟩
            | un => exact rv.elim
            | exn _ _ _ => exact rv.elim
theorem sCall (hK : X.K = Γ.K) (hm' : X.mg = Γ.mg) (F : FnOk X.prog X.w X.K X.mg X.base (L2.CX X.prog X.w) k f fd ps (spOf X.K X.mg R np g)) (hr : Room k X.A) (gl : Gl X x) (hm : X.mg x = some (.ref f)) (hk : PySem.W.keepIn X.K (.ref f) = true) (hb : Binds X.K fd ps ds) (hd : Vals dvs ds) (hdf : ∀ B, Reps Γ B dfl dvs) (tk : Takes X W)
    (ha : SA X Γ W (e :: es) fs) (ga : ∀ args, args.length ≠ np → g args = .bad)
    (hdb : (x == ("__debug__" : Str)) = false := by decide) (he : starEach (e :: es) X.env = (false, eval e X.env) :: starEach es X.env := by rfl) (hpl : (backTo pos (starEach es X.env)).any (·.1) = false := by rfl) :
    SF X Γ W (.Call (.Name x p) (e :: es) [] pos) (dCall g dfl fs) := imE (pe_callSD F hr gl hm hk hb hd (fun σ => passAt tk σ) ha hdb he hpl) fun σ H Q h => tCall_of hK hm' hdf ga h
theorem EntOk.ofC {B H : Hp} {en : Ent} {o : Option V} (h : EntOk (wdOf Γ.K Γ.mg R) B H en o) : EntOk Γ B H en o := by
  cases en with
  | un => trivial
  | val d =>
    obtain ⟨v, e1, r⟩ := h
    exact ⟨v, e1, Rep.ofC r⟩
  | mu xs =>
    obtain ⟨q, vs, e1, e2, e3, r⟩ := h
    exact ⟨q, vs, e1, e2, e3, Reps.ofC r⟩
  | exn c ns xs =>
    obtain ⟨dd, vs, e1, ⟨e2, _⟩, _⟩ := h
    cases e2
/-- no argument -/
def dCall0 (g : Fn) (dfl : List D) : DenF := fun env => match g (dfl.map .val) with
  | .ok r _ => .ok r env
  | .err c ns xs _ => .err c ns xs env
  | .bad => .bad
theorem pe_call0SD {E : L2.St → XK} {sp : Sp} {CX : CXT} (F : FnOk X.prog X.w X.K X.mg X.base CX k f fd ps sp) (hr : Room k X.A) (hg : Gl X x) (hm : X.mg x = some (.ref f)) (hk : PySem.W.keepIn X.K (.ref f) = true) (hb : Binds X.K fd ps ds) (hd : Vals dvs ds) (hx : ∀ σ, PassesAt CX X σ (E σ))
    (hdb : (x == ("__debug__" : Str)) = false := by decide) : PE X (.Call (.Name x p) [] [] pos) (tCallSD sp dvs E tNil) := by
  refine ⟨fun pins s σ H Q I h => ?_⟩
  refine wpAny_Call_Name_kw (ld_glob I hg hm ?_ hdb)
  exact PySem.W.callWith_K0 I.kIn hk (run_fnSD (us := []) F hr hb hd (hx σ) I .nil h)
theorem sCall0 (hK : X.K = Γ.K) (hm' : X.mg = Γ.mg) (F : FnOk X.prog X.w X.K X.mg X.base (L2.CX X.prog X.w) k f fd ps (spOf X.K X.mg R np g)) (hr : Room k X.A) (gl : Gl X x) (hm : X.mg x = some (.ref f)) (hk : PySem.W.keepIn X.K (.ref f) = true) (hb : Binds X.K fd ps ds) (hd : Vals dvs ds) (hdf : ∀ B, Reps Γ B dfl dvs) (tk : Takes X W)
    (ga : ∀ args, args.length ≠ np → g args = .bad) (hdb : (x == ("__debug__" : Str)) = false := by decide) :
    SF X Γ W (.Call (.Name x p) [] [] pos) (dCall0 g dfl) := imE (pe_call0SD F hr gl hm hk hb hd (fun σ => passAt tk σ) hdb) fun σ H Q ⟨env, B, s, pp⟩ => by
  have p' : Post Γ W env σ B H (fun r env' B' H' => ∀ v, RetOk Γ (FreeR Γ env σ H) env' σ B' H' r v → Q v H') (match g (dfl.map .val) with
    | .ok r _ => .ok r env
    | .err c ns xs _ => .err c ns xs env
    | .bad => .bad) := pp
  have nlen : (dfl.map Ent.val).length = np := by
    by_cases hz : (dfl.map Ent.val).length = np
    · exact hz
    · rw [ga _ hz] at p'
      exact p'.elim
  show spOf X.K X.mg R np g ([] ++ dvs) H Q (WE W σ)
  rw [hK, hm']
  refine ⟨B, dfl.map .val, nlen, args_ok (σ := σ) s.same (hdf B).toC, fun i xs hi => ?_, ?_⟩
  · exfalso
    rw [List.getElem?_map] at hi
    cases hd : dfl[i]? with
    | none => rw [hd] at hi; cases hi
    | some d => rw [hd] at hi; cases hi
  · have own_up : ∀ {B' H' : Hp} {pz : Sto}, FExt (wdOf Γ.K Γ.mg R) (dfl.map .val) ([] ++ dvs) B H pz B' H' → Grow B H B' H' := fun {B' H' pz} fx =>
      ⟨fx.b, fun p o hp => (fx.f p o hp no_own).1, fx.s, fun p o hp => (fx.f p o hp no_own).2⟩
    cases hg : g (dfl.map .val) with
    | bad => rw [hg] at p'; exact p'.elim
    | err c ns xs pz =>
      rw [hg] at p'
      intro cls d B' H' fx xn
      have gr := own_up fx
      exact p' cls d B' H' (s.growG gr) (Ext.growG gr) xn.ofC
    | ok r pz =>
      rw [hg] at p'
      intro v B' H' fx rv
      have gr := own_up fx
      refine p' B' H' (s.growG gr) (Ext.growG gr) v ?_
      cases r with
      | val d => exact Rep.ofC rv
      | mu xs =>
        obtain ⟨a, us, e1', e2', e3', e4', e5'⟩ := rv
        exact ⟨a, us, e1', .inl e2', e3', e4', Reps.ofC e5', fun z => s.own_tracked z e2'⟩
      | un => exact rv.elim
      | exn _ _ _ => exact rv.elim
/-- the first argument by its slot: what the def does to it is seen -/
def hasS (j : Nat) : List Ar → Bool
  | [] => false
  | .v _ :: as => hasS j as
  | .s i :: as => i == j || hasS j as
def dCallR (g : Fn) (j : Nat) (dfl : List D) (fs : DenA) : DenF := fun env => match env[j]? with
  | some (.mu _) => (fs env).bind fun as e => (match e[j]?, getAll as e, hasS j as with
    | some (.mu xs), some ds, false => (match g (.mu xs :: (ds ++ dfl).map .val) with
      | .ok r (p0 :: _) => .ok r ((frzAr as e).set j p0)
      | .err c ns ys (p0 :: _) => .err c ns ys ((frzAr as e).set j p0)
      | _ => .bad)
    | _, _, _ => .bad)
  | some (.val d) => (fs env).bind fun as e => (match getAll as e with
    | some ds => (match g (.val d :: (ds ++ dfl).map .val) with
      | .ok r _ => .ok r (frzAr as e)
      | .err c ns ys _ => .err c ns ys (frzAr as e)
      | _ => .bad)
    | none => .bad)
  | _ => .bad
theorem frzAr_not {j : Nat} : ∀ {as : List Ar} {e : Sto}, hasS j as = false → (frzAr as e)[j]? = e[j]?
  | [], e, _ => rfl
  | .v _ :: as, e, h => frzAr_not (as := as) h
  | .s i :: as, e, h => by
    have h' : (i == j || hasS j as) = false := h
    obtain ⟨h1, h2⟩ := Bool.or_eq_false_iff.mp h'
    have ne : i ≠ j := fun z => by rw [z] at h1; simp at h1
    show (frzAr as (frzS e i))[j]? = e[j]?
    rw [frzAr_not (as := as) h2]
    unfold frzS
    cases he : e[i]? with
    | none => rfl
    | some en =>
      cases en with
      | mu xs => exact List.getElem?_set_ne ne
      | _ => rfl
theorem args_okR {σ : L2.St} {B H : Hp} {ds : List D} {vs : List V} {xs : List D} {q : Addr} {us : List V} (s : Same B H) (hb : B q = none) (hq : H q = some (.lst us)) (rx : Reps (wdOf Γ.K Γ.mg R) B xs us) (r : Reps (wdOf Γ.K Γ.mg R) B ds vs) :
    StOk (wdOf Γ.K Γ.mg R) (.mu xs :: ds.map .val) ((V.ref q :: vs).map some) B H where
  same := s
  len := by simp [r.length]
  ent := fun i e o h1 h2 => by
    cases i with
    | zero =>
      cases h1
      cases h2
      exact ⟨q, us, rfl, hb, hq, rx⟩
    | succ i =>
      have h1' : (ds.map Ent.val)[i]? = some e := by simpa using h1
      have h2' : (vs.map some)[i]? = some o := by simpa using h2
      exact (args_ok (Γ := Γ) (R := R) (σ := σ) s r).ent i e o h1' h2'
  dis := fun i j ys zs p h1 h2 h3 h4 => by
    have no : ∀ {i : Nat} {ys : List D}, (Ent.mu xs :: ds.map Ent.val)[i + 1]? = some (.mu ys) → False := fun {i ys} h => by
      have h' : (ds.map Ent.val)[i]? = some (.mu ys) := by simpa using h
      rw [List.getElem?_map] at h'
      cases hd : ds[i]? with
      | none => rw [hd] at h'; cases h'
      | some d => rw [hd] at h'; cases h'
    cases i with
    | zero => cases j with
      | zero => rfl
      | succ j => exact (no h2).elim
    | succ i => exact (no h1).elim
theorem own_R {ds : List D} {vs : List V} {xs : List D} {q p : Addr} (h : Own (.mu xs :: ds.map .val) ((V.ref q :: vs).map some) p) : p = q := by
  obtain ⟨i, ys, h1, h2⟩ := h
  cases i with
  | zero => cases h2; rfl
  | succ i =>
    have h' : (ds.map Ent.val)[i]? = some (.mu ys) := by simpa using h1
    rw [List.getElem?_map] at h'
    cases hd : ds[i]? with
    | none => rw [hd] at h'; cases h'
    | some d => rw [hd] at h'; cases h'
/-- behind such a call -/
theorem afterR {e : Sto} {σ : L2.St} {B1 H1 B' H' : Hp} {j : Nat} {xs : List D} {q : Addr} {ds : List D} {vs : List V} {p0 : Ent} {rest : List Ent} (s : StOk Γ e σ B1 H1) (hj : e[j]? = some (.mu xs)) (hs : σ[j]? = some (some (.ref q)))
    (fx : FExt (wdOf Γ.K Γ.mg [0]) (.mu xs :: ds.map .val) (.ref q :: vs) B1 H1 (p0 :: rest) B' H') : StOk Γ (e.set j p0) σ B' H' ∧ Ext Γ e σ B1 H1 (e.set j p0) σ B' H' ∧ ∀ p, Own (e.set j p0) σ p → H1 p ≠ none := by
  obtain ⟨pe, hp0, k0, k1⟩ := fx.r 0 (List.mem_singleton.mpr rfl) xs q rfl rfl
  have ep : p0 = pe := Option.some.inj hp0
  subst ep
  have k0 : EntOk Γ B' H' p0 (some (.ref q)) := k0.ofC
  obtain ⟨hb, us, hq⟩ := s.own_none ⟨j, xs, hj, hs⟩
  have fr : ∀ p o, H1 p = some o → p ≠ q → H' p = some o ∧ (B1 p = none → B' p = none) := fun p o hp n => fx.f p o hp fun z => n (own_R z)
  have own2 : ∀ p, Own (e.set j p0) σ p → Own e σ p := fun p ⟨i, ys, h1, h2⟩ => by
    rcases Sto.set_get h1 with ⟨rfl, _⟩ | ⟨n, z⟩
    · exact ⟨j, xs, hj, by rw [hs] at h2 ⊢; exact h2⟩
    · exact ⟨i, ys, z, h2⟩
  refine ⟨⟨fx.s, by rw [List.length_set]; exact s.len, fun i en o h1 h2 => ?_, fun i l ys zs p h1 h2 h3 h4 => ?_⟩, ⟨fx.b, fx.t, fun p o hp n => ?_, fun i hi => ⟨rfl, fun ys p h1 h2 => ?_⟩⟩, fun p hp => s.own_tracked (own2 p hp)⟩
  · rcases Sto.set_get h1 with ⟨rfl, rfl⟩ | ⟨n, z⟩
    · rw [hs] at h2; cases h2
      exact k0
    · have kk := s.ent i en o z h2
      cases en with
      | un => trivial
      | val d =>
        obtain ⟨v, e1, r⟩ := kk
        exact ⟨v, e1, Rep.mono fx.b d v r⟩
      | mu ys =>
        obtain ⟨a, ws, e1, e2, e3, r⟩ := kk
        subst e1
        have na : a ≠ q := fun z2 => by
          subst z2
          exact n (s.dis j i xs ys a hj z hs h2)
        obtain ⟨f1, f2⟩ := fr a _ e3 na
        exact ⟨a, ws, rfl, f2 e2, f1, Reps.mono fx.b ys ws r⟩
      | exn c ns ys =>
        obtain ⟨dd, ws, e1, e2, e3, e4, e5⟩ := kk
        have na : dd ≠ q := fun z2 => by
          subst z2
          rw [hq] at e3
          cases e3
        exact ⟨dd, ws, e1, e2, (fr dd _ e3 na).1, e4, Reps.mono fx.b ys ws e5⟩
  · have m : ∀ {i : Nat} {zs : List D}, (e.set j p0)[i]? = some (.mu zs) → ∃ us, e[i]? = some (.mu us) := fun {i zs} h => by
      rcases Sto.set_get h with ⟨rfl, _⟩ | ⟨_, z⟩
      · exact ⟨xs, hj⟩
      · exact ⟨_, z⟩
    obtain ⟨u1, m1⟩ := m h1
    obtain ⟨u2, m2⟩ := m h2
    exact s.dis i l u1 u2 p m1 m2 h3 h4
  · have np : p ≠ q := fun z => n (z ▸ ⟨j, xs, hj, hs⟩)
    obtain ⟨f1, f2⟩ := fr p o hp np
    exact ⟨f1, f2, fun z => n (own2 p z)⟩
  · by_cases z : j = i
    · subst z
      rw [hs] at h2
      cases h2
      rcases k1 with ⟨zs, k⟩ | k
      · subst k
        exact .inl ⟨zs, List.getElem?_set_self (List.getElem?_eq_some_iff.mp h1).1⟩
      · exact .inr k
    · exact .inl ⟨ys, by rw [List.getElem?_set_ne z]; exact h1⟩
theorem sCallR {e0 : Expr} {j : Nat} (hK : X.K = Γ.K) (hm' : X.mg = Γ.mg) (F : FnOk X.prog X.w X.K X.mg X.base (L2.CX X.prog X.w) k f fd ps (spOf X.K X.mg [0] np g)) (hr : Room k X.A) (gl : Gl X x) (hm : X.mg x = some (.ref f)) (hk : PySem.W.keepIn X.K (.ref f) = true) (hb : Binds X.K fd ps ds) (hd : Vals dvs ds) (hdf : ∀ B, Reps Γ B dfl dvs) (tk : Takes X W)
    (h0 : PE X e0 (tVar j)) (ha : SA X Γ W es fs) (ga : ∀ args, args.length ≠ np → g args = .bad)
    (hdb : (x == ("__debug__" : Str)) = false := by decide) (he : starEach (e0 :: es) X.env = (false, eval e0 X.env) :: starEach es X.env := by rfl) (hpl : (backTo pos (starEach es X.env)).any (·.1) = false := by rfl) :
    SF X Γ W (.Call (.Name x p) (e0 :: es) [] pos) (dCallR g j dfl fs) := imE (pe_callSD F hr gl hm hk hb hd (fun σ => passAt tk σ) (pa_cons h0 ha he) hdb he hpl) fun σ H Q ⟨env, B, s, pp⟩ => by
  have p' : Post Γ W env σ B H (fun r env' B' H' => ∀ v, RetOk Γ (FreeR Γ env σ H) env' σ B' H' r v → Q v H') (match env[j]? with
    | some (.mu _) => (fs env).bind fun as e => (match e[j]?, getAll as e, hasS j as with
      | some (.mu xs), some ds, false => (match g (.mu xs :: (ds ++ dfl).map .val) with
        | .ok r (p0 :: _) => .ok r ((frzAr as e).set j p0)
        | .err c ns ys (p0 :: _) => .err c ns ys ((frzAr as e).set j p0)
        | _ => .bad)
      | _, _, _ => .bad)
    | some (.val d) => (fs env).bind fun as e => (match getAll as e with
      | some ds => (match g (.val d :: (ds ++ dfl).map .val) with
        | .ok r _ => .ok r (frzAr as e)
        | .err c ns ys _ => .err c ns ys (frzAr as e)
        | _ => .bad)
      | none => .bad)
    | _ => .bad) := pp
  cases hh : env[j]? with
  | none => rw [hh] at p'; exact p'.elim
  | some en =>
    rw [hh] at p'
    obtain ⟨o, ho, kk⟩ := s.slot hh
    cases en with
    | un => exact p'.elim
    | exn _ _ _ => exact p'.elim
    | mu xs0 =>
      obtain ⟨q, us0, rfl, hb0, hq0, r0⟩ := kk
      refine ⟨_, ho, env, B, s, p'.bind.mono fun as e1 B1 H1 s1 x1 q1 vs hvs => ?_⟩
      cases hj : e1[j]? with
      | none => rw [hj] at q1; exact q1.elim
      | some en1 =>
        cases en1 with
        | un => rw [hj] at q1; exact q1.elim
        | val _ => rw [hj] at q1; exact q1.elim
        | exn _ _ _ => rw [hj] at q1; exact q1.elim
        | mu xs =>
          cases hga : getAll as e1 with
          | none => rw [hj, hga] at q1; exact q1.elim
          | some ds' =>
            cases hhs : hasS j as with
            | true => rw [hj, hga, hhs] at q1; exact q1.elim
            | false =>
              rw [hj, hga, hhs] at q1
              have q2 : Post Γ W e1 σ B1 H1 (fun r env' B' H' => ∀ v, RetOk Γ (FreeR Γ env σ H) env' σ B' H' r v → Q v H') (match g (.mu xs :: (ds' ++ dfl).map .val) with
                | .ok r (p0 :: _) => .ok r ((frzAr as e1).set j p0)
                | .err c ns ys (p0 :: _) => .err c ns ys ((frzAr as e1).set j p0)
                | _ => .bad) := q1
              obtain ⟨B2, s2, x2, r2⟩ := frzAr_ok s1 hvs hga
              have hj2 : (frzAr as e1)[j]? = some (.mu xs) := (frzAr_not hhs).trans hj
              obtain ⟨o2, ho2, kk2⟩ := s2.slot hj2
              rw [ho] at ho2
              cases ho2
              obtain ⟨q', us, e1', hb2, hq2, rx⟩ := kk2
              cases e1'
              have nlen : (Ent.mu xs :: (ds' ++ dfl).map Ent.val).length = np := by
                by_cases hz : (Ent.mu xs :: (ds' ++ dfl).map Ent.val).length = np
                · exact hz
                · rw [ga _ hz] at q2
                  exact q2.elim
              show spOf X.K X.mg [0] np g (V.ref q :: vs ++ dvs) H1 Q (WE W σ)
              rw [hK, hm']
              refine ⟨B2, .mu xs :: (ds' ++ dfl).map .val, nlen, args_okR (σ := σ) s2.same hb2 hq2 rx.toC (r2.append (hdf B2)).toC, fun i ys hi => ?_, ?_⟩
              · cases i with
                | zero => exact List.mem_singleton.mpr rfl
                | succ i =>
                  exfalso
                  have hi' : ((ds' ++ dfl).map Ent.val)[i]? = some (.mu ys) := by simpa using hi
                  rw [List.getElem?_map] at hi'
                  cases hd : (ds' ++ dfl)[i]? with
                  | none => rw [hd] at hi'; cases hi'
                  | some d => rw [hd] at hi'; cases hi'
              · cases hg : g (.mu xs :: (ds' ++ dfl).map .val) with
                | bad => rw [hg] at q2; exact q2.elim
                | err c ns ys pz =>
                  rw [hg] at q2
                  cases pz with
                  | nil => exact q2.elim
                  | cons p0 pr =>
                    intro cls d B' H' fx xn
                    obtain ⟨s3, x3, _⟩ := afterR s2 hj2 ho fx
                    exact q2 cls d B' H' s3 (x2.trans x3) xn.ofC
                | ok r pz =>
                  rw [hg] at q2
                  cases pz with
                  | nil => exact q2.elim
                  | cons p0 pr =>
                    intro v B' H' fx rv
                    obtain ⟨s3, x3, t3⟩ := afterR s2 hj2 ho fx
                    refine q2 B' H' s3 (x2.trans x3) v ?_
                    cases r with
                    | val d => exact Rep.ofC rv
                    | mu zs =>
                      obtain ⟨a, ws, e1', e2', e3', e4', e5'⟩ := rv
                      exact ⟨a, ws, e1', .inl (x1.h0 a e2'), e3', e4', Reps.ofC e5', fun z => t3 a z e2'⟩
                    | un => exact rv.elim
                    | exn _ _ _ => exact rv.elim
    | val d0 =>
      obtain ⟨v0, rfl, rv0⟩ := kk
      refine ⟨v0, ho, env, B, s, p'.bind.mono fun as e1 B1 H1 s1 x1 q1 vs hvs => ?_⟩
      cases hga : getAll as e1 with
      | none => rw [hga] at q1; exact q1.elim
      | some ds' =>
        rw [hga] at q1
        have q2 : Post Γ W e1 σ B1 H1 (fun r env' B' H' => ∀ v, RetOk Γ (FreeR Γ env σ H) env' σ B' H' r v → Q v H') (match g (.val d0 :: (ds' ++ dfl).map .val) with
          | .ok r _ => .ok r (frzAr as e1)
          | .err c ns ys _ => .err c ns ys (frzAr as e1)
          | _ => .bad) := q1
        obtain ⟨B2, s2, x2, r2⟩ := frzAr_ok s1 hvs hga
        have nlen : (Ent.val d0 :: (ds' ++ dfl).map Ent.val).length = np := by
          by_cases hz : (Ent.val d0 :: (ds' ++ dfl).map Ent.val).length = np
          · exact hz
          · rw [ga _ hz] at q2
            exact q2.elim
        show spOf X.K X.mg [0] np g (v0 :: vs ++ dvs) H1 Q (WE W σ)
        rw [hK, hm']
        have rc : Reps (wdOf Γ.K Γ.mg [0]) B2 (d0 :: (ds' ++ dfl)) (v0 :: (vs ++ dvs)) := ⟨v0, vs ++ dvs, rfl, Rep.toC (Rep.mono (x1.b.trans x2.b) d0 v0 rv0), (r2.append (hdf B2)).toC⟩
        refine ⟨B2, (d0 :: (ds' ++ dfl)).map .val, nlen, args_ok (σ := σ) s2.same rc, fun i ys hi => ?_, ?_⟩
        · exfalso
          rw [List.getElem?_map] at hi
          cases hd : (d0 :: (ds' ++ dfl))[i]? with
          | none => rw [hd] at hi; cases hi
          | some d => rw [hd] at hi; cases hi
        · have own_up : ∀ {B' H' : Hp} {pz : Sto}, FExt (wdOf Γ.K Γ.mg [0]) ((d0 :: (ds' ++ dfl)).map .val) (v0 :: vs ++ dvs) B2 H1 pz B' H' → Grow B2 H1 B' H' := fun {B' H' pz} fx =>
            ⟨fx.b, fun p o hp => (fx.f p o hp no_own).1, fx.s, fun p o hp => (fx.f p o hp no_own).2⟩
          show PostF _ _ _ _ _ _ _ (g (.val d0 :: (ds' ++ dfl).map .val))
          cases hg : g (.val d0 :: (ds' ++ dfl).map .val) with
          | bad => rw [hg] at q2; exact q2.elim
          | err c ns ys pz =>
            rw [hg] at q2
            intro cls d B' H' fx xn
            have gr := own_up fx
            exact q2 cls d B' H' (s2.growG gr) (x2.trans (Ext.growG gr)) xn.ofC
          | ok r pz =>
            rw [hg] at q2
            intro v B' H' fx rv
            have gr := own_up fx
            refine q2 B' H' (s2.growG gr) (x2.trans (Ext.growG gr)) v ?_
            cases r with
            | val d => exact Rep.ofC rv
            | mu zs =>
              obtain ⟨a, ws, e1', e2', e3', e4', e5'⟩ := rv
              exact ⟨a, ws, e1', .inl (x1.h0 a e2'), e3', e4', Reps.ofC e5', fun z => s2.own_tracked z e2'⟩
            | un => exact rv.elim
            | exn _ _ _ => exact rv.elim
end
end Ev

set_option Elab.async false
set_option linter.all false
set_option maxRecDepth 100000
set_option maxHeartbeats 4000000
namespace Ev
open PySem PySem.Spec PyProof.Rows L2

/-! ### an exception class with a plain __init__ -/
/-- what __init__(self, y, ..) with self.f = y, .. leaves -/
def spInit (C : Addr) (ns : List Str) : Sp := fun vs H Q _ => ∃ a ys, vs = .ref a :: ys ∧ ys.length = ns.length ∧ H a = some (exo a C none) ∧
  ∀ dx H2, H dx = none → dx ≠ a → H2 a = some (exo a C (some dx)) → H2 dx = some (exd dx (ns.zip ys).reverse) → (∀ b, b ≠ a → b ≠ dx → H2 b = H b) → Q .non H2
section
variable {P : Program} {w : World} {K : PySem.W.Frag} {mg : Str → Option Value} {base : Heap}
theorem init1 {x qual f s1 y1 : Str} {params : Arguments} {scope : Scope} {dvs : List V} {kws : List (Str × V)} {a C : Addr} {fd : FuncData} {p1 p2 p3 p4 : Pos} (F : FunD K x qual params [.Assign [.Attribute (.Name s1 p1) f p2] (.Name y1 p3) p4] scope dvs kws a fd) (S : FnScope [s1, y1] [s1, y1] scope)
    (T : OexC K C) (hf : PySem.W.findIn K (.ref C) f = some none) (hs1 : Vis scope s1 := by first | exact Or.inl rfl | exact Or.inr (Or.inl rfl)) (hy1 : Vis scope y1 := by first | exact Or.inl rfl | exact Or.inr (Or.inl rfl))
    (d1 : (s1 == ("__debug__" : Str)) = false := by decide) (d2 : (s1 == ("__classdict__" : Str)) = false := by decide) (d3 : (y1 == ("__debug__" : Str)) = false := by decide) (d4 : (y1 == ("__classdict__" : Str)) = false := by decide) :
    FnOk P w K mg base CX0 1 a fd [s1, y1] (spInit C [f]) := by
  refine F.ok S (fun vs H Q E h => ?_) (fun cdv A outer s H vs Q E hr h => ?_)
  · obtain ⟨e, ys, rfl, h1, _⟩ := h
    simp at h1
    simp [h1]
  · obtain ⟨e, ys, rfl, h1, h2, h3⟩ := h
    match ys, h1 with
    | [y], _ =>
      refine ⟨_, pss_one (ps_ost (pe_var (i := 0) rfl hs1 d1 d2) (pe_var (i := 1) rfl hy1 d3 d4)), ?_⟩
      refine ⟨y, rfl, .ref e, rfl, e, C, rfl, T, hf, .inl ⟨h2, fun dx hd hn => ?_⟩⟩
      refine h3 dx _ hd hn upd_same ?_ (fun b hb hb2 => ?_)
      · rw [upd_ne hn, upd_same]
        rfl
      · rw [upd_ne hb, upd_ne hb2]
theorem init2 {x qual f f2 s1 y1 y2 : Str} {params : Arguments} {scope : Scope} {dvs : List V} {kws : List (Str × V)} {a C : Addr} {fd : FuncData} {p1 p2 p3 p4 q1 q2 q3 q4 : Pos} (F : FunD K x qual params [.Assign [.Attribute (.Name s1 p1) f p2] (.Name y1 p3) p4, .Assign [.Attribute (.Name s1 q1) f2 q2] (.Name y2 q3) q4] scope dvs kws a fd) (S : FnScope [s1, y1, y2] [s1, y1, y2] scope)
    (T : OexC K C) (hf : PySem.W.findIn K (.ref C) f = some none) (hf2 : PySem.W.findIn K (.ref C) f2 = some none) (hs1 : Vis scope s1 := by first | exact Or.inl rfl | exact Or.inr (Or.inl rfl)) (hy1 : Vis scope y1 := by first | exact Or.inl rfl | exact Or.inr (Or.inl rfl)) (hy2 : Vis scope y2 := by first | exact Or.inl rfl | exact Or.inr (Or.inl rfl))
    (d1 : (s1 == ("__debug__" : Str)) = false := by decide) (d2 : (s1 == ("__classdict__" : Str)) = false := by decide) (d3 : (y1 == ("__debug__" : Str)) = false := by decide) (d4 : (y1 == ("__classdict__" : Str)) = false := by decide) (d5 : (y2 == ("__debug__" : Str)) = false := by decide) (d6 : (y2 == ("__classdict__" : Str)) = false := by decide) :
    FnOk P w K mg base CX0 1 a fd [s1, y1, y2] (spInit C [f, f2]) := by
  refine F.ok S (fun vs H Q E h => ?_) (fun cdv A outer s H vs Q E hr h => ?_)
  · obtain ⟨e, ys, rfl, h1, _⟩ := h
    simp at h1
    simp [h1]
  · obtain ⟨e, ys, rfl, h1, h2, h3⟩ := h
    match ys, h1 with
    | [y, z], _ =>
      refine ⟨_, pss_cons (ps_ost (pe_var (i := 0) rfl hs1 d1 d2) (pe_var (i := 1) rfl hy1 d3 d4)) (pss_one (ps_ost (pe_var (i := 0) rfl hs1 d1 d2) (pe_var (i := 2) rfl hy2 d5 d6))), ?_⟩
      refine ⟨y, rfl, .ref e, rfl, e, C, rfl, T, hf, .inl ⟨h2, fun dx hd hn => ?_⟩⟩
      refine ⟨z, rfl, .ref e, rfl, e, C, rfl, T, hf2, .inr ⟨dx, [(f, y)], upd_same, by rw [upd_ne hn, upd_same], by simp, ?_⟩⟩
      refine h3 dx _ hd hn (by rw [upd_ne (Ne.symm hn), upd_same]) upd_same (fun b hb hb2 => ?_)
      rw [upd_ne hb2, upd_ne hb, upd_ne hb2]
end
section
variable {X : Cx} {Γ : Wd} {W : WX} {e : Expr} {es : List Expr} {pos p : Pos} {x : Str}
/-- raise C(e, ..) -/
def dRaise (c : Str) (ns : List Str) (fs : List DenV) : DenS := fun env => (dVs fs env).bind fun ds e => if ds.length = ns.length then .err c ns.reverse ds.reverse e else .bad
theorem zip_rev {α β : Type} : ∀ (xs : List α) (ys : List β), xs.length = ys.length → (xs.zip ys).reverse = xs.reverse.zip ys.reverse
  | [], [], _ => rfl
  | [], _ :: _, h => by cases h
  | _ :: _, [], h => by cases h
  | x :: xs, y :: ys, h => by
    have h' : xs.length = ys.length := Nat.succ.inj h
    rw [List.zip_cons_cons, List.reverse_cons, List.reverse_cons, List.reverse_cons, zip_rev xs ys h', List.zip_append (by rw [List.length_reverse, List.length_reverse, h'])]
    rfl
theorem Reps.reverse {B : Hp} : ∀ {ds : List D} {vs : List V}, Reps Γ B ds vs → Reps Γ B ds.reverse vs.reverse
  | [], vs, h => by
    have h' : vs = [] := h
    rw [h']
    rfl
  | d :: ds, vs, h => by
    obtain ⟨v, r, rfl, e2, e3⟩ := h
    rw [List.reverse_cons, List.reverse_cons]
    exact (Reps.reverse e3).append (Reps.one e2)
theorem sRaise {C fI : Addr} {k : Nat} {fd : FuncData} {ps : List Str} {ns : List Str} {fs : List DenV} {p9 : Pos} (hc : X.calm = true) (tk : Takes X W) (T : OexC X.K C) (iC : PySem.W.findIn X.K (.ref C) "__init__" = some (some (.ref fI))) (tI : PySem.W.typeIn X.K (.ref fI) = some (.type "function"))
    (F1 : FnOk X.prog X.w X.K X.mg X.base CX0 k fI fd ps (spInit C ns)) (hr : Room (k + 1) X.A) (hb : Binds X.K fd ps []) (hg : Gl X x) (hm : X.mg x = some (.ref C)) (hm' : X.mg = Γ.mg) (ha : SVs X Γ W (e :: es) (dVs fs)) (hz : ns.length ≤ 100)
    (hdb : (x == ("__debug__" : Str)) = false := by decide) (he : starEach (e :: es) X.env = (false, eval e X.env) :: starEach es X.env := by rfl) (hpl : (backTo p (starEach es X.env)).any (·.1) = false := by rfl) :
    SS X Γ W (.Raise (some (.Call (.Name x pos) (e :: es) [] p)) none p9) (dRaise x ns fs) :=
  imS (ps_raise hc tk (pmk_oex T iC tI F1 hr hb .nil pass0 hg hm ha hdb he hpl)) fun Q σ H ⟨env, B, s, pp⟩ => by
    refine ⟨env, B, s, pp.bind.mono fun ds e1 B1 H1 s1 x1 q1 vs hvs => ?_⟩
    obtain ⟨x', q⟩ := q1
    split at q
    · rename_i hl
      have hlv : vs.length = ns.length := hvs.length.symm.trans hl
      refine ⟨by omega, fun a ha0 => ?_⟩
      refine ⟨a, vs, by rw [List.append_nil], hlv, upd_same, fun dx H2 hd hn k1 k2 k3 => ⟨rfl, dx, _, k1, k2, ?_, ?_⟩⟩
      · rw [upd_ne hn] at hd
        exact hd
      · rw [upd_ne hn] at hd
        have same : ∀ b o, H1 b = some o → upd (del H2 a) dx (.xd (ns.zip vs).reverse) b = some o := fun b o hb => by
          have nb : b ≠ dx := ne_of_none hb hd
          have na : b ≠ a := ne_of_none hb ha0
          rw [upd_ne nb, del_ne na, k3 b na nb, upd_ne na]
          exact hb
        have gr : Grow B1 H1 B1 (upd (del H2 a) dx (.xd (ns.zip vs).reverse)) := ⟨Same.refl _, same, s1.same.trans same, fun _ _ _ z => z⟩
        refine q (.ref C) (some dx) σ B1 _ (s1.growG gr) (x'.trans (Ext.growG gr)) ⟨C, dx, vs.reverse, by rw [← hm']; exact hm, rfl, rfl, ?_, by rw [List.length_reverse, List.length_reverse, hlv], hvs.reverse⟩
        rw [upd_same, zip_rev ns vs hlv.symm]
    · exact q.elim
end

/-! ### try -/
/-! A clause may bind a name (its slot) or not; one rule for both. -/
/-- the ends of a suite whose name goes behind it -/
def less (D : Ends) : Option Nat → Ends
  | none => D
  | some i => { nx := fun τ G => D.nx (τ.set i none) G, rt := D.rt, bk := fun τ G => D.bk (τ.set i none) G, ct := fun τ G => D.ct (τ.set i none) G }
/-- the clause's name is bound -/
def bound (τ : L2.St) (a : Addr) : Option Nat → L2.St
  | none => τ
  | some i => τ.set i (some (.ref a))
abbrev Clause := Value × Option Nat × (Addr → Value → Option Addr → TS)
/-- what is asked of an exception that reaches these clauses -/
def wMix (K : PySem.W.Frag) (Wout : WX) (D : Ends) : List Clause → WX
  | [] => Wout
  | (c, o, ts) :: rest => fun cls d τ G => ∃ b, PySem.W.exmOne K cls c = some b ∧ (b = true → ∀ a, G a = none → ts a cls d (less D o) (bound τ a o) G) ∧ (b = false → wMix K Wout D rest cls d τ G)
/-- a clause's name and its slot -/
def Slotted (X : Cx) : Option Str → Option Nat → Prop
  | none, none => True
  | some n, some i => X.N[i]? = some n ∧ X.env.kindOf n = some .local
  | _, _ => False
/-- a clause's suite is served -/
def Suited (X : Cx) (suite : List Stmt) (ts : Addr → Value → Option Addr → TS) : Prop :=
  ∀ (a : Addr) (oe : Obj) (cls : Value) (d : Option Addr) (pn : List (Addr × Obj)), Zc cls d oe → (∃ vs, oe.data = .fields vs) → PSs (X.suite a ((a, oe) :: pn)) suite (ts a cls d)
inductive HdsM (X : Cx) : List ExceptHandler → List Clause → Prop
  | nil : HdsM X [] []
  | put {x : Str} {c : Value} {o : Option Nat} {nm : Option Str} {ts : Addr → Value → Option Addr → TS} {st : Stmt} {sts : List Stmt} {q1 q2 : Pos} {hds : List ExceptHandler} {cl : List Clause} (sl : Slotted X nm o) (hc : Names X x c) (hsu : Suited X (st :: sts) ts) (r : HdsM X hds cl) :
      HdsM X (.ExceptHandler (some (.Name x q1)) nm (st :: sts) q2 :: hds) ((c, o, ts) :: cl)
/-- an exception that X's frame has caught -/
def Caught (X : Cx) (pins : List (Addr × Obj)) (τ : L2.St) (G : Hp) (a : Addr) (cls : Value) (d : Option Addr) (u : Shared) : Prop :=
  ∃ (B : Heap) (sI : Shared), Inv X pins τ G sI ∧ (∀ b o, sI.heap.get? b = some o → b ∉ frs X.stack → B.get? b = some o) ∧ sI.heap.UpToSlots u.heap ∧ HandSPX.FlyingZ B X.stack a (Zc cls d) u.heap ∧ G a = none ∧ u.os = sI.os ∧ AllBare u.gens
section
variable {X : Cx} {pins : List (Addr × Obj)} {τ : L2.St} {G : Hp} {a : Addr} {cls : Value} {d : Option Addr} {u : Shared} {D : Ends}
/-- the context of a suite holds there -/
theorem Caught.see (k : Caught X pins τ G a cls d u) (hs : X.stack = X.env :: X.outer) (hf : X.env.frame = some X.env.locals) : ∃ oe, Zc cls d oe ∧ (∃ vs, oe.data = .fields vs) ∧ u.heap.get? a = some oe ∧ Inv (X.suite a ((a, oe) :: (X.pn ++ pins))) [] τ G u := by
  obtain ⟨B, sI, base, nb, up, fly, na, os, ag⟩ := k
  obtain ⟨oe, vs, at_, z, dat⟩ := fly.there
  have out : a ∉ frs X.stack := fun inS => by
    obtain ⟨_, o2, e2, noD⟩ := fly.2.2.1.mem inS
    rw [at_] at e2
    cases e2
    exact noD _ dat
  have split : ∀ {e : Env}, e ∈ X.stack → e.frame = some a → False := fun {e} he hfr => out (List.mem_filterMap.mpr ⟨e, he, hfr⟩)
  refine ⟨oe, z, ⟨vs, dat⟩, at_, (base.landed nb fly.1 up os ag).suite at_ dat na (fun eq => ?_) (fun inF => ?_)⟩
  · exact split (e := X.env) (by rw [hs]; exact .head _) (by rw [hf, eq])
  · obtain ⟨e, he, hfr⟩ := List.mem_filterMap.mp inF
    exact split (e := e) (by rw [hs]; exact .tail _ he) hfr
/-- its flight is set anew -/
theorem Caught.again {M : Model} {A : Around} {E : Value → Shared → Prop} {Q : Unit → Shared → Prop} (k : Caught X pins τ G a cls d u) (h : ∀ u', Caught X pins τ G a cls d u' → Q () u') : wpAny M A (setFlight (.ref a) none) Q E u := by
  obtain ⟨B, sI, base, nb, up, fly, na, os, ag⟩ := k
  exact HandSPX.lands_againZ fly fun h' fly' up' => h { u with heap := h' } ⟨B, sI, base, nb, up.trans up', fly', na, os, ag⟩
/-- no clause is left: it flies on -/
theorem Caught.away {Wout : WX} (k : Caught X pins τ G a cls d u) (hf : X.env.frame = some X.env.locals) (tk : Takes X Wout) (w : Wout cls d τ G) : wpAny (model X.prog X.w) X.A (handleBy (.ref a) X.env []) (SP X pins D) X.xe u := by
  obtain ⟨B, sI, base, nb, up, fly, na, os, ag⟩ := k
  have flies : wpAny (model X.prog X.w) X.A (setFlight (.ref a) X.env.frame) (fun _ u2 => wpAny (model X.prog X.w) X.A (throw (.ref a) : Sem Flow) (SP X pins D) X.xe u2) X.xe u := by
    rw [hf]
    exact HandSPX.setFlight_upZ fly fun h' held up' => wpAny_throw (tk _ _ ⟨a, B, sI, pins, τ, G, cls, d, rfl, base, nb, up.trans up', .inr (.inr held), na, os, ag, w⟩)
  obtain ⟨_, _, _, oe, vs, T, _, _, at_, _, dat, trace, _⟩ := fly
  apply wpAny_handleBy_nil
  unfold PySem.passOn
  apply wpAny_bind (wpAny_field at_ dat trace _)
  rw [if_neg (show ¬ ((Value.ref T == Value.none) = true) from by simp)]
  first
    | exact wpAny_bind flies
    | exact wpAny_bind (wpAny_pure (wpAny_bind flies))
/-- what a suite leaves is the frame's -/
theorem outOf {q : Addr × Obj} {f : Flow} (ok : X.Ok) (h : SP (X.suite a (q :: (X.pn ++ pins))) [] D f u) : SP X pins D f u := by
  cases f
  case ret => obtain ⟨v, τ', G', J, w⟩ := h; exact ⟨v, τ', G', J.unsuite ok, w⟩
  all_goals (obtain ⟨τ', G', J, w⟩ := h; exact ⟨τ', G', J.unsuite ok, w⟩)
/-- and its name goes -/
theorem outOfN {q : Addr × Obj} {f : Flow} {i : Nat} {n : Str} {p : Pos} (ok : X.Ok) (hN : X.N.Nodup) (hi : X.N[i]? = some n) (hl : X.env.kindOf n = some .local) (h : SP (X.suite a (q :: (X.pn ++ pins))) [] (less D (some i)) f u) :
    wpAny (model X.prog X.w) X.A (do bindName X.env n .none; unbindBehindTheSuite X.env n p) (fun _ u3 => SP X pins D f u3) X.xe u := by
  cases f
  case ret => obtain ⟨v, τ', G', J, w⟩ := h; exact gone_ok (J.unsuite ok) hN hi hl fun u3 J3 => ⟨v, _, G', J3, w⟩
  all_goals (obtain ⟨τ', G', J, w⟩ := h; exact gone_ok (J.unsuite ok) hN hi hl fun u3 J3 => ⟨_, G', J3, w⟩)
/-- the clauses, one after the other -/
theorem Caught.walk {Wout : WX} (hs : X.stack = X.env :: X.outer) (hf : X.env.frame = some X.env.locals) (hN : X.N.Nodup) (ok : X.Ok) (tk : Takes X Wout) (k : Caught X pins τ G a cls d u) {hds : List ExceptHandler} {cl : List Clause} (r : HdsM X hds cl) :
    wMix X.K Wout D cl cls d τ G → wpAny (model X.prog X.w) X.A (handleBy (.ref a) X.env hds) (SP X pins D) X.xe u := by
  induction r with
  | nil => exact k.away hf tk
  | @put x c o nm ts st sts q1 q2 hds cl sl hc hsu r ih =>
    rintro ⟨b, is_, yes, no⟩
    obtain ⟨oe, z, _, at_, S⟩ := k.see hs hf
    have na : G a = none := let ⟨_, _, _, _, _, _, q, _⟩ := k; q
    have matched : PySem.W.Looks (model X.prog X.w) u.heap (excMatches (.ref a) c) b := PySem.W.exm_one S.kIn (fun A Q E w keep q => wpAny_typeOf_ref (keep _ _ at_) (by rw [z.1]; exact q)) is_
    refine wpAny_handleBy_cons (codeAny_handlers_test ?_) (fun q => by cases q)
    have clause : ∀ {Q : Value → Shared → Prop} {E : Value → Shared → Prop}, Q c u → wpAny (model X.prog X.w) (X.A.mark (some (.ref a))) (eval (.Name x q1) X.env) Q E u := fun {Q E} q => by
      obtain ⟨glo, ndb, inMain | ⟨notMain, inBlt, noName⟩⟩ := hc
      · exact ld_glob (X := X.suite a ((a, oe) :: (X.pn ++ pins))) S glo inMain q ndb
      · exact ld_blt (X := X.suite a ((a, oe) :: (X.pn ++ pins))) S glo notMain inBlt q noName ndb
    refine clause (matched.here ?_)
    cases b
    · exact ih (no rfl)
    · match nm, o, sl with
      | none, none, _ =>
        exact codeAny_handlers_suite (k.again fun u2 k2 => by
          obtain ⟨oe2, z2, dat2, _, S2⟩ := k2.see hs hf
          exact wpAny_mono ((hsu a oe2 cls d _ z2 dat2).run [] u2 τ G _ S2 (yes rfl a na)) (fun f u3 => outOf ok) fun _ _ bad => bad.elim)
      | some n, some i, ⟨hi, hl⟩ =>
        exact codeAny_handlers_suite_as (k.again fun u2 k2 => by
          obtain ⟨oe2, z2, dat2, _, S2⟩ := k2.see hs hf
          exact store_ok (X := X.suite a ((a, oe2) :: (X.pn ++ pins))) (v := .ref a) S2 hN hi (.inl hl) rfl (fun u3 S3 => wpAny_mono ((hsu a oe2 cls d _ z2 dat2).run [] u3 _ G _ S3 (yes rfl a na)) (fun f u4 => outOfN ok hN hi hl) fun _ _ bad => bad.elim) (.inr hl))
end
section
variable {X : Cx} {body : List Stmt} {h₀ : ExceptHandler} {hds : List ExceptHandler} {cl : List Clause} {pos : Pos} {tb : WX → TS} {Wout : WX}
/-- try: body, then the clauses -/
theorem ps_try_mix (hs : X.stack = X.env :: X.outer) (hf : X.env.frame = some X.env.locals) (hN : X.N.Nodup) (tk : Takes X Wout)
    (hb : ∀ (W : WX) (pn : List (Addr × Obj)) (xe : Value → Shared → Prop), Takes (X.tr pn xe) W → PassesOwn (model X.prog X.w) X.A X.env xe → PSs (X.tr pn xe) body (tb W))
    (hh : HdsM X (h₀ :: hds) cl) : PS X (.Try body (h₀ :: hds) [] [] pos) (fun D τ G => tb (wMix X.K Wout D cl) D τ G) := by
  constructor
  intro pins s τ0 G0 D I goal
  have frames : X.A.frames = some (X.env :: X.outer) := by rw [← hs]; exact I.ok.frames
  let look : Value → Shared → Prop := fun e u => wpAny (model X.prog X.w) X.A (noteFrame e X.env) (fun _ u2 => wpAny (model X.prog X.w) X.A (setFlight e none) (fun _ u3 => wpAny (model X.prog X.w) X.A (handleBy e X.env (h₀ :: hds)) (SP X pins D) X.xe u3) X.xe u2) X.xe u
  have caught : Takes (X.tr (X.pn ++ pins) look) (wMix X.K Wout D cl) := by
    rintro _ u ⟨a, B, sI, pn', τ, G, cls, d, rfl, J, nb, up, sky, na, os, ag, w⟩
    have sky2 : Sky B (X.env :: X.outer) a (Zc cls d) X.env.locals u.heap := by rw [← hs]; exact sky
    refine Sky.land Zc.steady frames hf sky2 fun h' fly up' => ?_
    rw [← hs] at fly
    exact Caught.walk hs hf hN I.ok tk (u := { u with heap := h' }) ⟨B, sI, J.ofTry I.ok, nb, up.trans up', fly, na, os, ag⟩ hh w
  refine wpAny_Try_except (wpAny_mono ((hb _ _ look caught PassesOwn.looking).run [] s τ0 G0 D (I.toTry _) goal) (fun f u h => ?_) fun _ _ h => h)
  cases f
  case next => obtain ⟨τ', G', J, w⟩ := h; exact wpAny_execs_nil ⟨τ', G', J.ofTry I.ok, w⟩
  case ret => obtain ⟨v, τ', G', J, w⟩ := h; exact ⟨v, τ', G', J.ofTry I.ok, w⟩
  all_goals (obtain ⟨τ', G', J, w⟩ := h; exact ⟨τ', G', J.ofTry I.ok, w⟩)
end

def Ent.noX : Ent → Ent
  | .exn _ _ _ => .un
  | e => e
def noX (e : Sto) : Sto := e.map Ent.noX
/-- is the first class under the second (none: not told) -/
abbrev XTab := Str → Str → Option Bool
def finX (o : Option Nat) (r : Res Fl) : Res Fl := match r with
  | .ok f e => .ok f (match o with
    | some i => (noX e).set i .un
    | none => noX e)
  | _ => .bad
def runH (T : XTab) (c : Str) (ns : List Str) (xs : List D) (e : Sto) : List (Str × Option Nat × DenS) → Res Fl
  | [] => .err c ns xs e
  | (h, o, suite) :: r => match T c h with
    | some true => finX o (suite (match o with
      | some i => (noX e).set i (.exn c ns xs)
      | none => noX e))
    | some false => runH T c ns xs e r
    | none => .bad
def dTry (T : XTab) (body : DenS) (hs : List (Str × Option Nat × DenS)) : DenS := fun env => match body env with
  | .err c ns xs e => runH T c ns xs e hs
  | r => r
section
variable {X : Cx} {Γ : Wd} {W : WX} {e : Expr} {pos : Pos}
theorem noX_get {env : Sto} {i : Nat} {en : Ent} (h : (noX env)[i]? = some en) : ∃ e0, env[i]? = some e0 ∧ en = e0.noX := by
  unfold noX at h
  rw [List.getElem?_map] at h
  cases hd : env[i]? with
  | none => rw [hd] at h; cases h
  | some e0 => rw [hd] at h; exact ⟨e0, rfl, (Option.some.inj h).symm⟩
theorem noX_mu {env : Sto} {i : Nat} {xs : List D} : (noX env)[i]? = some (.mu xs) ↔ env[i]? = some (.mu xs) := by
  constructor
  · intro h
    obtain ⟨e0, h1, h2⟩ := noX_get h
    cases e0 with
    | mu ys => cases h2; exact h1
    | _ => cases h2
  · intro h
    unfold noX
    rw [List.getElem?_map, h]
    rfl
theorem noX_own {env : Sto} {σ : L2.St} {q : Addr} : Own (noX env) σ q ↔ Own env σ q := by
  constructor
  · rintro ⟨i, xs, h1, h2⟩
    exact ⟨i, xs, noX_mu.mp h1, h2⟩
  · rintro ⟨i, xs, h1, h2⟩
    exact ⟨i, xs, noX_mu.mpr h1, h2⟩
/-- the exception at hand is forgotten, or another is at hand -/
theorem StOk.noX {Γ Γ' : Wd} {env : Sto} {σ : L2.St} {B H : Hp} (hK : Γ.K = Γ'.K) (hm : Γ.mg = Γ'.mg) (s : StOk Γ env σ B H) : StOk Γ' (Ev.noX env) σ B H where
  same := s.same
  len := by unfold Ev.noX; rw [List.length_map]; exact s.len
  ent := fun i en o h1 h2 => by
    obtain ⟨e0, k1, rfl⟩ := noX_get h1
    have k := s.ent i e0 o k1 h2
    cases e0 with
    | un => trivial
    | val d =>
      obtain ⟨v, e1, r⟩ := k
      exact ⟨v, e1, Rep.ctx hK hm d v r⟩
    | mu xs =>
      obtain ⟨q, vs, e1, e2, e3, r⟩ := k
      exact ⟨q, vs, e1, e2, e3, Reps.ctx hK hm xs vs r⟩
    | exn c ns xs => trivial
  dis := fun i j xs ys q h1 h2 h3 h4 => s.dis i j xs ys q (noX_mu.mp h1) (noX_mu.mp h2) h3 h4
theorem Ext.noX {Γ Γ' : Wd} {env env' : Sto} {σ σ' : L2.St} {B H B' H' : Hp} (hR : Γ.R = Γ'.R) (x : Ext Γ env σ B H env' σ' B' H') : Ext Γ' env σ B H (Ev.noX env') σ' B' H' where
  b := x.b
  t := x.t
  f := fun q o h n => by
    obtain ⟨k1, k2, k3⟩ := x.f q o h n
    exact ⟨k1, k2, fun z => k3 (noX_own.mp z)⟩
  r := fun i hi => by
    obtain ⟨k1, k2⟩ := x.r i (by rw [hR]; exact hi)
    refine ⟨k1, fun xs q h1 h2 => ?_⟩
    rcases k2 xs q h1 h2 with ⟨ys, z⟩ | z
    · exact .inl ⟨ys, noX_mu.mpr z⟩
    · exact .inr z
theorem Ext.noXl {Γ Γ' : Wd} {env env' : Sto} {σ σ' : L2.St} {B H B' H' : Hp} (hR : Γ.R = Γ'.R) (x : Ext Γ (Ev.noX env) σ B H env' σ' B' H') : Ext Γ' env σ B H env' σ' B' H' where
  b := x.b
  t := x.t
  f := fun q o h n => x.f q o h fun z => n (noX_own.mp z)
  r := fun i hi => by
    obtain ⟨k1, k2⟩ := x.r i (by rw [hR]; exact hi)
    exact ⟨k1, fun xs q h1 h2 => k2 xs q (noX_mu.mpr h1) h2⟩
/-- a slot is set to what is no list of its own -/
theorem StOk.setN {env : Sto} {σ : L2.St} {B H : Hp} {i : Nat} {en : Ent} {o : Option V} (s : StOk Γ env σ B H) (hn : ∀ xs, en ≠ .mu xs) (k : EntOk Γ B H en o) : StOk Γ (env.set i en) (σ.set i o) B H where
  same := s.same
  len := by rw [List.length_set, List.length_set]; exact s.len
  ent := fun j e o' h1 h2 => by
    rcases Sto.set_get h1 with ⟨rfl, rfl⟩ | ⟨ne, q⟩
    · have hl : i < σ.length := by
        have z := (List.getElem?_eq_some_iff.mp h2).1
        rw [List.length_set] at z
        exact z
      rw [List.getElem?_set_self hl] at h2
      cases h2
      exact k
    · rw [List.getElem?_set_ne ne] at h2
      exact s.ent j e o' q h2
  dis := fun j k ys zs q h1 h2 h3 h4 => by
    rcases Sto.set_get h1 with ⟨_, z⟩ | ⟨n1, q1⟩
    · exact absurd z.symm (hn ys)
    · rcases Sto.set_get h2 with ⟨_, z⟩ | ⟨n2, q2⟩
      · exact absurd z.symm (hn zs)
      · rw [List.getElem?_set_ne n1] at h3
        rw [List.getElem?_set_ne n2] at h4
        exact s.dis j k ys zs q q1 q2 h3 h4
theorem Ext.setN {env env1 : Sto} {σ σ1 : L2.St} {B H B1 H1 : Hp} {i : Nat} {en : Ent} {o : Option V} (x : Ext Γ env σ B H env1 σ1 B1 H1) (hn : ∀ xs, en ≠ .mu xs) (hi : i ∉ Γ.R) : Ext Γ env σ B H (env1.set i en) (σ1.set i o) B1 H1 where
  b := x.b
  t := x.t
  f := fun p u h n => by
    obtain ⟨k1, k2, k3⟩ := x.f p u h n
    refine ⟨k1, k2, fun z => k3 ?_⟩
    obtain ⟨j, xs, e1, e2⟩ := z
    rcases Sto.set_get e1 with ⟨_, q⟩ | ⟨nn, q⟩
    · exact absurd q.symm (hn xs)
    · rw [List.getElem?_set_ne nn] at e2
      exact ⟨j, xs, q, e2⟩
  r := fun j hj => by
    have ne : i ≠ j := fun z => hi (z ▸ hj)
    obtain ⟨k1, k2⟩ := x.r j hj
    refine ⟨by rw [List.getElem?_set_ne ne]; exact k1, fun xs p e1 e2 => ?_⟩
    rcases k2 xs p e1 e2 with ⟨ys, q⟩ | q
    · exact .inl ⟨ys, by rw [List.getElem?_set_ne ne]; exact q⟩
    · exact .inr q
/-- with an exception at hand -/
abbrev Wd.at_ (Γ : Wd) (a : Addr) (cls : Value) (d : Option Addr) : Wd := { Γ with F := (a, cls, d) }
abbrev W0 : WX := fun _ _ _ _ => False
/-- the clauses -/
inductive Hds (X : Cx) (Γ : Wd) (T : XTab) : List ExceptHandler → List (Str × Option Nat × DenS) → Prop
  | nil : Hds X Γ T [] []
  | cons {h : Str} {Ch : Addr} {g : DenS} {b₀ : Stmt} {suite : List Stmt} {np pos' : Pos} {hds : List ExceptHandler} {l : List (Str × Option Nat × DenS)} (hc : Names X h (.ref Ch)) (hT : ∀ cn C b, T cn h = some b → X.mg cn = some (.ref C) → PySem.W.exmOne X.K (.ref C) (.ref Ch) = some b)
      (hsu : ∀ (a : Addr) (oe : Obj) (cls : Value) (d : Option Addr) (pn : List (Addr × Obj)), Zc cls d oe → (∃ vs, oe.data = .fields vs) → SSs (X.suite a ((a, oe) :: pn)) (Γ.at_ a cls d) W0 (b₀ :: suite) g) (r : Hds X Γ T hds l) :
      Hds X Γ T (.ExceptHandler (some (.Name h np)) none (b₀ :: suite) pos' :: hds) ((h, none, g) :: l)
  | consN {h n : Str} {i : Nat} {Ch : Addr} {g : DenS} {b₀ : Stmt} {suite : List Stmt} {np pos' : Pos} {hds : List ExceptHandler} {l : List (Str × Option Nat × DenS)} (hiR : i ∉ Γ.R) (hi : X.N[i]? = some n) (hln : X.env.kindOf n = some .local) (hc : Names X h (.ref Ch)) (hT : ∀ cn C b, T cn h = some b → X.mg cn = some (.ref C) → PySem.W.exmOne X.K (.ref C) (.ref Ch) = some b)
      (hsu : ∀ (a : Addr) (oe : Obj) (cls : Value) (d : Option Addr) (pn : List (Addr × Obj)), Zc cls d oe → (∃ vs, oe.data = .fields vs) → SSs (X.suite a ((a, oe) :: pn)) (Γ.at_ a cls d) W0 (b₀ :: suite) g) (r : Hds X Γ T hds l) :
      Hds X Γ T (.ExceptHandler (some (.Name h np)) (some n) (b₀ :: suite) pos' :: hds) ((h, some i, g) :: l)
theorem RetOk.noX {P : Addr → Prop} {a : Addr} {cls : Value} {d : Option Addr} {env' : Sto} {σ' : L2.St} {B' H' : Hp} {r : Ent} {v : V} (h : RetOk (Γ.at_ a cls d) P env' σ' B' H' r v) {env2 : Sto} {σ2 : L2.St} (ho : ∀ q, Own env2 σ2 q → Own env' σ' q) : RetOk Γ P env2 σ2 B' H' r v := by
  cases r with
  | val d => exact Rep.ctx (Γ := Γ.at_ a cls _) (Γ' := Γ) rfl rfl d v h
  | mu xs =>
    obtain ⟨p, vs, e1, e2, e3, e4, e5, e6⟩ := h
    exact ⟨p, vs, e1, e2, e3, e4, Reps.ctx (Γ := Γ.at_ a cls d) (Γ' := Γ) rfl rfl xs vs e5, fun z => e6 (ho p z)⟩
  | un => exact h.elim
  | exn _ _ _ => exact h.elim
theorem freeR_noX {a : Addr} {cls : Value} {d : Option Addr} {env : Sto} {σ : L2.St} {H : Hp} {p : Addr} (h : FreeR (Γ.at_ a cls d) (noX env) σ H p) : FreeR Γ env σ H p := by
  rcases h with h | ⟨i, xs, h1, h2, h3⟩
  · exact .inl h
  · exact .inr ⟨i, xs, h1, noX_mu.mp h2, h3⟩
theorem sTry {T : XTab} {body : List Stmt} {h₀ : ExceptHandler} {hds : List ExceptHandler} {l : List (Str × Option Nat × DenS)} {f : DenS} (hK : X.K = Γ.K) (hm : X.mg = Γ.mg) (hs : X.stack = X.env :: X.outer) (hf : X.env.frame = some X.env.locals) (hN : X.N.Nodup) (tk : Takes X W)
    (hb : ∀ (W' : WX) (pn : List (Addr × Obj)) (xe : Value → Shared → Prop), Takes (X.tr pn xe) W' → PassesOwn (model X.prog X.w) X.A X.env xe → SSs (X.tr pn xe) Γ W' body f)
    (hh : Hds X Γ T (h₀ :: hds) l) : SS X Γ W (.Try body (h₀ :: hds) [] [] pos) (dTry T f l) := by
  obtain ⟨l2, h2, hw⟩ : ∃ l2, HdsM X (h₀ :: hds) l2 ∧ ∀ (Dn : Ends) (env : Sto) (σ : L2.St) (B H : Hp) (c : Str) (ns : List Str) (xs : List D) (cls : Value) (d : Option Addr), StOk Γ env σ B H → XnOk Γ B H c ns xs cls d →
      PostS Γ W env σ B H Dn (runH T c ns xs env l) → wMix X.K W Dn l2 cls d σ H := by
    clear hb
    generalize h₀ :: hds = hd0 at hh ⊢
    induction hh with
    | nil => exact ⟨[], .nil, fun Dn env σ B H c ns xs cls d s xn p => p cls d σ B H s Ext.refl xn⟩
    | @cons h Ch g b₀ suite np pos' hds l hc hT hsu r ih =>
      obtain ⟨l2, i1, i2⟩ := ih
      refine ⟨(.ref Ch, none, fun a cls d => tS (Γ.at_ a cls d) W0 g) :: l2, (.put (nm := none) (o := none) trivial hc hsu i1), fun Dn env σ B H c ns xs cls d s xn p => ?_⟩
      have p' : PostS Γ W env σ B H Dn (match T c h with
        | some true => finX none (g (noX env))
        | some false => runH T c ns xs env l
        | none => .bad) := p
      have xn' := xn
      obtain ⟨C, dd, vs, e1, rfl, rfl, e4, e5, e6⟩ := xn
      cases hTc : T c h with
      | none => rw [hTc] at p'; exact p'.elim
      | some b =>
        rw [hTc] at p'
        refine ⟨b, hT c C b hTc (by rw [hm]; exact e1), fun hbt a ha => ?_, fun hbf => ?_⟩
        · subst hbt
          have p2 : PostS Γ W env σ B H Dn (finX none (g (noX env))) := p'
          have s2 : StOk (Γ.at_ a (.ref C) (some dd)) (noX env) σ B H := StOk.noX (Γ := Γ) (Γ' := Γ.at_ a (.ref C) (some dd)) rfl rfl s
          refine ⟨noX env, B, s2, ?_⟩
          cases hg : g (noX env) with
          | bad => rw [hg] at p2; exact p2.elim
          | err _ _ _ _ => rw [hg] at p2; exact p2.elim
          | ok fl e' =>
            rw [hg] at p2
            have back : ∀ {σ' B' H'}, StOk (Γ.at_ a (.ref C) (some dd)) e' σ' B' H' → Ext (Γ.at_ a (.ref C) (some dd)) (noX env) σ B H e' σ' B' H' → StOk Γ (noX e') σ' B' H' ∧ Ext Γ env σ B H (noX e') σ' B' H' := fun {σ' B' H'} s' x' =>
              ⟨StOk.noX (Γ := Γ.at_ a (.ref C) (some dd)) (Γ' := Γ) rfl rfl s', Ext.noXl (Γ := Γ.at_ a (.ref C) (some dd)) rfl (Ext.noX (Γ' := Γ.at_ a (.ref C) (some dd)) rfl x')⟩
            cases fl with
            | nx => exact fun σ' B' H' s' x' => p2 σ' B' H' (back s' x').1 (back s' x').2
            | bk => exact fun σ' B' H' s' x' => p2 σ' B' H' (back s' x').1 (back s' x').2
            | ct => exact fun σ' B' H' s' x' => p2 σ' B' H' (back s' x').1 (back s' x').2
            | rt rr => exact fun v σ' B' H' s' x' hr => p2 v σ' B' H' (back s' x').1 (back s' x').2 ((hr.noX (fun q z => noX_own.mp z)).imp fun p hp => freeR_noX hp)
        · subst hbf
          exact i2 Dn env σ B H c ns xs _ _ s xn' p'
    | @consN h n i Ch g b₀ suite np pos' hds l hiR hi hln hc hT hsu r ih =>
      obtain ⟨l2, i1, i2⟩ := ih
      refine ⟨(.ref Ch, some i, fun a cls d => tS (Γ.at_ a cls d) W0 g) :: l2, (.put (nm := some n) (o := some i) ⟨hi, hln⟩ hc hsu i1), fun Dn env σ B H c ns xs cls d s xn p => ?_⟩
      have p' : PostS Γ W env σ B H Dn (match T c h with
        | some true => finX (some i) (g ((noX env).set i (.exn c ns xs)))
        | some false => runH T c ns xs env l
        | none => .bad) := p
      have xn' := xn
      obtain ⟨C, dd, vs, e1, rfl, rfl, e4, e5, e6⟩ := xn
      cases hTc : T c h with
      | none => rw [hTc] at p'; exact p'.elim
      | some b =>
        rw [hTc] at p'
        refine ⟨b, hT c C b hTc (by rw [hm]; exact e1), fun hbt a ha => ?_, fun hbf => ?_⟩
        · subst hbt
          have p2 : PostS Γ W env σ B H Dn (finX (some i) (g ((noX env).set i (.exn c ns xs)))) := p'
          have s2 : StOk (Γ.at_ a (.ref C) (some dd)) (noX env) σ B H := StOk.noX (Γ := Γ) (Γ' := Γ.at_ a (.ref C) (some dd)) rfl rfl s
          have nm : ∀ ys, Ent.exn c ns xs ≠ .mu ys := fun ys z => by cases z
          have nu : ∀ ys, Ent.un ≠ .mu ys := fun ys z => by cases z
          have s3 : StOk (Γ.at_ a (.ref C) (some dd)) ((noX env).set i (.exn c ns xs)) (σ.set i (some (.ref a))) B H := s2.setN nm ⟨dd, vs, rfl, ⟨rfl, C, e1, rfl⟩, e4, e5, Reps.ctx (Γ := Γ) (Γ' := Γ.at_ a (.ref C) (some dd)) rfl rfl xs vs e6⟩
          have x3 : Ext (Γ.at_ a (.ref C) (some dd)) (noX env) σ B H ((noX env).set i (.exn c ns xs)) (σ.set i (some (.ref a))) B H := Ext.setN Ext.refl nm hiR
          refine ⟨_, B, s3, ?_⟩
          cases hg : g ((noX env).set i (.exn c ns xs)) with
          | bad => rw [hg] at p2; exact p2.elim
          | err _ _ _ _ => rw [hg] at p2; exact p2.elim
          | ok fl e' =>
            rw [hg] at p2
            have back : ∀ {σ' B' H'}, StOk (Γ.at_ a (.ref C) (some dd)) e' σ' B' H' → Ext (Γ.at_ a (.ref C) (some dd)) ((noX env).set i (.exn c ns xs)) (σ.set i (some (.ref a))) B H e' σ' B' H' → StOk Γ (noX e') σ' B' H' ∧ Ext Γ env σ B H (noX e') σ' B' H' := fun {σ' B' H'} s' x' =>
              ⟨StOk.noX (Γ := Γ.at_ a (.ref C) (some dd)) (Γ' := Γ) rfl rfl s', Ext.noXl (Γ := Γ.at_ a (.ref C) (some dd)) rfl (Ext.noX (Γ' := Γ.at_ a (.ref C) (some dd)) rfl (x3.trans x'))⟩
            have back2 : ∀ {σ' B' H'}, StOk (Γ.at_ a (.ref C) (some dd)) e' σ' B' H' → Ext (Γ.at_ a (.ref C) (some dd)) ((noX env).set i (.exn c ns xs)) (σ.set i (some (.ref a))) B H e' σ' B' H' → StOk Γ ((noX e').set i .un) (σ'.set i none) B' H' ∧ Ext Γ env σ B H ((noX e').set i .un) (σ'.set i none) B' H' := fun {σ' B' H'} s' x' =>
              ⟨(back s' x').1.setN nu trivial, (back s' x').2.setN nu hiR⟩
            cases fl with
            | nx => exact fun σ' B' H' s' x' => p2 _ B' H' (back2 s' x').1 (back2 s' x').2
            | bk => exact fun σ' B' H' s' x' => p2 _ B' H' (back2 s' x').1 (back2 s' x').2
            | ct => exact fun σ' B' H' s' x' => p2 _ B' H' (back2 s' x').1 (back2 s' x').2
            | rt rr =>
              refine fun v σ' B' H' s' x' hr => p2 v _ B' H' (back2 s' x').1 (back2 s' x').2 ((hr.noX (fun q z => ?_)).imp fun p hp => freeR_noX (hp.back s3 x3))
              obtain ⟨j, ys, z1, z2⟩ := z
              rcases Sto.set_get z1 with ⟨_, z⟩ | ⟨nn, z⟩
              · cases z
              · rw [List.getElem?_set_ne nn] at z2
                exact ⟨j, ys, noX_mu.mp z, z2⟩
        · subst hbf
          exact i2 Dn env σ B H c ns xs _ _ s xn' p'
  refine imS (ps_try_mix (tb := fun W' => tS Γ W' f) hs hf hN tk hb h2) fun Q σ H ⟨env, B, s, p⟩ => ⟨env, B, s, ?_⟩
  have p' : PostS Γ W env σ B H Q (match f env with
    | .err c ns xs e => runH T c ns xs e l
    | r => r) := p
  cases hfe : f env with
  | bad => rw [hfe] at p'; exact p'
  | ok fl e' =>
    rw [hfe] at p'
    cases fl <;> exact p'
  | err c ns xs e' =>
    rw [hfe] at p'
    exact fun cls d σ' B' H' s' x' xn => hw Q e' σ' B' H' c ns xs cls d s' xn (PostS.fwd s' x' p')
/-- the exception's field -/
def dXf (cs : List Str) (i : Nat) (n : Str) : DenV := fun env => match env[i]? with
  | some (.exn c ns xs) => if cs.contains c = true then (match (ns.zip xs).lookup n with
    | some d => .ok d env
    | none => .bad) else .bad
  | _ => .bad
theorem zip_lookup {B : Hp} {n : Str} : ∀ {ns : List Str} {xs : List D} {vs : List V} {d : D}, Reps Γ B xs vs → (ns.zip xs).lookup n = some d → ∃ v, (ns.zip vs).lookup n = some v ∧ Rep Γ B d v
  | [], xs, vs, d, r, h => by cases h
  | m :: ns, [], vs, d, r, h => by cases h
  | m :: ns, x :: xs, vs, d, r, h => by
    obtain ⟨v, r', rfl, e2, e3⟩ := r
    rw [List.zip_cons_cons, List.lookup_cons] at h ⊢
    cases hmn : (n == m) with
    | true =>
      rw [hmn] at h
      cases h
      exact ⟨v, rfl, e2⟩
    | false =>
      rw [hmn] at h
      exact zip_lookup e3 h
theorem sXf {cs : List Str} {a : Addr} {oe : Obj} {cls : Value} {d : Option Addr} {pn : List (Addr × Obj)} {i : Nat} {n : Str} (hm : X.mg = Γ.mg) (hX : ∀ c ∈ cs, ∀ C, X.mg c = some (.ref C) → XfC X.K C ∧ PySem.W.findIn X.K (.ref C) n = some none)
    (hz : Zc cls d oe) (hf : ∃ vs, oe.data = .fields vs) (he : PE (X.suite a ((a, oe) :: pn)) e (tVar i)) (hb : attributeBase e n X.env (eval e X.env) = eval e X.env := by rfl) :
    SV (X.suite a ((a, oe) :: pn)) (Γ.at_ a cls d) W (.Attribute e n pos) (dXf cs i n) := by
  refine ⟨fun pins s σ H Q I h => ?_⟩
  obtain ⟨env, B, st, p⟩ := h
  have p' : Post (Γ.at_ a cls d) W env σ B H (fun x _ B' H' => ∀ v, Rep (Γ.at_ a cls d) B' x v → Q v H') (match env[i]? with
    | some (.exn c ns xs) => if cs.contains c = true then (match (ns.zip xs).lookup n with
      | some d => .ok d env
      | none => .bad) else .bad
    | _ => .bad) := p
  cases hi : env[i]? with
  | none => rw [hi] at p'; exact p'.elim
  | some en =>
    rw [hi] at p'
    cases en with
    | exn c ns xs =>
      obtain ⟨o, ho, k⟩ := st.slot hi
      obtain ⟨dd, vs, rfl, ⟨e2, C, e3, e4⟩, e5, e6, e7⟩ := k
      have p2 : Post (Γ.at_ a cls d) W env σ B H (fun x _ B' H' => ∀ v, Rep (Γ.at_ a cls d) B' x v → Q v H') (if cs.contains c = true then (match (ns.zip xs).lookup n with
        | some d => .ok d env
        | none => .bad) else .bad) := p'
      by_cases hc : cs.contains c = true
      · rw [if_pos hc] at p2
        obtain ⟨hT, hno⟩ := hX c (List.contains_iff_mem.mp hc) C (by rw [hm]; exact e3)
        cases hl : (ns.zip xs).lookup n with
        | none => rw [hl] at p2; exact p2.elim
        | some x =>
          rw [hl] at p2
          obtain ⟨v, l1, l2⟩ := zip_lookup e7 hl
          exact (pe_xf hT hno hz hf he hb).run pins s σ H Q I ⟨.ref a, ho, rfl, e4, dd, _, v, e2, e5, l1, Post.here st p2 v l2⟩
      · rw [if_neg hc] at p2
        exact p2.elim
    | _ => exact p'.elim
end
end Ev
set_option Elab.async false
set_option linter.all false
set_option maxRecDepth 100000
set_option maxHeartbeats 4000000
namespace Ev
open PySem PySem.Spec PyProof.Rows L2

/-! ### comprehensions -/
def wipeE (e : Sto) : List Nat → Sto
  | [] => e
  | v :: vs => (wipeE e vs).set v .un
def restE (e0 e1 : Sto) : List Nat → Sto
  | [] => e1
  | v :: vs => (restE e0 e1 vs).set v ((e0[v]?).getD .un)
def okOwn (e : Sto) (own : List Nat) : Bool := own.all fun v => match e[v]? with
  | some .un => true
  | some (.val _) => true
  | _ => false
/-- what raises is not told -/
def Res.bindX {α β : Type} (r : Res α) (k : α → Sto → Res β) : Res β := match r with
  | .ok a e => k a e
  | _ => .bad
def loopC (own : List Nat) (t : Asg) (cond : DenT) (elt : DenV) : List D → List D → Sto → Res (List D)
  | [], acc, e => .ok acc e
  | d :: ds, acc, e => match t d e with
    | none => .bad
    | some e1 => (cond e1).bindX fun b e2 => if b = true then (elt e2).bindX fun y e3 => (if acc.length < 1000000 then loopC own t cond elt ds (acc ++ [y]) (wipeE e3 own) else .bad) else loopC own t cond elt ds acc (wipeE e2 own)
def dLc (own : List Nat) (t : Asg) (it : DenI) (cond : DenT) (elt : DenV) : DenF := fun env => (it env).bind fun items e => if okOwn e own = true then (loopC own t cond elt items [] (wipeE e own)).bindX fun acc e' => .ok (.mu acc) (restE e e' own) else .bad
def dTrue : DenT := fun env => .ok true env
theorem wipeE_get {e : Sto} {i : Nat} {en : Ent} : ∀ {vs : List Nat}, (wipeE e vs)[i]? = some en → (i ∈ vs ∧ en = .un) ∨ (i ∉ vs ∧ e[i]? = some en)
  | [], h => .inr ⟨by simp, h⟩
  | v :: vs, h => by
    rcases Sto.set_get h with ⟨rfl, rfl⟩ | ⟨ne, q⟩
    · exact .inl ⟨by simp, rfl⟩
    · rcases wipeE_get q with ⟨h1, h2⟩ | ⟨h1, h2⟩
      · exact .inl ⟨List.mem_cons_of_mem _ h1, h2⟩
      · exact .inr ⟨fun z => (List.mem_cons.mp z).elim (fun z => ne z.symm) h1, h2⟩
theorem wipeE_out {e : Sto} {i : Nat} : ∀ {vs : List Nat}, i ∉ vs → (wipeE e vs)[i]? = e[i]?
  | [], _ => rfl
  | v :: vs, h => by
    have h' : i ≠ v ∧ i ∉ vs := by simpa using h
    show ((wipeE e vs).set v .un)[i]? = _
    rw [List.getElem?_set_ne (Ne.symm h'.1)]
    exact wipeE_out h'.2
theorem wipeE_len {e : Sto} : ∀ {vs : List Nat}, (wipeE e vs).length = e.length
  | [] => rfl
  | v :: vs => by
    show ((wipeE e vs).set v .un).length = _
    rw [List.length_set]
    exact wipeE_len
theorem wipe_out' {σ : L2.St} {i : Nat} : ∀ {vs : List Nat}, i ∉ vs → (wipe σ vs)[i]? = σ[i]?
  | [], _ => rfl
  | v :: vs, h => by
    have h' : i ≠ v ∧ i ∉ vs := by simpa using h
    show ((wipe σ vs).set v none)[i]? = _
    rw [List.getElem?_set_ne (Ne.symm h'.1)]
    exact wipe_out' h'.2
theorem restE_out {e0 e1 : Sto} {i : Nat} : ∀ {vs : List Nat}, i ∉ vs → (restE e0 e1 vs)[i]? = e1[i]?
  | [], _ => rfl
  | v :: vs, h => by
    have h' : i ≠ v ∧ i ∉ vs := by simpa using h
    show ((restE e0 e1 vs).set v _)[i]? = _
    rw [List.getElem?_set_ne (Ne.symm h'.1)]
    exact restE_out h'.2
theorem restE_len {e0 e1 : Sto} : ∀ {vs : List Nat}, (restE e0 e1 vs).length = e1.length
  | [] => rfl
  | v :: vs => by
    show ((restE e0 e1 vs).set v _).length = _
    rw [List.length_set]
    exact restE_len
theorem restE_in {e0 e1 : Sto} {i : Nat} {en : Ent} : ∀ {vs : List Nat}, i ∈ vs → (restE e0 e1 vs)[i]? = some en → en = (e0[i]?).getD .un
  | v :: vs, h, q => by
    rcases Sto.set_get q with ⟨rfl, rfl⟩ | ⟨ne, q⟩
    · rfl
    · rcases List.mem_cons.mp h with h | h
      · exact absurd h.symm ne
      · exact restE_in h q
section
variable {X : Cx} {Γ : Wd} {W : WX}
theorem StOk.wipe {env : Sto} {σ : L2.St} {B H : Hp} (s : StOk Γ env σ B H) : ∀ vs : List Nat, StOk Γ (wipeE env vs) (L2.wipe σ vs) B H
  | [] => s
  | v :: vs => (StOk.wipe s vs).setN (fun _ z => by cases z) trivial
theorem Ext.wipe {env env1 : Sto} {σ σ1 : L2.St} {B H B1 H1 : Hp} (x : Ext Γ env σ B H env1 σ1 B1 H1) : ∀ {vs : List Nat}, (∀ v ∈ vs, v ∉ Γ.R) → Ext Γ env σ B H (wipeE env1 vs) (L2.wipe σ1 vs) B1 H1
  | [], _ => x
  | v :: vs, h => (Ext.wipe x fun u hu => h u (List.mem_cons_of_mem _ hu)).setN (fun _ z => by cases z) (h v (List.mem_cons_self ..))
theorem own_wipe {env : Sto} {σ : L2.St} {vs : List Nat} {p : Addr} (h : Own (wipeE env vs) (L2.wipe σ vs) p) : Own env σ p := by
  obtain ⟨i, xs, h1, h2⟩ := h
  rcases wipeE_get h1 with ⟨_, z⟩ | ⟨hn, z⟩
  · cases z
  · rw [wipe_out' hn] at h2
    exact ⟨i, xs, z, h2⟩
theorem StOk.updD {env : Sto} {σ : L2.St} {B H : Hp} {p : Addr} {vs : List V} {o : HO} (s : StOk Γ env σ B H) (hb : B p = none) (hp : H p = some (.lst vs)) (ho : ¬ Own env σ p) : StOk Γ env σ B (upd H p o) where
  same := fun q u hq => by
    rw [upd_ne (ne_of_none hq hb)]
    exact s.same q u hq
  len := s.len
  ent := fun i en u h1 h2 => by
    have k := s.ent i en u h1 h2
    cases en with
    | un => trivial
    | val d => exact k
    | mu xs =>
      obtain ⟨q, ws, e1, e2, e3, e4⟩ := k
      subst e1
      refine ⟨q, ws, rfl, e2, ?_, e4⟩
      rw [upd_ne]
      · exact e3
      · rintro rfl
        exact ho ⟨i, xs, h1, h2⟩
    | exn c ns xs =>
      obtain ⟨dd, ws, e1, e2, e3, e4, e5⟩ := k
      refine ⟨dd, ws, e1, e2, ?_, e4, e5⟩
      rw [upd_ne]
      · exact e3
      · rintro rfl
        rw [hp] at e3
        cases e3
  dis := s.dis
theorem Ext.updD {env env1 : Sto} {σ σ1 : L2.St} {B H B1 H1 : Hp} {p : Addr} {o : HO} (x : Ext Γ env σ B H env1 σ1 B1 H1) (h0 : H p = none) : Ext Γ env σ B H env1 σ1 B1 (upd H1 p o) where
  b := x.b
  t := fun q h => by
    by_cases z : q = p
    · subst z; exact absurd h0 h
    · rw [upd_ne z]; exact x.t q h
  f := fun q u h n => by
    obtain ⟨k1, k2, k3⟩ := x.f q u h n
    refine ⟨?_, k2, k3⟩
    rw [upd_ne (ne_of_none h h0)]
    exact k1
  r := x.r
theorem StOk.rest {e e' : Sto} {σ : L2.St} {B H B' H' : Hp} {own : List Nat} (s : StOk Γ e σ B H) (hok : okOwn e own = true) (s' : StOk Γ e' (L2.wipe σ own) B' H') (sb : Same B B') : StOk Γ (restE e e' own) σ B' H' where
  same := s'.same
  len := by rw [restE_len, s'.len, wipe_length]
  ent := fun i en o h1 h2 => by
    by_cases hi : i ∈ own
    · have e1 := restE_in hi h1
      have hc := List.all_eq_true.mp hok i hi
      cases he : e[i]? with
      | none => rw [he] at hc; cases hc
      | some en0 =>
        rw [he] at hc e1
        have k := s.ent i en0 o he h2
        cases en0 with
        | un => subst e1; trivial
        | val d =>
          subst e1
          obtain ⟨v, e3, r⟩ := k
          exact ⟨v, e3, Rep.mono sb d v r⟩
        | mu _ => cases hc
        | exn _ _ _ => cases hc
    · rw [restE_out hi] at h1
      exact s'.ent i en o h1 (by rw [wipe_out' hi]; exact h2)
  dis := fun i j xs ys p h1 h2 h3 h4 => by
    have out : ∀ {i : Nat} {xs : List D}, (restE e e' own)[i]? = some (.mu xs) → i ∉ own := fun {i xs} h hi => by
      have e1 := restE_in hi h
      have hc := List.all_eq_true.mp hok i hi
      cases he : e[i]? with
      | none => rw [he] at hc; cases hc
      | some en0 =>
        rw [he] at hc e1
        have e1' : Ent.mu xs = en0 := e1
        subst e1'
        cases hc
    have oi := out h1
    have oj := out h2
    rw [restE_out oi] at h1
    rw [restE_out oj] at h2
    exact s'.dis i j xs ys p h1 h2 (by rw [wipe_out' oi]; exact h3) (by rw [wipe_out' oj]; exact h4)
theorem own_rest {e e' : Sto} {σ : L2.St} {own : List Nat} {p : Addr} (hok : okOwn e own = true) (h : Own (restE e e' own) σ p) : Own e' (L2.wipe σ own) p := by
  obtain ⟨i, xs, h1, h2⟩ := h
  by_cases hi : i ∈ own
  · exfalso
    have e1 := restE_in hi h1
    have hc := List.all_eq_true.mp hok i hi
    cases he : e[i]? with
    | none => rw [he] at hc; cases hc
    | some en0 =>
      rw [he] at hc e1
      have e1' : Ent.mu xs = en0 := e1
      subst e1'
      cases hc
  · rw [restE_out hi] at h1
    exact ⟨i, xs, h1, by rw [wipe_out' hi]; exact h2⟩
theorem Ext.rest {e e' : Sto} {σ : L2.St} {B H B' H' : Hp} {own : List Nat} (hok : okOwn e own = true) (hR : ∀ v ∈ own, v ∉ Γ.R) (x : Ext Γ (wipeE e own) (L2.wipe σ own) B H e' (L2.wipe σ own) B' H') : Ext Γ e σ B H (restE e e' own) σ B' H' where
  b := x.b
  t := x.t
  f := fun p o h n => by
    obtain ⟨k1, k2, k3⟩ := x.f p o h fun z => n (own_wipe z)
    exact ⟨k1, k2, fun z => k3 (own_rest hok z)⟩
  r := fun i hi => by
    have no : i ∉ own := fun z => hR i z hi
    obtain ⟨k1, k2⟩ := x.r i hi
    refine ⟨rfl, fun xs p h1 h2 => ?_⟩
    rcases k2 xs p (by rw [wipeE_out no]; exact h1) (by rw [wipe_out' no]; exact h2) with ⟨ys, q⟩ | q
    · exact .inl ⟨ys, by rw [restE_out no]; exact q⟩
    · exact .inr q
variable {e elt tg iter : Expr} {ifs : List Expr} {scope : Scope} {own : List (Str × Nat)} {pos : Pos} {t : Asg} {it : DenI} {cond : DenT} {f : DenV}
theorem bindX_ok {α β : Type} {r : Res α} {k : α → Sto → Res β} {b : β} {e : Sto} (h : r.bindX k = .ok b e) : ∃ a e1, r = .ok a e1 ∧ k a e1 = .ok b e := by
  cases r with
  | ok a e1 => exact ⟨a, e1, rfl, h⟩
  | err _ _ _ _ => cases h
  | bad => cases h
theorem touch_wipe {vs : List Nat} {σ σ' : L2.St} (h : Touch vs σ σ') : L2.wipe σ' vs = L2.wipe σ vs := by
  have g1 : ∀ (σ : L2.St) (vs : List Nat) (i : Nat), i ∈ vs → i < σ.length → (L2.wipe σ vs)[i]? = some none := by
    intro σ vs i
    induction vs with
    | nil => intro h; simp at h
    | cons v vs ih =>
      intro h hl
      show ((L2.wipe σ vs).set v none)[i]? = some none
      by_cases e : v = i
      · subst e
        rw [List.getElem?_set_self (by rw [wipe_length]; exact hl)]
      · rw [List.getElem?_set_ne e]
        exact ih ((List.mem_cons.mp h).resolve_left fun z => e z.symm) hl
  refine List.ext_getElem? fun i => ?_
  by_cases hi : i ∈ vs
  · by_cases hl : i < σ.length
    · rw [g1 σ' vs i hi (by rw [h.1]; exact hl), g1 σ vs i hi hl]
    · rw [List.getElem?_eq_none (by rw [wipe_length, h.1]; omega), List.getElem?_eq_none (by rw [wipe_length]; omega)]
  · rw [wipe_out' hi, wipe_out' hi]
    exact h.2 i hi
theorem touch_of_wipe {vs : List Nat} {σ : L2.St} : Touch vs (L2.wipe σ vs) σ := ⟨(wipe_length σ vs).symm, fun j hj => (wipe_out' hj).symm⟩
theorem wipe_wipe {vs : List Nat} {σ : L2.St} : L2.wipe (L2.wipe σ vs) vs = L2.wipe σ vs := (touch_wipe (touch_of_wipe (σ := σ) (vs := vs))).symm
theorem tLc_of (hR : ∀ v ∈ own.map (·.2), v ∉ Γ.R) {σ : L2.St} {H : Hp} {Q : VK} (h : tF Γ W (dLc (own.map (·.2)) t it cond f) σ H Q) : tLc (tI Γ W it) (tGo Γ (own.map (·.2)) t) (tT Γ W0 cond) (tV Γ W0 f) (own.map (·.2)) σ H Q := by
  obtain ⟨env, B, s, p⟩ := h
  generalize own.map (·.2) = vs at hR p ⊢
  refine ⟨env, B, s, p.bind.mono fun items e B1 H1 s1 x1 q1 J hJ L hL => ?_⟩
  by_cases hok : okOwn e vs = true
  · rw [if_pos hok] at q1
    have s1w := s1.wipe vs
    -- the end
    have fin : ∀ (acc : List D) (e' : Sto), loopC vs t cond f items [] (wipeE e vs) = .ok acc e' → ∀ B' H' accV, StOk Γ e' (L2.wipe σ vs) B' H' → Ext Γ (wipeE e vs) (L2.wipe σ vs) B1 H1 e' (L2.wipe σ vs) B' H' → H' L = some (.lst accV) → B' L = none → ¬ Own e' (L2.wipe σ vs) L → Reps Γ B' acc accV → Q (.ref L) H' := by
      intro acc e' hl B' H' accV s' x' hd hb ho r
      rw [hl] at q1
      have q2 : Post Γ W e σ B1 H1 (fun r env' B' H' => ∀ v, RetOk Γ (FreeR Γ env σ H) env' σ B' H' r v → Q v H') (.ok (.mu acc) (restE e e' vs)) := q1
      exact q2 B' H' (s1.rest hok s' x'.b) (Ext.rest hok hR x') _ ⟨L, accV, rfl, .inl (x1.h0 L hL), hb, hd, r, fun z => ho (own_rest hok z)⟩
    obtain ⟨acc, e', hl⟩ : ∃ acc e', loopC vs t cond f items [] (wipeE e vs) = .ok acc e' := by
      cases hl : loopC vs t cond f items [] (wipeE e vs) with
      | ok acc e' => exact ⟨acc, e', rfl⟩
      | err _ _ _ _ => rw [hl] at q1; exact q1.elim
      | bad => rw [hl] at q1; exact q1.elim
    refine ⟨fun i m H2 => m = items.length - i ∧ i ≤ items.length ∧ ∃ ec B2 accD accV, StOk Γ ec (L2.wipe σ vs) B2 H2 ∧ Ext Γ (wipeE e vs) (L2.wipe σ vs) B1 H1 ec (L2.wipe σ vs) B2 H2 ∧ H2 L = some (.lst accV) ∧ B2 L = none ∧ ¬ Own ec (L2.wipe σ vs) L ∧ Reps Γ B2 accD accV ∧
      loopC vs t cond f (items.drop i) accD ec = .ok acc e', ⟨items.length, by simp, Nat.zero_le _, wipeE e vs, B1, [], [], s1w.newM hL, Ext.newM hL, upd_same, s1.bfresh hL, s1w.fresh_own hL, rfl, hl⟩, ?_⟩
    rintro i m H2 ⟨rfl, hi, ec, B2, accD, accV, s2, x2, hd2, hb2, ho2, r2, hl2⟩
    have hw := hJ i B2 H2 x2.b s2.same
    by_cases hlt : i < items.length
    · obtain ⟨hgo, hyld⟩ := hw.1 items[i] (List.getElem?_eq_getElem hlt)
      rw [List.drop_eq_getElem_cons hlt] at hl2
      refine .inr ⟨hgo, fun H3 => ∃ ec B3 accD accV, StOk Γ ec (L2.wipe σ vs) B3 H3 ∧ Ext Γ (wipeE e vs) (L2.wipe σ vs) B1 H1 ec (L2.wipe σ vs) B3 H3 ∧ H3 L = some (.lst accV) ∧ B3 L = none ∧ ¬ Own ec (L2.wipe σ vs) L ∧ Reps Γ B3 accD accV ∧
        loopC vs t cond f (items.drop (i + 1)) accD ec = .ok acc e', fun H3 ⟨ec, B3, a1, a2, k⟩ => ⟨items.length - (i + 1), by omega, rfl, hlt, ec, B3, a1, a2, k⟩, fun v H3 hy => ?_⟩
      obtain ⟨B3, gr, rv⟩ := hyld v H3 hy
      have s3 := s2.growG gr
      have x3 := x2.trans (Ext.growG (Γ := Γ) gr)
      have hd3 := gr.h L _ hd2
      have hb3 := gr.n L _ hd2 hb2
      have r3 := Reps.mono gr.b _ _ r2
      have hl3 : (match t items[i] ec with
        | none => Res.bad
        | some e1 => (cond e1).bindX fun b e2 => if b = true then (f e2).bindX fun y e3 => (if accD.length < 1000000 then loopC vs t cond f (items.drop (i + 1)) (accD ++ [y]) (wipeE e3 vs) else .bad) else loopC vs t cond f (items.drop (i + 1)) accD (wipeE e2 vs)) = .ok acc e' := hl2
      cases ht : t items[i] ec with
      | none => rw [ht] at hl3; cases hl3
      | some e1 =>
        rw [ht] at hl3
        refine ⟨ec, B3, items[i], e1, s3, rv, ht, fun σ4 s4 x4 t4 => ?_⟩
        obtain ⟨b, e2, hc, hl4⟩ := bindX_ok hl3
        have hws : L2.wipe σ4 vs = L2.wipe σ vs := (touch_wipe t4).trans wipe_wipe
        refine ⟨hws.trans (by rfl), e1, B3, s4, ?_⟩
        rw [hc]
        intro B5 H5 s5 x5
        have x45 := x4.trans x5
        have x35 := x3.trans x45
        obtain ⟨f1, f2, f3⟩ := x45.f L _ hd3 ho2
        cases b with
        | false =>
          have hl5 : loopC vs t cond f (items.drop (i + 1)) accD (wipeE e2 vs) = .ok acc e' := by
            rw [← if_neg (c := false = true) (t := (f e2).bindX fun y e3 => (if accD.length < 1000000 then loopC vs t cond f (items.drop (i + 1)) (accD ++ [y]) (wipeE e3 vs) else .bad)) (e := loopC vs t cond f (items.drop (i + 1)) accD (wipeE e2 vs)) Bool.false_ne_true]
            exact hl4
          have s5w := s5.wipe vs
          have x5w := Ext.wipe x35 hR
          rw [hws] at s5w x5w
          refine (fun (hh : _) => iteF hh) ⟨wipeE e2 vs, B5, accD, accV, s5w, x5w, f1, f2 hb3, fun z => f3 (own_wipe (by rw [hws]; exact z)), Reps.mono x45.b _ _ r3, hl5⟩
        | true =>
          have hl4' : ((f e2).bindX fun y e3 => (if accD.length < 1000000 then loopC vs t cond f (items.drop (i + 1)) (accD ++ [y]) (wipeE e3 vs) else .bad)) = .ok acc e' := by
            rw [← if_pos (c := true = true) (t := (f e2).bindX fun y e3 => (if accD.length < 1000000 then loopC vs t cond f (items.drop (i + 1)) (accD ++ [y]) (wipeE e3 vs) else .bad)) (e := loopC vs t cond f (items.drop (i + 1)) accD (wipeE e2 vs)) rfl]
            exact hl4
          obtain ⟨y, e3, hf, hl5⟩ := bindX_ok hl4'
          refine (fun (hh : _) => iteT hh) ⟨e2, B5, s5, ?_⟩
          rw [hf]
          intro B6 H6 s6 x6 yv hyv
          have x46 := x45.trans x6
          have x36 := x3.trans x46
          obtain ⟨g1, g2, g3⟩ := x46.f L _ hd3 ho2
          have gb := g2 hb3
          by_cases hlen : accD.length < 1000000
          · rw [if_pos hlen] at hl5
            have s6w := s6.wipe vs
            have x6w := Ext.wipe x36 hR
            rw [hws] at s6w x6w
            have now : ¬ Own (wipeE e3 vs) (L2.wipe σ vs) L := fun z => g3 (own_wipe (by rw [hws]; exact z))
            exact ⟨accV, g1, LN_lt (by rw [← r3.length]; omega), wipeE e3 vs, B6, accD ++ [y], accV ++ [yv], s6w.updD gb g1 now, x6w.updD hL, upd_same, gb, now, (Reps.mono x46.b _ _ r3).append (Reps.one hyv), hl5⟩
          · rw [if_neg hlen] at hl5
            cases hl5
    · have ee : i = items.length := by omega
      subst ee
      rw [List.drop_length] at hl2
      have hl2' : Res.ok accD ec = .ok acc e' := hl2
      cases hl2'
      exact .inl ⟨hw.2 (Nat.le_refl _), fin _ _ hl B2 H2 accV s2 x2 hd2 hb2 ho2 r2⟩
  · rw [if_neg hok] at q1
    exact q1.elim
theorem imTs {X : Cx} {es : List Expr} {t t' : TT} (h : PTs X es t) (i : ∀ σ H Q, t' σ H Q → t σ H Q) : PTs X es t' := ⟨fun pins s σ H Q I q => h.run pins s σ H Q I (i σ H Q q)⟩
abbrev STs (X : Cx) (Γ : Wd) (W : WX) (es : List Expr) (f : DenT) : Prop := PTs X es (tT Γ W f)
theorem sTs0 : STs X Γ W [] dTrue := imTs pts_nil fun σ H Q ⟨env, B, s, p⟩ => Post.here s p
theorem sTs1 {c : Expr} {g : DenT} (h : ST X Γ W c g) : STs X Γ W [c] g := pts_one h
theorem sLc (hR : ∀ v ∈ own.map (·.2), v ∉ Γ.R) (hc : X.calm = true) (hN : X.N.Nodup) (hi : SI X Γ W tg iter it) (ok : BlkOk X.N X.env.scope scope own)
    (hg : ∀ (s : Shared) (H : Hp) (C : Addr) (cl : List (Str × Addr)) (fp : List Addr), PG (X.blk s H scope (compEnvC scope cl C X.env) fp) tg (tGo Γ (own.map (·.2)) t)) (ht : ∀ (s : Shared) (H : Hp) (C : Addr) (cl : List (Str × Addr)) (fp : List Addr), STs (X.blk s H scope (compEnvC scope cl C X.env) fp) Γ W0 ifs cond)
    (he : ∀ (s : Shared) (H : Hp) (C : Addr) (cl : List (Str × Addr)) (fp : List Addr), SV (X.blk s H scope (compEnvC scope cl C X.env) fp) Γ W0 elt f) (hs : ∀ x, foldedSetIterable iter X.env x = pure x := by intro _; rfl) :
    SF X Γ W (.ListComp elt [⟨tg, iter, ifs, 0⟩] scope pos) (dLc (own.map (·.2)) t it cond f) := imE (pe_lc hc hN hi ok hg ht he hs) fun σ H Q h => tLc_of hR h
theorem sSetLc {i : Nat} {y : Str} {py spos : Pos} (hiR : i ∉ Γ.R) (hR : ∀ v ∈ own.map (·.2), v ∉ Γ.R) (hc : X.calm = true) (hN : X.N.Nodup) (hy : X.N[i]? = some y) (hyl : X.env.scope.names.lookup y = some .local)
    (hsw : swapsWith (.ListComp elt [⟨tg, iter, ifs, 0⟩] scope pos) (some (.Name y py)) spos.line X.env = pure true) (hi : SI X Γ W tg iter it) (ok : BlkOk X.N X.env.scope scope own)
    (hg : ∀ (s : Shared) (H : Hp) (C : Addr) (cl : List (Str × Addr)) (fp : List Addr), PG (X.blk s H scope (compEnvC scope cl C X.env) fp) tg (tGo Γ (own.map (·.2)) t)) (ht : ∀ (s : Shared) (H : Hp) (C : Addr) (cl : List (Str × Addr)) (fp : List Addr), STs (X.blk s H scope (compEnvC scope cl C X.env) fp) Γ W0 ifs cond)
    (he : ∀ (s : Shared) (H : Hp) (C : Addr) (cl : List (Str × Addr)) (fp : List Addr), SV (X.blk s H scope (compEnvC scope cl C X.env) fp) Γ W0 elt f) (hs : ∀ x, foldedSetIterable iter X.env x = pure x := by intro _; rfl) :
    SS X Γ W (.Assign [.Name y py] (.ListComp elt [⟨tg, iter, ifs, 0⟩] scope pos) spos) (dSet i (dLc (own.map (·.2)) t it cond f)) :=
  imS (ps_setLc hc hN hy hyl hsw hi ok hg ht he hs) fun Q σ H h => (tSet_of hiR h : tAsg (tF Γ W (dLc (own.map (·.2)) t it cond f)) (gName i) Q σ H) |> fun k => tLc_of hR k
end
end Ev

set_option Elab.async false
set_option linter.all false
set_option maxRecDepth 100000
set_option maxHeartbeats 4000000
namespace Ev
open PySem PySem.Spec PyProof.Rows L2

/-! ### what the head tells -/
/-- an own exception class over ValueError: its object's shape .. -/
def oexS (K : PySem.W.Frag) (C : Addr) : Bool := match K.lookup C with
  | some ⟨.type "type", _, .cls cd, sl⟩ => (match cd.mro, sl.toList with
    | .ref C' :: bm, [_, _, _, _, some (.builtin n), _] => decide (C' = C ∧ n = "ValueError.__new__" ∧ cd.hasDel = false ∧ cd.hasDict = true ∧ HandSPX.refsVE bm = true)
    | _, _ => false)
  | _ => false
/-- .. and how it answers -/
def oexB (K : PySem.W.Frag) (C : Addr) : Bool := oexS K C && decide (PySem.W.findIn K (.ref C) "__setattr__" = some (some (.builtin "object.__setattr__")) ∧ PySem.W.subIn K (.ref C) (.type "BaseException") = some true ∧ PySem.W.typeIn K (.ref C) = some (.type "type") ∧ PySem.W.keepIn K (.ref C) = true)
theorem oexB_ok {K : PySem.W.Frag} {C : Addr} (h : oexB K C = true) : OexC K C := by
  simp only [oexB, Bool.and_eq_true, decide_eq_true_eq] at h
  obtain ⟨shape, sa, sub, ty, keep⟩ := h
  refine { cls := ?_, sa := sa, exC := sub, tyC := ty, kC := keep }
  unfold oexS at shape
  split at shape <;> try cases shape
  rename_i od cd slots there
  split at shape <;> try cases shape
  rename_i C' bm s0 s1 s2 s3 n s5 mro sl
  have ⟨q1, q2, q3, q4, q5⟩ := of_decide_eq_true shape
  subst q1 q2
  have es : slots = #[s0, s1, s2, s3, some (.builtin "ValueError.__new__"), s5] := Array.toList_inj.mp sl
  cases cd
  dsimp only at mro q3 q4
  subst mro q3 q4 es
  exact ⟨_, _, _, _, bm, _, _, _, _, _, s0, s1, s2, s3, s5, there, q5⟩
/-! ### data that stand at a module's name -/
/-- the items of a sequence of the written part (bare: its own dict is none) -/
def heldSeq (K : PySem.W.Frag) (c : String) (bare : Bool) (a : Addr) : Option (Array Value) := match K.lookup a with
  | some ⟨.type c', od, .seq its _, _⟩ => if c' = c ∧ its.size ≤ sizeLine ∧ (bare = true → od = none) then some its else none
  | _ => none
theorem heldSeq_ok {K : PySem.W.Frag} {c : String} {bare : Bool} {a : Addr} {its : Array Value} (h : heldSeq K c bare a = some its) : ∃ od n sl, K.lookup a = some ⟨.type c, od, .seq its n, sl⟩ ∧ its.size ≤ sizeLine ∧ (bare = true → od = none) := by
  unfold heldSeq at h
  split at h
  · rename_i c' od its' n sl there
    split at h
    · rename_i k
      obtain ⟨rfl, few, no⟩ := k
      cases h
      exact ⟨od, n, sl, there, few, no⟩
    · cases h
  · cases h
mutual
def datB (K : PySem.W.Frag) : D → Value → Bool
  | .non, .none => true
  | .bl b, .bool c => decide (b = c)
  | .int i, .int j _ => decide (i = j)
  | .str s, .str t _ => decide (s = t)
  | .tup ds, .ref a => (match heldSeq K "tuple" false a with
    | some its => datsB K ds its.toList
    | none => false)
  | .fl ds, .ref a => (match heldSeq K "list" true a with
    | some its => datsB K ds its.toList
    | none => false)
  | _, _ => false
def datsB (K : PySem.W.Frag) : List D → List Value → Bool
  | [], [] => true
  | d :: ds, v :: vs => datB K d v && datsB K ds vs
  | _, _ => false
end
/-- u is d, wherever one stands -/
abbrev Stands (K : PySem.W.Frag) (d : D) (u : Value) : Prop := ∃ v, RelV v u ∧ ∀ (Γ : Wd) (B : Hp), Γ.K = K → Rep Γ B d v
mutual
theorem datB_ok {K : PySem.W.Frag} (d : D) (u : Value) (h : datB K d u = true) : Stands K d u := by
  match d, u, h with
  | .non, .none, _ => exact ⟨.non, rfl, fun _ _ _ => rfl⟩
  | .bl b, .bool c, h => exact ⟨.bl b, congrArg Value.bool (of_decide_eq_true h).symm, fun _ _ _ => rfl⟩
  | .int i, .int j t, h => exact ⟨.int i, ⟨t, by rw [of_decide_eq_true (show decide (i = j) = true from h)]⟩, fun _ _ _ => rfl⟩
  | .str i, .str j t, h => exact ⟨.str i, ⟨t, by rw [of_decide_eq_true (show decide (i = j) = true from h)]⟩, fun _ _ _ => rfl⟩
  | .tup ds, .ref a, h =>
    have h' : (match heldSeq K "tuple" false a with | some its => datsB K ds its.toList | none => false) = true := h
    cases e : heldSeq K "tuple" false a with
    | none => rw [e] at h'; cases h'
    | some its =>
      rw [e] at h'
      obtain ⟨od, n, sl, there, few, _⟩ := heldSeq_ok e
      obtain ⟨vs, rel, reps⟩ := datsB_ok ds its.toList h'
      exact ⟨.ref a, rfl, fun Γ B eK => ⟨a, vs, rfl, .inr ⟨_, its, n, by rw [eK]; exact there, rfl, rfl, few, rel⟩, reps Γ B eK⟩⟩
  | .fl ds, .ref a, h =>
    have h' : (match heldSeq K "list" true a with | some its => datsB K ds its.toList | none => false) = true := h
    cases e : heldSeq K "list" true a with
    | none => rw [e] at h'; cases h'
    | some its =>
      rw [e] at h'
      obtain ⟨od, n, sl, there, few, no⟩ := heldSeq_ok e
      obtain ⟨vs, rel, reps⟩ := datsB_ok ds its.toList h'
      exact ⟨.ref a, rfl, fun Γ B eK => ⟨a, vs, rfl, .inr ⟨_, its, n, by rw [eK]; exact there, rfl, no rfl, rfl, few, rel⟩, reps Γ B eK⟩⟩
theorem datsB_ok {K : PySem.W.Frag} (ds : List D) (us : List Value) (h : datsB K ds us = true) : ∃ vs, Vals vs us ∧ ∀ (Γ : Wd) (B : Hp), Γ.K = K → Reps Γ B ds vs := by
  match ds, us, h with
  | [], [], _ => exact ⟨[], .nil, fun _ _ _ => rfl⟩
  | d :: ds, u :: us, h =>
    have ⟨one, more⟩ := (Bool.and_eq_true ..).mp (show (datB K d u && datsB K ds us) = true from h)
    obtain ⟨v, r1, r2⟩ := datB_ok d u one
    obtain ⟨vs, r3, r4⟩ := datsB_ok ds us more
    exact ⟨v :: vs, .cons r1 r3, fun Γ B e => ⟨v, vs, rfl, r2 Γ B e, r4 Γ B e⟩⟩
end
/-- a test of what stands at a name of the module -/
def onMain (K : PySem.W.Frag) (x : Str) (p : Value → Bool) : Bool := match PySem.W.nsIn K mainGlobals x with
  | some (some v) => p v
  | _ => false
theorem onMain_ok {K : PySem.W.Frag} {h : Heap} {mg : Str → Option Value} (X : K.In h) (G : h.Ns mainGlobals mg) {x : Str} {p : Value → Bool} (c : onMain K x p = true) : ∃ v, mg x = some v ∧ p v = true := by
  unfold onMain at c
  split at c
  · rename_i v e
    exact ⟨v, PySem.W.mg_of X G e, c⟩
  · cases c
/-- facts by names -/
inductive Fx where
  | glo (x : Str) | free (x : Str) | fun_ (x : Str) (id : String) | oex (x : Str) | ini (x : Str) | nof (x f : Str) | xf (x : Str) | exm (x y : Str) (b : Bool) | tab (x : Str) (vs : List He.Dv) | int (x : Str) (i : Int) | dat (x : Str) (d : D)
  | fa (f : He.Fa) | cl (x : Str) | isc (x : Str) (l : List (Str × Bool)) | isb (x : Str) | bin (x m : Str) (id : String) | prop (x m : Str)
/-- the getter of a property -/
def gAd (K : PySem.W.Frag) (x m : Str) : Addr := match PySem.W.recIn K (He.ma K (He.ga K x) m) "property" with
  | some (.ref g :: _) => g
  | _ => 0
def tyNames : List String := ["NoneType", "bool", "int", "str", "tuple", "list"]
def Fx.ok (K : PySem.W.Frag) : Fx → Bool
  | .glo x => He.eqO (PySem.W.nsIn K mainGlobals x) (some (some (.ref (He.ga K x))))
  | .free x => He.eqO (PySem.W.nsIn K mainGlobals x) (some none)
  | .fun_ x id => He.eqO (PySem.W.nsIn K mainGlobals x) (some (some (.builtin id)))
  | .oex x => oexB K (He.ga K x)
  | .ini x => He.eqO (PySem.W.findIn K (.ref (He.ga K x)) "__init__") (some (some (.ref (He.ma K (He.ga K x) "__init__")))) && decide (PySem.W.typeIn K (.ref (He.ma K (He.ga K x) "__init__")) = some (.type "function"))
  | .nof x f => He.eqO (PySem.W.findIn K (.ref (He.ga K x)) f) (some none)
  | .xf x => xfB K (He.ga K x)
  | .exm x y b => decide (PySem.W.exmOne K (.ref (He.ga K x)) (.ref (He.ga K y)) = some b)
  | .tab x vs => He.tupB K x vs
  | .int x i => onMain K x fun v => match v with
    | .int j _ => decide (j = i)
    | _ => false
  | .dat x d => onMain K x (datB K d)
  | .fa f => f.ok K
  | .cl x => (He.Fa.cls x).ok K && (He.eqO (PySem.W.findIn K (.ref (He.ga K x)) "__class__") (some (some (.builtin "object.__class__"))) && (He.eqO (PySem.W.specialIn K (.builtin "object.__class__") "__get__") (some (some (.builtin "getset_descriptor.__get__"))) && (decide (PySem.W.takesIn K (.builtin "object.__class__") = some true) && decide (PySem.W.mroIn K (He.ga K x) (.type "object") = some true))))
  | .isc x l => (tyNames.all fun t => decide (PySem.W.kitOne K (.type t) (.ref (He.ga K x)) = some false)) && l.all fun p => decide (PySem.W.kitOne K (.ref (He.ga K p.1)) (.ref (He.ga K x)) = some p.2)
  | .isb x => tyNames.all fun t => decide (PySem.W.kitOne K (.ref (He.ga K x)) (.type t) = some false)
  | .bin x m id => He.eqO (PySem.W.findIn K (.ref (He.ga K x)) m) (some (some (.builtin id)))
  | .prop x m => He.eqO (PySem.W.findIn K (.ref (He.ga K x)) m) (some (some (.ref (He.ma K (He.ga K x) m)))) && (He.eqO (PySem.W.specialIn K (.ref (He.ma K (He.ga K x) m)) "__get__") (some (some (.builtin "property.__get__"))) && (decide (PySem.W.takesIn K (.ref (He.ma K (He.ga K x) m)) = some true) && (match PySem.W.recIn K (He.ma K (He.ga K x) m) "property" with
    | some (.ref _ :: _) => true
    | _ => false)))
/-- where a def stands: a global's name, a class's method, a property's getter ("@" ahead of its name) -/
def adOf (K : PySem.W.Frag) (d : He.DefD) : Addr := match d.at_, d.qual with
  | (x, some m), _ => if m == d.name then He.ma K (He.ga K x) m else gAd K x d.name
  | (x, none), _ => He.ga K x
/-- a def of the head, at its address -/
def toA (d : He.DefD) : He5.DefA := ⟨fun K => adOf K d, d.name, d.qual, d.params, d.body, d.scope, d.dfl, d.kwd⟩
abbrev AlX : Type := Bool × List He.FnW
def obsX (fa : List Fx) (fn : List He.DefD) (K : PySem.W.Frag) : AlX := ((fa.all fun f => f.ok K) && fn.all fun d => (toA d).ok K, fn.map fun d => He5.fnA K (adOf K d))
def valX (fn : List He.DefD) : AlX := (true, fn.map He.DefD.val)
def SaysX (fa : List Fx) (fn : List He.DefD) (K : PySem.W.Frag) : Prop := obsX fa fn K = valX fn
/-! the addresses that are seen, level by level, each once (a mask of bits says which) -/
def frN {α : Type} (n : Nat) (k : Nat → α) : α := match n with
  | 0 => k 0
  | m + 1 => k (m + 1)
def visB {β : Type} : List Addr → Nat → List Addr → (Nat → List Addr → β) → β
  | [], mask, acc, k => k mask acc
  | a :: r, mask, acc, k => frN a fun a => match Nat.land (Nat.shiftRight mask a) 1 with
    | 0 => frN (Nat.lor mask (Nat.shiftLeft 1 a)) fun mask => visB r mask (a :: acc) k
    | _ + 1 => visB r mask acc k
def levB {β : Type} (g : Addr → Option Obj) : List Addr → Nat → List Addr → (Nat → List Addr → β) → β
  | [], mask, acc, k => k mask acc
  | a :: r, mask, acc, k => match g a with
    | some o => visB (He.refsD o) mask acc fun mask acc => levB g r mask acc k
    | none => levB g r mask acc k
def bfsB (g : Addr → Option Obj) : Nat → List Addr → Nat → List Addr
  | 0, _, _ => []
  | n + 1, fr, mask => levB g fr mask [] fun mask nx => nx ++ bfsB g n nx mask
def asB (g : Addr → Option Obj) (n : Nat) : List Addr := mainGlobals :: bfsB g n [mainGlobals] (Nat.shiftLeft 1 mainGlobals)
def obsXG (n : Nat) (fa : List Fx) (fn : List He.DefD) (g : Addr → Option Obj) : AlX := obsX fa fn (He.frG g (asB g n))
def hookX (n : Nat) (fa : List Fx) (fn : List He.DefD) : PySem.W.Hook :=
  { α := AlX, val := fun _ => valX fn, obs := fun s => obsXG n fa fn s.heap.get?, says := fun _ h => ∃ K : PySem.W.Frag, K.In h ∧ SaysX fa fn K, of := fun _ _ seen => Exists.intro _ (And.intro He.frG_in seen), keeps := fun _ _ _ said k => said.imp fun _ both => ⟨PySem.W.Frag.In.keeps both.1 k, both.2⟩ }
theorem obsXG_eq {n : Nat} {fa : List Fx} {fn : List He.DefD} {g : Addr → Option Obj} {s : Shared} (h : ∀ a, g a = s.heap.get? a) : obsXG n fa fn g = (hookX n fa fn).obs s := congrArg (obsXG n fa fn) (funext h)
section
variable {fa : List Fx} {fn : List He.DefD} {K : PySem.W.Frag}
/-- all that is said, each by itself -/
theorem SaysX.each (c : SaysX fa fn K) : (∀ f ∈ fa, f.ok K = true) ∧ ∀ d ∈ fn, (toA d).ok K = true ∧ He5.fnA K (adOf K d) = d.val := by
  have ⟨tests, texts⟩ := (Prod.mk.injEq ..).mp (show ((fa.all fun f => f.ok K) && fn.all fun d => (toA d).ok K, fn.map fun d => He5.fnA K (adOf K d)) = (true, fn.map He.DefD.val) from c)
  have ⟨t1, t2⟩ := (Bool.and_eq_true ..).mp tests
  exact ⟨List.all_eq_true.mp t1, fun d hd => ⟨List.all_eq_true.mp t2 d hd, List.map_inj_left.mp texts d hd⟩⟩
theorem SaysX.fact (c : SaysX fa fn K) (i : Nat) {f : Fx} (h : fa[i]? = some f := by rfl) : f.ok K = true := c.each.1 f (List.mem_of_getElem? h)
/-- the function object at an address -/
def fdOf (K : PySem.W.Frag) (a : Addr) : FuncData := match K.lookup a with
  | some ⟨_, _, .func fd, _⟩ => fd
  | _ => PySem.W.fnOf "" "" ⟨[], [], none, [], [], none, []⟩ [] ⟨.function, [], false, false, []⟩ .none .none .none .none none .none .none
theorem SaysX.defA (c : SaysX fa fn K) (i : Nat) {d : He.DefD} (h : fn[i]? = some d) {a : Addr} (ha : adOf K d = a) : FunD K d.name d.qual d.params d.body d.scope (d.dvs K) (d.kws K) a (fdOf K a) := by
  have ⟨fits, text⟩ := c.each.2 d (List.mem_of_getElem? h)
  obtain ⟨fd, F⟩ := He5.DefA.funD (d := toA d) text fits
  replace F : FunD K d.name d.qual d.params d.body d.scope (d.dvs K) (d.kws K) (adOf K d) fd := F
  rw [ha] at F
  have is_ : fdOf K a = fd := by
    unfold fdOf
    obtain ⟨_, _, _, _, _, _, _, _, _, _, _, there, _⟩ := F.ex
    rw [there]
  rw [is_]
  exact F
theorem SaysX.def_ (c : SaysX fa fn K) (i : Nat) {d : He.DefD} (h : fn[i]? = some d := by rfl) (ha : adOf K d = He.fAd K d.at_ := by rfl) : FunD K d.name d.qual d.params d.body d.scope (d.dvs K) (d.kws K) (He.fAd K d.at_) (fdOf K (He.fAd K d.at_)) := c.defA i h ha
variable {h : Heap} {mg : Str → Option Value}
theorem fx_glo (X : K.In h) (G : h.Ns mainGlobals mg) {x : Str} (c : (Fx.glo x).ok K = true) : mg x = some (.ref (He.ga K x)) := PySem.W.mg_of X G (He.eqO_ok c)
theorem fx_free (X : K.In h) (G : h.Ns mainGlobals mg) {x : Str} (c : (Fx.free x).ok K = true) : mg x = none := PySem.W.mg_none_of X G (He.eqO_ok c)
theorem fx_fun (X : K.In h) (G : h.Ns mainGlobals mg) {x : Str} {id : String} (c : (Fx.fun_ x id).ok K = true) : mg x = some (.builtin id) := PySem.W.mg_of X G (He.eqO_ok c)
theorem fx_int (X : K.In h) (G : h.Ns mainGlobals mg) {x : Str} {i : Int} (c : (Fx.int x i).ok K = true) : ∃ t, mg x = some (.int i t) := by
  obtain ⟨v, at_, is_⟩ := onMain_ok X G c
  cases v <;> try cases is_
  exact ⟨_, by rw [at_, of_decide_eq_true is_]⟩
theorem fx_dat (X : K.In h) (G : h.Ns mainGlobals mg) {x : Str} {d : D} (c : (Fx.dat x d).ok K = true) : ∃ v u, mg x = some u ∧ RelV v u ∧ ∀ (Γ : Wd) (B : Hp), Γ.K = K → Rep Γ B d v := by
  obtain ⟨u, at_, is_⟩ := onMain_ok X G c
  obtain ⟨v, rel, rep⟩ := datB_ok d u is_
  exact ⟨v, u, at_, rel, rep⟩
theorem fx_oex {x : Str} (c : (Fx.oex x).ok K = true) : OexC K (He.ga K x) := oexB_ok c
theorem fx_ini {x : Str} (c : (Fx.ini x).ok K = true) : PySem.W.findIn K (.ref (He.ga K x)) "__init__" = some (some (.ref (He.ma K (He.ga K x) "__init__"))) ∧ PySem.W.typeIn K (.ref (He.ma K (He.ga K x) "__init__")) = some (.type "function") := by
  obtain ⟨c1, c2⟩ := Bool.and_eq_true_iff.mp c
  exact ⟨He.eqO_ok c1, of_decide_eq_true c2⟩
theorem fx_nof {x f : Str} (c : (Fx.nof x f).ok K = true) : PySem.W.findIn K (.ref (He.ga K x)) f = some none := He.eqO_ok c
theorem fx_xf {x : Str} (c : (Fx.xf x).ok K = true) : XfC K (He.ga K x) := xfB_ok c
theorem fx_exm {x y : Str} {b : Bool} (c : (Fx.exm x y b).ok K = true) : PySem.W.exmOne K (.ref (He.ga K x)) (.ref (He.ga K y)) = some b := of_decide_eq_true c
theorem fx_fa {f : He.Fa} (c : (Fx.fa f).ok K = true) : f.ok K = true := c
/-- an own class, and what its instances' __class__ is found to be -/
structure ClF (K : PySem.W.Frag) (C : Addr) : Prop where
  cl : Cls K C
  cls : PySem.W.findIn K (.ref C) "__class__" = some (some (.builtin "object.__class__")) ∧ PySem.W.specialIn K (.builtin "object.__class__") "__get__" = some (some (.builtin "getset_descriptor.__get__")) ∧ PySem.W.takesIn K (.builtin "object.__class__") = some true
  obj : PySem.W.mroIn K C (.type "object") = some true
theorem fx_cl {x : Str} (c : (Fx.cl x).ok K = true) : ClF K (He.ga K x) := by
  simp only [Fx.ok, Bool.and_eq_true, decide_eq_true_eq] at c
  exact ⟨He.cls_ok c.1, ⟨He.eqO_ok c.2.1, He.eqO_ok c.2.2.1, c.2.2.2.1⟩, c.2.2.2.2⟩
theorem fx_isc {x : Str} {l : List (Str × Bool)} (c : (Fx.isc x l).ok K = true) : (∀ t ∈ tyNames, PySem.W.kitOne K (.type t) (.ref (He.ga K x)) = some false) ∧ ∀ p ∈ l, PySem.W.kitOne K (.ref (He.ga K p.1)) (.ref (He.ga K x)) = some p.2 := by
  obtain ⟨c1, c2⟩ := Bool.and_eq_true_iff.mp c
  exact ⟨fun t ht => of_decide_eq_true (List.all_eq_true.mp c1 t ht), fun p hp => of_decide_eq_true (List.all_eq_true.mp c2 p hp)⟩
theorem fx_isb {x : Str} (c : (Fx.isb x).ok K = true) : ∀ t ∈ tyNames, PySem.W.kitOne K (.ref (He.ga K x)) (.type t) = some false := fun t ht => of_decide_eq_true (List.all_eq_true.mp c t ht)
theorem fx_prop {x m : Str} (c : (Fx.prop x m).ok K = true) : PropOf K (He.ga K x) m (He.ma K (He.ga K x) m) (gAd K x m) := by
  simp only [Fx.ok, Bool.and_eq_true, decide_eq_true_eq] at c
  refine ⟨He.eqO_ok c.1, He.eqO_ok c.2.1, c.2.2.1, ?_⟩
  have last := c.2.2.2
  unfold gAd
  split at last
  · rename_i g rest e
    rw [e]
    exact ⟨rest, rfl⟩
  · cases last
theorem fx_bin {x m : Str} {id : String} (c : (Fx.bin x m id).ok K = true) : PySem.W.findIn K (.ref (He.ga K x)) m = some (some (.builtin id)) := He.eqO_ok c
theorem fx_tab {x : Str} {vs : List He.Dv} (c : (Fx.tab x vs).ok K = true) (H : Hp) : SqT K H (He.ga K x) (vs.map (He.Dv.v K)) := He.tupB_ok c H
end
/-! ### a table of classes -/
def xtab (l : List (Str × Str × Bool)) : XTab := fun c h => (l.find? fun t => t.1 == c && t.2.1 == h).map (·.2.2)
theorem xtab_mem {l : List (Str × Str × Bool)} {c h : Str} {b : Bool} (e : xtab l c h = some b) : (c, h, b) ∈ l := by
  unfold xtab at e
  cases hf : l.find? (fun t => t.1 == c && t.2.1 == h) with
  | none => rw [hf] at e; cases e
  | some t =>
    rw [hf] at e
    have h1 := List.find?_some hf
    have h2 := List.mem_of_find?_eq_some hf
    simp only [Bool.and_eq_true, beq_iff_eq] at h1
    obtain ⟨c', h', b'⟩ := t
    simp only [Option.map_some, Option.some.injEq] at e
    obtain ⟨rfl, rfl⟩ := h1
    subst e
    exact h2

/-! ### the law -/
theorem reps_ints {Γ : Wd} {B : Hp} : ∀ ns : List Int, Reps Γ B (ns.map D.int) (ns.map V.int)
  | [] => rfl
  | n :: ns => ⟨.int n, ns.map V.int, rfl, rfl, reps_ints ns⟩
theorem walk_ev {l : PySem.W.OpenLaw} {k : Nat} {q : Program} {loose : List Str} {XP : (Str → Option Value) → Heap → Prop} {YP : World → Heap → Prop} {d : DefRec} {x : Str} {g : Fn}
    (hn : l.most = some 63) (hdf : d.params.defaults = []) (hr : Room k callerA)
    (F : ∀ (w : World) (mg : Str → Option Value) (fa : Addr) (h : Heap), YP w h → h.Ns mainGlobals mg → mg d.name = some (.ref fa) →
      ∃ (K : PySem.W.Frag) (fd : FuncData), K.In h ∧ (∀ (s : Shared) (u : Value), BindsTo s fd ⟨[u], []⟩ [(x, u)]) ∧
        ∀ base : Heap, K.In base → base.Ns mainGlobals mg → FnOk l.prog w K mg base (L2.CX l.prog w) k fa fd [x] (spOf K mg [] 1 g))
    (hlaw : ∀ ns : List Int, ns.length ≤ 63 → (∀ z ∈ ns, Builtin.Int.intBits z ≤ 1048576) → ∃ ps, g [.val (.fl (ns.map D.int))] = .ok (.val (.bl true)) ps) :
    PySem.W.WalkO q loose XP YP l.row.toRowW d [] (fun f vs => PySem.call f vs) := by
  refine Att.attach_callB hn hdf fun w s₀ s₁ mg mb fa o pm cd doc a vs ns G Y ho hd hcd hmg hobj hints hlen hbits hg => ?_
  obtain ⟨K, fd, KX, hb, hF⟩ := F w mg fa _ Y G.T.g hmg
  refine law_call KX G.T.g G.T.b G.T.builtins G.T.nolimit hg hobj hints (Nat.le_trans hlen (by decide)) hr hF hb (fun H hO hS => ?_) fun H e s' h => ?_
  · obtain ⟨ps, hps⟩ := hlaw ns hlen hbits
    refine ⟨H, [.val (.fl (ns.map D.int))], rfl, args_ok (Γ := wdOf K mg []) (ds := [.fl (ns.map D.int)]) (σ := []) (Same.refl _) (Reps.one ⟨a, _, rfl, hS, reps_ints ns⟩), fun i xs hi => ?_, ?_⟩
    · cases i with
      | zero => cases hi
      | succ i => cases hi
    · rw [hps]
      exact fun v B' H' _ r => r
  · obtain ⟨_, _, _, _, _, _, _, _, _, _, _, _, z⟩ := h
    exact z
end Ev

set_option Elab.async false
set_option linter.all false
set_option maxRecDepth 100000
set_option maxHeartbeats 4000000
namespace Ev
open PySem PySem.Spec PyProof.Rows L2

theorem bt_len : bootBuiltins "len" = some (.builtin "len") := by decide +kernel
theorem bt_abs : bootBuiltins "abs" = some (.builtin "abs") := by decide +kernel
theorem bt_isinstance : bootBuiltins "isinstance" = some (.builtin "isinstance") := by decide +kernel
theorem bt_list : bootBuiltins "list" = some (.type "list") := by decide +kernel
theorem bt_tuple : bootBuiltins "tuple" = some (.type "tuple") := by decide +kernel
theorem bt_int : bootBuiltins "int" = some (.type "int") := by decide +kernel
theorem bt_bool : bootBuiltins "bool" = some (.type "bool") := by decide +kernel
theorem bt_str : bootBuiltins "str" = some (.type "str") := by decide +kernel
theorem nR {R : List Nat} {i : Nat} (h : R.contains i = false) : i ∉ R := fun z => by
  rw [List.contains_iff_mem.mpr z] at h
  cases h
theorem nRs {R vs : List Nat} (h : vs.all (fun v => !R.contains v) = true) : ∀ v ∈ vs, v ∉ R := fun v hv => nR (by
  have := List.all_eq_true.mp h v hv
  simpa using this)
theorem xfOne {K : PySem.W.Frag} {mg : Str → Option Value} {c n : Str} {C : Addr} (g : mg c = some (.ref C)) (x : XfC K C) (nf : PySem.W.findIn K (.ref C) n = some none) : ∀ c' ∈ [c], ∀ C', mg c' = some (.ref C') → XfC K C' ∧ PySem.W.findIn K (.ref C') n = some none := fun c' hc C' m => by
  have e : c' = c := by simpa using hc
  subst e
  rw [g] at m
  cases m
  exact ⟨x, nf⟩
section
variable {X : Cx} {Γ : Wd} {W : WX} {e a b c : Expr} {es : List Expr} {pos : Pos} {f1 : DenL}
def dNotL (f : DenL) : DenV := fun env => (dTru f env).bind fun b e => .ok (.bl (!b)) e
theorem sNotL (hK : X.K = Γ.K) (ha : SL X Γ W a f1) : SV X Γ W (.UnaryOp .Not a pos) (dNotL f1) := imE (pe_notT ha) fun σ H Q ⟨env, B, s, p⟩ => by
  unfold dNotL dTru at p
  have p2 := p.bind
  refine ⟨env, B, s, p2.bind.mono fun d e1 B1 H1 s1 x1 q1 v hv => ?_⟩
  cases hd : d.get e1 with
  | none => rw [hd] at q1; exact q1.elim
  | some y =>
    rw [hd] at q1
    have q2 : Post Γ W e1 σ B1 H1 (fun b e1 B1 H1 => Post Γ W e1 σ B1 H1 (fun d _ B' H' => ∀ v, Rep Γ B' d v → Q v H') (.ok (.bl (!b)) e1)) (match truth y with | some b => .ok b e1 | none => .bad) := q1
    cases ht : truth y with
    | none => rw [ht] at q2; exact q2.elim
    | some k =>
      rw [ht] at q2
      refine ⟨k, ?_, Post.here s1 (Post.here s1 q2) _ rfl⟩
      rw [hK]
      exact (Ar.now s1 hv hd).truth s1.same ht
end
/-! ### recursion -/
theorem FnOk.never {P : Program} {w : World} {K : PySem.W.Frag} {mg : Str → Option Value} {base : Heap} {CX : CXT} {k np : Nat} {R : List Nat} {f : Addr} {fd : FuncData} {ps : List Str} : FnOk P w K mg base CX k f fd ps (spOf K mg R np fun _ => .bad) :=
  ⟨fun vs H Q E ⟨_, _, _, _, _, z⟩ => z.elim, fun A outer s H args us vs Q E _ _ _ _ ⟨_, _, _, _, _, z⟩ => z.elim⟩
def recFn (np ns : Nat) (den : Fn → DenS) : Nat → Fn
  | 0 => fun _ => .bad
  | n + 1 => mkFn np ns (den (recFn np ns den n))
theorem recFn_len {np ns : Nat} {den : Fn → DenS} : ∀ (n : Nat) (args : List Ent), args.length ≠ np → recFn np ns den n args = .bad
  | 0, _, _ => rfl
  | n + 1, args, h => mkFn_len args h
end Ev

set_option Elab.async false
set_option linter.all false
set_option maxRecDepth 100000
set_option maxHeartbeats 4000000
namespace Ev
open PySem PySem.Spec PyProof.Rows L2
/-! ### a global number -/
theorem sGI {X : Cx} {Γ : Wd} {W : WX} {x : Str} {i : Int} {pos : Pos} (hm : ∃ t, X.mg x = some (.int i t)) (hg : Gl X x) (hd : (x == ("__debug__" : Str)) = false := by decide) : SV X Γ W (.Name x pos) (dC (.int i)) :=
  let ⟨t, h⟩ := hm
  sC (pe_glob (v := .int i) hg h ⟨t, rfl⟩ hd) fun _ => rfl

/-! ### keyword arguments: where each parameter's value comes from -/
inductive Src where
  | p (i : Nat) | k (i : Nat) | d (i : Nat)
def Src.pick {α : Type} (us ws its : List α) : Src → Option α
  | .p i => us[i]?
  | .k i => ws[i]?
  | .d i => its[i]?
def arr {α : Type} (l : List Src) (us ws its : List α) : List α := l.filterMap (Src.pick us ws its)
theorem paired_at {R : V → Value → Prop} : ∀ {xs : List V} {us : List Value}, Paired R xs us → ∀ i : Nat, (xs[i]? = none ∧ us[i]? = none) ∨ ∃ x u, xs[i]? = some x ∧ us[i]? = some u ∧ R x u
  | _, _, .nil, i => .inl ⟨by simp, by simp⟩
  | _, _, .cons h r, 0 => .inr ⟨_, _, rfl, rfl, h⟩
  | _, _, .cons h r, i + 1 => by
    rcases paired_at r i with ⟨a, c⟩ | ⟨x, u, a, c, e⟩
    · exact .inl ⟨by simpa using a, by simpa using c⟩
    · exact .inr ⟨x, u, by simpa using a, by simpa using c, e⟩
theorem pick_rel {vs zs dv : List V} {us ws its : List Value} (r1 : Vals vs us) (r2 : Vals zs ws) (r3 : Vals dv its) (q : Src) : (q.pick vs zs dv = none ∧ q.pick us ws its = none) ∨ ∃ x u, q.pick vs zs dv = some x ∧ q.pick us ws its = some u ∧ RelV x u := by
  cases q with
  | p i => exact paired_at r1 i
  | k i => exact paired_at r2 i
  | d i => exact paired_at r3 i
theorem arr_vals {vs zs dv : List V} {us ws its : List Value} (r1 : Vals vs us) (r2 : Vals zs ws) (r3 : Vals dv its) : ∀ l : List Src, Vals (arr l vs zs dv) (arr l us ws its)
  | [] => .nil
  | q :: l => by
    have ih := arr_vals r1 r2 r3 l
    unfold arr at ih ⊢
    rw [List.filterMap_cons, List.filterMap_cons]
    rcases pick_rel r1 r2 r3 q with ⟨a, c⟩ | ⟨x, u, a, c, e⟩
    · rw [a, c]
      exact ih
    · rw [a, c]
      exact .cons e ih
theorem reps_at {Γ : Wd} {B : Hp} : ∀ {ds : List D} {vs : List V}, Reps Γ B ds vs → ∀ i : Nat, (ds[i]? = none ∧ vs[i]? = none) ∨ ∃ d v, ds[i]? = some d ∧ vs[i]? = some v ∧ Rep Γ B d v
  | [], vs, h, i => by
    have h' : vs = [] := h
    rw [h']
    exact .inl ⟨by simp, by simp⟩
  | d :: ds, vs, h, i => by
    obtain ⟨v, r, e1, e2, e3⟩ := h
    rw [e1]
    cases i with
    | zero => exact .inr ⟨d, v, rfl, rfl, e2⟩
    | succ i =>
      rcases reps_at e3 i with ⟨a, c⟩ | ⟨x, u, a, c, e⟩
      · exact .inl ⟨by simpa using a, by simpa using c⟩
      · exact .inr ⟨x, u, by simpa using a, by simpa using c, e⟩
theorem arr_reps {Γ : Wd} {B : Hp} {ds zs dl : List D} {vs ws dv : List V} (r1 : Reps Γ B ds vs) (r2 : Reps Γ B zs ws) (r3 : Reps Γ B dl dv) : ∀ l : List Src, Reps Γ B (arr l ds zs dl) (arr l vs ws dv)
  | [] => rfl
  | q :: l => by
    have ih := arr_reps r1 r2 r3 l
    have pq : (q.pick ds zs dl = none ∧ q.pick vs ws dv = none) ∨ ∃ x u, q.pick ds zs dl = some x ∧ q.pick vs ws dv = some u ∧ Rep Γ B x u := by
      cases q with
      | p i => exact reps_at r1 i
      | k i => exact reps_at r2 i
      | d i => exact reps_at r3 i
    unfold arr at ih ⊢
    rw [List.filterMap_cons, List.filterMap_cons]
    rcases pq with ⟨a, c⟩ | ⟨x, u, a, c, e⟩
    · rw [a, c]
      exact ih
    · rw [a, c]
      exact ⟨u, _, rfl, e, ih⟩
section
variable {K : PySem.W.Frag} {x qual : Str} {params : Arguments} {body : List Stmt} {scope : Scope} {dvs : List V} {kws : List (Str × V)} {f : Addr} {fd : FuncData} {ps : List Str}
/-- keywords, with defaults that fill up -/
theorem kb1 (F : FunD K x qual params body scope dvs kws f fd) (n : Nat) (ks : List Str) (l : List Src) (hd : dvs ≠ [])
    (h : ∀ (T : Addr) (kV doc pm : Value) (an : Option Addr) (cdv ct : Value) (us its ws : List Value), us.length = n → its.length = dvs.length → ws.length = ks.length →
      ∃ k, bindArgs (PySem.W.fnOf x qual params body scope (.ref T) kV doc pm an cdv ct) ⟨us, ks.zip ws⟩ = seqItems? (.ref T) >>= k ∧ k (some its.toArray) = pure (ps.zip (arr l us ws its))) :
    ∃ its : List Value, KBn K fd ps n ks (fun us ws => arr l us ws its) (fun vs zs => arr l vs zs dvs) := by
  obtain ⟨oc, od, dV, kV, doc, pm, an, cdv, ct, osl, rfl, lk, hcd, hD, hK⟩ := F.ex
  rcases hD with ⟨e, _⟩ | ⟨_, T, o, its, m, rfl, lT, oT, rT⟩
  · exact absurd e hd
  · refine ⟨its, ⟨fun s us ws X l1 l2 => ?_, fun r1 r2 => arr_vals r1 r2 rT l⟩⟩
    obtain ⟨k, e1, e2⟩ := h T kV doc pm an cdv ct us its ws l1 rT.length.symm l2
    refine BindsTo.of_looks fun M => ?_
    rw [e1]
    exact looks_items X lT oT (.of_pure e2)
/-- keywords, no defaults -/
theorem kb0 (F : FunD K x qual params body scope [] kws f fd) (n : Nat) (ks : List Str) (l : List Src)
    (h : ∀ (kV doc pm : Value) (an : Option Addr) (cdv ct : Value) (us ws : List Value), us.length = n → ws.length = ks.length →
      bindArgs (PySem.W.fnOf x qual params body scope .none kV doc pm an cdv ct) ⟨us, ks.zip ws⟩ = pure (ps.zip (arr l us ws []))) :
    ∃ its : List Value, KBn K fd ps n ks (fun us ws => arr l us ws its) (fun vs zs => arr l vs zs []) := by
  obtain ⟨oc, od, dV, kV, doc, pm, an, cdv, ct, osl, rfl, lk, hcd, hD, hK⟩ := F.ex
  rcases hD with ⟨_, rfl⟩ | ⟨e, _⟩
  · exact ⟨[], ⟨fun s us ws X l1 l2 => .of_eq (h kV doc pm an cdv ct us ws l1 l2), fun r1 r2 => arr_vals r1 r2 .nil l⟩⟩
  · exact absurd rfl e
end
section
variable {X : Cx} {Γ : Wd} {W : WX} {e : Expr} {es : List Expr} {kws : List Keyword} {pos p : Pos} {x : Str} {f : Addr} {fd : FuncData} {ps ks : List Str} {k np n : Nat} {R : List Nat} {g : Fn} {dvs : List V} {dfl : List D} {fs gs : DenVs} {l : List Src} {its : List Value}
abbrev SK (X : Cx) (Γ : Wd) (W : WX) (kws : List Keyword) (f : DenVs) : Prop := PK X kws (tVs Γ W f)
theorem imK {kws : List Keyword} {t t' : TA} (h : PK X kws t) (i : ∀ σ H Q, t' σ H Q → t σ H Q) : PK X kws t' := ⟨fun pos pins s σ H Q I q => h.run pos pins s σ H Q I (i σ H Q q)⟩
theorem sKNil : SK X Γ W [] (dVs []) := imK pk_nil fun σ H Q ⟨env, B, s, p⟩ => Post.here s p [] rfl
theorem sKCons {f : DenV} {fs : List DenV} {nm : Option Str} {kpos : Pos} (h : SV X Γ W e f) (r : SK X Γ W kws (dVs fs)) : SK X Γ W (⟨nm, e, kpos⟩ :: kws) (dVs (f :: fs)) :=
  imK (pk_cons h r) fun σ H Q ⟨env, B, s, p⟩ =>
    ⟨env, B, s, p.bind.mono fun d e1 B1 H1 s1 x1 q1 v hv => ⟨e1, B1, s1, q1.bind.mono fun ds e2 B2 H2 s2 x2 q2 vs hvs => Post.here s2 q2 (v :: vs) ⟨v, vs, rfl, Rep.mono x2.b d v hv, hvs⟩⟩⟩
theorem run_fnNS {pins : List (Addr × Obj)} {σ : L2.St} {H : Hp} {s : Shared} {Q : VK} {us ws : List Value} {vs zs : List V} {gg : List Value → List Value → List Value} {gV : List V → List V → List V} {CX : CXT} {sp : Sp} {E : XK} (F : FnOk X.prog X.w X.K X.mg X.base CX k f fd ps sp) (hr : Room k X.A) (hb : KBn X.K fd ps n ks gg gV) (hx : PassesAt CX X σ E)
    (I : Inv X pins σ H s) (r : Vals vs us) (rz : Vals zs ws) (l1 : vs.length = n) (l2 : zs.length = ks.length) (h : sp (gV vs zs) H Q E) : wpAny (model X.prog X.w) X.A (call (.ref f) us (ks.zip ws)) (EP X pins σ Q) X.xe s := by
  have r2 := hb.rel r rz
  have b := hb.to s us ws I.kIn (r.length.symm.trans l1) (rz.length.symm.trans l2)
  refine wpAny_call (codeAny_mono (F.run X.A X.stack s H ⟨us, ks.zip ws⟩ (gg us ws) (gV vs zs) Q E hr I.env0 b r2 h) fun r s' hq => ?_)
  cases r with
  | ok fl =>
    cases fl with
    | ret u => exact I.after hq
    | next => exact False.elim hq
    | brk => exact False.elim hq
    | cont => exact False.elim hq
  | error e => exact hx pins H s e s' I hq
def tCallKS (n m : Nat) (sp : Sp) (gV : List V → List V → List V) (E : L2.St → XK) (t tk : TA) : TE := fun σ H Q => t σ H fun vs H1 => tk σ H1 fun zs H2 => vs.length = n ∧ zs.length = m ∧ sp (gV vs zs) H2 Q (E σ)
theorem pe_callKS {CX : CXT} {sp : Sp} {E : L2.St → XK} {t tk : TA} {gg : List Value → List Value → List Value} {gV : List V → List V → List V} (F : FnOk X.prog X.w X.K X.mg X.base CX k f fd ps sp) (hr : Room k X.A) (hg : Gl X x) (hm : X.mg x = some (.ref f)) (hk : PySem.W.keepIn X.K (.ref f) = true) (hb : KBn X.K fd ps n ks gg gV) (hx : ∀ σ, PassesAt CX X σ (E σ))
    (ha : PA X (e :: es) t) (hkw : PK X kws tk) (hall : (backToKw pos (keywordEach kws X.env)).all (·.1.isSome) = true) (hks : (backToKw pos (keywordEach kws X.env)).filterMap (·.1) = ks)
    (hdb : (x == ("__debug__" : Str)) = false) (he : starEach (e :: es) X.env = (false, eval e X.env) :: starEach es X.env)
    (hpl : ((backTo pos (starEach (e :: es) X.env)).any (·.1) || (backToKw pos (keywordEach kws X.env)).any (·.1.isNone)) = false) :
    PE X (.Call (.Name x p) (e :: es) kws pos) (tCallKS n ks.length sp gV E t tk) := by
  refine ⟨fun pins s σ H Q I h => wpAny_Call_Name_kw (ld_glob I hg hm ?_ hdb)⟩
  refine PySem.W.callWith_KW (h₀ := X.base) I.ok.mod.kin hk hall (thn (ha.run pos pins s σ H _ I h) fun us s1 ⟨vs, H1, I1, r, q⟩ => ?_) hpl he
  refine thn (hkw.run pos pins s1 σ H1 _ I1 q) fun ws s2 ⟨zs, H2, I2, rz, l1, l2, q2⟩ => ⟨I2.kIn, ?_⟩
  subst hks
  exact run_fnNS F hr hb (hx σ) I2 r rz l1 l2 q2
/-- a call with keywords -/
def dCallK (g : Fn) (n m : Nat) (l : List Src) (dfl : List D) (fs gs : DenVs) : DenF := fun env => (fs env).bind fun ds e1 => (gs e1).bind fun zs e2 => if ds.length = n ∧ zs.length = m then (match g ((arr l ds zs dfl).map .val) with
    | .ok r _ => .ok r e2
    | .err c ns xs _ => .err c ns xs e2
    | .bad => .bad) else .bad
theorem sCallK (l : List Src) (hK : X.K = Γ.K) (hm' : X.mg = Γ.mg) (F : FnOk X.prog X.w X.K X.mg X.base (L2.CX X.prog X.w) k f fd ps (spOf X.K X.mg R np g)) (hr : Room k X.A) (gl : Gl X x) (hm : X.mg x = some (.ref f)) (hk : PySem.W.keepIn X.K (.ref f) = true)
    (hb : KBn X.K fd ps n ks (fun us ws => arr l us ws its) (fun vs zs => arr l vs zs dvs)) (hdf : ∀ B, Reps Γ B dfl dvs) (tk : Takes X W) (ha : SVs X Γ W (e :: es) fs) (hkw : SK X Γ W kws gs) (ga : ∀ args, args.length ≠ np → g args = .bad)
    (hall : (backToKw pos (keywordEach kws X.env)).all (·.1.isSome) = true := by rfl) (hks : (backToKw pos (keywordEach kws X.env)).filterMap (·.1) = ks := by rfl)
    (hdb : (x == ("__debug__" : Str)) = false := by decide) (he : starEach (e :: es) X.env = (false, eval e X.env) :: starEach es X.env := by rfl)
    (hpl : ((backTo pos (starEach (e :: es) X.env)).any (·.1) || (backToKw pos (keywordEach kws X.env)).any (·.1.isNone)) = false := by rfl) :
    SF X Γ W (.Call (.Name x p) (e :: es) kws pos) (dCallK g n ks.length l dfl fs gs) := imE (pe_callKS F hr gl hm hk hb (fun σ => passAt tk σ) ha hkw hall hks hdb he hpl) fun σ H Q ⟨env, B, s, pp⟩ => by
  refine ⟨env, B, s, pp.bind.mono fun ds e1 B1 H1 s1 x1 q1 vs hvs => ⟨e1, B1, s1, q1.bind.mono fun zs e2 B2 H2 s2 x2 q2 ws hws => ?_⟩⟩
  have rv : Reps Γ B2 ds vs := Reps.mono x2.b ds vs hvs
  by_cases hl : ds.length = n ∧ zs.length = ks.length
  · rw [if_pos hl] at q2
    refine ⟨rv.length.symm.trans hl.1, hws.length.symm.trans hl.2, ?_⟩
    have rc : Reps (wdOf Γ.K Γ.mg R) B2 (arr l ds zs dfl) (arr l vs ws dvs) := (arr_reps rv hws (hdf B2) l).toC
    have nlen : ((arr l ds zs dfl).map Ent.val).length = np := by
      by_cases hz : ((arr l ds zs dfl).map Ent.val).length = np
      · exact hz
      · rw [ga _ hz] at q2
        exact q2.elim
    rw [hK, hm']
    refine ⟨B2, (arr l ds zs dfl).map .val, nlen, args_ok (σ := σ) s2.same rc, fun i xs hi => ?_, ?_⟩
    · exfalso
      rw [List.getElem?_map] at hi
      cases hd : (arr l ds zs dfl)[i]? with
      | none => rw [hd] at hi; cases hi
      | some d => rw [hd] at hi; cases hi
    · have own_up : ∀ {B' H' : Hp} {pz : Sto}, FExt (wdOf Γ.K Γ.mg R) ((arr l ds zs dfl).map .val) (arr l vs ws dvs) B2 H2 pz B' H' → Grow B2 H2 B' H' := fun {B' H' pz} fx =>
        ⟨fx.b, fun p o hp => (fx.f p o hp no_own).1, fx.s, fun p o hp => (fx.f p o hp no_own).2⟩
      cases hg : g ((arr l ds zs dfl).map .val) with
      | bad => rw [hg] at q2; exact q2.elim
      | err c ns xs pz =>
        rw [hg] at q2
        intro cls d B' H' fx xn
        exact q2 cls d B' H' (s2.growG (own_up fx)) (Ext.growG (own_up fx)) xn.ofC
      | ok r pz =>
        rw [hg] at q2
        intro v B' H' fx rv
        refine q2 B' H' (s2.growG (own_up fx)) (Ext.growG (own_up fx)) v ?_
        cases r with
        | val d => exact Rep.ofC rv
        | mu xs =>
          obtain ⟨a, us, e1', e2', e3', e4', e5'⟩ := rv
          exact ⟨a, us, e1', .inl (x1.h0 a (x2.h0 a e2')), e3', e4', Reps.ofC e5', fun z => s2.own_tracked z e2'⟩
        | un => exact rv.elim
        | exn _ _ _ => exact rv.elim
  · rw [if_neg hl] at q2
    exact q2.elim
end
end Ev

set_option Elab.async false
set_option linter.all false
set_option maxRecDepth 100000
set_option maxHeartbeats 4000000
namespace Ev
open PySem PySem.Spec PyProof.Rows L2
/-! ### evaluation, by simp -/
section
variable {env : Sto} {f g : DenV} {u u2 : DenF} {l l2 l3 : DenL} {t t2 : DenT} {s s2 : DenS} {i j : Nat} {d : D}
theorem dC_a : dC d env = .ok d env := rfl
theorem dVar_a : dVar i env = match env[i]? with
  | some (.val d) => .ok d env
  | some (.mu xs) => .ok (.lst xs) (env.set i (.val (.lst xs)))
  | _ => .bad := rfl
theorem dSlot_a : dSlot i env = match env[i]? with
  | some (.val d) => .ok (.v d) env
  | some (.mu xs) => .ok (.s i) env
  | _ => .bad := rfl
theorem dMove_a : dMove i env = match env[i]? with
  | some (.val d) => .ok (.val d) env
  | some (.mu xs) => .ok (.mu xs) (env.set i .un)
  | _ => .bad := rfl
theorem dLV_a : dLV f env = (f env).bind fun d e => .ok (.v d) e := rfl
theorem dFrz_a : dFrz u env = (u env).bind frzE := rfl
theorem frzE_val {e : Sto} : frzE (.val d) e = .ok d e := rfl
theorem frzE_mu {xs : List D} {e : Sto} : frzE (.mu xs) e = .ok (.lst xs) e := rfl
theorem dVal_a : dVal f env = (f env).bind fun d e => .ok (.val d) e := rfl
theorem get_v {e : Sto} : (Ar.v d).get e = some d := rfl
theorem get_s {e : Sto} : (Ar.s i).get e = match e[i]? with
    | some (.val d) => some d
    | some (.mu xs) => some (.lst xs)
    | _ => none := rfl
theorem dBin_a {g : D → D → Option Ent} : dBin g l l2 env = (l env).bind fun a e1 => (l2 e1).bind fun b e2 => match a.get e2, b.get e2 with
  | some x, some y => (match g x y with
    | some r => .ok r e2
    | none => .bad)
  | _, _ => .bad := rfl
theorem dNeg_a : dNeg f env = (f env).bind fun d e => match d with
  | .int i => .ok (.int (-i)) e
  | _ => .bad := rfl
theorem dTB_a : dTB u env = (u env).bind fun r e => match r with
  | .val (.bl b) => .ok b e
  | _ => .bad := rfl
theorem dBT_a : dBT f env = (f env).bind fun d e => match d with
  | .bl b => .ok b e
  | _ => .bad := rfl
theorem dTru_a : dTru l env = (l env).bind fun a e => match a.get e with
  | some d => (match truth d with
    | some b => .ok b e
    | none => .bad)
  | none => .bad := rfl
theorem dNotT_a : dNotT t env = (t env).bind fun b e => .ok (!b) e := rfl
theorem dAndT_a : dAndT t t2 env = (t env).bind fun b e => if b = true then t2 e else .ok false e := rfl
theorem dOrT_a : dOrT t t2 env = (t env).bind fun b e => if b = true then .ok true e else t2 e := rfl
theorem dAndV_a : dAndV f g env = (dBT f env).bind fun b e => if b = true then g e else .ok (.bl false) e := rfl
theorem dOrV_a : dOrV f g env = (dBT f env).bind fun b e => if b = true then .ok (.bl true) e else g e := rfl
theorem dNotL_a : dNotL l env = (dTru l env).bind fun b e => .ok (.bl (!b)) e := rfl
theorem dIf_a : dIf t f g env = (t env).bind fun b e => if b = true then f e else g e := rfl
theorem dIfF_a : dIfF t u u2 env = (t env).bind fun b e => if b = true then u e else u2 e := rfl
theorem dChain_a {g g' : D → D → Option Ent} : dChain g g' l l2 l3 env = (l env).bind fun a e1 => (l2 e1).bind fun b e2 => match a.get e2, b.get e2 with
  | some x, some y => (match g x y with
    | some (.val (.bl true)) => (l3 e2).bind fun c e3 => (match b.get e3, c.get e3 with
      | some y, some z => (match g' y z with
        | some r => .ok r e3
        | none => .bad)
      | _, _ => .bad)
    | some (.val (.bl false)) => .ok (.val (.bl false)) e2
    | _ => .bad)
  | _, _ => .bad := rfl
theorem dVs_n : dVs [] env = .ok [] env := rfl
theorem dVs_c {fs : List DenV} : dVs (f :: fs) env = (f env).bind fun d e => (dVs fs e).bind fun ds e2 => .ok (d :: ds) e2 := rfl
theorem dArs_n : dArs [] env = .ok [] env := rfl
theorem dArs_c {fs : List DenL} : dArs (l :: fs) env = (l env).bind fun d e => (dArs fs e).bind fun ds e2 => .ok (d :: ds) e2 := rfl
theorem dTup_a {fs : List DenV} : dTup fs env = (dVs fs env).bind fun ds e => if ds.length ≤ 1000000 then .ok (.tup ds) e else .bad := rfl
theorem dLst_a {fs : List DenV} : dLst fs env = (dVs fs env).bind fun ds e => if ds.length ≤ 1000000 then .ok (.mu ds) e else .bad := rfl
theorem getAll_n {e : Sto} : getAll [] e = some [] := rfl
theorem getAll_c {a : Ar} {as : List Ar} {e : Sto} : getAll (a :: as) e = match a.get e, getAll as e with
    | some d, some ds => some (d :: ds)
    | _, _ => none := rfl
theorem dCB_a {g : List D → Option Ent} {fs : DenA} : dCB g fs env = (fs env).bind fun as e => match getAll as e with
  | some ds => (match g ds with
    | some r => .ok r e
    | none => .bad)
  | none => .bad := rfl
theorem dCall_a {g : Fn} {dfl : List D} {fs : DenA} : dCall g dfl fs env = (fs env).bind fun as e => match getAll as e with
  | some ds => (match g ((ds ++ dfl).map .val) with
    | .ok r _ => if r.flat = true then .ok r e else .ok r (frzAr as e)
    | .err c ns xs _ => .err c ns xs (frzAr as e)
    | .bad => .bad)
  | none => .bad := rfl
theorem dCall0_a {g : Fn} {dfl : List D} : dCall0 g dfl env = match g (dfl.map .val) with
  | .ok r _ => .ok r env
  | .err c ns xs _ => .err c ns xs env
  | .bad => .bad := rfl
theorem dCallR_a {g : Fn} {dfl : List D} {fs : DenA} : dCallR g j dfl fs env = match env[j]? with
  | some (.mu _) => (fs env).bind fun as e => (match e[j]?, getAll as e, hasS j as with
    | some (.mu xs), some ds, false => (match g (.mu xs :: (ds ++ dfl).map .val) with
      | .ok r (p0 :: _) => .ok r ((frzAr as e).set j p0)
      | .err c ns ys (p0 :: _) => .err c ns ys ((frzAr as e).set j p0)
      | _ => .bad)
    | _, _, _ => .bad)
  | some (.val d) => (fs env).bind fun as e => (match getAll as e with
    | some ds => (match g (.val d :: (ds ++ dfl).map .val) with
      | .ok r _ => .ok r (frzAr as e)
      | .err c ns ys _ => .err c ns ys (frzAr as e)
      | _ => .bad)
    | none => .bad)
  | _ => .bad := rfl
theorem dIsi_a {cs : List String} : dIsi cs l env = (l env).bind fun a e => match a.get e with
  | some d => if noIns d = true then .ok (.bl (isTs d cs)) e else .bad
  | none => .bad := rfl
theorem dSeq_a : dSeq s s2 env = match s env with
  | .ok .nx e => s2 e
  | r => r := rfl
theorem dSkip_a : dSkip env = .ok .nx env := rfl
theorem dIfS_a : dIfS t s s2 env = (t env).bind fun b e => if b = true then s e else s2 e := rfl
theorem dRet_a : dRet u env = (u env).bind fun r e => .ok (.rt r) e := rfl
theorem dSet_a : dSet i u env = (u env).bind fun r e => match r with
  | .val d => .ok .nx (e.set i (.val d))
  | .mu xs => .ok .nx (e.set i (.mu xs))
  | _ => .bad := rfl
theorem dAsg_a {t : Asg} : dAsg t f env = (f env).bind fun d e => match t d e with
  | some e' => .ok .nx e'
  | none => .bad := rfl
theorem asN_a {e : Sto} : asN i d e = some (e.set i (.val d)) := rfl
theorem asT_a {n : Nat} {g : Asgs} {ds : List D} {e : Sto} : asT n g (.tup ds) e = if ds.length = n then g ds e else none := rfl
theorem asT_l {n : Nat} {g : Asgs} {ds : List D} {e : Sto} : asT n g (.lst ds) e = if ds.length = n then g ds e else none := rfl
theorem asC_a {f : Asg} {g : Asgs} {ds : List D} {e : Sto} : asCons f g (d :: ds) e = (f d e).bind (g ds) := rfl
theorem asNil_a {e : Sto} : asNil [] e = some e := rfl
theorem dPar_a {fs : DenVs} : dPar i j fs env = (fs env).bind fun ds e => match ds with
  | [a, b] => .ok .nx ((e.set i (.val a)).set j (.val b))
  | _ => .bad := rfl
theorem dPut_a : dPut i f g env = (g env).bind fun d e1 => match e1[i]? with
  | some (.mu _) => (f e1).bind fun k e2 => (match k, e2[i]? with
    | .int k, some (.mu xs) => (match ixN xs.length k with
      | some j => .ok .nx (e2.set i (.mu (xs.set j d)))
      | none => .bad)
    | _, _ => .bad)
  | _ => .bad := rfl
theorem dExp_a : dExp f env = (f env).bind fun _ e => .ok .nx e := rfl
theorem dApp_a : dApp i f env = match env[i]? with
  | some (.mu _) => (f env).bind fun d e => (match e[i]? with
    | some (.mu xs) => if xs.length < 1000000 then .ok .non (e.set i (.mu (xs ++ [d]))) else .bad
    | _ => .bad)
  | _ => .bad := rfl
theorem dFor_a {t : Asg} {it : DenI} : dFor t it s env = (it env).bind fun items e => loopF t s items e := rfl
theorem loopF_n {t : Asg} {b : DenS} : loopF t b [] env = .ok .nx env := rfl
theorem dIt_a : dIt f env = (f env).bind fun d e => match d.its with
  | some xs => .ok xs e
  | none => .bad := rfl
theorem mkFn_a {np ns : Nat} {b : DenS} {args : List Ent} : mkFn np ns b args = if args.length = np then finF np (b (args ++ List.replicate (ns - np) .un)) else .bad := rfl
end
/-! ### sizes -/
def Bd (k : Nat) (i : Int) : Prop := i.natAbs < 2 ^ k
theorem Bd.mono {k m : Nat} {i : Int} (h : Bd k i) (l : k ≤ m) : Bd m i := Nat.lt_of_lt_of_le h (Nat.pow_le_pow_right (by decide) l)
theorem Bd.log {k : Nat} {i : Int} (h : Bd (k + 1) i) : i.natAbs.log2 ≤ k := by
  by_cases z : i.natAbs = 0
  · rw [z]
    simp
  · have := (Nat.log2_lt z).mpr h
    omega
theorem mulOk_of {k m : Nat} {i j : Int} (h : Bd (k + 1) i) (h2 : Bd (m + 1) j) (l : k + m < 1000000) : mulOk i j = true := by
  have := h.log
  have := h2.log
  exact decide_eq_true (by omega)
theorem divOk_of {k : Nat} {j : Int} (h : Bd (k + 1) j) (z : j ≠ 0) (l : k < 9000) : divOk j = true := by
  have := h.log
  exact decide_eq_true ⟨z, by omega⟩
theorem Bd.mul {k m : Nat} {i j : Int} (h : Bd k i) (h2 : Bd m j) : Bd (k + m) (i * j) := by
  unfold Bd at *
  rw [Int.natAbs_mul, Nat.pow_add]
  exact Nat.mul_lt_mul'' h h2
theorem Bd.add {k : Nat} {i j : Int} (h : Bd k i) (h2 : Bd k j) : Bd (k + 1) (i + j) := by
  unfold Bd at *
  have := Int.natAbs_add_le i j
  rw [Nat.pow_succ]
  omega
theorem Bd.sub {k : Nat} {i j : Int} (h : Bd k i) (h2 : Bd k j) : Bd (k + 1) (i - j) := by
  unfold Bd at *
  have := Int.natAbs_sub_le i j
  rw [Nat.pow_succ]
  omega
theorem Bd.neg {k : Nat} {i : Int} (h : Bd k i) : Bd k (-i) := by
  unfold Bd at *
  rw [Int.natAbs_neg]
  exact h
theorem Bd.of_le {k : Nat} {i j : Int} (h : Bd k j) (l : i.natAbs ≤ j.natAbs) : Bd k i := Nat.lt_of_le_of_lt l h
theorem Bd.div {k : Nat} {i j : Int} (h : Bd k i) : Bd k (i / j) := h.of_le (Int.natAbs_ediv_le_natAbs i j)
end Ev

set_option Elab.async false
set_option linter.all false
set_option maxRecDepth 100000
set_option maxHeartbeats 4000000
namespace Ev
open PySem PySem.Spec PyProof.Rows L2
mutual
theorem deq_refl : ∀ (n : Nat) (d : D), shp n d = true → deq d d = true
  | n, .non, h => rfl
  | n, .bl b, h => by
    unfold deq D.py PyData.eqv
    simp
  | n, .int i, h => by
    unfold deq D.py PyData.eqv
    simp
  | n, .str s, h => by
    unfold deq D.py PyData.eqv
    simp
  | 0, .tup xs, h => by cases h
  | 0, .lst xs, h => by cases h
  | 0, .fl xs, h => by cases h
  | n + 1, .tup xs, h => by
    have := deqs_refl n xs h
    unfold deq D.py PyData.eqv
    exact this
  | n + 1, .lst xs, h => by
    have := deqs_refl n xs h
    unfold deq D.py PyData.eqv
    exact this
  | n + 1, .fl xs, h => by
    have := deqs_refl n xs h
    unfold deq D.py PyData.eqv
    exact this
  | n, .ins _ _ _, h => by
    cases n <;> cases h
theorem deqs_refl : ∀ (n : Nat) (ds : List D), shps n ds = true → deqs ds ds = true
  | n, [], h => rfl
  | n, d :: ds, h => by
    unfold shps at h
    rw [Bool.and_eq_true] at h
    have h1 := deq_refl n d h.1
    have h2 := deqs_refl n ds h.2
    unfold deqs pys PyData.eqvAll
    unfold deq at h1
    unfold deqs at h2
    rw [h1, h2]
    rfl
end
theorem gEq_self {d : D} (h : shp 64 d = true) : gEq d d = vb true := by
  unfold gEq
  rw [if_pos ⟨h, h⟩, deq_refl 64 d h]
theorem gNe_self {d : D} (h : shp 64 d = true) : gNe d d = vb false := by
  unfold gNe
  rw [if_pos ⟨h, h⟩, deq_refl 64 d h]
  rfl
theorem gEq_of {d e : D} (h : shp 64 d = true) (q : e = d) : gEq d e = vb true := by
  rw [q]
  exact gEq_self h
theorem gNe_of {d e : D} (h : shp 64 d = true) (q : e = d) : gNe d e = vb false := by
  rw [q]
  exact gNe_self h
theorem deq_int {i j : Int} : deq (.int i) (.int j) = decide (i = j) := by
  unfold deq D.py PyData.eqv
  by_cases h : i = j
  · simp [h]
  · simp [h]
theorem gEq_int {i j : Int} : gEq (.int i) (.int j) = vb (decide (i = j)) := by
  unfold gEq
  rw [if_pos ⟨rfl, rfl⟩, deq_int]
theorem gNe_int {i j : Int} : gNe (.int i) (.int j) = vb (!decide (i = j)) := by
  unfold gNe
  rw [if_pos ⟨rfl, rfl⟩, deq_int]
/-! ### the small list's items -/
section
variable {x y z w : D} {xs : List D}
theorem atI_nat {n : Nat} {d : D} (h : xs[n]? = some d) : atI xs (n : Int) = some d := by
  have hn : n < xs.length := by
    rcases Nat.lt_or_ge n xs.length with q | q
    · exact q
    · rw [List.getElem?_eq_none q] at h
      cases h
  unfold atI ixN
  rw [if_pos (Int.natCast_nonneg n), if_pos (by omega)]
  exact h
theorem at0 : atI (x :: xs) 0 = some x := atI_nat (n := 0) rfl
theorem at1 : atI (x :: y :: xs) 1 = some y := atI_nat (n := 1) rfl
theorem at2 : atI (x :: y :: z :: xs) 2 = some z := atI_nat (n := 2) rfl
theorem at3 : atI (x :: y :: z :: w :: xs) 3 = some w := atI_nat (n := 3) rfl
theorem ix_t0 : gIx (.tup (x :: xs)) (.int 0) = some (.val x) := congrArg (Option.map Ent.val) at0
theorem ix_t1 : gIx (.tup (x :: y :: xs)) (.int 1) = some (.val y) := congrArg (Option.map Ent.val) at1
theorem ix_t2 : gIx (.tup (x :: y :: z :: xs)) (.int 2) = some (.val z) := congrArg (Option.map Ent.val) at2
theorem ix_t3 : gIx (.tup (x :: y :: z :: w :: xs)) (.int 3) = some (.val w) := congrArg (Option.map Ent.val) at3
theorem ix_l0 : gIx (.lst (x :: xs)) (.int 0) = some (.val x) := congrArg (Option.map Ent.val) at0
theorem ix_l1 : gIx (.lst (x :: y :: xs)) (.int 1) = some (.val y) := congrArg (Option.map Ent.val) at1
theorem ix_l2 : gIx (.lst (x :: y :: z :: xs)) (.int 2) = some (.val z) := congrArg (Option.map Ent.val) at2
theorem ix_l3 : gIx (.lst (x :: y :: z :: w :: xs)) (.int 3) = some (.val w) := congrArg (Option.map Ent.val) at3
theorem ixN4_0 {n : Nat} : ixN (n + 1) 0 = some 0 := by
  unfold ixN
  rw [if_pos (by decide), if_pos (by omega)]
  rfl
theorem ixN4_1 {n : Nat} : ixN (n + 1 + 1) 1 = some 1 := by
  unfold ixN
  rw [if_pos (by decide), if_pos (by omega)]
  rfl
theorem ixN4_2 {n : Nat} : ixN (n + 1 + 1 + 1) 2 = some 2 := by
  unfold ixN
  rw [if_pos (by decide), if_pos (by omega)]
  rfl
theorem ixN4_3 {n : Nat} : ixN (n + 1 + 1 + 1 + 1) 3 = some 3 := by
  unfold ixN
  rw [if_pos (by decide), if_pos (by omega)]
  rfl
theorem ixc_0 : ixN 4 0 = some 0 := rfl
theorem ixc_1 : ixN 4 1 = some 1 := rfl
theorem ixc_2 : ixN 4 2 = some 2 := rfl
theorem ixc_3 : ixN 4 3 = some 3 := rfl
end
/-! ### numbers -/
theorem gAdd_i {i j : Int} : gAdd (.int i) (.int j) = some (.val (.int (i + j))) := rfl
theorem gSub_i {i j : Int} : gSub (.int i) (.int j) = some (.val (.int (i - j))) := rfl
theorem gMul_i {i j : Int} (h : mulOk i j = true) : gMul (.int i) (.int j) = some (.val (.int (i * j))) := if_pos h
theorem gDiv_i {i j : Int} (h : divOk j = true) : gDiv (.int i) (.int j) = some (.val (.int (i.fdiv j))) := if_pos h
theorem gMod_i {i j : Int} (h : j ≠ 0) : gMod (.int i) (.int j) = some (.val (.int (i.fmod j))) := if_neg h
theorem gLt_i {i j : Int} : gLt (.int i) (.int j) = vb (decide (i < j)) := rfl
theorem gLe_i {i j : Int} : gLe (.int i) (.int j) = vb (decide (i ≤ j)) := rfl
theorem gGt_i {i j : Int} : gGt (.int i) (.int j) = vb (decide (j < i)) := rfl
theorem gGe_i {i j : Int} : gGe (.int i) (.int j) = vb (decide (j ≤ i)) := rfl
theorem gInt_i {i : Int} : gInt [.int i] = some (.val (.int i)) := rfl
theorem gLen_l {xs : List D} : gLen [.lst xs] = some (.val (.int xs.length)) := rfl
theorem gLen_f {xs : List D} : gLen [.fl xs] = some (.val (.int xs.length)) := rfl
theorem gLen_t {xs : List D} : gLen [.tup xs] = some (.val (.int xs.length)) := rfl
theorem gAbs_i {i : Int} : gAbs [.int i] = some (.val (.int (i.natAbs : Int))) := by
  have e : (if i < 0 then -i else i) = (i.natAbs : Int) := by
    by_cases h : i < 0
    · rw [if_pos h]
      omega
    · rw [if_neg h]
      omega
  exact congrArg (fun z => some (Ent.val (.int z))) e
theorem its_l {xs : List D} : D.its (.lst xs) = some xs := rfl
theorem its_t {xs : List D} : D.its (.tup xs) = some xs := rfl
theorem its_f {xs : List D} : D.its (.fl xs) = some xs := rfl
theorem Bd.nat {k n : Nat} (h : n < 2 ^ k) : Bd k (n : Int) := h
theorem Bd.lit {k : Nat} {i : Int} (h : i.natAbs < 2 ^ k := by decide) : Bd k i := h
theorem fmod_range {a b : Int} (h : 0 < b) : 0 ≤ a.fmod b ∧ a.fmod b < b := by
  rw [Int.fmod_eq_emod_of_nonneg _ (Int.le_of_lt h)]
  exact ⟨Int.emod_nonneg _ (by omega), Int.emod_lt_of_pos _ h⟩
theorem fdiv_pos {a b : Int} (h : 0 < b) : a.fdiv b = a / b := Int.fdiv_eq_ediv_of_nonneg _ (Int.le_of_lt h)
theorem Bd.ofR {k : Nat} {i b : Int} (h : 0 ≤ i ∧ i < b) (hb : b ≤ 2 ^ k) : Bd k i := by
  unfold Bd
  have : (i.natAbs : Int) < (2 ^ k : Nat) := by
    rw [Int.natCast_pow]
    have : ((2 : Nat) : Int) = 2 := rfl
    rw [this]
    omega
  exact Int.ofNat_lt.mp this
end Ev

set_option Elab.async false
set_option linter.all false
set_option maxRecDepth 100000
set_option maxHeartbeats 4000000
namespace Kx
open PySem PySem.Spec PyProof.Rows L2 Ev
def top (i : Nat) : Stmt := PySem.Challenge.pw_tautparcel_k01_whole_ratios_in_lowest_te.main.body.getD i (.Pass ⟨0, 0, 0, 0⟩)
def meth (s : Stmt) (j : Nat) : Stmt := match s with
  | .ClassDef _ _ _ b _ _ _ _ _ _ _ => b.getD j (.Pass ⟨0, 0, 0, 0⟩)
  | _ => .Pass ⟨0, 0, 0, 0⟩
def d_is_whole : He.DefD := ⟨("is_whole", none), "is_whole", "is_whole", defArgs (top 8), defBody (top 8), defScope (top 8), [.non, .non], []⟩
def d_is_ratio : He.DefD := ⟨("is_ratio", none), "is_ratio", "is_ratio", defArgs (top 9), defBody (top 9), defScope (top 9), [], []⟩
def d_in_lowest : He.DefD := ⟨("in_lowest", none), "in_lowest", "in_lowest", defArgs (top 10), defBody (top 10), defScope (top 10), [], []⟩
def d_make_ratio : He.DefD := ⟨("make_ratio", none), "make_ratio", "make_ratio", defArgs (top 11), defBody (top 11), defScope (top 11), [.int 1], []⟩
def d_plus : He.DefD := ⟨("plus", none), "plus", "plus", defArgs (top 12), defBody (top 12), defScope (top 12), [], []⟩
def d_minus : He.DefD := ⟨("minus", none), "minus", "minus", defArgs (top 13), defBody (top 13), defScope (top 13), [], []⟩
def d_times : He.DefD := ⟨("times", none), "times", "times", defArgs (top 14), defBody (top 14), defScope (top 14), [], []⟩
def d_over : He.DefD := ⟨("over", none), "over", "over", defArgs (top 15), defBody (top 15), defScope (top 15), [], []⟩
def d_negative : He.DefD := ⟨("negative", none), "negative", "negative", defArgs (top 16), defBody (top 16), defScope (top 16), [], []⟩
def d_compare : He.DefD := ⟨("compare", none), "compare", "compare", defArgs (top 17), defBody (top 17), defScope (top 17), [], []⟩
def d_sum_of : He.DefD := ⟨("sum_of", none), "sum_of", "sum_of", defArgs (top 18), defBody (top 18), defScope (top 18), [], []⟩
def d_least_of : He.DefD := ⟨("least_of", none), "least_of", "least_of", defArgs (top 19), defBody (top 19), defScope (top 19), [], []⟩
def d_greatest_of : He.DefD := ⟨("greatest_of", none), "greatest_of", "greatest_of", defArgs (top 20), defBody (top 20), defScope (top 20), [], []⟩
def d_floor_of : He.DefD := ⟨("floor_of", none), "floor_of", "floor_of", defArgs (top 21), defBody (top 21), defScope (top 21), [], []⟩
def d_broken_of : He.DefD := ⟨("broken_of", none), "broken_of", "broken_of", defArgs (top 22), defBody (top 22), defScope (top 22), [], []⟩
def d__law_hand : He.DefD := ⟨("_law_hand", none), "_law_hand", "_law_hand", defArgs (top 24), defBody (top 24), defScope (top 24), [], []⟩
def d__law_mixed : He.DefD := ⟨("_law_mixed", none), "_law_mixed", "_law_mixed", defArgs (top 25), defBody (top 25), defScope (top 25), [], []⟩
def d__law_take : He.DefD := ⟨("_law_take", none), "_law_take", "_law_take", defArgs (top 26), defBody (top 26), defScope (top 26), [], []⟩
def d__law_common : He.DefD := ⟨("_law_common", none), "_law_common", "_law_common", defArgs (top 27), defBody (top 27), defScope (top 27), [], []⟩
def d__law_ratio : He.DefD := ⟨("_law_ratio", none), "_law_ratio", "_law_ratio", defArgs (top 28), defBody (top 28), defScope (top 28), [], []⟩
def d__law_tuples : He.DefD := ⟨("_law_tuples", none), "_law_tuples", "_law_tuples", defArgs (top 29), defBody (top 29), defScope (top 29), [], []⟩
def d__law_drawn : He.DefD := ⟨("_law_drawn", none), "_law_drawn", "_law_drawn", defArgs (top 30), defBody (top 30), defScope (top 30), [], []⟩
def d__law_made : He.DefD := ⟨("_law_made", none), "_law_made", "_law_made", defArgs (top 31), defBody (top 31), defScope (top 31), [], []⟩
def d__law_parted : He.DefD := ⟨("_law_parted", none), "_law_parted", "_law_parted", defArgs (top 32), defBody (top 32), defScope (top 32), [], []⟩
def d__law_signed : He.DefD := ⟨("_law_signed", none), "_law_signed", "_law_signed", defArgs (top 33), defBody (top 33), defScope (top 33), [], []⟩
def d__law_pair : He.DefD := ⟨("_law_pair", none), "_law_pair", "_law_pair", defArgs (top 34), defBody (top 34), defScope (top 34), [], []⟩
def d__law_rows : He.DefD := ⟨("_law_rows", none), "_law_rows", "_law_rows", defArgs (top 35), defBody (top 35), defScope (top 35), [], []⟩
def d__law_odd_ones : He.DefD := ⟨("_law_odd_ones", none), "_law_odd_ones", "_law_odd_ones", defArgs (top 36), defBody (top 36), defScope (top 36), [], []⟩
def d_law : He.DefD := ⟨("law", none), "law", "law", defArgs (top 37), defBody (top 37), defScope (top 37), [], []⟩
def d_ini_BadRatio : He.DefD := ⟨("BadRatio", some "__init__"), "__init__", "BadRatio.__init__", defArgs (meth (top 3) 0), defBody (meth (top 3) 0), defScope (meth (top 3) 0), [], []⟩
def fn : List He.DefD := [d_is_whole, d_is_ratio, d_in_lowest, d_make_ratio, d_plus, d_minus, d_times, d_over, d_negative, d_compare, d_sum_of, d_least_of, d_greatest_of, d_floor_of, d_broken_of, d__law_hand, d__law_mixed, d__law_take, d__law_common, d__law_ratio, d__law_tuples, d__law_drawn, d__law_made, d__law_parted, d__law_signed, d__law_pair, d__law_rows, d__law_odd_ones, d_law, d_ini_BadRatio]
def fa : List Fx := [.glo "law", .free "isinstance", .free "bool", .free "int", .free "tuple", .free "list", .free "len", .glo "is_whole", .fun_ "gcd" "math.gcd", .nof "BadRatio" "what", .oex "BadRatio", .ini "BadRatio", .glo "BadRatio", .glo "in_lowest", .tab "ZERO" [.int 0, .int 1], .glo "ZERO", .glo "plus", .glo "compare", .free "abs", .glo "_law_mixed", .glo "_law_common", .glo "_law_tuples", .glo "_law_take", .glo "_law_ratio", .glo "make_ratio", .xf "BadRatio", .glo "ParcelError", .glo "over", .glo "minus", .glo "times", .glo "negative", .glo "_law_signed", .glo "_law_parted", .glo "floor_of", .glo "broken_of", .glo "sum_of", .glo "least_of", .glo "greatest_of", .glo "is_ratio", .glo "_law_made", .glo "_law_hand", .glo "_law_drawn", .tab "ONE" [.int 1, .int 1], .glo "ONE", .tab "HALF" [.int 1, .int 2], .glo "HALF", .glo "_law_pair", .free "range", .glo "_law_rows", .glo "_law_odd_ones", .exm "BadRatio" "BadRatio" true, .exm "BadRatio" "ParcelError" true]
structure Tz (K : PySem.W.Frag) (mg : Str → Option Value) : Prop where
  ex : ∃ h : Heap, K.In h ∧ h.Ns mainGlobals mg
  c : SaysX fa fn K
section
variable {K : PySem.W.Frag} {mg : Str → Option Value}
theorem Tz.glo (T : Tz K mg) {x : Str} (c : (Fx.glo x).ok K = true) : mg x = some (.ref (He.ga K x)) := let ⟨_, X, G⟩ := T.ex; fx_glo X G c
theorem Tz.free (T : Tz K mg) {x : Str} (c : (Fx.free x).ok K = true) : mg x = none := let ⟨_, X, G⟩ := T.ex; fx_free X G c
theorem Tz.fun_ (T : Tz K mg) {x : Str} {id : String} (c : (Fx.fun_ x id).ok K = true) : mg x = some (.builtin id) := let ⟨_, X, G⟩ := T.ex; fx_fun X G c
theorem Tz.int (T : Tz K mg) {x : Str} {i : Int} (c : (Fx.int x i).ok K = true) : ∃ t, mg x = some (.int i t) := let ⟨_, X, G⟩ := T.ex; fx_int X G c
theorem Tz.F_is_whole (T : Tz K mg) : FunD K "is_whole" "is_whole" (defArgs (top 8)) (defBody (top 8)) (defScope (top 8)) (d_is_whole.dvs K) [] (He.ga K "is_whole") (fdOf K (He.ga K "is_whole")) := T.c.def_ 0 (d := d_is_whole) rfl
theorem Tz.F_is_ratio (T : Tz K mg) : FunD K "is_ratio" "is_ratio" (defArgs (top 9)) (defBody (top 9)) (defScope (top 9)) (d_is_ratio.dvs K) [] (He.ga K "is_ratio") (fdOf K (He.ga K "is_ratio")) := T.c.def_ 1 (d := d_is_ratio) rfl
theorem Tz.b_is_ratio (T : Tz K mg) : Binds K (fdOf K (He.ga K "is_ratio")) ["thing"] [] := T.F_is_ratio.bindsN fun _ _ _ _ _ _ us hl => match us, hl with | [_], _ => rfl
theorem Tz.F_in_lowest (T : Tz K mg) : FunD K "in_lowest" "in_lowest" (defArgs (top 10)) (defBody (top 10)) (defScope (top 10)) (d_in_lowest.dvs K) [] (He.ga K "in_lowest") (fdOf K (He.ga K "in_lowest")) := T.c.def_ 2 (d := d_in_lowest) rfl
theorem Tz.b_in_lowest (T : Tz K mg) : Binds K (fdOf K (He.ga K "in_lowest")) ["top", "bottom"] [] := T.F_in_lowest.bindsN fun _ _ _ _ _ _ us hl => match us, hl with | [_, _], _ => rfl
theorem Tz.F_make_ratio (T : Tz K mg) : FunD K "make_ratio" "make_ratio" (defArgs (top 11)) (defBody (top 11)) (defScope (top 11)) (d_make_ratio.dvs K) [] (He.ga K "make_ratio") (fdOf K (He.ga K "make_ratio")) := T.c.def_ 3 (d := d_make_ratio) rfl
theorem Tz.F_plus (T : Tz K mg) : FunD K "plus" "plus" (defArgs (top 12)) (defBody (top 12)) (defScope (top 12)) (d_plus.dvs K) [] (He.ga K "plus") (fdOf K (He.ga K "plus")) := T.c.def_ 4 (d := d_plus) rfl
theorem Tz.b_plus (T : Tz K mg) : Binds K (fdOf K (He.ga K "plus")) ["one", "other"] [] := T.F_plus.bindsN fun _ _ _ _ _ _ us hl => match us, hl with | [_, _], _ => rfl
theorem Tz.F_minus (T : Tz K mg) : FunD K "minus" "minus" (defArgs (top 13)) (defBody (top 13)) (defScope (top 13)) (d_minus.dvs K) [] (He.ga K "minus") (fdOf K (He.ga K "minus")) := T.c.def_ 5 (d := d_minus) rfl
theorem Tz.b_minus (T : Tz K mg) : Binds K (fdOf K (He.ga K "minus")) ["one", "other"] [] := T.F_minus.bindsN fun _ _ _ _ _ _ us hl => match us, hl with | [_, _], _ => rfl
theorem Tz.F_times (T : Tz K mg) : FunD K "times" "times" (defArgs (top 14)) (defBody (top 14)) (defScope (top 14)) (d_times.dvs K) [] (He.ga K "times") (fdOf K (He.ga K "times")) := T.c.def_ 6 (d := d_times) rfl
theorem Tz.b_times (T : Tz K mg) : Binds K (fdOf K (He.ga K "times")) ["one", "other"] [] := T.F_times.bindsN fun _ _ _ _ _ _ us hl => match us, hl with | [_, _], _ => rfl
theorem Tz.F_over (T : Tz K mg) : FunD K "over" "over" (defArgs (top 15)) (defBody (top 15)) (defScope (top 15)) (d_over.dvs K) [] (He.ga K "over") (fdOf K (He.ga K "over")) := T.c.def_ 7 (d := d_over) rfl
theorem Tz.b_over (T : Tz K mg) : Binds K (fdOf K (He.ga K "over")) ["one", "other"] [] := T.F_over.bindsN fun _ _ _ _ _ _ us hl => match us, hl with | [_, _], _ => rfl
theorem Tz.F_negative (T : Tz K mg) : FunD K "negative" "negative" (defArgs (top 16)) (defBody (top 16)) (defScope (top 16)) (d_negative.dvs K) [] (He.ga K "negative") (fdOf K (He.ga K "negative")) := T.c.def_ 8 (d := d_negative) rfl
theorem Tz.b_negative (T : Tz K mg) : Binds K (fdOf K (He.ga K "negative")) ["one"] [] := T.F_negative.bindsN fun _ _ _ _ _ _ us hl => match us, hl with | [_], _ => rfl
theorem Tz.F_compare (T : Tz K mg) : FunD K "compare" "compare" (defArgs (top 17)) (defBody (top 17)) (defScope (top 17)) (d_compare.dvs K) [] (He.ga K "compare") (fdOf K (He.ga K "compare")) := T.c.def_ 9 (d := d_compare) rfl
theorem Tz.b_compare (T : Tz K mg) : Binds K (fdOf K (He.ga K "compare")) ["one", "other"] [] := T.F_compare.bindsN fun _ _ _ _ _ _ us hl => match us, hl with | [_, _], _ => rfl
theorem Tz.F_sum_of (T : Tz K mg) : FunD K "sum_of" "sum_of" (defArgs (top 18)) (defBody (top 18)) (defScope (top 18)) (d_sum_of.dvs K) [] (He.ga K "sum_of") (fdOf K (He.ga K "sum_of")) := T.c.def_ 10 (d := d_sum_of) rfl
theorem Tz.b_sum_of (T : Tz K mg) : Binds K (fdOf K (He.ga K "sum_of")) ["ratios"] [] := T.F_sum_of.bindsN fun _ _ _ _ _ _ us hl => match us, hl with | [_], _ => rfl
theorem Tz.F_least_of (T : Tz K mg) : FunD K "least_of" "least_of" (defArgs (top 19)) (defBody (top 19)) (defScope (top 19)) (d_least_of.dvs K) [] (He.ga K "least_of") (fdOf K (He.ga K "least_of")) := T.c.def_ 11 (d := d_least_of) rfl
theorem Tz.b_least_of (T : Tz K mg) : Binds K (fdOf K (He.ga K "least_of")) ["ratios"] [] := T.F_least_of.bindsN fun _ _ _ _ _ _ us hl => match us, hl with | [_], _ => rfl
theorem Tz.F_greatest_of (T : Tz K mg) : FunD K "greatest_of" "greatest_of" (defArgs (top 20)) (defBody (top 20)) (defScope (top 20)) (d_greatest_of.dvs K) [] (He.ga K "greatest_of") (fdOf K (He.ga K "greatest_of")) := T.c.def_ 12 (d := d_greatest_of) rfl
theorem Tz.b_greatest_of (T : Tz K mg) : Binds K (fdOf K (He.ga K "greatest_of")) ["ratios"] [] := T.F_greatest_of.bindsN fun _ _ _ _ _ _ us hl => match us, hl with | [_], _ => rfl
theorem Tz.F_floor_of (T : Tz K mg) : FunD K "floor_of" "floor_of" (defArgs (top 21)) (defBody (top 21)) (defScope (top 21)) (d_floor_of.dvs K) [] (He.ga K "floor_of") (fdOf K (He.ga K "floor_of")) := T.c.def_ 13 (d := d_floor_of) rfl
theorem Tz.b_floor_of (T : Tz K mg) : Binds K (fdOf K (He.ga K "floor_of")) ["one"] [] := T.F_floor_of.bindsN fun _ _ _ _ _ _ us hl => match us, hl with | [_], _ => rfl
theorem Tz.F_broken_of (T : Tz K mg) : FunD K "broken_of" "broken_of" (defArgs (top 22)) (defBody (top 22)) (defScope (top 22)) (d_broken_of.dvs K) [] (He.ga K "broken_of") (fdOf K (He.ga K "broken_of")) := T.c.def_ 14 (d := d_broken_of) rfl
theorem Tz.b_broken_of (T : Tz K mg) : Binds K (fdOf K (He.ga K "broken_of")) ["one"] [] := T.F_broken_of.bindsN fun _ _ _ _ _ _ us hl => match us, hl with | [_], _ => rfl
theorem Tz.F__law_hand (T : Tz K mg) : FunD K "_law_hand" "_law_hand" (defArgs (top 24)) (defBody (top 24)) (defScope (top 24)) (d__law_hand.dvs K) [] (He.ga K "_law_hand") (fdOf K (He.ga K "_law_hand")) := T.c.def_ 15 (d := d__law_hand) rfl
theorem Tz.b__law_hand (T : Tz K mg) : Binds K (fdOf K (He.ga K "_law_hand")) ["_law_script"] [] := T.F__law_hand.bindsN fun _ _ _ _ _ _ us hl => match us, hl with | [_], _ => rfl
theorem Tz.F__law_mixed (T : Tz K mg) : FunD K "_law_mixed" "_law_mixed" (defArgs (top 25)) (defBody (top 25)) (defScope (top 25)) (d__law_mixed.dvs K) [] (He.ga K "_law_mixed") (fdOf K (He.ga K "_law_mixed")) := T.c.def_ 16 (d := d__law_mixed) rfl
theorem Tz.b__law_mixed (T : Tz K mg) : Binds K (fdOf K (He.ga K "_law_mixed")) ["_law_number", "_law_turn"] [] := T.F__law_mixed.bindsN fun _ _ _ _ _ _ us hl => match us, hl with | [_, _], _ => rfl
theorem Tz.F__law_take (T : Tz K mg) : FunD K "_law_take" "_law_take" (defArgs (top 26)) (defBody (top 26)) (defScope (top 26)) (d__law_take.dvs K) [] (He.ga K "_law_take") (fdOf K (He.ga K "_law_take")) := T.c.def_ 17 (d := d__law_take) rfl
theorem Tz.b__law_take (T : Tz K mg) : Binds K (fdOf K (He.ga K "_law_take")) ["_law_hand_here", "_law_many"] [] := T.F__law_take.bindsN fun _ _ _ _ _ _ us hl => match us, hl with | [_, _], _ => rfl
theorem Tz.F__law_common (T : Tz K mg) : FunD K "_law_common" "_law_common" (defArgs (top 27)) (defBody (top 27)) (defScope (top 27)) (d__law_common.dvs K) [] (He.ga K "_law_common") (fdOf K (He.ga K "_law_common")) := T.c.def_ 18 (d := d__law_common) rfl
theorem Tz.b__law_common (T : Tz K mg) : Binds K (fdOf K (He.ga K "_law_common")) ["_law_one", "_law_other"] [] := T.F__law_common.bindsN fun _ _ _ _ _ _ us hl => match us, hl with | [_, _], _ => rfl
theorem Tz.F__law_ratio (T : Tz K mg) : FunD K "_law_ratio" "_law_ratio" (defArgs (top 28)) (defBody (top 28)) (defScope (top 28)) (d__law_ratio.dvs K) [] (He.ga K "_law_ratio") (fdOf K (He.ga K "_law_ratio")) := T.c.def_ 19 (d := d__law_ratio) rfl
theorem Tz.b__law_ratio (T : Tz K mg) : Binds K (fdOf K (He.ga K "_law_ratio")) ["_law_top", "_law_bottom"] [] := T.F__law_ratio.bindsN fun _ _ _ _ _ _ us hl => match us, hl with | [_, _], _ => rfl
theorem Tz.F__law_tuples (T : Tz K mg) : FunD K "_law_tuples" "_law_tuples" (defArgs (top 29)) (defBody (top 29)) (defScope (top 29)) (d__law_tuples.dvs K) [] (He.ga K "_law_tuples") (fdOf K (He.ga K "_law_tuples")) := T.c.def_ 20 (d := d__law_tuples) rfl
theorem Tz.b__law_tuples (T : Tz K mg) : Binds K (fdOf K (He.ga K "_law_tuples")) ["_law_thing"] [] := T.F__law_tuples.bindsN fun _ _ _ _ _ _ us hl => match us, hl with | [_], _ => rfl
theorem Tz.F__law_drawn (T : Tz K mg) : FunD K "_law_drawn" "_law_drawn" (defArgs (top 30)) (defBody (top 30)) (defScope (top 30)) (d__law_drawn.dvs K) [] (He.ga K "_law_drawn") (fdOf K (He.ga K "_law_drawn")) := T.c.def_ 21 (d := d__law_drawn) rfl
theorem Tz.b__law_drawn (T : Tz K mg) : Binds K (fdOf K (He.ga K "_law_drawn")) ["_law_hand_here"] [] := T.F__law_drawn.bindsN fun _ _ _ _ _ _ us hl => match us, hl with | [_], _ => rfl
theorem Tz.F__law_made (T : Tz K mg) : FunD K "_law_made" "_law_made" (defArgs (top 31)) (defBody (top 31)) (defScope (top 31)) (d__law_made.dvs K) [] (He.ga K "_law_made") (fdOf K (He.ga K "_law_made")) := T.c.def_ 22 (d := d__law_made) rfl
theorem Tz.b__law_made (T : Tz K mg) : Binds K (fdOf K (He.ga K "_law_made")) ["_law_top", "_law_bottom"] [] := T.F__law_made.bindsN fun _ _ _ _ _ _ us hl => match us, hl with | [_, _], _ => rfl
theorem Tz.F__law_parted (T : Tz K mg) : FunD K "_law_parted" "_law_parted" (defArgs (top 32)) (defBody (top 32)) (defScope (top 32)) (d__law_parted.dvs K) [] (He.ga K "_law_parted") (fdOf K (He.ga K "_law_parted")) := T.c.def_ 23 (d := d__law_parted) rfl
theorem Tz.b__law_parted (T : Tz K mg) : Binds K (fdOf K (He.ga K "_law_parted")) ["_law_one", "_law_other"] [] := T.F__law_parted.bindsN fun _ _ _ _ _ _ us hl => match us, hl with | [_, _], _ => rfl
theorem Tz.F__law_signed (T : Tz K mg) : FunD K "_law_signed" "_law_signed" (defArgs (top 33)) (defBody (top 33)) (defScope (top 33)) (d__law_signed.dvs K) [] (He.ga K "_law_signed") (fdOf K (He.ga K "_law_signed")) := T.c.def_ 24 (d := d__law_signed) rfl
theorem Tz.b__law_signed (T : Tz K mg) : Binds K (fdOf K (He.ga K "_law_signed")) ["_law_top", "_law_bottom"] [] := T.F__law_signed.bindsN fun _ _ _ _ _ _ us hl => match us, hl with | [_, _], _ => rfl
theorem Tz.F__law_pair (T : Tz K mg) : FunD K "_law_pair" "_law_pair" (defArgs (top 34)) (defBody (top 34)) (defScope (top 34)) (d__law_pair.dvs K) [] (He.ga K "_law_pair") (fdOf K (He.ga K "_law_pair")) := T.c.def_ 25 (d := d__law_pair) rfl
theorem Tz.b__law_pair (T : Tz K mg) : Binds K (fdOf K (He.ga K "_law_pair")) ["_law_one", "_law_other"] [] := T.F__law_pair.bindsN fun _ _ _ _ _ _ us hl => match us, hl with | [_, _], _ => rfl
theorem Tz.F__law_rows (T : Tz K mg) : FunD K "_law_rows" "_law_rows" (defArgs (top 35)) (defBody (top 35)) (defScope (top 35)) (d__law_rows.dvs K) [] (He.ga K "_law_rows") (fdOf K (He.ga K "_law_rows")) := T.c.def_ 26 (d := d__law_rows) rfl
theorem Tz.b__law_rows (T : Tz K mg) : Binds K (fdOf K (He.ga K "_law_rows")) ["_law_rows_here"] [] := T.F__law_rows.bindsN fun _ _ _ _ _ _ us hl => match us, hl with | [_], _ => rfl
theorem Tz.F__law_odd_ones (T : Tz K mg) : FunD K "_law_odd_ones" "_law_odd_ones" (defArgs (top 36)) (defBody (top 36)) (defScope (top 36)) (d__law_odd_ones.dvs K) [] (He.ga K "_law_odd_ones") (fdOf K (He.ga K "_law_odd_ones")) := T.c.def_ 27 (d := d__law_odd_ones) rfl
theorem Tz.b__law_odd_ones (T : Tz K mg) : Binds K (fdOf K (He.ga K "_law_odd_ones")) ["_law_hand_here", "_law_one"] [] := T.F__law_odd_ones.bindsN fun _ _ _ _ _ _ us hl => match us, hl with | [_, _], _ => rfl
theorem Tz.F_law (T : Tz K mg) : FunD K "law" "law" (defArgs (top 37)) (defBody (top 37)) (defScope (top 37)) (d_law.dvs K) [] (He.ga K "law") (fdOf K (He.ga K "law")) := T.c.def_ 28 (d := d_law) rfl
theorem Tz.b_law (T : Tz K mg) : Binds K (fdOf K (He.ga K "law")) ["_law_script"] [] := T.F_law.bindsN fun _ _ _ _ _ _ us hl => match us, hl with | [_], _ => rfl
theorem Tz.bd_is_whole_1 (T : Tz K mg) : ∃ ds, Vals ((d_is_whole.dvs K).drop 0) ds ∧ Binds K (fdOf K (He.ga K "is_whole")) ["thing", "low", "high"] ds := T.F_is_whole.binds1 1 0 (by exact fun z => nomatch z) rfl fun _ _ _ _ _ _ _ us its hl hi => match us, its, hl, hi with | [_], [_, _], _, _ => ⟨_, rfl, rfl⟩
theorem Tz.bd_is_whole_2 (T : Tz K mg) : ∃ ds, Vals ((d_is_whole.dvs K).drop 1) ds ∧ Binds K (fdOf K (He.ga K "is_whole")) ["thing", "low", "high"] ds := T.F_is_whole.binds1 2 1 (by exact fun z => nomatch z) rfl fun _ _ _ _ _ _ _ us its hl hi => match us, its, hl, hi with | [_, _], [_, _], _, _ => ⟨_, rfl, rfl⟩
theorem Tz.bd_is_whole_3 (T : Tz K mg) : ∃ ds, Vals ((d_is_whole.dvs K).drop 2) ds ∧ Binds K (fdOf K (He.ga K "is_whole")) ["thing", "low", "high"] ds := T.F_is_whole.binds1 3 2 (by exact fun z => nomatch z) rfl fun _ _ _ _ _ _ _ us its hl hi => match us, its, hl, hi with | [_, _, _], [_, _], _, _ => ⟨_, rfl, rfl⟩
theorem Tz.bd_make_ratio_1 (T : Tz K mg) : ∃ ds, Vals ((d_make_ratio.dvs K).drop 0) ds ∧ Binds K (fdOf K (He.ga K "make_ratio")) ["top", "bottom"] ds := T.F_make_ratio.binds1 1 0 (by exact fun z => nomatch z) rfl fun _ _ _ _ _ _ _ us its hl hi => match us, its, hl, hi with | [_], [_], _, _ => ⟨_, rfl, rfl⟩
theorem Tz.bd_make_ratio_2 (T : Tz K mg) : ∃ ds, Vals ((d_make_ratio.dvs K).drop 1) ds ∧ Binds K (fdOf K (He.ga K "make_ratio")) ["top", "bottom"] ds := T.F_make_ratio.binds1 2 1 (by exact fun z => nomatch z) rfl fun _ _ _ _ _ _ _ us its hl hi => match us, its, hl, hi with | [_, _], [_], _, _ => ⟨_, rfl, rfl⟩
theorem Tz.kb_is_whole_1_high (T : Tz K mg) : ∃ its : List Value, KBn K (fdOf K (He.ga K "is_whole")) ["thing", "low", "high"] 1 ["high"] (fun us ws => arr [.p 0, .d 0, .k 0] us ws its) (fun vs zs => arr [.p 0, .d 0, .k 0] vs zs (d_is_whole.dvs K)) := kb1 T.F_is_whole 1 ["high"] [.p 0, .d 0, .k 0] (by exact fun z => nomatch z) fun _ _ _ _ _ _ _ us its ws h1 h2 h3 => match us, its, ws, h1, h2, h3 with | [_], [_, _], [_], _, _, _ => ⟨_, rfl, rfl⟩
theorem Tz.kb_is_whole_1_low_high (T : Tz K mg) : ∃ its : List Value, KBn K (fdOf K (He.ga K "is_whole")) ["thing", "low", "high"] 1 ["low", "high"] (fun us ws => arr [.p 0, .k 0, .k 1] us ws its) (fun vs zs => arr [.p 0, .k 0, .k 1] vs zs (d_is_whole.dvs K)) := kb1 T.F_is_whole 1 ["low", "high"] [.p 0, .k 0, .k 1] (by exact fun z => nomatch z) fun _ _ _ _ _ _ _ us its ws h1 h2 h3 => match us, its, ws, h1, h2, h3 with | [_], [_, _], [_, _], _, _, _ => ⟨_, rfl, rfl⟩
theorem Tz.kb_make_ratio_1_bottom (T : Tz K mg) : ∃ its : List Value, KBn K (fdOf K (He.ga K "make_ratio")) ["top", "bottom"] 1 ["bottom"] (fun us ws => arr [.p 0, .k 0] us ws its) (fun vs zs => arr [.p 0, .k 0] vs zs (d_make_ratio.dvs K)) := kb1 T.F_make_ratio 1 ["bottom"] [.p 0, .k 0] (by exact fun z => nomatch z) fun _ _ _ _ _ _ _ us its ws h1 h2 h3 => match us, its, ws, h1, h2, h3 with | [_], [_], [_], _, _, _ => ⟨_, rfl, rfl⟩
theorem Tz.iF_BadRatio (T : Tz K mg) : FunD K "__init__" "BadRatio.__init__" (defArgs (meth (top 3) 0)) (defBody (meth (top 3) 0)) (defScope (meth (top 3) 0)) [] [] (He.ma K (He.ga K "BadRatio") "__init__") (fdOf K (He.ma K (He.ga K "BadRatio") "__init__")) := T.c.def_ 29 (d := d_ini_BadRatio) rfl
theorem Tz.ib_BadRatio (T : Tz K mg) : Binds K (fdOf K (He.ma K (He.ga K "BadRatio") "__init__")) ["self", "what"] [] := T.iF_BadRatio.bindsN fun _ _ _ _ _ _ us hl => match us, hl with | [_, _], _ => rfl
theorem Tz.ini_BadRatio {P : Program} {w : World} {base : Heap} (T : Tz K mg) : FnOk P w K mg base CX0 1 (He.ma K (He.ga K "BadRatio") "__init__") (fdOf K (He.ma K (He.ga K "BadRatio") "__init__")) ["self", "what"] (spInit (He.ga K "BadRatio") ["what"]) := init1 T.iF_BadRatio ⟨rfl, rfl, rfl, by decide +kernel, rfl, by decide +kernel, by decide +kernel⟩ (fx_oex (T.c.fact 10)) (fx_nof (T.c.fact 9))
def tabL : List (Str × Str × Bool) := [("BadRatio", "BadRatio", true), ("BadRatio", "ParcelError", true)]
def tabX : XTab := xtab tabL
theorem Tz.exm (T : Tz K mg) {h : Str} {Ch : Addr} (hh : mg h = some (.ref Ch)) : ∀ cn C b, tabX cn h = some b → mg cn = some (.ref C) → PySem.W.exmOne K (.ref C) (.ref Ch) = some b := by
  intro cn C b e g
  have m := xtab_mem e
  unfold tabL at m
  simp only [List.mem_cons, List.not_mem_nil, or_false, Prod.mk.injEq] at m
  rcases m with ⟨rfl, rfl, rfl⟩ | ⟨rfl, rfl, rfl⟩
  · have q1 := g.symm.trans (T.glo (T.c.fact 12))
    have q2 := hh.symm.trans (T.glo (T.c.fact 12))
    cases q1
    cases q2
    exact fx_exm (T.c.fact 50)
  · have q1 := g.symm.trans (T.glo (T.c.fact 12))
    have q2 := hh.symm.trans (T.glo (T.c.fact 26))
    cases q1
    cases q2
    exact fx_exm (T.c.fact 51)
end
end Kx

set_option Elab.async false
set_option linter.all false
set_option maxRecDepth 100000
set_option maxHeartbeats 400000
namespace Kx
open PySem PySem.Spec PyProof.Rows L2 Ev
section
variable {P : Program} {w : World} {K : PySem.W.Frag} {mg : Str → Option Value} {base : Heap}
/-! is_whole -/
abbrev N_is_whole : List Str := ["thing", "low", "high"]
theorem sc_is_whole : FnScope N_is_whole ["thing", "low", "high"] (defScope (top 8)) := ⟨rfl, rfl, rfl, by decide +kernel, rfl, by decide +kernel, by decide +kernel⟩
noncomputable def den_is_whole : DenS := dSeq (dIfS (dOrT (dTru (dLV (dIsi ["bool"] (dSlot 0)))) (dNotT (dTru (dLV (dIsi ["int"] (dSlot 0)))))) (dRet (dVal (dC (.bl false)))) (dSkip)) (dRet (dVal (dAndV (dOrV (dFrz (dBin gIs (dSlot 1) (dLV (dC .non)))) (dFrz (dBin gGe (dSlot 0) (dSlot 1)))) (dOrV (dFrz (dBin gIs (dSlot 2) (dLV (dC .non)))) (dFrz (dBin gLe (dSlot 0) (dSlot 2)))))))
noncomputable def fn_is_whole : Fn := mkFn 3 3 den_is_whole
theorem fn_is_whole_len (args : List Ent) (h : args.length ≠ 3) : fn_is_whole args = .bad := mkFn_len args h
theorem ok_is_whole (T : Tz K mg) : FnOk P w K mg base (L2.CX P w) 1 (He.ga K "is_whole") (fdOf K (He.ga K "is_whole")) ["thing", "low", "high"] (spOf K mg [] 3 fn_is_whole) := by
  refine fn_ok (N := N_is_whole) (np := 3) (k := 0) (R := []) T.F_is_whole sc_is_whole rfl (f := den_is_whole) (fun cdv A outer s H E hr => ?_)
  have tk : Takes (cxOf (L2.CX P w) P w K mg base N_is_whole "is_whole" (defScope (top 8)) (He.ga K "is_whole") cdv A outer s H E) (fun cls d _ H => E cls d H) := takes_of rfl rfl rfl rfl
  have hp := passes_of (X := cxOf (L2.CX P w) P w K mg base N_is_whole "is_whole" (defScope (top 8)) (He.ga K "is_whole") cdv A outer s H E) rfl
  exact sCons (sIfS (sWT (sOrT (sTru rfl (sLV (sIsi rfl rfl (T.free (T.c.fact 1)) bt_isinstance (sSlot (pe_var (i := 0) rfl (.inl rfl))) (pe_bltn rfl (T.free (T.c.fact 2)) bt_bool rfl) rfl))) (sOrT1 (sNotT (sTru rfl (sLV (sIsi rfl rfl (T.free (T.c.fact 1)) bt_isinstance (sSlot (pe_var (i := 0) rfl (.inl rfl))) (pe_bltn rfl (T.free (T.c.fact 3)) bt_int rfl) rfl))))))) (sOne (sRet (sVal (sBl)))) (sNil)) (sOne (sRet (sVal (sAndV (sOrV (sFrz (sCmp op_isE sv_is (sSlot (pe_var (i := 1) rfl (.inl rfl))) (sLV (sNon)) (nomark _))) (sOneV (sFrz (sCmp op_ge sv_ge (sSlot (pe_var (i := 0) rfl (.inl rfl))) (sSlot (pe_var (i := 1) rfl (.inl rfl))) (nomark _))))) (sOneV (sOrV (sFrz (sCmp op_isE sv_is (sSlot (pe_var (i := 2) rfl (.inl rfl))) (sLV (sNon)) (nomark _))) (sOneV (sFrz (sCmp op_le sv_le (sSlot (pe_var (i := 0) rfl (.inl rfl))) (sSlot (pe_var (i := 2) rfl (.inl rfl))) (nomark _))))))))))
/-! in_lowest -/
abbrev N_in_lowest : List Str := ["top", "bottom", "common"]
theorem sc_in_lowest : FnScope N_in_lowest ["top", "bottom"] (defScope (top 10)) := ⟨rfl, rfl, rfl, by decide +kernel, rfl, by decide +kernel, by decide +kernel⟩
noncomputable def den_in_lowest : DenS := dSeq (dSet 2 (dCB gGcd (dArs [dSlot 0, dSlot 1]))) (dSeq (dIfS (dTB (dBin gLt (dSlot 1) (dLV (dC (.int 0))))) (dSet 2 (dVal (dNeg (dVar 2)))) (dSkip)) (dRet (dVal (dTup [dFrz (dBin gDiv (dSlot 0) (dSlot 2)), dFrz (dBin gDiv (dSlot 1) (dSlot 2))]))))
noncomputable def fn_in_lowest : Fn := mkFn 2 3 den_in_lowest
theorem fn_in_lowest_len (args : List Ent) (h : args.length ≠ 2) : fn_in_lowest args = .bad := mkFn_len args h
theorem ok_in_lowest (T : Tz K mg) : FnOk P w K mg base (L2.CX P w) 1 (He.ga K "in_lowest") (fdOf K (He.ga K "in_lowest")) ["top", "bottom"] (spOf K mg [] 2 fn_in_lowest) := by
  refine fn_ok (N := N_in_lowest) (np := 2) (k := 0) (R := []) T.F_in_lowest sc_in_lowest rfl (f := den_in_lowest) (fun cdv A outer s H E hr => ?_)
  have tk : Takes (cxOf (L2.CX P w) P w K mg base N_in_lowest "in_lowest" (defScope (top 10)) (He.ga K "in_lowest") cdv A outer s H E) (fun cls d _ H => E cls d H) := takes_of rfl rfl rfl rfl
  have hp := passes_of (X := cxOf (L2.CX P w) P w K mg base N_in_lowest "in_lowest" (defScope (top 10)) (He.ga K "in_lowest") cdv A outer s H E) rfl
  exact sCons (sSet (i := 2) (nR rfl) (sCG cr_gcd sv_gcd rfl (T.fun_ (T.c.fact 8)) (sArCons (sSlot (pe_var (i := 0) rfl (.inl rfl))) (sArCons (sSlot (pe_var (i := 1) rfl (.inl rfl))) (sArNil)))) sc_in_lowest.nd rfl (.inl rfl)) (sCons (sIfS (sCmpT op_lt sv_lt (sSlot (pe_var (i := 1) rfl (.inl rfl))) (sLV (sInt)) (nomark _)) (sOne (sSet (i := 2) (nR rfl) (sVal (sNeg (sVar (pe_var (i := 2) rfl (.inl rfl))))) sc_in_lowest.nd rfl (.inl rfl))) (sNil)) (sOne (sRet (sVal (sTup (sVsCons (sFrz (sBin op_fdivX sv_div (sSlot (pe_var (i := 0) rfl (.inl rfl))) (sSlot (pe_var (i := 2) rfl (.inl rfl))))) (sVsCons (sFrz (sBin op_fdivX sv_div (sSlot (pe_var (i := 1) rfl (.inl rfl))) (sSlot (pe_var (i := 2) rfl (.inl rfl))))) (sVsNil))))))))
/-! negative -/
abbrev N_negative : List Str := ["one"]
theorem sc_negative : FnScope N_negative ["one"] (defScope (top 16)) := ⟨rfl, rfl, rfl, by decide +kernel, rfl, by decide +kernel, by decide +kernel⟩
noncomputable def den_negative : DenS := dRet (dVal (dTup [dNeg (dFrz (dBin gIx (dSlot 0) (dLV (dC (.int 0))))), dFrz (dBin gIx (dSlot 0) (dLV (dC (.int 1))))]))
noncomputable def fn_negative : Fn := mkFn 1 1 den_negative
theorem fn_negative_len (args : List Ent) (h : args.length ≠ 1) : fn_negative args = .bad := mkFn_len args h
theorem ok_negative (T : Tz K mg) : FnOk P w K mg base (L2.CX P w) 1 (He.ga K "negative") (fdOf K (He.ga K "negative")) ["one"] (spOf K mg [] 1 fn_negative) := by
  refine fn_ok (N := N_negative) (np := 1) (k := 0) (R := []) T.F_negative sc_negative rfl (f := den_negative) (fun cdv A outer s H E hr => ?_)
  have tk : Takes (cxOf (L2.CX P w) P w K mg base N_negative "negative" (defScope (top 16)) (He.ga K "negative") cdv A outer s H E) (fun cls d _ H => E cls d H) := takes_of rfl rfl rfl rfl
  have hp := passes_of (X := cxOf (L2.CX P w) P w K mg base N_negative "negative" (defScope (top 16)) (He.ga K "negative") cdv A outer s H E) rfl
  exact sOne (sRet (sVal (sTup (sVsCons (sNeg (sFrz (sIx rfl (sSlot (pe_var (i := 0) rfl (.inl rfl))) (sLV (sInt))))) (sVsCons (sFrz (sIx rfl (sSlot (pe_var (i := 0) rfl (.inl rfl))) (sLV (sInt)))) (sVsNil))))))
/-! compare -/
abbrev N_compare : List Str := ["one", "other", "gap"]
theorem sc_compare : FnScope N_compare ["one", "other"] (defScope (top 17)) := ⟨rfl, rfl, rfl, by decide +kernel, rfl, by decide +kernel, by decide +kernel⟩
noncomputable def den_compare : DenS := dSeq (dSet 2 (dBin gSub (dLV (dFrz (dBin gMul (dLV (dFrz (dBin gIx (dSlot 0) (dLV (dC (.int 0)))))) (dLV (dFrz (dBin gIx (dSlot 1) (dLV (dC (.int 1))))))))) (dLV (dFrz (dBin gMul (dLV (dFrz (dBin gIx (dSlot 1) (dLV (dC (.int 0)))))) (dLV (dFrz (dBin gIx (dSlot 0) (dLV (dC (.int 1))))))))))) (dSeq (dIfS (dTB (dBin gEq (dSlot 2) (dLV (dC (.int 0))))) (dRet (dVal (dC (.int 0)))) (dSkip)) (dRet (dIfF (dTB (dBin gLt (dSlot 2) (dLV (dC (.int 0))))) (dVal (dNeg (dC (.int 1)))) (dVal (dC (.int 1))))))
noncomputable def fn_compare : Fn := mkFn 2 3 den_compare
theorem fn_compare_len (args : List Ent) (h : args.length ≠ 2) : fn_compare args = .bad := mkFn_len args h
theorem ok_compare (T : Tz K mg) : FnOk P w K mg base (L2.CX P w) 1 (He.ga K "compare") (fdOf K (He.ga K "compare")) ["one", "other"] (spOf K mg [] 2 fn_compare) := by
  refine fn_ok (N := N_compare) (np := 2) (k := 0) (R := []) T.F_compare sc_compare rfl (f := den_compare) (fun cdv A outer s H E hr => ?_)
  have tk : Takes (cxOf (L2.CX P w) P w K mg base N_compare "compare" (defScope (top 17)) (He.ga K "compare") cdv A outer s H E) (fun cls d _ H => E cls d H) := takes_of rfl rfl rfl rfl
  have hp := passes_of (X := cxOf (L2.CX P w) P w K mg base N_compare "compare" (defScope (top 17)) (He.ga K "compare") cdv A outer s H E) rfl
  exact sCons (sSet (i := 2) (nR rfl) (sBin op_sub sv_sub (sLV (sFrz (sBin op_mulE sv_mul (sLV (sFrz (sIx rfl (sSlot (pe_var (i := 0) rfl (.inl rfl))) (sLV (sInt))))) (sLV (sFrz (sIx rfl (sSlot (pe_var (i := 1) rfl (.inl rfl))) (sLV (sInt)))))))) (sLV (sFrz (sBin op_mulE sv_mul (sLV (sFrz (sIx rfl (sSlot (pe_var (i := 1) rfl (.inl rfl))) (sLV (sInt))))) (sLV (sFrz (sIx rfl (sSlot (pe_var (i := 0) rfl (.inl rfl))) (sLV (sInt))))))))) sc_compare.nd rfl (.inl rfl)) (sCons (sIfS (sCmpT (op_eqD hr.units) sv_eq (sSlot (pe_var (i := 2) rfl (.inl rfl))) (sLV (sInt)) (nomark _)) (sOne (sRet (sVal (sInt)))) (sNil)) (sOne (sRet (sIfF (sCmpT op_lt sv_lt (sSlot (pe_var (i := 2) rfl (.inl rfl))) (sLV (sInt)) (nomark _)) (sVal (sNeg (sInt))) (sVal (sInt))))))
/-! floor_of -/
abbrev N_floor_of : List Str := ["one"]
theorem sc_floor_of : FnScope N_floor_of ["one"] (defScope (top 21)) := ⟨rfl, rfl, rfl, by decide +kernel, rfl, by decide +kernel, by decide +kernel⟩
noncomputable def den_floor_of : DenS := dRet (dBin gDiv (dLV (dFrz (dBin gIx (dSlot 0) (dLV (dC (.int 0)))))) (dLV (dFrz (dBin gIx (dSlot 0) (dLV (dC (.int 1)))))))
noncomputable def fn_floor_of : Fn := mkFn 1 1 den_floor_of
theorem fn_floor_of_len (args : List Ent) (h : args.length ≠ 1) : fn_floor_of args = .bad := mkFn_len args h
theorem ok_floor_of (T : Tz K mg) : FnOk P w K mg base (L2.CX P w) 1 (He.ga K "floor_of") (fdOf K (He.ga K "floor_of")) ["one"] (spOf K mg [] 1 fn_floor_of) := by
  refine fn_ok (N := N_floor_of) (np := 1) (k := 0) (R := []) T.F_floor_of sc_floor_of rfl (f := den_floor_of) (fun cdv A outer s H E hr => ?_)
  have tk : Takes (cxOf (L2.CX P w) P w K mg base N_floor_of "floor_of" (defScope (top 21)) (He.ga K "floor_of") cdv A outer s H E) (fun cls d _ H => E cls d H) := takes_of rfl rfl rfl rfl
  have hp := passes_of (X := cxOf (L2.CX P w) P w K mg base N_floor_of "floor_of" (defScope (top 21)) (He.ga K "floor_of") cdv A outer s H E) rfl
  exact sOne (sRet (sBin op_fdivX sv_div (sLV (sFrz (sIx rfl (sSlot (pe_var (i := 0) rfl (.inl rfl))) (sLV (sInt))))) (sLV (sFrz (sIx rfl (sSlot (pe_var (i := 0) rfl (.inl rfl))) (sLV (sInt)))))))
/-! broken_of -/
abbrev N_broken_of : List Str := ["one"]
theorem sc_broken_of : FnScope N_broken_of ["one"] (defScope (top 22)) := ⟨rfl, rfl, rfl, by decide +kernel, rfl, by decide +kernel, by decide +kernel⟩
noncomputable def den_broken_of : DenS := dRet (dVal (dTup [dFrz (dBin gSub (dLV (dFrz (dBin gIx (dSlot 0) (dLV (dC (.int 0)))))) (dLV (dFrz (dBin gMul (dLV (dFrz (dBin gDiv (dLV (dFrz (dBin gIx (dSlot 0) (dLV (dC (.int 0)))))) (dLV (dFrz (dBin gIx (dSlot 0) (dLV (dC (.int 1))))))))) (dLV (dFrz (dBin gIx (dSlot 0) (dLV (dC (.int 1)))))))))), dFrz (dBin gIx (dSlot 0) (dLV (dC (.int 1))))]))
noncomputable def fn_broken_of : Fn := mkFn 1 1 den_broken_of
theorem fn_broken_of_len (args : List Ent) (h : args.length ≠ 1) : fn_broken_of args = .bad := mkFn_len args h
theorem ok_broken_of (T : Tz K mg) : FnOk P w K mg base (L2.CX P w) 1 (He.ga K "broken_of") (fdOf K (He.ga K "broken_of")) ["one"] (spOf K mg [] 1 fn_broken_of) := by
  refine fn_ok (N := N_broken_of) (np := 1) (k := 0) (R := []) T.F_broken_of sc_broken_of rfl (f := den_broken_of) (fun cdv A outer s H E hr => ?_)
  have tk : Takes (cxOf (L2.CX P w) P w K mg base N_broken_of "broken_of" (defScope (top 22)) (He.ga K "broken_of") cdv A outer s H E) (fun cls d _ H => E cls d H) := takes_of rfl rfl rfl rfl
  have hp := passes_of (X := cxOf (L2.CX P w) P w K mg base N_broken_of "broken_of" (defScope (top 22)) (He.ga K "broken_of") cdv A outer s H E) rfl
  exact sOne (sRet (sVal (sTup (sVsCons (sFrz (sBin op_sub sv_sub (sLV (sFrz (sIx rfl (sSlot (pe_var (i := 0) rfl (.inl rfl))) (sLV (sInt))))) (sLV (sFrz (sBin op_mulE sv_mul (sLV (sFrz (sBin op_fdivX sv_div (sLV (sFrz (sIx rfl (sSlot (pe_var (i := 0) rfl (.inl rfl))) (sLV (sInt))))) (sLV (sFrz (sIx rfl (sSlot (pe_var (i := 0) rfl (.inl rfl))) (sLV (sInt)))))))) (sLV (sFrz (sIx rfl (sSlot (pe_var (i := 0) rfl (.inl rfl))) (sLV (sInt)))))))))) (sVsCons (sFrz (sIx rfl (sSlot (pe_var (i := 0) rfl (.inl rfl))) (sLV (sInt)))) (sVsNil))))))
/-! _law_hand -/
abbrev N__law_hand : List Str := ["_law_script", "_law_total", "_law_cells", "_law_cell"]
theorem sc__law_hand : FnScope N__law_hand ["_law_script"] (defScope (top 24)) := ⟨rfl, rfl, rfl, by decide +kernel, rfl, by decide +kernel, by decide +kernel⟩
noncomputable def bd__law_hand_1 : DenS := dSeq (dSet 1 (dBin gMod (dLV (dFrz (dCB gInt (dArs [dLV (dFrz (dBin gAdd (dLV (dFrz (dBin gMul (dSlot 1) (dLV (dC (.int 1103)))))) (dLV (dFrz (dCB gInt (dArs [dSlot 3]))))))])))) (dLV (dC (.int 2147483549))))) (dExp (dApp 2 (dFrz (dCB gAbs (dArs [dLV (dFrz (dCB gInt (dArs [dSlot 3])))])))))
noncomputable def den__law_hand : DenS := dSeq (dSet 1 (dBin gAdd (dLV (dFrz (dBin gMul (dLV (dC (.int 3))) (dLV (dFrz (dCB gLen (dArs [dSlot 0]))))))) (dLV (dC (.int 71))))) (dSeq (dSet 2 (dLst [])) (dSeq (dFor (asN 3) (dIt (dVar 0)) (bd__law_hand_1)) (dRet (dLst [dVar 2, dC (.int 0), dC (.int 0), dVar 1]))))
noncomputable def fn__law_hand : Fn := mkFn 1 4 den__law_hand
theorem fn__law_hand_len (args : List Ent) (h : args.length ≠ 1) : fn__law_hand args = .bad := mkFn_len args h
theorem ok__law_hand (T : Tz K mg) : FnOk P w K mg base (L2.CX P w) 1 (He.ga K "_law_hand") (fdOf K (He.ga K "_law_hand")) ["_law_script"] (spOf K mg [] 1 fn__law_hand) := by
  refine fn_ok (N := N__law_hand) (np := 1) (k := 0) (R := []) T.F__law_hand sc__law_hand rfl (f := den__law_hand) (fun cdv A outer s H E hr => ?_)
  have tk : Takes (cxOf (L2.CX P w) P w K mg base N__law_hand "_law_hand" (defScope (top 24)) (He.ga K "_law_hand") cdv A outer s H E) (fun cls d _ H => E cls d H) := takes_of rfl rfl rfl rfl
  have hp := passes_of (X := cxOf (L2.CX P w) P w K mg base N__law_hand "_law_hand" (defScope (top 24)) (He.ga K "_law_hand") cdv A outer s H E) rfl
  exact sCons (sSet (i := 1) (nR rfl) (sBin op_addE sv_add (sLV (sFrz (sBin op_mulE sv_mul (sLV (sInt)) (sLV (sFrz (sCB call_lenE sv_len rfl (T.free (T.c.fact 6)) bt_len (sArCons (sSlot (pe_var (i := 0) rfl (.inl rfl))) (sArNil)))))))) (sLV (sInt))) sc__law_hand.nd rfl (.inl rfl)) (sCons (sSet (i := 2) (nR rfl) (sLst (sVsNil)) sc__law_hand.nd rfl (.inl rfl)) (sCons (sFor (own := [3]) hp rfl (sIt rfl (sVar (pe_var (i := 0) rfl (.inl rfl)))) (gN (i := 3) (by decide) (nR rfl) sc__law_hand.nd rfl (.inl rfl)) (sCons (sSet (i := 1) (nR rfl) (sBin op_modN sv_mod (sLV (sFrz (sCT call_int1 sv_int rfl (T.free (T.c.fact 3)) bt_int (sArCons (sLV (sFrz (sBin op_addE sv_add (sLV (sFrz (sBin op_mulE sv_mul (sSlot (pe_var (i := 1) rfl (.inl rfl))) (sLV (sInt))))) (sLV (sFrz (sCT call_int1 sv_int rfl (T.free (T.c.fact 3)) bt_int (sArCons (sSlot (pe_var (i := 3) rfl (.inl rfl))) (sArNil)))))))) (sArNil))))) (sLV (sInt))) sc__law_hand.nd rfl (.inl rfl)) (sOne (sExp (sApp rfl (pe_var (i := 2) rfl (.inl rfl)) (sFrz (sCB call_abs sv_abs rfl (T.free (T.c.fact 18)) bt_abs (sArCons (sLV (sFrz (sCT call_int1 sv_int rfl (T.free (T.c.fact 3)) bt_int (sArCons (sSlot (pe_var (i := 3) rfl (.inl rfl))) (sArNil))))) (sArNil))))))))) (sOne (sRet (sLst (sVsCons (sVar (pe_var (i := 2) rfl (.inl rfl))) (sVsCons (sInt) (sVsCons (sInt) (sVsCons (sVar (pe_var (i := 1) rfl (.inl rfl))) (sVsNil))))))))))
/-! _law_mixed -/
abbrev N__law_mixed : List Str := ["_law_number", "_law_turn", "_law_once", "_law_twice"]
theorem sc__law_mixed : FnScope N__law_mixed ["_law_number", "_law_turn"] (defScope (top 25)) := ⟨rfl, rfl, rfl, by decide +kernel, rfl, by decide +kernel, by decide +kernel⟩
noncomputable def den__law_mixed : DenS := dSeq (dSet 2 (dBin gMod (dLV (dFrz (dCB gInt (dArs [dLV (dFrz (dBin gAdd (dLV (dFrz (dBin gAdd (dLV (dFrz (dBin gMul (dSlot 0) (dLV (dC (.int 48271)))))) (dLV (dFrz (dBin gMul (dSlot 1) (dLV (dC (.int 10007))))))))) (dLV (dC (.int 30011)))))])))) (dLV (dC (.int 2147483647))))) (dSeq (dSet 3 (dBin gMod (dLV (dFrz (dCB gInt (dArs [dLV (dFrz (dBin gAdd (dLV (dFrz (dBin gAdd (dLV (dFrz (dBin gMul (dSlot 2) (dSlot 2)))) (dLV (dFrz (dBin gMul (dSlot 1) (dLV (dC (.int 92821))))))))) (dLV (dFrz (dBin gDiv (dSlot 2) (dLV (dC (.int 257))))))))])))) (dLV (dC (.int 2147483629))))) (dRet (dBin gDiv (dLV (dFrz (dCB gInt (dArs [dLV (dFrz (dBin gMod (dLV (dFrz (dCB gInt (dArs [dLV (dFrz (dBin gAdd (dLV (dFrz (dBin gMul (dSlot 3) (dLV (dC (.int 69621)))))) (dLV (dFrz (dBin gDiv (dSlot 2) (dLV (dC (.int 11))))))))])))) (dLV (dC (.int 2147483587)))))])))) (dLV (dC (.int 64))))))
noncomputable def fn__law_mixed : Fn := mkFn 2 4 den__law_mixed
theorem fn__law_mixed_len (args : List Ent) (h : args.length ≠ 2) : fn__law_mixed args = .bad := mkFn_len args h
theorem ok__law_mixed (T : Tz K mg) : FnOk P w K mg base (L2.CX P w) 1 (He.ga K "_law_mixed") (fdOf K (He.ga K "_law_mixed")) ["_law_number", "_law_turn"] (spOf K mg [] 2 fn__law_mixed) := by
  refine fn_ok (N := N__law_mixed) (np := 2) (k := 0) (R := []) T.F__law_mixed sc__law_mixed rfl (f := den__law_mixed) (fun cdv A outer s H E hr => ?_)
  have tk : Takes (cxOf (L2.CX P w) P w K mg base N__law_mixed "_law_mixed" (defScope (top 25)) (He.ga K "_law_mixed") cdv A outer s H E) (fun cls d _ H => E cls d H) := takes_of rfl rfl rfl rfl
  have hp := passes_of (X := cxOf (L2.CX P w) P w K mg base N__law_mixed "_law_mixed" (defScope (top 25)) (He.ga K "_law_mixed") cdv A outer s H E) rfl
  exact sCons (sSet (i := 2) (nR rfl) (sBin op_modN sv_mod (sLV (sFrz (sCT call_int1 sv_int rfl (T.free (T.c.fact 3)) bt_int (sArCons (sLV (sFrz (sBin op_addE sv_add (sLV (sFrz (sBin op_addE sv_add (sLV (sFrz (sBin op_mulE sv_mul (sSlot (pe_var (i := 0) rfl (.inl rfl))) (sLV (sInt))))) (sLV (sFrz (sBin op_mulE sv_mul (sSlot (pe_var (i := 1) rfl (.inl rfl))) (sLV (sInt)))))))) (sLV (sInt))))) (sArNil))))) (sLV (sInt))) sc__law_mixed.nd rfl (.inl rfl)) (sCons (sSet (i := 3) (nR rfl) (sBin op_modN sv_mod (sLV (sFrz (sCT call_int1 sv_int rfl (T.free (T.c.fact 3)) bt_int (sArCons (sLV (sFrz (sBin op_addE sv_add (sLV (sFrz (sBin op_addE sv_add (sLV (sFrz (sBin op_mulE sv_mul (sSlot (pe_var (i := 2) rfl (.inl rfl))) (sSlot (pe_var (i := 2) rfl (.inl rfl)))))) (sLV (sFrz (sBin op_mulE sv_mul (sSlot (pe_var (i := 1) rfl (.inl rfl))) (sLV (sInt)))))))) (sLV (sFrz (sBin op_fdivX sv_div (sSlot (pe_var (i := 2) rfl (.inl rfl))) (sLV (sInt)))))))) (sArNil))))) (sLV (sInt))) sc__law_mixed.nd rfl (.inl rfl)) (sOne (sRet (sBin op_fdivX sv_div (sLV (sFrz (sCT call_int1 sv_int rfl (T.free (T.c.fact 3)) bt_int (sArCons (sLV (sFrz (sBin op_modN sv_mod (sLV (sFrz (sCT call_int1 sv_int rfl (T.free (T.c.fact 3)) bt_int (sArCons (sLV (sFrz (sBin op_addE sv_add (sLV (sFrz (sBin op_mulE sv_mul (sSlot (pe_var (i := 3) rfl (.inl rfl))) (sLV (sInt))))) (sLV (sFrz (sBin op_fdivX sv_div (sSlot (pe_var (i := 2) rfl (.inl rfl))) (sLV (sInt)))))))) (sArNil))))) (sLV (sInt))))) (sArNil))))) (sLV (sInt))))))
/-! _law_common -/
abbrev N__law_common : List Str := ["_law_one", "_law_other"]
theorem sc__law_common : FnScope N__law_common ["_law_one", "_law_other"] (defScope (top 27)) := ⟨rfl, rfl, rfl, by decide +kernel, rfl, by decide +kernel, by decide +kernel⟩
noncomputable def cd__law_common_1 : DenT := dTB (dBin gGt (dSlot 1) (dLV (dC (.int 0))))
noncomputable def bd__law_common_2 : DenS := dPar 0 1 (dVs [dVar 1, dFrz (dBin gMod (dLV (dFrz (dCB gInt (dArs [dSlot 0])))) (dSlot 1))])
noncomputable def den__law_common : DenS := dSeq (dSet 0 (dCB gAbs (dArs [dSlot 0]))) (dSeq (dSet 1 (dCB gAbs (dArs [dSlot 1]))) (dSeq (dWhile (cd__law_common_1) (bd__law_common_2)) (dRet (dMove 0))))
noncomputable def fn__law_common : Fn := mkFn 2 2 den__law_common
theorem fn__law_common_len (args : List Ent) (h : args.length ≠ 2) : fn__law_common args = .bad := mkFn_len args h
theorem ok__law_common (T : Tz K mg) : FnOk P w K mg base (L2.CX P w) 1 (He.ga K "_law_common") (fdOf K (He.ga K "_law_common")) ["_law_one", "_law_other"] (spOf K mg [] 2 fn__law_common) := by
  refine fn_ok (N := N__law_common) (np := 2) (k := 0) (R := []) T.F__law_common sc__law_common rfl (f := den__law_common) (fun cdv A outer s H E hr => ?_)
  have tk : Takes (cxOf (L2.CX P w) P w K mg base N__law_common "_law_common" (defScope (top 27)) (He.ga K "_law_common") cdv A outer s H E) (fun cls d _ H => E cls d H) := takes_of rfl rfl rfl rfl
  have hp := passes_of (X := cxOf (L2.CX P w) P w K mg base N__law_common "_law_common" (defScope (top 27)) (He.ga K "_law_common") cdv A outer s H E) rfl
  exact sCons (sSet (i := 0) (nR rfl) (sCB call_abs sv_abs rfl (T.free (T.c.fact 18)) bt_abs (sArCons (sSlot (pe_var (i := 0) rfl (.inl rfl))) (sArNil))) sc__law_common.nd rfl (.inl rfl)) (sCons (sSet (i := 1) (nR rfl) (sCB call_abs sv_abs rfl (T.free (T.c.fact 18)) bt_abs (sArCons (sSlot (pe_var (i := 1) rfl (.inl rfl))) (sArNil))) sc__law_common.nd rfl (.inl rfl)) (sCons (sWhile hp (sCmpT op_gt sv_gt (sSlot (pe_var (i := 1) rfl (.inl rfl))) (sLV (sInt)) (nomark _)) (sOne (sPar (i := 0) (j := 1) (nR rfl) (nR rfl) rfl sc__law_common.nd rfl rfl (by decide) rfl rfl (sVsCons (sVar (pe_var (i := 1) rfl (.inl rfl))) (sVsCons (sFrz (sBin op_modN sv_mod (sLV (sFrz (sCT call_int1 sv_int rfl (T.free (T.c.fact 3)) bt_int (sArCons (sSlot (pe_var (i := 0) rfl (.inl rfl))) (sArNil))))) (sSlot (pe_var (i := 1) rfl (.inl rfl))))) (sVsNil)))))) (sOne (sRet (sMove (nR rfl) (pe_var (i := 0) rfl (.inl rfl)))))))
/-! is_ratio -/
abbrev N_is_ratio : List Str := ["thing"]
theorem sc_is_ratio : FnScope N_is_ratio ["thing"] (defScope (top 9)) := ⟨rfl, rfl, rfl, by decide +kernel, rfl, by decide +kernel, by decide +kernel⟩
noncomputable def den_is_ratio : DenS := dSeq (dIfS (dOrT (dNotT (dTru (dLV (dIsi ["list", "tuple"] (dSlot 0))))) (dTB (dBin gNe (dLV (dFrz (dCB gLen (dArs [dSlot 0])))) (dLV (dC (.int 2)))))) (dRet (dVal (dC (.bl false)))) (dSkip)) (dRet (dVal (dAndV (dFrz (dCall fn_is_whole [.non, .non] (dArs [dLV (dFrz (dBin gIx (dSlot 0) (dLV (dC (.int 0)))))]))) (dAndV (dFrz (dCall fn_is_whole [.non] (dArs [dLV (dFrz (dBin gIx (dSlot 0) (dLV (dC (.int 1))))), dLV (dC (.int 1))]))) (dFrz (dBin gEq (dLV (dFrz (dCB gGcd (dArs [dLV (dFrz (dBin gIx (dSlot 0) (dLV (dC (.int 0))))), dLV (dFrz (dBin gIx (dSlot 0) (dLV (dC (.int 1)))))])))) (dLV (dC (.int 1)))))))))
noncomputable def fn_is_ratio : Fn := mkFn 1 1 den_is_ratio
theorem fn_is_ratio_len (args : List Ent) (h : args.length ≠ 1) : fn_is_ratio args = .bad := mkFn_len args h
theorem ok_is_ratio (T : Tz K mg) : FnOk P w K mg base (L2.CX P w) 2 (He.ga K "is_ratio") (fdOf K (He.ga K "is_ratio")) ["thing"] (spOf K mg [] 1 fn_is_ratio) := by
  obtain ⟨ds_is_whole_1, v_is_whole_1, b_is_whole_1⟩ := T.bd_is_whole_1
  obtain ⟨ds_is_whole_2, v_is_whole_2, b_is_whole_2⟩ := T.bd_is_whole_2
  refine fn_ok (N := N_is_ratio) (np := 1) (k := 1) (R := []) T.F_is_ratio sc_is_ratio rfl (f := den_is_ratio) (fun cdv A outer s H E hr => ?_)
  have tk : Takes (cxOf (L2.CX P w) P w K mg base N_is_ratio "is_ratio" (defScope (top 9)) (He.ga K "is_ratio") cdv A outer s H E) (fun cls d _ H => E cls d H) := takes_of rfl rfl rfl rfl
  have hp := passes_of (X := cxOf (L2.CX P w) P w K mg base N_is_ratio "is_ratio" (defScope (top 9)) (He.ga K "is_ratio") cdv A outer s H E) rfl
  exact sCons (sIfS (sWT (sOrT (sNotT (sTru rfl (sLV (sIsiT rfl rfl (T.free (T.c.fact 1)) bt_isinstance (sSlot (pe_var (i := 0) rfl (.inl rfl))) (.cons (pe_bltn rfl (T.free (T.c.fact 5)) bt_list rfl) rfl (.cons (pe_bltn rfl (T.free (T.c.fact 4)) bt_tuple rfl) rfl .nil)) rfl (by decide))))) (sOrT1 (sCmpT (op_neD hr.units) sv_ne (sLV (sFrz (sCB call_lenE sv_len rfl (T.free (T.c.fact 6)) bt_len (sArCons (sSlot (pe_var (i := 0) rfl (.inl rfl))) (sArNil))))) (sLV (sInt)) (nomark _))))) (sOne (sRet (sVal (sBl)))) (sNil)) (sOne (sRet (sVal (sAndV (sFrz (sCall rfl rfl (ok_is_whole T) (hr.mono (by decide)) rfl (T.glo (T.c.fact 7)) (T.F_is_whole).kp b_is_whole_1 v_is_whole_1 (fun _ => ⟨_, _, rfl, rfl, ⟨_, _, rfl, rfl, rfl⟩⟩) tk (sArCons (sLV (sFrz (sIx rfl (sSlot (pe_var (i := 0) rfl (.inl rfl))) (sLV (sInt))))) (sArNil)) fn_is_whole_len)) (sAndV (sFrz (sCall rfl rfl (ok_is_whole T) (hr.mono (by decide)) rfl (T.glo (T.c.fact 7)) (T.F_is_whole).kp b_is_whole_2 v_is_whole_2 (fun _ => ⟨_, _, rfl, rfl, rfl⟩) tk (sArCons (sLV (sFrz (sIx rfl (sSlot (pe_var (i := 0) rfl (.inl rfl))) (sLV (sInt))))) (sArCons (sLV (sInt)) (sArNil))) fn_is_whole_len)) (sOneV (sFrz (sCmp (op_eqD hr.units) sv_eq (sLV (sFrz (sCG cr_gcd sv_gcd rfl (T.fun_ (T.c.fact 8)) (sArCons (sLV (sFrz (sIx rfl (sSlot (pe_var (i := 0) rfl (.inl rfl))) (sLV (sInt))))) (sArCons (sLV (sFrz (sIx rfl (sSlot (pe_var (i := 0) rfl (.inl rfl))) (sLV (sInt))))) (sArNil)))))) (sLV (sInt)) (nomark _)))))))))
/-! plus -/
abbrev N_plus : List Str := ["one", "other"]
theorem sc_plus : FnScope N_plus ["one", "other"] (defScope (top 12)) := ⟨rfl, rfl, rfl, by decide +kernel, rfl, by decide +kernel, by decide +kernel⟩
noncomputable def den_plus : DenS := dRet (dCall fn_in_lowest [] (dArs [dLV (dFrz (dBin gAdd (dLV (dFrz (dBin gMul (dLV (dFrz (dBin gIx (dSlot 0) (dLV (dC (.int 0)))))) (dLV (dFrz (dBin gIx (dSlot 1) (dLV (dC (.int 1))))))))) (dLV (dFrz (dBin gMul (dLV (dFrz (dBin gIx (dSlot 1) (dLV (dC (.int 0)))))) (dLV (dFrz (dBin gIx (dSlot 0) (dLV (dC (.int 1))))))))))), dLV (dFrz (dBin gMul (dLV (dFrz (dBin gIx (dSlot 0) (dLV (dC (.int 1)))))) (dLV (dFrz (dBin gIx (dSlot 1) (dLV (dC (.int 1))))))))]))
noncomputable def fn_plus : Fn := mkFn 2 2 den_plus
theorem fn_plus_len (args : List Ent) (h : args.length ≠ 2) : fn_plus args = .bad := mkFn_len args h
theorem ok_plus (T : Tz K mg) : FnOk P w K mg base (L2.CX P w) 2 (He.ga K "plus") (fdOf K (He.ga K "plus")) ["one", "other"] (spOf K mg [] 2 fn_plus) := by
  refine fn_ok (N := N_plus) (np := 2) (k := 1) (R := []) T.F_plus sc_plus rfl (f := den_plus) (fun cdv A outer s H E hr => ?_)
  have tk : Takes (cxOf (L2.CX P w) P w K mg base N_plus "plus" (defScope (top 12)) (He.ga K "plus") cdv A outer s H E) (fun cls d _ H => E cls d H) := takes_of rfl rfl rfl rfl
  have hp := passes_of (X := cxOf (L2.CX P w) P w K mg base N_plus "plus" (defScope (top 12)) (He.ga K "plus") cdv A outer s H E) rfl
  exact sOne (sRet (sCall rfl rfl (ok_in_lowest T) (hr.mono (by decide)) rfl (T.glo (T.c.fact 13)) (T.F_in_lowest).kp T.b_in_lowest .nil (fun _ => rfl) tk (sArCons (sLV (sFrz (sBin op_addE sv_add (sLV (sFrz (sBin op_mulE sv_mul (sLV (sFrz (sIx rfl (sSlot (pe_var (i := 0) rfl (.inl rfl))) (sLV (sInt))))) (sLV (sFrz (sIx rfl (sSlot (pe_var (i := 1) rfl (.inl rfl))) (sLV (sInt)))))))) (sLV (sFrz (sBin op_mulE sv_mul (sLV (sFrz (sIx rfl (sSlot (pe_var (i := 1) rfl (.inl rfl))) (sLV (sInt))))) (sLV (sFrz (sIx rfl (sSlot (pe_var (i := 0) rfl (.inl rfl))) (sLV (sInt))))))))))) (sArCons (sLV (sFrz (sBin op_mulE sv_mul (sLV (sFrz (sIx rfl (sSlot (pe_var (i := 0) rfl (.inl rfl))) (sLV (sInt))))) (sLV (sFrz (sIx rfl (sSlot (pe_var (i := 1) rfl (.inl rfl))) (sLV (sInt)))))))) (sArNil))) fn_in_lowest_len))
/-! minus -/
abbrev N_minus : List Str := ["one", "other"]
theorem sc_minus : FnScope N_minus ["one", "other"] (defScope (top 13)) := ⟨rfl, rfl, rfl, by decide +kernel, rfl, by decide +kernel, by decide +kernel⟩
noncomputable def den_minus : DenS := dRet (dCall fn_in_lowest [] (dArs [dLV (dFrz (dBin gSub (dLV (dFrz (dBin gMul (dLV (dFrz (dBin gIx (dSlot 0) (dLV (dC (.int 0)))))) (dLV (dFrz (dBin gIx (dSlot 1) (dLV (dC (.int 1))))))))) (dLV (dFrz (dBin gMul (dLV (dFrz (dBin gIx (dSlot 1) (dLV (dC (.int 0)))))) (dLV (dFrz (dBin gIx (dSlot 0) (dLV (dC (.int 1))))))))))), dLV (dFrz (dBin gMul (dLV (dFrz (dBin gIx (dSlot 0) (dLV (dC (.int 1)))))) (dLV (dFrz (dBin gIx (dSlot 1) (dLV (dC (.int 1))))))))]))
noncomputable def fn_minus : Fn := mkFn 2 2 den_minus
theorem fn_minus_len (args : List Ent) (h : args.length ≠ 2) : fn_minus args = .bad := mkFn_len args h
theorem ok_minus (T : Tz K mg) : FnOk P w K mg base (L2.CX P w) 2 (He.ga K "minus") (fdOf K (He.ga K "minus")) ["one", "other"] (spOf K mg [] 2 fn_minus) := by
  refine fn_ok (N := N_minus) (np := 2) (k := 1) (R := []) T.F_minus sc_minus rfl (f := den_minus) (fun cdv A outer s H E hr => ?_)
  have tk : Takes (cxOf (L2.CX P w) P w K mg base N_minus "minus" (defScope (top 13)) (He.ga K "minus") cdv A outer s H E) (fun cls d _ H => E cls d H) := takes_of rfl rfl rfl rfl
  have hp := passes_of (X := cxOf (L2.CX P w) P w K mg base N_minus "minus" (defScope (top 13)) (He.ga K "minus") cdv A outer s H E) rfl
  exact sOne (sRet (sCall rfl rfl (ok_in_lowest T) (hr.mono (by decide)) rfl (T.glo (T.c.fact 13)) (T.F_in_lowest).kp T.b_in_lowest .nil (fun _ => rfl) tk (sArCons (sLV (sFrz (sBin op_sub sv_sub (sLV (sFrz (sBin op_mulE sv_mul (sLV (sFrz (sIx rfl (sSlot (pe_var (i := 0) rfl (.inl rfl))) (sLV (sInt))))) (sLV (sFrz (sIx rfl (sSlot (pe_var (i := 1) rfl (.inl rfl))) (sLV (sInt)))))))) (sLV (sFrz (sBin op_mulE sv_mul (sLV (sFrz (sIx rfl (sSlot (pe_var (i := 1) rfl (.inl rfl))) (sLV (sInt))))) (sLV (sFrz (sIx rfl (sSlot (pe_var (i := 0) rfl (.inl rfl))) (sLV (sInt))))))))))) (sArCons (sLV (sFrz (sBin op_mulE sv_mul (sLV (sFrz (sIx rfl (sSlot (pe_var (i := 0) rfl (.inl rfl))) (sLV (sInt))))) (sLV (sFrz (sIx rfl (sSlot (pe_var (i := 1) rfl (.inl rfl))) (sLV (sInt)))))))) (sArNil))) fn_in_lowest_len))
/-! times -/
abbrev N_times : List Str := ["one", "other"]
theorem sc_times : FnScope N_times ["one", "other"] (defScope (top 14)) := ⟨rfl, rfl, rfl, by decide +kernel, rfl, by decide +kernel, by decide +kernel⟩
noncomputable def den_times : DenS := dRet (dCall fn_in_lowest [] (dArs [dLV (dFrz (dBin gMul (dLV (dFrz (dBin gIx (dSlot 0) (dLV (dC (.int 0)))))) (dLV (dFrz (dBin gIx (dSlot 1) (dLV (dC (.int 0)))))))), dLV (dFrz (dBin gMul (dLV (dFrz (dBin gIx (dSlot 0) (dLV (dC (.int 1)))))) (dLV (dFrz (dBin gIx (dSlot 1) (dLV (dC (.int 1))))))))]))
noncomputable def fn_times : Fn := mkFn 2 2 den_times
theorem fn_times_len (args : List Ent) (h : args.length ≠ 2) : fn_times args = .bad := mkFn_len args h
theorem ok_times (T : Tz K mg) : FnOk P w K mg base (L2.CX P w) 2 (He.ga K "times") (fdOf K (He.ga K "times")) ["one", "other"] (spOf K mg [] 2 fn_times) := by
  refine fn_ok (N := N_times) (np := 2) (k := 1) (R := []) T.F_times sc_times rfl (f := den_times) (fun cdv A outer s H E hr => ?_)
  have tk : Takes (cxOf (L2.CX P w) P w K mg base N_times "times" (defScope (top 14)) (He.ga K "times") cdv A outer s H E) (fun cls d _ H => E cls d H) := takes_of rfl rfl rfl rfl
  have hp := passes_of (X := cxOf (L2.CX P w) P w K mg base N_times "times" (defScope (top 14)) (He.ga K "times") cdv A outer s H E) rfl
  exact sOne (sRet (sCall rfl rfl (ok_in_lowest T) (hr.mono (by decide)) rfl (T.glo (T.c.fact 13)) (T.F_in_lowest).kp T.b_in_lowest .nil (fun _ => rfl) tk (sArCons (sLV (sFrz (sBin op_mulE sv_mul (sLV (sFrz (sIx rfl (sSlot (pe_var (i := 0) rfl (.inl rfl))) (sLV (sInt))))) (sLV (sFrz (sIx rfl (sSlot (pe_var (i := 1) rfl (.inl rfl))) (sLV (sInt)))))))) (sArCons (sLV (sFrz (sBin op_mulE sv_mul (sLV (sFrz (sIx rfl (sSlot (pe_var (i := 0) rfl (.inl rfl))) (sLV (sInt))))) (sLV (sFrz (sIx rfl (sSlot (pe_var (i := 1) rfl (.inl rfl))) (sLV (sInt)))))))) (sArNil))) fn_in_lowest_len))
/-! least_of -/
abbrev N_least_of : List Str := ["ratios", "best", "one"]
theorem sc_least_of : FnScope N_least_of ["ratios"] (defScope (top 19)) := ⟨rfl, rfl, rfl, by decide +kernel, rfl, by decide +kernel, by decide +kernel⟩
noncomputable def bd_least_of_1 : DenS := dIfS (dTB (dBin gLt (dLV (dFrz (dCall fn_compare [] (dArs [dSlot 2, dSlot 1])))) (dLV (dC (.int 0))))) (dSet 1 (dVal (dVar 2))) (dSkip)
noncomputable def den_least_of : DenS := dSeq (dSet 1 (dBin gIx (dSlot 0) (dLV (dC (.int 0))))) (dSeq (dFor (asN 2) (dIt (dVar 0)) (bd_least_of_1)) (dRet (dVal (dTup [dFrz (dBin gIx (dSlot 1) (dLV (dC (.int 0)))), dFrz (dBin gIx (dSlot 1) (dLV (dC (.int 1))))]))))
noncomputable def fn_least_of : Fn := mkFn 1 3 den_least_of
theorem fn_least_of_len (args : List Ent) (h : args.length ≠ 1) : fn_least_of args = .bad := mkFn_len args h
theorem ok_least_of (T : Tz K mg) : FnOk P w K mg base (L2.CX P w) 2 (He.ga K "least_of") (fdOf K (He.ga K "least_of")) ["ratios"] (spOf K mg [] 1 fn_least_of) := by
  refine fn_ok (N := N_least_of) (np := 1) (k := 1) (R := []) T.F_least_of sc_least_of rfl (f := den_least_of) (fun cdv A outer s H E hr => ?_)
  have tk : Takes (cxOf (L2.CX P w) P w K mg base N_least_of "least_of" (defScope (top 19)) (He.ga K "least_of") cdv A outer s H E) (fun cls d _ H => E cls d H) := takes_of rfl rfl rfl rfl
  have hp := passes_of (X := cxOf (L2.CX P w) P w K mg base N_least_of "least_of" (defScope (top 19)) (He.ga K "least_of") cdv A outer s H E) rfl
  exact sCons (sSet (i := 1) (nR rfl) (sIx rfl (sSlot (pe_var (i := 0) rfl (.inl rfl))) (sLV (sInt))) sc_least_of.nd rfl (.inl rfl)) (sCons (sFor (own := [2]) hp rfl (sIt rfl (sVar (pe_var (i := 0) rfl (.inl rfl)))) (gN (i := 2) (by decide) (nR rfl) sc_least_of.nd rfl (.inl rfl)) (sOne (sIfS (sCmpT op_lt sv_lt (sLV (sFrz (sCall rfl rfl (ok_compare T) (hr.mono (by decide)) rfl (T.glo (T.c.fact 17)) (T.F_compare).kp T.b_compare .nil (fun _ => rfl) tk (sArCons (sSlot (pe_var (i := 2) rfl (.inl rfl))) (sArCons (sSlot (pe_var (i := 1) rfl (.inl rfl))) (sArNil))) fn_compare_len))) (sLV (sInt)) (nomark _)) (sOne (sSet (i := 1) (nR rfl) (sVal (sVar (pe_var (i := 2) rfl (.inl rfl)))) sc_least_of.nd rfl (.inl rfl))) (sNil)))) (sOne (sRet (sVal (sTup (sVsCons (sFrz (sIx rfl (sSlot (pe_var (i := 1) rfl (.inl rfl))) (sLV (sInt)))) (sVsCons (sFrz (sIx rfl (sSlot (pe_var (i := 1) rfl (.inl rfl))) (sLV (sInt)))) (sVsNil))))))))
/-! greatest_of -/
abbrev N_greatest_of : List Str := ["ratios", "best", "one"]
theorem sc_greatest_of : FnScope N_greatest_of ["ratios"] (defScope (top 20)) := ⟨rfl, rfl, rfl, by decide +kernel, rfl, by decide +kernel, by decide +kernel⟩
noncomputable def bd_greatest_of_1 : DenS := dIfS (dTB (dBin gGt (dLV (dFrz (dCall fn_compare [] (dArs [dSlot 2, dSlot 1])))) (dLV (dC (.int 0))))) (dSet 1 (dVal (dVar 2))) (dSkip)
noncomputable def den_greatest_of : DenS := dSeq (dSet 1 (dBin gIx (dSlot 0) (dLV (dC (.int 0))))) (dSeq (dFor (asN 2) (dIt (dVar 0)) (bd_greatest_of_1)) (dRet (dVal (dTup [dFrz (dBin gIx (dSlot 1) (dLV (dC (.int 0)))), dFrz (dBin gIx (dSlot 1) (dLV (dC (.int 1))))]))))
noncomputable def fn_greatest_of : Fn := mkFn 1 3 den_greatest_of
theorem fn_greatest_of_len (args : List Ent) (h : args.length ≠ 1) : fn_greatest_of args = .bad := mkFn_len args h
theorem ok_greatest_of (T : Tz K mg) : FnOk P w K mg base (L2.CX P w) 2 (He.ga K "greatest_of") (fdOf K (He.ga K "greatest_of")) ["ratios"] (spOf K mg [] 1 fn_greatest_of) := by
  refine fn_ok (N := N_greatest_of) (np := 1) (k := 1) (R := []) T.F_greatest_of sc_greatest_of rfl (f := den_greatest_of) (fun cdv A outer s H E hr => ?_)
  have tk : Takes (cxOf (L2.CX P w) P w K mg base N_greatest_of "greatest_of" (defScope (top 20)) (He.ga K "greatest_of") cdv A outer s H E) (fun cls d _ H => E cls d H) := takes_of rfl rfl rfl rfl
  have hp := passes_of (X := cxOf (L2.CX P w) P w K mg base N_greatest_of "greatest_of" (defScope (top 20)) (He.ga K "greatest_of") cdv A outer s H E) rfl
  exact sCons (sSet (i := 1) (nR rfl) (sIx rfl (sSlot (pe_var (i := 0) rfl (.inl rfl))) (sLV (sInt))) sc_greatest_of.nd rfl (.inl rfl)) (sCons (sFor (own := [2]) hp rfl (sIt rfl (sVar (pe_var (i := 0) rfl (.inl rfl)))) (gN (i := 2) (by decide) (nR rfl) sc_greatest_of.nd rfl (.inl rfl)) (sOne (sIfS (sCmpT op_gt sv_gt (sLV (sFrz (sCall rfl rfl (ok_compare T) (hr.mono (by decide)) rfl (T.glo (T.c.fact 17)) (T.F_compare).kp T.b_compare .nil (fun _ => rfl) tk (sArCons (sSlot (pe_var (i := 2) rfl (.inl rfl))) (sArCons (sSlot (pe_var (i := 1) rfl (.inl rfl))) (sArNil))) fn_compare_len))) (sLV (sInt)) (nomark _)) (sOne (sSet (i := 1) (nR rfl) (sVal (sVar (pe_var (i := 2) rfl (.inl rfl)))) sc_greatest_of.nd rfl (.inl rfl))) (sNil)))) (sOne (sRet (sVal (sTup (sVsCons (sFrz (sIx rfl (sSlot (pe_var (i := 1) rfl (.inl rfl))) (sLV (sInt)))) (sVsCons (sFrz (sIx rfl (sSlot (pe_var (i := 1) rfl (.inl rfl))) (sLV (sInt)))) (sVsNil))))))))
/-! _law_take -/
abbrev N__law_take : List Str := ["_law_hand_here", "_law_many", "_law_cell", "_law_rest"]
theorem sc__law_take : FnScope N__law_take ["_law_hand_here", "_law_many"] (defScope (top 26)) := ⟨rfl, rfl, rfl, by decide +kernel, rfl, by decide +kernel, by decide +kernel⟩
noncomputable def den__law_take : DenS := dSeq (dIfS (dAndT (dTB (dBin gEq (dLV (dFrz (dBin gIx (dSlot 0) (dLV (dC (.int 2)))))) (dLV (dC (.int 0))))) (dTB (dBin gLt (dLV (dFrz (dBin gIx (dSlot 0) (dLV (dC (.int 1)))))) (dLV (dFrz (dCB gLen (dArs [dLV (dFrz (dBin gIx (dSlot 0) (dLV (dC (.int 0)))))]))))))) (dSeq (dSet 2 (dBin gIx (dLV (dFrz (dBin gIx (dSlot 0) (dLV (dC (.int 0)))))) (dLV (dFrz (dBin gIx (dSlot 0) (dLV (dC (.int 1)))))))) (dSeq (dPut 0 (dC (.int 1)) (dFrz (dBin gAdd (dLV (dFrz (dBin gIx (dSlot 0) (dLV (dC (.int 1)))))) (dLV (dC (.int 1)))))) (dSeq (dIfS (dTB (dBin gLt (dSlot 2) (dLV (dFrz (dBin gPow (dLV (dC (.int 10))) (dLV (dC (.int 18)))))))) (dRet (dBin gMod (dLV (dFrz (dCB gInt (dArs [dLV (dFrz (dCall fn__law_mixed [] (dArs [dLV (dFrz (dBin gMod (dLV (dFrz (dCB gInt (dArs [dSlot 2])))) (dLV (dC (.int 2147483647))))), dLV (dFrz (dBin gIx (dSlot 0) (dLV (dC (.int 1)))))])))])))) (dSlot 1))) (dSkip)) (dPut 0 (dC (.int 2)) (dVar 2))))) (dSkip)) (dSeq (dIfS (dTB (dBin gGt (dLV (dFrz (dBin gIx (dSlot 0) (dLV (dC (.int 2)))))) (dLV (dC (.int 0))))) (dSeq (dSet 3 (dBin gIx (dSlot 0) (dLV (dC (.int 2))))) (dSeq (dPut 0 (dC (.int 2)) (dFrz (dBin gDiv (dLV (dFrz (dCB gInt (dArs [dSlot 3])))) (dSlot 1)))) (dRet (dBin gMod (dLV (dFrz (dCB gInt (dArs [dSlot 3])))) (dSlot 1))))) (dSkip)) (dSeq (dPut 0 (dC (.int 3)) (dFrz (dBin gMod (dLV (dFrz (dCB gInt (dArs [dLV (dFrz (dBin gAdd (dLV (dFrz (dBin gIx (dSlot 0) (dLV (dC (.int 3)))))) (dLV (dC (.int 1)))))])))) (dLV (dC (.int 2147483549)))))) (dRet (dBin gMod (dLV (dFrz (dCB gInt (dArs [dLV (dFrz (dCall fn__law_mixed [] (dArs [dLV (dFrz (dBin gIx (dSlot 0) (dLV (dC (.int 3))))), dLV (dFrz (dBin gIx (dSlot 0) (dLV (dC (.int 1)))))])))])))) (dSlot 1)))))
noncomputable def fn__law_take : Fn := mkFn 2 4 den__law_take
theorem fn__law_take_len (args : List Ent) (h : args.length ≠ 2) : fn__law_take args = .bad := mkFn_len args h
theorem ok__law_take (T : Tz K mg) : FnOk P w K mg base (L2.CX P w) 2 (He.ga K "_law_take") (fdOf K (He.ga K "_law_take")) ["_law_hand_here", "_law_many"] (spOf K mg [0] 2 fn__law_take) := by
  refine fn_ok (N := N__law_take) (np := 2) (k := 1) (R := [0]) T.F__law_take sc__law_take rfl (f := den__law_take) (fun cdv A outer s H E hr => ?_)
  have tk : Takes (cxOf (L2.CX P w) P w K mg base N__law_take "_law_take" (defScope (top 26)) (He.ga K "_law_take") cdv A outer s H E) (fun cls d _ H => E cls d H) := takes_of rfl rfl rfl rfl
  have hp := passes_of (X := cxOf (L2.CX P w) P w K mg base N__law_take "_law_take" (defScope (top 26)) (He.ga K "_law_take") cdv A outer s H E) rfl
  exact sCons (sIfS (sWT (sAndT (sCmpT (op_eqD hr.units) sv_eq (sLV (sFrz (sIx rfl (sSlot (pe_var (i := 0) rfl (.inl rfl))) (sLV (sInt))))) (sLV (sInt)) (nomark _)) (sAndT1 (sCmpT op_lt sv_lt (sLV (sFrz (sIx rfl (sSlot (pe_var (i := 0) rfl (.inl rfl))) (sLV (sInt))))) (sLV (sFrz (sCB call_lenE sv_len rfl (T.free (T.c.fact 6)) bt_len (sArCons (sLV (sFrz (sIx rfl (sSlot (pe_var (i := 0) rfl (.inl rfl))) (sLV (sInt))))) (sArNil))))) (nomark _))))) (sCons (sSet (i := 2) (nR rfl) (sIx rfl (sLV (sFrz (sIx rfl (sSlot (pe_var (i := 0) rfl (.inl rfl))) (sLV (sInt))))) (sLV (sFrz (sIx rfl (sSlot (pe_var (i := 0) rfl (.inl rfl))) (sLV (sInt)))))) sc__law_take.nd rfl (.inl rfl)) (sCons (sPut (pe_var (i := 0) rfl (.inl rfl)) (sInt) (sFrz (sBin op_addE sv_add (sLV (sFrz (sIx rfl (sSlot (pe_var (i := 0) rfl (.inl rfl))) (sLV (sInt))))) (sLV (sInt))))) (sCons (sIfS (sCmpT op_lt sv_lt (sSlot (pe_var (i := 2) rfl (.inl rfl))) (sLV (sFrz (sBin op_pow sv_pow (sLV (sInt)) (sLV (sInt))))) (nomark _)) (sOne (sRet (sBin op_modN sv_mod (sLV (sFrz (sCT call_int1 sv_int rfl (T.free (T.c.fact 3)) bt_int (sArCons (sLV (sFrz (sCall rfl rfl (ok__law_mixed T) (hr.mono (by decide)) rfl (T.glo (T.c.fact 19)) (T.F__law_mixed).kp T.b__law_mixed .nil (fun _ => rfl) tk (sArCons (sLV (sFrz (sBin op_modN sv_mod (sLV (sFrz (sCT call_int1 sv_int rfl (T.free (T.c.fact 3)) bt_int (sArCons (sSlot (pe_var (i := 2) rfl (.inl rfl))) (sArNil))))) (sLV (sInt))))) (sArCons (sLV (sFrz (sIx rfl (sSlot (pe_var (i := 0) rfl (.inl rfl))) (sLV (sInt))))) (sArNil))) fn__law_mixed_len))) (sArNil))))) (sSlot (pe_var (i := 1) rfl (.inl rfl)))))) (sNil)) (sOne (sPut (pe_var (i := 0) rfl (.inl rfl)) (sInt) (sVar (pe_var (i := 2) rfl (.inl rfl)))))))) (sNil)) (sCons (sIfS (sCmpT op_gt sv_gt (sLV (sFrz (sIx rfl (sSlot (pe_var (i := 0) rfl (.inl rfl))) (sLV (sInt))))) (sLV (sInt)) (nomark _)) (sCons (sSet (i := 3) (nR rfl) (sIx rfl (sSlot (pe_var (i := 0) rfl (.inl rfl))) (sLV (sInt))) sc__law_take.nd rfl (.inl rfl)) (sCons (sPut (pe_var (i := 0) rfl (.inl rfl)) (sInt) (sFrz (sBin op_fdivX sv_div (sLV (sFrz (sCT call_int1 sv_int rfl (T.free (T.c.fact 3)) bt_int (sArCons (sSlot (pe_var (i := 3) rfl (.inl rfl))) (sArNil))))) (sSlot (pe_var (i := 1) rfl (.inl rfl)))))) (sOne (sRet (sBin op_modN sv_mod (sLV (sFrz (sCT call_int1 sv_int rfl (T.free (T.c.fact 3)) bt_int (sArCons (sSlot (pe_var (i := 3) rfl (.inl rfl))) (sArNil))))) (sSlot (pe_var (i := 1) rfl (.inl rfl)))))))) (sNil)) (sCons (sPut (pe_var (i := 0) rfl (.inl rfl)) (sInt) (sFrz (sBin op_modN sv_mod (sLV (sFrz (sCT call_int1 sv_int rfl (T.free (T.c.fact 3)) bt_int (sArCons (sLV (sFrz (sBin op_addE sv_add (sLV (sFrz (sIx rfl (sSlot (pe_var (i := 0) rfl (.inl rfl))) (sLV (sInt))))) (sLV (sInt))))) (sArNil))))) (sLV (sInt))))) (sOne (sRet (sBin op_modN sv_mod (sLV (sFrz (sCT call_int1 sv_int rfl (T.free (T.c.fact 3)) bt_int (sArCons (sLV (sFrz (sCall rfl rfl (ok__law_mixed T) (hr.mono (by decide)) rfl (T.glo (T.c.fact 19)) (T.F__law_mixed).kp T.b__law_mixed .nil (fun _ => rfl) tk (sArCons (sLV (sFrz (sIx rfl (sSlot (pe_var (i := 0) rfl (.inl rfl))) (sLV (sInt))))) (sArCons (sLV (sFrz (sIx rfl (sSlot (pe_var (i := 0) rfl (.inl rfl))) (sLV (sInt))))) (sArNil))) fn__law_mixed_len))) (sArNil))))) (sSlot (pe_var (i := 1) rfl (.inl rfl))))))))
/-! _law_ratio -/
abbrev N__law_ratio : List Str := ["_law_top", "_law_bottom", "_law_common_here"]
theorem sc__law_ratio : FnScope N__law_ratio ["_law_top", "_law_bottom"] (defScope (top 28)) := ⟨rfl, rfl, rfl, by decide +kernel, rfl, by decide +kernel, by decide +kernel⟩
noncomputable def den__law_ratio : DenS := dSeq (dSet 2 (dCall fn__law_common [] (dArs [dSlot 0, dSlot 1]))) (dRet (dVal (dTup [dFrz (dBin gDiv (dSlot 0) (dSlot 2)), dFrz (dBin gDiv (dSlot 1) (dSlot 2))])))
noncomputable def fn__law_ratio : Fn := mkFn 2 3 den__law_ratio
theorem fn__law_ratio_len (args : List Ent) (h : args.length ≠ 2) : fn__law_ratio args = .bad := mkFn_len args h
theorem ok__law_ratio (T : Tz K mg) : FnOk P w K mg base (L2.CX P w) 2 (He.ga K "_law_ratio") (fdOf K (He.ga K "_law_ratio")) ["_law_top", "_law_bottom"] (spOf K mg [] 2 fn__law_ratio) := by
  refine fn_ok (N := N__law_ratio) (np := 2) (k := 1) (R := []) T.F__law_ratio sc__law_ratio rfl (f := den__law_ratio) (fun cdv A outer s H E hr => ?_)
  have tk : Takes (cxOf (L2.CX P w) P w K mg base N__law_ratio "_law_ratio" (defScope (top 28)) (He.ga K "_law_ratio") cdv A outer s H E) (fun cls d _ H => E cls d H) := takes_of rfl rfl rfl rfl
  have hp := passes_of (X := cxOf (L2.CX P w) P w K mg base N__law_ratio "_law_ratio" (defScope (top 28)) (He.ga K "_law_ratio") cdv A outer s H E) rfl
  exact sCons (sSet (i := 2) (nR rfl) (sCall rfl rfl (ok__law_common T) (hr.mono (by decide)) rfl (T.glo (T.c.fact 20)) (T.F__law_common).kp T.b__law_common .nil (fun _ => rfl) tk (sArCons (sSlot (pe_var (i := 0) rfl (.inl rfl))) (sArCons (sSlot (pe_var (i := 1) rfl (.inl rfl))) (sArNil))) fn__law_common_len) sc__law_ratio.nd rfl (.inl rfl)) (sOne (sRet (sVal (sTup (sVsCons (sFrz (sBin op_fdivX sv_div (sSlot (pe_var (i := 0) rfl (.inl rfl))) (sSlot (pe_var (i := 2) rfl (.inl rfl))))) (sVsCons (sFrz (sBin op_fdivX sv_div (sSlot (pe_var (i := 1) rfl (.inl rfl))) (sSlot (pe_var (i := 2) rfl (.inl rfl))))) (sVsNil)))))))
/-! make_ratio -/
abbrev N_make_ratio : List Str := ["top", "bottom"]
theorem sc_make_ratio : FnScope N_make_ratio ["top", "bottom"] (defScope (top 11)) := ⟨rfl, rfl, rfl, by decide +kernel, rfl, by decide +kernel, by decide +kernel⟩
noncomputable def den_make_ratio : DenS := dSeq (dIfS (dNotT (dTru (dLV (dFrz (dCall fn_is_whole [.non, .non] (dArs [dSlot 0])))))) (dRaise "BadRatio" ["what"] [dC (.str "top")]) (dSkip)) (dSeq (dIfS (dOrT (dNotT (dTru (dLV (dFrz (dCall fn_is_whole [.non, .non] (dArs [dSlot 1])))))) (dTB (dBin gEq (dSlot 1) (dLV (dC (.int 0)))))) (dRaise "BadRatio" ["what"] [dC (.str "bottom")]) (dSkip)) (dRet (dCall fn_in_lowest [] (dArs [dSlot 0, dSlot 1]))))
noncomputable def fn_make_ratio : Fn := mkFn 2 2 den_make_ratio
theorem fn_make_ratio_len (args : List Ent) (h : args.length ≠ 2) : fn_make_ratio args = .bad := mkFn_len args h
theorem ok_make_ratio (T : Tz K mg) : FnOk P w K mg base (L2.CX P w) 3 (He.ga K "make_ratio") (fdOf K (He.ga K "make_ratio")) ["top", "bottom"] (spOf K mg [] 2 fn_make_ratio) := by
  obtain ⟨ds_is_whole_1, v_is_whole_1, b_is_whole_1⟩ := T.bd_is_whole_1
  refine fn_ok (N := N_make_ratio) (np := 2) (k := 2) (R := []) T.F_make_ratio sc_make_ratio rfl (f := den_make_ratio) (fun cdv A outer s H E hr => ?_)
  have tk : Takes (cxOf (L2.CX P w) P w K mg base N_make_ratio "make_ratio" (defScope (top 11)) (He.ga K "make_ratio") cdv A outer s H E) (fun cls d _ H => E cls d H) := takes_of rfl rfl rfl rfl
  have hp := passes_of (X := cxOf (L2.CX P w) P w K mg base N_make_ratio "make_ratio" (defScope (top 11)) (He.ga K "make_ratio") cdv A outer s H E) rfl
  exact sCons (sIfS (sNotT (sTru rfl (sLV (sFrz (sCall rfl rfl (ok_is_whole T) (hr.mono (by decide)) rfl (T.glo (T.c.fact 7)) (T.F_is_whole).kp b_is_whole_1 v_is_whole_1 (fun _ => ⟨_, _, rfl, rfl, ⟨_, _, rfl, rfl, rfl⟩⟩) tk (sArCons (sSlot (pe_var (i := 0) rfl (.inl rfl))) (sArNil)) fn_is_whole_len))))) (sOne (sRaise rfl tk (fx_oex (T.c.fact 10)) (fx_ini (T.c.fact 11)).1 (fx_ini (T.c.fact 11)).2 (T.ini_BadRatio) (hr.mono (by decide)) T.ib_BadRatio rfl (T.glo (T.c.fact 12)) rfl (sVsCons (sStr) (sVsNil)) (by decide))) (sNil)) (sCons (sIfS (sWT (sOrT (sNotT (sTru rfl (sLV (sFrz (sCall rfl rfl (ok_is_whole T) (hr.mono (by decide)) rfl (T.glo (T.c.fact 7)) (T.F_is_whole).kp b_is_whole_1 v_is_whole_1 (fun _ => ⟨_, _, rfl, rfl, ⟨_, _, rfl, rfl, rfl⟩⟩) tk (sArCons (sSlot (pe_var (i := 1) rfl (.inl rfl))) (sArNil)) fn_is_whole_len))))) (sOrT1 (sCmpT (op_eqD hr.units) sv_eq (sSlot (pe_var (i := 1) rfl (.inl rfl))) (sLV (sInt)) (nomark _))))) (sOne (sRaise rfl tk (fx_oex (T.c.fact 10)) (fx_ini (T.c.fact 11)).1 (fx_ini (T.c.fact 11)).2 (T.ini_BadRatio) (hr.mono (by decide)) T.ib_BadRatio rfl (T.glo (T.c.fact 12)) rfl (sVsCons (sStr) (sVsNil)) (by decide))) (sNil)) (sOne (sRet (sCall rfl rfl (ok_in_lowest T) (hr.mono (by decide)) rfl (T.glo (T.c.fact 13)) (T.F_in_lowest).kp T.b_in_lowest .nil (fun _ => rfl) tk (sArCons (sSlot (pe_var (i := 0) rfl (.inl rfl))) (sArCons (sSlot (pe_var (i := 1) rfl (.inl rfl))) (sArNil))) fn_in_lowest_len))))
/-! over -/
abbrev N_over : List Str := ["one", "other"]
theorem sc_over : FnScope N_over ["one", "other"] (defScope (top 15)) := ⟨rfl, rfl, rfl, by decide +kernel, rfl, by decide +kernel, by decide +kernel⟩
noncomputable def den_over : DenS := dSeq (dIfS (dTB (dBin gEq (dLV (dFrz (dBin gIx (dSlot 1) (dLV (dC (.int 0)))))) (dLV (dC (.int 0))))) (dRaise "BadRatio" ["what"] [dC (.str "zero")]) (dSkip)) (dRet (dCall fn_in_lowest [] (dArs [dLV (dFrz (dBin gMul (dLV (dFrz (dBin gIx (dSlot 0) (dLV (dC (.int 0)))))) (dLV (dFrz (dBin gIx (dSlot 1) (dLV (dC (.int 1)))))))), dLV (dFrz (dBin gMul (dLV (dFrz (dBin gIx (dSlot 0) (dLV (dC (.int 1)))))) (dLV (dFrz (dBin gIx (dSlot 1) (dLV (dC (.int 0))))))))])))
noncomputable def fn_over : Fn := mkFn 2 2 den_over
theorem fn_over_len (args : List Ent) (h : args.length ≠ 2) : fn_over args = .bad := mkFn_len args h
theorem ok_over (T : Tz K mg) : FnOk P w K mg base (L2.CX P w) 3 (He.ga K "over") (fdOf K (He.ga K "over")) ["one", "other"] (spOf K mg [] 2 fn_over) := by
  refine fn_ok (N := N_over) (np := 2) (k := 2) (R := []) T.F_over sc_over rfl (f := den_over) (fun cdv A outer s H E hr => ?_)
  have tk : Takes (cxOf (L2.CX P w) P w K mg base N_over "over" (defScope (top 15)) (He.ga K "over") cdv A outer s H E) (fun cls d _ H => E cls d H) := takes_of rfl rfl rfl rfl
  have hp := passes_of (X := cxOf (L2.CX P w) P w K mg base N_over "over" (defScope (top 15)) (He.ga K "over") cdv A outer s H E) rfl
  exact sCons (sIfS (sCmpT (op_eqD hr.units) sv_eq (sLV (sFrz (sIx rfl (sSlot (pe_var (i := 1) rfl (.inl rfl))) (sLV (sInt))))) (sLV (sInt)) (nomark _)) (sOne (sRaise rfl tk (fx_oex (T.c.fact 10)) (fx_ini (T.c.fact 11)).1 (fx_ini (T.c.fact 11)).2 (T.ini_BadRatio) (hr.mono (by decide)) T.ib_BadRatio rfl (T.glo (T.c.fact 12)) rfl (sVsCons (sStr) (sVsNil)) (by decide))) (sNil)) (sOne (sRet (sCall rfl rfl (ok_in_lowest T) (hr.mono (by decide)) rfl (T.glo (T.c.fact 13)) (T.F_in_lowest).kp T.b_in_lowest .nil (fun _ => rfl) tk (sArCons (sLV (sFrz (sBin op_mulE sv_mul (sLV (sFrz (sIx rfl (sSlot (pe_var (i := 0) rfl (.inl rfl))) (sLV (sInt))))) (sLV (sFrz (sIx rfl (sSlot (pe_var (i := 1) rfl (.inl rfl))) (sLV (sInt)))))))) (sArCons (sLV (sFrz (sBin op_mulE sv_mul (sLV (sFrz (sIx rfl (sSlot (pe_var (i := 0) rfl (.inl rfl))) (sLV (sInt))))) (sLV (sFrz (sIx rfl (sSlot (pe_var (i := 1) rfl (.inl rfl))) (sLV (sInt)))))))) (sArNil))) fn_in_lowest_len)))
/-! sum_of -/
abbrev N_sum_of : List Str := ["ratios", "total", "one"]
theorem sc_sum_of : FnScope N_sum_of ["ratios"] (defScope (top 18)) := ⟨rfl, rfl, rfl, by decide +kernel, rfl, by decide +kernel, by decide +kernel⟩
noncomputable def bd_sum_of_1 : DenS := dSet 1 (dCall fn_plus [] (dArs [dSlot 1, dSlot 2]))
noncomputable def den_sum_of : DenS := dSeq (dSet 1 (dVal (dC (.tup [(.int 0), (.int 1)])))) (dSeq (dFor (asN 2) (dIt (dVar 0)) (bd_sum_of_1)) (dRet (dMove 1)))
noncomputable def fn_sum_of : Fn := mkFn 1 3 den_sum_of
theorem fn_sum_of_len (args : List Ent) (h : args.length ≠ 1) : fn_sum_of args = .bad := mkFn_len args h
theorem ok_sum_of (T : Tz K mg) : FnOk P w K mg base (L2.CX P w) 3 (He.ga K "sum_of") (fdOf K (He.ga K "sum_of")) ["ratios"] (spOf K mg [] 1 fn_sum_of) := by
  refine fn_ok (N := N_sum_of) (np := 1) (k := 2) (R := []) T.F_sum_of sc_sum_of rfl (f := den_sum_of) (fun cdv A outer s H E hr => ?_)
  have tk : Takes (cxOf (L2.CX P w) P w K mg base N_sum_of "sum_of" (defScope (top 18)) (He.ga K "sum_of") cdv A outer s H E) (fun cls d _ H => E cls d H) := takes_of rfl rfl rfl rfl
  have hp := passes_of (X := cxOf (L2.CX P w) P w K mg base N_sum_of "sum_of" (defScope (top 18)) (He.ga K "sum_of") cdv A outer s H E) rfl
  exact sCons (sSet (i := 1) (nR rfl) (sVal (sC (pe_glob (v := .ref (He.ga K "ZERO")) rfl (T.glo (T.c.fact 15)) rfl) (fun B => ⟨_, _, rfl, fx_tab (T.c.fact 14) B, ⟨_, _, rfl, rfl, ⟨_, _, rfl, rfl, rfl⟩⟩⟩))) sc_sum_of.nd rfl (.inl rfl)) (sCons (sFor (own := [2]) hp rfl (sIt rfl (sVar (pe_var (i := 0) rfl (.inl rfl)))) (gN (i := 2) (by decide) (nR rfl) sc_sum_of.nd rfl (.inl rfl)) (sOne (sSet (i := 1) (nR rfl) (sCall rfl rfl (ok_plus T) (hr.mono (by decide)) rfl (T.glo (T.c.fact 16)) (T.F_plus).kp T.b_plus .nil (fun _ => rfl) tk (sArCons (sSlot (pe_var (i := 1) rfl (.inl rfl))) (sArCons (sSlot (pe_var (i := 2) rfl (.inl rfl))) (sArNil))) fn_plus_len) sc_sum_of.nd rfl (.inl rfl)))) (sOne (sRet (sMove (nR rfl) (pe_var (i := 1) rfl (.inl rfl))))))
/-! _law_drawn -/
abbrev N__law_drawn : List Str := ["_law_hand_here"]
theorem sc__law_drawn : FnScope N__law_drawn ["_law_hand_here"] (defScope (top 30)) := ⟨rfl, rfl, rfl, by decide +kernel, rfl, by decide +kernel, by decide +kernel⟩
noncomputable def den__law_drawn : DenS := dSeq (dIfS (dTB (dBin gEq (dLV (dFrz (dCallR fn__law_take 0 [] (dArs [dLV (dC (.int 4))])))) (dLV (dC (.int 0))))) (dRet (dCall fn__law_ratio [] (dArs [dLV (dFrz (dBin gSub (dLV (dFrz (dCallR fn__law_take 0 [] (dArs [dLV (dFrz (dBin gAdd (dLV (dFrz (dBin gMul (dLV (dC (.int 2))) (dLV (dFrz (dBin gPow (dLV (dC (.int 10))) (dLV (dC (.int 30))))))))) (dLV (dC (.int 1)))))])))) (dLV (dFrz (dBin gPow (dLV (dC (.int 10))) (dLV (dC (.int 30)))))))), dLV (dFrz (dBin gAdd (dLV (dC (.int 1))) (dLV (dFrz (dCallR fn__law_take 0 [] (dArs [dLV (dFrz (dBin gPow (dLV (dC (.int 10))) (dLV (dC (.int 30)))))]))))))]))) (dSkip)) (dRet (dCall fn__law_ratio [] (dArs [dLV (dFrz (dBin gSub (dLV (dFrz (dCallR fn__law_take 0 [] (dArs [dLV (dC (.int 49))])))) (dLV (dC (.int 24))))), dLV (dFrz (dBin gAdd (dLV (dC (.int 1))) (dLV (dFrz (dCallR fn__law_take 0 [] (dArs [dLV (dC (.int 12))]))))))])))
noncomputable def fn__law_drawn : Fn := mkFn 1 1 den__law_drawn
theorem fn__law_drawn_len (args : List Ent) (h : args.length ≠ 1) : fn__law_drawn args = .bad := mkFn_len args h
theorem ok__law_drawn (T : Tz K mg) : FnOk P w K mg base (L2.CX P w) 3 (He.ga K "_law_drawn") (fdOf K (He.ga K "_law_drawn")) ["_law_hand_here"] (spOf K mg [0] 1 fn__law_drawn) := by
  refine fn_ok (N := N__law_drawn) (np := 1) (k := 2) (R := [0]) T.F__law_drawn sc__law_drawn rfl (f := den__law_drawn) (fun cdv A outer s H E hr => ?_)
  have tk : Takes (cxOf (L2.CX P w) P w K mg base N__law_drawn "_law_drawn" (defScope (top 30)) (He.ga K "_law_drawn") cdv A outer s H E) (fun cls d _ H => E cls d H) := takes_of rfl rfl rfl rfl
  have hp := passes_of (X := cxOf (L2.CX P w) P w K mg base N__law_drawn "_law_drawn" (defScope (top 30)) (He.ga K "_law_drawn") cdv A outer s H E) rfl
  exact sCons (sIfS (sCmpT (op_eqD hr.units) sv_eq (sLV (sFrz (sCallR rfl rfl (ok__law_take T) (hr.mono (by decide)) rfl (T.glo (T.c.fact 22)) (T.F__law_take).kp T.b__law_take .nil (fun _ => rfl) tk (pe_var (i := 0) rfl (.inl rfl)) (sArCons (sLV (sInt)) (sArNil)) fn__law_take_len))) (sLV (sInt)) (nomark _)) (sOne (sRet (sCall rfl rfl (ok__law_ratio T) (hr.mono (by decide)) rfl (T.glo (T.c.fact 23)) (T.F__law_ratio).kp T.b__law_ratio .nil (fun _ => rfl) tk (sArCons (sLV (sFrz (sBin op_sub sv_sub (sLV (sFrz (sCallR rfl rfl (ok__law_take T) (hr.mono (by decide)) rfl (T.glo (T.c.fact 22)) (T.F__law_take).kp T.b__law_take .nil (fun _ => rfl) tk (pe_var (i := 0) rfl (.inl rfl)) (sArCons (sLV (sFrz (sBin op_addE sv_add (sLV (sFrz (sBin op_mulE sv_mul (sLV (sInt)) (sLV (sFrz (sBin op_pow sv_pow (sLV (sInt)) (sLV (sInt)))))))) (sLV (sInt))))) (sArNil)) fn__law_take_len))) (sLV (sFrz (sBin op_pow sv_pow (sLV (sInt)) (sLV (sInt)))))))) (sArCons (sLV (sFrz (sBin op_addE sv_add (sLV (sInt)) (sLV (sFrz (sCallR rfl rfl (ok__law_take T) (hr.mono (by decide)) rfl (T.glo (T.c.fact 22)) (T.F__law_take).kp T.b__law_take .nil (fun _ => rfl) tk (pe_var (i := 0) rfl (.inl rfl)) (sArCons (sLV (sFrz (sBin op_pow sv_pow (sLV (sInt)) (sLV (sInt))))) (sArNil)) fn__law_take_len)))))) (sArNil))) fn__law_ratio_len))) (sNil)) (sOne (sRet (sCall rfl rfl (ok__law_ratio T) (hr.mono (by decide)) rfl (T.glo (T.c.fact 23)) (T.F__law_ratio).kp T.b__law_ratio .nil (fun _ => rfl) tk (sArCons (sLV (sFrz (sBin op_sub sv_sub (sLV (sFrz (sCallR rfl rfl (ok__law_take T) (hr.mono (by decide)) rfl (T.glo (T.c.fact 22)) (T.F__law_take).kp T.b__law_take .nil (fun _ => rfl) tk (pe_var (i := 0) rfl (.inl rfl)) (sArCons (sLV (sInt)) (sArNil)) fn__law_take_len))) (sLV (sInt))))) (sArCons (sLV (sFrz (sBin op_addE sv_add (sLV (sInt)) (sLV (sFrz (sCallR rfl rfl (ok__law_take T) (hr.mono (by decide)) rfl (T.glo (T.c.fact 22)) (T.F__law_take).kp T.b__law_take .nil (fun _ => rfl) tk (pe_var (i := 0) rfl (.inl rfl)) (sArCons (sLV (sInt)) (sArNil)) fn__law_take_len)))))) (sArNil))) fn__law_ratio_len)))
/-! _law_signed -/
abbrev N__law_signed : List Str := ["_law_top", "_law_bottom"]
theorem sc__law_signed : FnScope N__law_signed ["_law_top", "_law_bottom"] (defScope (top 33)) := ⟨rfl, rfl, rfl, by decide +kernel, rfl, by decide +kernel, by decide +kernel⟩
noncomputable def den__law_signed : DenS := dRet (dIfF (dTB (dBin gGt (dSlot 1) (dLV (dC (.int 0))))) (dCall fn__law_ratio [] (dArs [dSlot 0, dSlot 1])) (dCall fn__law_ratio [] (dArs [dLV (dNeg (dVar 0)), dLV (dNeg (dVar 1))])))
noncomputable def fn__law_signed : Fn := mkFn 2 2 den__law_signed
theorem fn__law_signed_len (args : List Ent) (h : args.length ≠ 2) : fn__law_signed args = .bad := mkFn_len args h
theorem ok__law_signed (T : Tz K mg) : FnOk P w K mg base (L2.CX P w) 3 (He.ga K "_law_signed") (fdOf K (He.ga K "_law_signed")) ["_law_top", "_law_bottom"] (spOf K mg [] 2 fn__law_signed) := by
  refine fn_ok (N := N__law_signed) (np := 2) (k := 2) (R := []) T.F__law_signed sc__law_signed rfl (f := den__law_signed) (fun cdv A outer s H E hr => ?_)
  have tk : Takes (cxOf (L2.CX P w) P w K mg base N__law_signed "_law_signed" (defScope (top 33)) (He.ga K "_law_signed") cdv A outer s H E) (fun cls d _ H => E cls d H) := takes_of rfl rfl rfl rfl
  have hp := passes_of (X := cxOf (L2.CX P w) P w K mg base N__law_signed "_law_signed" (defScope (top 33)) (He.ga K "_law_signed") cdv A outer s H E) rfl
  exact sOne (sRet (sIfF (sCmpT op_gt sv_gt (sSlot (pe_var (i := 1) rfl (.inl rfl))) (sLV (sInt)) (nomark _)) (sCall rfl rfl (ok__law_ratio T) (hr.mono (by decide)) rfl (T.glo (T.c.fact 23)) (T.F__law_ratio).kp T.b__law_ratio .nil (fun _ => rfl) tk (sArCons (sSlot (pe_var (i := 0) rfl (.inl rfl))) (sArCons (sSlot (pe_var (i := 1) rfl (.inl rfl))) (sArNil))) fn__law_ratio_len) (sCall rfl rfl (ok__law_ratio T) (hr.mono (by decide)) rfl (T.glo (T.c.fact 23)) (T.F__law_ratio).kp T.b__law_ratio .nil (fun _ => rfl) tk (sArCons (sLV (sNeg (sVar (pe_var (i := 0) rfl (.inl rfl))))) (sArCons (sLV (sNeg (sVar (pe_var (i := 1) rfl (.inl rfl))))) (sArNil))) fn__law_ratio_len)))
/-! _law_made -/
abbrev N__law_made : List Str := ["_law_top", "_law_bottom", "_law_found", "raised"]
theorem sc__law_made : FnScope N__law_made ["_law_top", "_law_bottom"] (defScope (top 31)) := ⟨rfl, rfl, rfl, by decide +kernel, rfl, by decide +kernel, by decide +kernel⟩
noncomputable def den__law_made : DenS := dSeq (dTry tabX (dSet 2 (dCall fn_make_ratio [] (dArs [dSlot 0, dSlot 1]))) [("BadRatio", some 3, dSet 2 (dLst [dC (.str "BadRatio"), dXf ["BadRatio"] 3 "what"])), ("ParcelError", none, dSet 2 (dLst [dC (.str "other")]))]) (dRet (dMove 2))
noncomputable def fn__law_made : Fn := mkFn 2 4 den__law_made
theorem fn__law_made_len (args : List Ent) (h : args.length ≠ 2) : fn__law_made args = .bad := mkFn_len args h
theorem ok__law_made (T : Tz K mg) : FnOk P w K mg base (L2.CX P w) 4 (He.ga K "_law_made") (fdOf K (He.ga K "_law_made")) ["_law_top", "_law_bottom"] (spOf K mg [] 2 fn__law_made) := by
  obtain ⟨ds_make_ratio_2, v_make_ratio_2, b_make_ratio_2⟩ := T.bd_make_ratio_2
  refine fn_ok (N := N__law_made) (np := 2) (k := 3) (R := []) T.F__law_made sc__law_made rfl (f := den__law_made) (fun cdv A outer s H E hr => ?_)
  have tk : Takes (cxOf (L2.CX P w) P w K mg base N__law_made "_law_made" (defScope (top 31)) (He.ga K "_law_made") cdv A outer s H E) (fun cls d _ H => E cls d H) := takes_of rfl rfl rfl rfl
  have hp := passes_of (X := cxOf (L2.CX P w) P w K mg base N__law_made "_law_made" (defScope (top 31)) (He.ga K "_law_made") cdv A outer s H E) rfl
  exact sCons (sTry rfl rfl rfl rfl sc__law_made.nd tk (fun W' pn xe tk' hp' => sOne (sSet (i := 2) (nR rfl) (sCall rfl rfl (ok_make_ratio T) (hr.mono (by decide)) rfl (T.glo (T.c.fact 24)) (T.F_make_ratio).kp b_make_ratio_2 v_make_ratio_2 (fun _ => rfl) tk' (sArCons (sSlot (pe_var (i := 0) rfl (.inl rfl))) (sArCons (sSlot (pe_var (i := 1) rfl (.inl rfl))) (sArNil))) fn_make_ratio_len) sc__law_made.nd rfl (.inl rfl))) (.consN (i := 3) (nR rfl) rfl rfl ⟨rfl, rfl, .inl (T.glo (T.c.fact 12))⟩ (T.exm (T.glo (T.c.fact 12))) (fun a oe cls d pn hz hf => sOne (sSet (i := 2) (nR rfl) (sLst (sVsCons (sStr) (sVsCons (sXf rfl (xfOne (T.glo (T.c.fact 12)) (fx_xf (T.c.fact 25)) (fx_nof (T.c.fact 9))) hz hf (pe_var (i := 3) rfl (.inl rfl))) (sVsNil)))) sc__law_made.nd rfl (.inl rfl))) (.cons ⟨rfl, rfl, .inl (T.glo (T.c.fact 26))⟩ (T.exm (T.glo (T.c.fact 26))) (fun a oe cls d pn hz hf => sOne (sSet (i := 2) (nR rfl) (sLst (sVsCons (sStr) (sVsNil))) sc__law_made.nd rfl (.inl rfl))) .nil))) (sOne (sRet (sMove (nR rfl) (pe_var (i := 2) rfl (.inl rfl)))))
/-! _law_parted -/
abbrev N__law_parted : List Str := ["_law_one", "_law_other", "_law_found", "raised"]
theorem sc__law_parted : FnScope N__law_parted ["_law_one", "_law_other"] (defScope (top 32)) := ⟨rfl, rfl, rfl, by decide +kernel, rfl, by decide +kernel, by decide +kernel⟩
noncomputable def den__law_parted : DenS := dSeq (dTry tabX (dSet 2 (dCall fn_over [] (dArs [dSlot 0, dSlot 1]))) [("BadRatio", some 3, dSet 2 (dLst [dC (.str "BadRatio"), dXf ["BadRatio"] 3 "what"])), ("ParcelError", none, dSet 2 (dLst [dC (.str "other")]))]) (dRet (dMove 2))
noncomputable def fn__law_parted : Fn := mkFn 2 4 den__law_parted
theorem fn__law_parted_len (args : List Ent) (h : args.length ≠ 2) : fn__law_parted args = .bad := mkFn_len args h
theorem ok__law_parted (T : Tz K mg) : FnOk P w K mg base (L2.CX P w) 4 (He.ga K "_law_parted") (fdOf K (He.ga K "_law_parted")) ["_law_one", "_law_other"] (spOf K mg [] 2 fn__law_parted) := by
  refine fn_ok (N := N__law_parted) (np := 2) (k := 3) (R := []) T.F__law_parted sc__law_parted rfl (f := den__law_parted) (fun cdv A outer s H E hr => ?_)
  have tk : Takes (cxOf (L2.CX P w) P w K mg base N__law_parted "_law_parted" (defScope (top 32)) (He.ga K "_law_parted") cdv A outer s H E) (fun cls d _ H => E cls d H) := takes_of rfl rfl rfl rfl
  have hp := passes_of (X := cxOf (L2.CX P w) P w K mg base N__law_parted "_law_parted" (defScope (top 32)) (He.ga K "_law_parted") cdv A outer s H E) rfl
  exact sCons (sTry rfl rfl rfl rfl sc__law_parted.nd tk (fun W' pn xe tk' hp' => sOne (sSet (i := 2) (nR rfl) (sCall rfl rfl (ok_over T) (hr.mono (by decide)) rfl (T.glo (T.c.fact 27)) (T.F_over).kp T.b_over .nil (fun _ => rfl) tk' (sArCons (sSlot (pe_var (i := 0) rfl (.inl rfl))) (sArCons (sSlot (pe_var (i := 1) rfl (.inl rfl))) (sArNil))) fn_over_len) sc__law_parted.nd rfl (.inl rfl))) (.consN (i := 3) (nR rfl) rfl rfl ⟨rfl, rfl, .inl (T.glo (T.c.fact 12))⟩ (T.exm (T.glo (T.c.fact 12))) (fun a oe cls d pn hz hf => sOne (sSet (i := 2) (nR rfl) (sLst (sVsCons (sStr) (sVsCons (sXf rfl (xfOne (T.glo (T.c.fact 12)) (fx_xf (T.c.fact 25)) (fx_nof (T.c.fact 9))) hz hf (pe_var (i := 3) rfl (.inl rfl))) (sVsNil)))) sc__law_parted.nd rfl (.inl rfl))) (.cons ⟨rfl, rfl, .inl (T.glo (T.c.fact 26))⟩ (T.exm (T.glo (T.c.fact 26))) (fun a oe cls d pn hz hf => sOne (sSet (i := 2) (nR rfl) (sLst (sVsCons (sStr) (sVsNil))) sc__law_parted.nd rfl (.inl rfl))) .nil))) (sOne (sRet (sMove (nR rfl) (pe_var (i := 2) rfl (.inl rfl)))))
/-! _law_rows -/
abbrev N__law_rows : List Str := ["_law_rows_here", "_law_total", "_law_low", "_law_high", "_law_one", "_law_kept"]
theorem sc__law_rows : FnScope N__law_rows ["_law_rows_here"] (defScope (top 35)) := ⟨rfl, rfl, rfl, by decide +kernel, rfl, by decide +kernel, by decide +kernel⟩
noncomputable def bd__law_rows_1 : DenS := dSeq (dSet 1 (dCall fn__law_ratio [] (dArs [dLV (dFrz (dBin gAdd (dLV (dFrz (dBin gMul (dLV (dFrz (dBin gIx (dSlot 1) (dLV (dC (.int 0)))))) (dLV (dFrz (dBin gIx (dSlot 4) (dLV (dC (.int 1))))))))) (dLV (dFrz (dBin gMul (dLV (dFrz (dBin gIx (dSlot 4) (dLV (dC (.int 0)))))) (dLV (dFrz (dBin gIx (dSlot 1) (dLV (dC (.int 1))))))))))), dLV (dFrz (dBin gMul (dLV (dFrz (dBin gIx (dSlot 1) (dLV (dC (.int 1)))))) (dLV (dFrz (dBin gIx (dSlot 4) (dLV (dC (.int 1))))))))]))) (dSeq (dSet 2 (dIfF (dOrT (dTB (dBin gIs (dSlot 2) (dLV (dC .non)))) (dTB (dBin gLt (dLV (dFrz (dBin gMul (dLV (dFrz (dBin gIx (dSlot 4) (dLV (dC (.int 0)))))) (dLV (dFrz (dBin gIx (dSlot 2) (dLV (dC (.int 1))))))))) (dLV (dFrz (dBin gMul (dLV (dFrz (dBin gIx (dSlot 2) (dLV (dC (.int 0)))))) (dLV (dFrz (dBin gIx (dSlot 4) (dLV (dC (.int 1)))))))))))) (dVal (dVar 4)) (dVal (dVar 2)))) (dSet 3 (dIfF (dOrT (dTB (dBin gIs (dSlot 3) (dLV (dC .non)))) (dTB (dBin gGt (dLV (dFrz (dBin gMul (dLV (dFrz (dBin gIx (dSlot 4) (dLV (dC (.int 0)))))) (dLV (dFrz (dBin gIx (dSlot 3) (dLV (dC (.int 1))))))))) (dLV (dFrz (dBin gMul (dLV (dFrz (dBin gIx (dSlot 3) (dLV (dC (.int 0)))))) (dLV (dFrz (dBin gIx (dSlot 4) (dLV (dC (.int 1)))))))))))) (dVal (dVar 4)) (dVal (dVar 3)))))
noncomputable def el__law_rows_2 : DenV := dFrz (dCB gList (dArs [dSlot 4]))
noncomputable def el__law_rows_3 : DenV := dFrz (dCB gList (dArs [dSlot 4]))
noncomputable def den__law_rows : DenS := dSeq (dSet 1 (dVal (dTup [dC (.int 0), dC (.int 1)]))) (dSeq (dSet 2 (dVal (dC .non))) (dSeq (dSet 3 (dVal (dC .non))) (dSeq (dFor (asN 4) (dIt (dVar 0)) (bd__law_rows_1)) (dSeq (dSet 5 (dLc [4] (asN 4) (dIt (dVar 0)) (dTrue) (el__law_rows_2))) (dSeq (dIfS (dOrT (dTB (dBin gNe (dLV (dFrz (dCall fn_sum_of [] (dArs [dSlot 5])))) (dSlot 1))) (dOrT (dTB (dBin gNe (dLV (dFrz (dCall fn_sum_of [] (dArs [dLV (dFrz (dCB gTuple (dArs [dSlot 0])))])))) (dSlot 1))) (dTB (dBin gNe (dSlot 5) (dLV (dFrz (dLc [4] (asN 4) (dIt (dVar 0)) (dTrue) (el__law_rows_3)))))))) (dRet (dVal (dC (.bl false)))) (dSkip)) (dSeq (dIfS (dNotT (dTru (dSlot 0))) (dRet (dVal (dC (.bl true)))) (dSkip)) (dRet (dVal (dAndV (dFrz (dBin gEq (dLV (dFrz (dCall fn_least_of [] (dArs [dSlot 0])))) (dSlot 2))) (dAndV (dFrz (dBin gEq (dLV (dFrz (dCall fn_greatest_of [] (dArs [dLV (dFrz (dCB gTuple (dArs [dSlot 0])))])))) (dSlot 3))) (dAndV (dFrz (dBin gEq (dLV (dFrz (dCall fn_least_of [] (dArs [dSlot 5])))) (dSlot 2))) (dIsi ["tuple"] (dLV (dFrz (dCall fn_least_of [] (dArs [dSlot 5]))))))))))))))))
noncomputable def fn__law_rows : Fn := mkFn 1 6 den__law_rows
theorem fn__law_rows_len (args : List Ent) (h : args.length ≠ 1) : fn__law_rows args = .bad := mkFn_len args h
theorem ok__law_rows (T : Tz K mg) : FnOk P w K mg base (L2.CX P w) 4 (He.ga K "_law_rows") (fdOf K (He.ga K "_law_rows")) ["_law_rows_here"] (spOf K mg [] 1 fn__law_rows) := by
  refine fn_ok (N := N__law_rows) (np := 1) (k := 3) (R := []) T.F__law_rows sc__law_rows rfl (f := den__law_rows) (fun cdv A outer s H E hr => ?_)
  have tk : Takes (cxOf (L2.CX P w) P w K mg base N__law_rows "_law_rows" (defScope (top 35)) (He.ga K "_law_rows") cdv A outer s H E) (fun cls d _ H => E cls d H) := takes_of rfl rfl rfl rfl
  have hp := passes_of (X := cxOf (L2.CX P w) P w K mg base N__law_rows "_law_rows" (defScope (top 35)) (He.ga K "_law_rows") cdv A outer s H E) rfl
  exact sCons (sSet (i := 1) (nR rfl) (sVal (sTup (sVsCons (sInt) (sVsCons (sInt) (sVsNil))))) sc__law_rows.nd rfl (.inl rfl)) (sCons (sSet (i := 2) (nR rfl) (sVal (sNon)) sc__law_rows.nd rfl (.inl rfl)) (sCons (sSet (i := 3) (nR rfl) (sVal (sNon)) sc__law_rows.nd rfl (.inl rfl)) (sCons (sFor (own := [4]) hp rfl (sIt rfl (sVar (pe_var (i := 0) rfl (.inl rfl)))) (gN (i := 4) (by decide) (nR rfl) sc__law_rows.nd rfl (.inl rfl)) (sCons (sSet (i := 1) (nR rfl) (sCall rfl rfl (ok__law_ratio T) (hr.mono (by decide)) rfl (T.glo (T.c.fact 23)) (T.F__law_ratio).kp T.b__law_ratio .nil (fun _ => rfl) tk (sArCons (sLV (sFrz (sBin op_addE sv_add (sLV (sFrz (sBin op_mulE sv_mul (sLV (sFrz (sIx rfl (sSlot (pe_var (i := 1) rfl (.inl rfl))) (sLV (sInt))))) (sLV (sFrz (sIx rfl (sSlot (pe_var (i := 4) rfl (.inl rfl))) (sLV (sInt)))))))) (sLV (sFrz (sBin op_mulE sv_mul (sLV (sFrz (sIx rfl (sSlot (pe_var (i := 4) rfl (.inl rfl))) (sLV (sInt))))) (sLV (sFrz (sIx rfl (sSlot (pe_var (i := 1) rfl (.inl rfl))) (sLV (sInt))))))))))) (sArCons (sLV (sFrz (sBin op_mulE sv_mul (sLV (sFrz (sIx rfl (sSlot (pe_var (i := 1) rfl (.inl rfl))) (sLV (sInt))))) (sLV (sFrz (sIx rfl (sSlot (pe_var (i := 4) rfl (.inl rfl))) (sLV (sInt)))))))) (sArNil))) fn__law_ratio_len) sc__law_rows.nd rfl (.inl rfl)) (sCons (sSet (i := 2) (nR rfl) (sIfF (sWT (sOrT (sCmpT op_isE sv_is (sSlot (pe_var (i := 2) rfl (.inl rfl))) (sLV (sNon)) (nomark _)) (sOrT1 (sCmpT op_lt sv_lt (sLV (sFrz (sBin op_mulE sv_mul (sLV (sFrz (sIx rfl (sSlot (pe_var (i := 4) rfl (.inl rfl))) (sLV (sInt))))) (sLV (sFrz (sIx rfl (sSlot (pe_var (i := 2) rfl (.inl rfl))) (sLV (sInt)))))))) (sLV (sFrz (sBin op_mulE sv_mul (sLV (sFrz (sIx rfl (sSlot (pe_var (i := 2) rfl (.inl rfl))) (sLV (sInt))))) (sLV (sFrz (sIx rfl (sSlot (pe_var (i := 4) rfl (.inl rfl))) (sLV (sInt)))))))) (nomark _))))) (sVal (sVar (pe_var (i := 4) rfl (.inl rfl)))) (sVal (sVar (pe_var (i := 2) rfl (.inl rfl))))) sc__law_rows.nd rfl (.inl rfl)) (sOne (sSet (i := 3) (nR rfl) (sIfF (sWT (sOrT (sCmpT op_isE sv_is (sSlot (pe_var (i := 3) rfl (.inl rfl))) (sLV (sNon)) (nomark _)) (sOrT1 (sCmpT op_gt sv_gt (sLV (sFrz (sBin op_mulE sv_mul (sLV (sFrz (sIx rfl (sSlot (pe_var (i := 4) rfl (.inl rfl))) (sLV (sInt))))) (sLV (sFrz (sIx rfl (sSlot (pe_var (i := 3) rfl (.inl rfl))) (sLV (sInt)))))))) (sLV (sFrz (sBin op_mulE sv_mul (sLV (sFrz (sIx rfl (sSlot (pe_var (i := 3) rfl (.inl rfl))) (sLV (sInt))))) (sLV (sFrz (sIx rfl (sSlot (pe_var (i := 4) rfl (.inl rfl))) (sLV (sInt)))))))) (nomark _))))) (sVal (sVar (pe_var (i := 4) rfl (.inl rfl)))) (sVal (sVar (pe_var (i := 3) rfl (.inl rfl))))) sc__law_rows.nd rfl (.inl rfl)))))) (sCons (sSetLc (own := [("_law_one", 4)]) (i := 5) (nR rfl) (nRs rfl) rfl sc__law_rows.nd rfl rfl (sw_true rfl rfl rfl (by decide +kernel)) (sIt rfl (sVar (pe_var (i := 0) rfl (.inl rfl)))) (blkOk_by (N := N__law_rows) (sc := defScope (top 35)) (by decide +kernel)) (fun s H C cl fp => gN (i := 4) (by decide) (nR rfl) sc__law_rows.nd rfl (.inl rfl)) (fun s H C cl fp => sTs0) (fun s H C cl fp => sFrz (sCT call_list_of sv_list rfl (T.free (T.c.fact 5)) bt_list (sArCons (sSlot (pe_var (i := 4) rfl (.inl rfl))) (sArNil))))) (sCons (sIfS (sWT (sOrT (sCmpT (op_neD hr.units) sv_ne (sLV (sFrz (sCall rfl rfl (ok_sum_of T) (hr.mono (by decide)) rfl (T.glo (T.c.fact 35)) (T.F_sum_of).kp T.b_sum_of .nil (fun _ => rfl) tk (sArCons (sSlot (pe_var (i := 5) rfl (.inl rfl))) (sArNil)) fn_sum_of_len))) (sSlot (pe_var (i := 1) rfl (.inl rfl))) (nomark _)) (sOrT (sCmpT (op_neD hr.units) sv_ne (sLV (sFrz (sCall rfl rfl (ok_sum_of T) (hr.mono (by decide)) rfl (T.glo (T.c.fact 35)) (T.F_sum_of).kp T.b_sum_of .nil (fun _ => rfl) tk (sArCons (sLV (sFrz (sCT call_tuple_of sv_tuple rfl (T.free (T.c.fact 4)) bt_tuple (sArCons (sSlot (pe_var (i := 0) rfl (.inl rfl))) (sArNil))))) (sArNil)) fn_sum_of_len))) (sSlot (pe_var (i := 1) rfl (.inl rfl))) (nomark _)) (sOrT1 (sCmpT (op_neD hr.units) sv_ne (sSlot (pe_var (i := 5) rfl (.inl rfl))) (sLV (sFrz (sLc (own := [("_law_one", 4)]) (nRs rfl) rfl sc__law_rows.nd (sIt rfl (sVar (pe_var (i := 0) rfl (.inl rfl)))) (blkOk_by (N := N__law_rows) (sc := defScope (top 35)) (by decide +kernel)) (fun s H C cl fp => gN (i := 4) (by decide) (nR rfl) sc__law_rows.nd rfl (.inl rfl)) (fun s H C cl fp => sTs0) (fun s H C cl fp => sFrz (sCT call_list_of sv_list rfl (T.free (T.c.fact 5)) bt_list (sArCons (sSlot (pe_var (i := 4) rfl (.inl rfl))) (sArNil))))))) (nomark _)))))) (sOne (sRet (sVal (sBl)))) (sNil)) (sCons (sIfS (sNotT (sTru rfl (sSlot (pe_var (i := 0) rfl (.inl rfl))))) (sOne (sRet (sVal (sBl)))) (sNil)) (sOne (sRet (sVal (sAndV (sFrz (sCmp (op_eqD hr.units) sv_eq (sLV (sFrz (sCall rfl rfl (ok_least_of T) (hr.mono (by decide)) rfl (T.glo (T.c.fact 36)) (T.F_least_of).kp T.b_least_of .nil (fun _ => rfl) tk (sArCons (sSlot (pe_var (i := 0) rfl (.inl rfl))) (sArNil)) fn_least_of_len))) (sSlot (pe_var (i := 2) rfl (.inl rfl))) (nomark _))) (sAndV (sFrz (sCmp (op_eqD hr.units) sv_eq (sLV (sFrz (sCall rfl rfl (ok_greatest_of T) (hr.mono (by decide)) rfl (T.glo (T.c.fact 37)) (T.F_greatest_of).kp T.b_greatest_of .nil (fun _ => rfl) tk (sArCons (sLV (sFrz (sCT call_tuple_of sv_tuple rfl (T.free (T.c.fact 4)) bt_tuple (sArCons (sSlot (pe_var (i := 0) rfl (.inl rfl))) (sArNil))))) (sArNil)) fn_greatest_of_len))) (sSlot (pe_var (i := 3) rfl (.inl rfl))) (nomark _))) (sAndV (sFrz (sCmp (op_eqD hr.units) sv_eq (sLV (sFrz (sCall rfl rfl (ok_least_of T) (hr.mono (by decide)) rfl (T.glo (T.c.fact 36)) (T.F_least_of).kp T.b_least_of .nil (fun _ => rfl) tk (sArCons (sSlot (pe_var (i := 5) rfl (.inl rfl))) (sArNil)) fn_least_of_len))) (sSlot (pe_var (i := 2) rfl (.inl rfl))) (nomark _))) (sOneV (sIsi rfl rfl (T.free (T.c.fact 1)) bt_isinstance (sLV (sFrz (sCall rfl rfl (ok_least_of T) (hr.mono (by decide)) rfl (T.glo (T.c.fact 36)) (T.F_least_of).kp T.b_least_of .nil (fun _ => rfl) tk (sArCons (sSlot (pe_var (i := 5) rfl (.inl rfl))) (sArNil)) fn_least_of_len))) (pe_bltn rfl (T.free (T.c.fact 4)) bt_tuple rfl) rfl))))))))))))))
/-! _law_odd_ones -/
abbrev N__law_odd_ones : List Str := ["_law_hand_here", "_law_one", "_law_a", "_law_b", "_law_size", "_law_low", "_law_odd"]
theorem sc__law_odd_ones : FnScope N__law_odd_ones ["_law_hand_here", "_law_one"] (defScope (top 36)) := ⟨rfl, rfl, rfl, by decide +kernel, rfl, by decide +kernel, by decide +kernel⟩
noncomputable def den__law_odd_ones : DenS := dSeq (dAsg (asT 2 (asCons (asN 2) (asCons (asN 3) (asNil)))) (dVar 1)) (dSeq (dSet 4 (dBin gAdd (dLV (dC (.int 2))) (dLV (dFrz (dCallR fn__law_take 0 [] (dArs [dLV (dC (.int 9))])))))) (dSeq (dIfS (dOrT (dTru (dLV (dFrz (dCall fn_is_ratio [] (dArs [dLV (dTup [dFrz (dBin gMul (dSlot 2) (dSlot 4)), dFrz (dBin gMul (dSlot 3) (dSlot 4))])]))))) (dOrT (dTru (dLV (dFrz (dCall fn_is_ratio [] (dArs [dLV (dTup [dVar 2, dNeg (dVar 3)])]))))) (dOrT (dTru (dLV (dFrz (dCall fn_is_ratio [] (dArs [dLV (dTup [dVar 2, dC (.int 0)])]))))) (dOrT (dTru (dLV (dFrz (dCall fn_is_ratio [] (dArs [dLV (dTup [dVar 2, dVar 3, dC (.int 1)])]))))) (dTru (dLV (dFrz (dCall fn_is_ratio [] (dArs [dSlot 2]))))))))) (dRet (dVal (dC (.bl false)))) (dSkip)) (dSeq (dIfS (dOrT (dTru (dLV (dFrz (dCall fn_is_ratio [] (dArs [dLV (dTup [dC (.bl true), dC (.int 1)])]))))) (dOrT (dTru (dLV (dFrz (dCall fn_is_ratio [] (dArs [dLV (dTup [dVar 2, dC (.bl true)])]))))) (dOrT (dTru (dLV (dFrz (dCall fn_is_ratio [] (dArs [dLV (dC (.str "12"))]))))) (dOrT (dTru (dLV (dFrz (dCall fn_is_ratio [] (dArs [dLV (dC .non)]))))) (dTru (dLV (dFrz (dCall fn_is_ratio [] (dArs [dLV (dTup [dVar 2])]))))))))) (dRet (dVal (dC (.bl false)))) (dSkip)) (dSeq (dIfS (dOrT (dTB (dBin gIsNot (dLV (dFrz (dCall fn_is_ratio [] (dArs [dLV (dTup [dVar 2, dVar 3])])))) (dLV (dC (.bl true))))) (dTB (dBin gIsNot (dLV (dFrz (dCall fn_is_ratio [] (dArs [dLV (dFrz (dLst [dVar 2, dVar 3]))])))) (dLV (dC (.bl true)))))) (dRet (dVal (dC (.bl false)))) (dSkip)) (dSeq (dSet 5 (dBin gSub (dLV (dFrz (dCallR fn__law_take 0 [] (dArs [dLV (dC (.int 41))])))) (dLV (dC (.int 20))))) (dSeq (dIfS (dOrT (dTB (dBin gIsNot (dLV (dFrz (dCall fn_is_whole [.non, .non] (dArs [dSlot 2])))) (dLV (dC (.bl true))))) (dOrT (dTru (dLV (dFrz (dCall fn_is_whole [.non, .non] (dArs [dLV (dC (.bl true))]))))) (dOrT (dTru (dLV (dFrz (dCall fn_is_whole [.non] (dArs [dLV (dC .non), dLV (dC (.int 0))]))))) (dOrT (dTru (dLV (dFrz (dCall fn_is_whole [.non, .non] (dArs [dLV (dC (.str "1"))]))))) (dTru (dLV (dFrz (dCall fn_is_whole [] (dArs [dLV (dTup [dC (.int 1)]), dLV (dC (.int 0)), dLV (dC (.int 5))]))))))))) (dRet (dVal (dC (.bl false)))) (dSkip)) (dSeq (dIfS (dOrT (dTB (dBin gIsNot (dLV (dFrz (dCallK fn_is_whole 1 2 [.p 0, .k 0, .k 1] [.non, .non] (dVs [dVar 5]) (dVs [dVar 5, dVar 5])))) (dLV (dC (.bl true))))) (dOrT (dTru (dLV (dFrz (dCallK fn_is_whole 1 1 [.p 0, .d 0, .k 0] [.non, .non] (dVs [dVar 5]) (dVs [dFrz (dBin gSub (dSlot 5) (dLV (dC (.int 1))))]))))) (dTB (dBin gNe (dLV (dFrz (dCallK fn_make_ratio 1 1 [.p 0, .k 0] [(.int 1)] (dVs [dFrz (dBin gMul (dLV (dC (.int 6))) (dSlot 4))]) (dVs [dFrz (dBin gMul (dLV (dNeg (dC (.int 4)))) (dSlot 4))])))) (dLV (dTup [dNeg (dC (.int 3)), dC (.int 2)])))))) (dRet (dVal (dC (.bl false)))) (dSkip)) (dSeq (dIfS (dOrT (dTB (dBin gIsNot (dLV (dFrz (dCall fn_is_whole [] (dArs [dSlot 5, dSlot 5, dSlot 5])))) (dLV (dC (.bl true))))) (dOrT (dTru (dLV (dFrz (dCall fn_is_whole [.non] (dArs [dLV (dFrz (dBin gSub (dSlot 5) (dLV (dC (.int 1))))), dSlot 5]))))) (dOrT (dTru (dLV (dFrz (dCall fn_is_whole [] (dArs [dLV (dFrz (dBin gAdd (dSlot 5) (dLV (dC (.int 1))))), dLV (dC .non), dSlot 5]))))) (dNotT (dTru (dLV (dFrz (dCall fn_is_whole [.non] (dArs [dLV (dFrz (dBin gAdd (dSlot 5) (dLV (dC (.int 1))))), dSlot 5]))))))))) (dRet (dVal (dC (.bl false)))) (dSkip)) (dSeq (dSet 6 (dBin gIx (dLV (dFrz (dLst [dC (.bl true), dC .non, dC (.str "1"), dTup [dC (.int 1)], dC (.bl false)]))) (dLV (dFrz (dCallR fn__law_take 0 [] (dArs [dLV (dC (.int 5))])))))) (dSeq (dIfS (dOrT (dTB (dBin gNe (dLV (dFrz (dCall fn__law_made [] (dArs [dSlot 6, dLV (dC (.int 0))])))) (dLV (dFrz (dLst [dC (.str "BadRatio"), dC (.str "top")]))))) (dOrT (dTB (dBin gNe (dLV (dFrz (dCall fn__law_made [] (dArs [dSlot 2, dSlot 6])))) (dLV (dFrz (dLst [dC (.str "BadRatio"), dC (.str "bottom")]))))) (dTB (dBin gNe (dLV (dFrz (dCall fn__law_made [] (dArs [dSlot 6, dSlot 6])))) (dLV (dFrz (dLst [dC (.str "BadRatio"), dC (.str "top")]))))))) (dRet (dVal (dC (.bl false)))) (dSkip)) (dRet (dBin gEq (dLV (dFrz (dCall fn__law_made [] (dArs [dSlot 2, dLV (dC (.int 0))])))) (dLV (dFrz (dLst [dC (.str "BadRatio"), dC (.str "bottom")])))))))))))))))
noncomputable def fn__law_odd_ones : Fn := mkFn 2 7 den__law_odd_ones
theorem fn__law_odd_ones_len (args : List Ent) (h : args.length ≠ 2) : fn__law_odd_ones args = .bad := mkFn_len args h
theorem ok__law_odd_ones (T : Tz K mg) : FnOk P w K mg base (L2.CX P w) 5 (He.ga K "_law_odd_ones") (fdOf K (He.ga K "_law_odd_ones")) ["_law_hand_here", "_law_one"] (spOf K mg [0] 2 fn__law_odd_ones) := by
  obtain ⟨ds_is_whole_1, v_is_whole_1, b_is_whole_1⟩ := T.bd_is_whole_1
  obtain ⟨ds_is_whole_2, v_is_whole_2, b_is_whole_2⟩ := T.bd_is_whole_2
  obtain ⟨ds_is_whole_3, v_is_whole_3, b_is_whole_3⟩ := T.bd_is_whole_3
  obtain ⟨its_is_whole_1_high, kb_is_whole_1_high⟩ := T.kb_is_whole_1_high
  obtain ⟨its_is_whole_1_low_high, kb_is_whole_1_low_high⟩ := T.kb_is_whole_1_low_high
  obtain ⟨its_make_ratio_1_bottom, kb_make_ratio_1_bottom⟩ := T.kb_make_ratio_1_bottom
  refine fn_ok (N := N__law_odd_ones) (np := 2) (k := 4) (R := [0]) T.F__law_odd_ones sc__law_odd_ones rfl (f := den__law_odd_ones) (fun cdv A outer s H E hr => ?_)
  have tk : Takes (cxOf (L2.CX P w) P w K mg base N__law_odd_ones "_law_odd_ones" (defScope (top 36)) (He.ga K "_law_odd_ones") cdv A outer s H E) (fun cls d _ H => E cls d H) := takes_of rfl rfl rfl rfl
  have hp := passes_of (X := cxOf (L2.CX P w) P w K mg base N__law_odd_ones "_law_odd_ones" (defScope (top 36)) (He.ga K "_law_odd_ones") cdv A outer s H E) rfl
  exact sCons (sAsg (own := [2, 3]) (sVar (pe_var (i := 1) rfl (.inl rfl))) (gT rfl rfl (gsCons (gN (i := 2) (by decide) (nR rfl) sc__law_odd_ones.nd rfl (.inl rfl)) (gsCons (gN (i := 3) (by decide) (nR rfl) sc__law_odd_ones.nd rfl (.inl rfl)) (gsNil))))) (sCons (sSet (i := 4) (nR rfl) (sBin op_addE sv_add (sLV (sInt)) (sLV (sFrz (sCallR rfl rfl (ok__law_take T) (hr.mono (by decide)) rfl (T.glo (T.c.fact 22)) (T.F__law_take).kp T.b__law_take .nil (fun _ => rfl) tk (pe_var (i := 0) rfl (.inl rfl)) (sArCons (sLV (sInt)) (sArNil)) fn__law_take_len)))) sc__law_odd_ones.nd rfl (.inl rfl)) (sCons (sIfS (sWT (sOrT (sTru rfl (sLV (sFrz (sCall rfl rfl (ok_is_ratio T) (hr.mono (by decide)) rfl (T.glo (T.c.fact 38)) (T.F_is_ratio).kp T.b_is_ratio .nil (fun _ => rfl) tk (sArCons (sLV (sTup (sVsCons (sFrz (sBin op_mulE sv_mul (sSlot (pe_var (i := 2) rfl (.inl rfl))) (sSlot (pe_var (i := 4) rfl (.inl rfl))))) (sVsCons (sFrz (sBin op_mulE sv_mul (sSlot (pe_var (i := 3) rfl (.inl rfl))) (sSlot (pe_var (i := 4) rfl (.inl rfl))))) (sVsNil))))) (sArNil)) fn_is_ratio_len)))) (sOrT (sTru rfl (sLV (sFrz (sCall rfl rfl (ok_is_ratio T) (hr.mono (by decide)) rfl (T.glo (T.c.fact 38)) (T.F_is_ratio).kp T.b_is_ratio .nil (fun _ => rfl) tk (sArCons (sLV (sTup (sVsCons (sVar (pe_var (i := 2) rfl (.inl rfl))) (sVsCons (sNeg (sVar (pe_var (i := 3) rfl (.inl rfl)))) (sVsNil))))) (sArNil)) fn_is_ratio_len)))) (sOrT (sTru rfl (sLV (sFrz (sCall rfl rfl (ok_is_ratio T) (hr.mono (by decide)) rfl (T.glo (T.c.fact 38)) (T.F_is_ratio).kp T.b_is_ratio .nil (fun _ => rfl) tk (sArCons (sLV (sTup (sVsCons (sVar (pe_var (i := 2) rfl (.inl rfl))) (sVsCons (sInt) (sVsNil))))) (sArNil)) fn_is_ratio_len)))) (sOrT (sTru rfl (sLV (sFrz (sCall rfl rfl (ok_is_ratio T) (hr.mono (by decide)) rfl (T.glo (T.c.fact 38)) (T.F_is_ratio).kp T.b_is_ratio .nil (fun _ => rfl) tk (sArCons (sLV (sTup (sVsCons (sVar (pe_var (i := 2) rfl (.inl rfl))) (sVsCons (sVar (pe_var (i := 3) rfl (.inl rfl))) (sVsCons (sInt) (sVsNil)))))) (sArNil)) fn_is_ratio_len)))) (sOrT1 (sTru rfl (sLV (sFrz (sCall rfl rfl (ok_is_ratio T) (hr.mono (by decide)) rfl (T.glo (T.c.fact 38)) (T.F_is_ratio).kp T.b_is_ratio .nil (fun _ => rfl) tk (sArCons (sSlot (pe_var (i := 2) rfl (.inl rfl))) (sArNil)) fn_is_ratio_len)))))))))) (sOne (sRet (sVal (sBl)))) (sNil)) (sCons (sIfS (sWT (sOrT (sTru rfl (sLV (sFrz (sCall rfl rfl (ok_is_ratio T) (hr.mono (by decide)) rfl (T.glo (T.c.fact 38)) (T.F_is_ratio).kp T.b_is_ratio .nil (fun _ => rfl) tk (sArCons (sLV (sTup (sVsCons (sBl) (sVsCons (sInt) (sVsNil))))) (sArNil)) fn_is_ratio_len)))) (sOrT (sTru rfl (sLV (sFrz (sCall rfl rfl (ok_is_ratio T) (hr.mono (by decide)) rfl (T.glo (T.c.fact 38)) (T.F_is_ratio).kp T.b_is_ratio .nil (fun _ => rfl) tk (sArCons (sLV (sTup (sVsCons (sVar (pe_var (i := 2) rfl (.inl rfl))) (sVsCons (sBl) (sVsNil))))) (sArNil)) fn_is_ratio_len)))) (sOrT (sTru rfl (sLV (sFrz (sCall rfl rfl (ok_is_ratio T) (hr.mono (by decide)) rfl (T.glo (T.c.fact 38)) (T.F_is_ratio).kp T.b_is_ratio .nil (fun _ => rfl) tk (sArCons (sLV (sStr)) (sArNil)) fn_is_ratio_len)))) (sOrT (sTru rfl (sLV (sFrz (sCall rfl rfl (ok_is_ratio T) (hr.mono (by decide)) rfl (T.glo (T.c.fact 38)) (T.F_is_ratio).kp T.b_is_ratio .nil (fun _ => rfl) tk (sArCons (sLV (sNon)) (sArNil)) fn_is_ratio_len)))) (sOrT1 (sTru rfl (sLV (sFrz (sCall rfl rfl (ok_is_ratio T) (hr.mono (by decide)) rfl (T.glo (T.c.fact 38)) (T.F_is_ratio).kp T.b_is_ratio .nil (fun _ => rfl) tk (sArCons (sLV (sTup (sVsCons (sVar (pe_var (i := 2) rfl (.inl rfl))) (sVsNil)))) (sArNil)) fn_is_ratio_len)))))))))) (sOne (sRet (sVal (sBl)))) (sNil)) (sCons (sIfS (sWT (sOrT (sCmpT op_isNotE sv_isNot (sLV (sFrz (sCall rfl rfl (ok_is_ratio T) (hr.mono (by decide)) rfl (T.glo (T.c.fact 38)) (T.F_is_ratio).kp T.b_is_ratio .nil (fun _ => rfl) tk (sArCons (sLV (sTup (sVsCons (sVar (pe_var (i := 2) rfl (.inl rfl))) (sVsCons (sVar (pe_var (i := 3) rfl (.inl rfl))) (sVsNil))))) (sArNil)) fn_is_ratio_len))) (sLV (sBl)) (nomark _)) (sOrT1 (sCmpT op_isNotE sv_isNot (sLV (sFrz (sCall rfl rfl (ok_is_ratio T) (hr.mono (by decide)) rfl (T.glo (T.c.fact 38)) (T.F_is_ratio).kp T.b_is_ratio .nil (fun _ => rfl) tk (sArCons (sLV (sFrz (sLst (sVsCons (sVar (pe_var (i := 2) rfl (.inl rfl))) (sVsCons (sVar (pe_var (i := 3) rfl (.inl rfl))) (sVsNil)))))) (sArNil)) fn_is_ratio_len))) (sLV (sBl)) (nomark _))))) (sOne (sRet (sVal (sBl)))) (sNil)) (sCons (sSet (i := 5) (nR rfl) (sBin op_sub sv_sub (sLV (sFrz (sCallR rfl rfl (ok__law_take T) (hr.mono (by decide)) rfl (T.glo (T.c.fact 22)) (T.F__law_take).kp T.b__law_take .nil (fun _ => rfl) tk (pe_var (i := 0) rfl (.inl rfl)) (sArCons (sLV (sInt)) (sArNil)) fn__law_take_len))) (sLV (sInt))) sc__law_odd_ones.nd rfl (.inl rfl)) (sCons (sIfS (sWT (sOrT (sCmpT op_isNotE sv_isNot (sLV (sFrz (sCall rfl rfl (ok_is_whole T) (hr.mono (by decide)) rfl (T.glo (T.c.fact 7)) (T.F_is_whole).kp b_is_whole_1 v_is_whole_1 (fun _ => ⟨_, _, rfl, rfl, ⟨_, _, rfl, rfl, rfl⟩⟩) tk (sArCons (sSlot (pe_var (i := 2) rfl (.inl rfl))) (sArNil)) fn_is_whole_len))) (sLV (sBl)) (nomark _)) (sOrT (sTru rfl (sLV (sFrz (sCall rfl rfl (ok_is_whole T) (hr.mono (by decide)) rfl (T.glo (T.c.fact 7)) (T.F_is_whole).kp b_is_whole_1 v_is_whole_1 (fun _ => ⟨_, _, rfl, rfl, ⟨_, _, rfl, rfl, rfl⟩⟩) tk (sArCons (sLV (sBl)) (sArNil)) fn_is_whole_len)))) (sOrT (sTru rfl (sLV (sFrz (sCall rfl rfl (ok_is_whole T) (hr.mono (by decide)) rfl (T.glo (T.c.fact 7)) (T.F_is_whole).kp b_is_whole_2 v_is_whole_2 (fun _ => ⟨_, _, rfl, rfl, rfl⟩) tk (sArCons (sLV (sNon)) (sArCons (sLV (sInt)) (sArNil))) fn_is_whole_len)))) (sOrT (sTru rfl (sLV (sFrz (sCall rfl rfl (ok_is_whole T) (hr.mono (by decide)) rfl (T.glo (T.c.fact 7)) (T.F_is_whole).kp b_is_whole_1 v_is_whole_1 (fun _ => ⟨_, _, rfl, rfl, ⟨_, _, rfl, rfl, rfl⟩⟩) tk (sArCons (sLV (sStr)) (sArNil)) fn_is_whole_len)))) (sOrT1 (sTru rfl (sLV (sFrz (sCall rfl rfl (ok_is_whole T) (hr.mono (by decide)) rfl (T.glo (T.c.fact 7)) (T.F_is_whole).kp b_is_whole_3 v_is_whole_3 (fun _ => rfl) tk (sArCons (sLV (sTup (sVsCons (sInt) (sVsNil)))) (sArCons (sLV (sInt)) (sArCons (sLV (sInt)) (sArNil)))) fn_is_whole_len)))))))))) (sOne (sRet (sVal (sBl)))) (sNil)) (sCons (sIfS (sWT (sOrT (sCmpT op_isNotE sv_isNot (sLV (sFrz (sCallK (ks := ["low", "high"]) [.p 0, .k 0, .k 1] rfl rfl (ok_is_whole T) (hr.mono (by decide)) rfl (T.glo (T.c.fact 7)) (T.F_is_whole).kp kb_is_whole_1_low_high (fun _ => ⟨_, _, rfl, rfl, ⟨_, _, rfl, rfl, rfl⟩⟩) tk (sVsCons (sVar (pe_var (i := 5) rfl (.inl rfl))) (sVsNil)) (sKCons (sVar (pe_var (i := 5) rfl (.inl rfl))) (sKCons (sVar (pe_var (i := 5) rfl (.inl rfl))) (sKNil))) fn_is_whole_len))) (sLV (sBl)) (nomark _)) (sOrT (sTru rfl (sLV (sFrz (sCallK (ks := ["high"]) [.p 0, .d 0, .k 0] rfl rfl (ok_is_whole T) (hr.mono (by decide)) rfl (T.glo (T.c.fact 7)) (T.F_is_whole).kp kb_is_whole_1_high (fun _ => ⟨_, _, rfl, rfl, ⟨_, _, rfl, rfl, rfl⟩⟩) tk (sVsCons (sVar (pe_var (i := 5) rfl (.inl rfl))) (sVsNil)) (sKCons (sFrz (sBin op_sub sv_sub (sSlot (pe_var (i := 5) rfl (.inl rfl))) (sLV (sInt)))) (sKNil)) fn_is_whole_len)))) (sOrT1 (sCmpT (op_neD hr.units) sv_ne (sLV (sFrz (sCallK (ks := ["bottom"]) [.p 0, .k 0] rfl rfl (ok_make_ratio T) (hr.mono (by decide)) rfl (T.glo (T.c.fact 24)) (T.F_make_ratio).kp kb_make_ratio_1_bottom (fun _ => ⟨_, _, rfl, rfl, rfl⟩) tk (sVsCons (sFrz (sBin op_mulE sv_mul (sLV (sInt)) (sSlot (pe_var (i := 4) rfl (.inl rfl))))) (sVsNil)) (sKCons (sFrz (sBin op_mulE sv_mul (sLV (sNeg (sInt))) (sSlot (pe_var (i := 4) rfl (.inl rfl))))) (sKNil)) fn_make_ratio_len))) (sLV (sTup (sVsCons (sNeg (sInt)) (sVsCons (sInt) (sVsNil))))) (nomark _)))))) (sOne (sRet (sVal (sBl)))) (sNil)) (sCons (sIfS (sWT (sOrT (sCmpT op_isNotE sv_isNot (sLV (sFrz (sCall rfl rfl (ok_is_whole T) (hr.mono (by decide)) rfl (T.glo (T.c.fact 7)) (T.F_is_whole).kp b_is_whole_3 v_is_whole_3 (fun _ => rfl) tk (sArCons (sSlot (pe_var (i := 5) rfl (.inl rfl))) (sArCons (sSlot (pe_var (i := 5) rfl (.inl rfl))) (sArCons (sSlot (pe_var (i := 5) rfl (.inl rfl))) (sArNil)))) fn_is_whole_len))) (sLV (sBl)) (nomark _)) (sOrT (sTru rfl (sLV (sFrz (sCall rfl rfl (ok_is_whole T) (hr.mono (by decide)) rfl (T.glo (T.c.fact 7)) (T.F_is_whole).kp b_is_whole_2 v_is_whole_2 (fun _ => ⟨_, _, rfl, rfl, rfl⟩) tk (sArCons (sLV (sFrz (sBin op_sub sv_sub (sSlot (pe_var (i := 5) rfl (.inl rfl))) (sLV (sInt))))) (sArCons (sSlot (pe_var (i := 5) rfl (.inl rfl))) (sArNil))) fn_is_whole_len)))) (sOrT (sTru rfl (sLV (sFrz (sCall rfl rfl (ok_is_whole T) (hr.mono (by decide)) rfl (T.glo (T.c.fact 7)) (T.F_is_whole).kp b_is_whole_3 v_is_whole_3 (fun _ => rfl) tk (sArCons (sLV (sFrz (sBin op_addE sv_add (sSlot (pe_var (i := 5) rfl (.inl rfl))) (sLV (sInt))))) (sArCons (sLV (sNon)) (sArCons (sSlot (pe_var (i := 5) rfl (.inl rfl))) (sArNil)))) fn_is_whole_len)))) (sOrT1 (sNotT (sTru rfl (sLV (sFrz (sCall rfl rfl (ok_is_whole T) (hr.mono (by decide)) rfl (T.glo (T.c.fact 7)) (T.F_is_whole).kp b_is_whole_2 v_is_whole_2 (fun _ => ⟨_, _, rfl, rfl, rfl⟩) tk (sArCons (sLV (sFrz (sBin op_addE sv_add (sSlot (pe_var (i := 5) rfl (.inl rfl))) (sLV (sInt))))) (sArCons (sSlot (pe_var (i := 5) rfl (.inl rfl))) (sArNil))) fn_is_whole_len)))))))))) (sOne (sRet (sVal (sBl)))) (sNil)) (sCons (sSet (i := 6) (nR rfl) (sIx rfl (sLV (sFrz (sLst (sVsCons (sBl) (sVsCons (sNon) (sVsCons (sStr) (sVsCons (sTup (sVsCons (sInt) (sVsNil))) (sVsCons (sBl) (sVsNil))))))))) (sLV (sFrz (sCallR rfl rfl (ok__law_take T) (hr.mono (by decide)) rfl (T.glo (T.c.fact 22)) (T.F__law_take).kp T.b__law_take .nil (fun _ => rfl) tk (pe_var (i := 0) rfl (.inl rfl)) (sArCons (sLV (sInt)) (sArNil)) fn__law_take_len)))) sc__law_odd_ones.nd rfl (.inl rfl)) (sCons (sIfS (sWT (sOrT (sCmpT (op_neD hr.units) sv_ne (sLV (sFrz (sCall rfl rfl (ok__law_made T) (hr.mono (by decide)) rfl (T.glo (T.c.fact 39)) (T.F__law_made).kp T.b__law_made .nil (fun _ => rfl) tk (sArCons (sSlot (pe_var (i := 6) rfl (.inl rfl))) (sArCons (sLV (sInt)) (sArNil))) fn__law_made_len))) (sLV (sFrz (sLst (sVsCons (sStr) (sVsCons (sStr) (sVsNil)))))) (nomark _)) (sOrT (sCmpT (op_neD hr.units) sv_ne (sLV (sFrz (sCall rfl rfl (ok__law_made T) (hr.mono (by decide)) rfl (T.glo (T.c.fact 39)) (T.F__law_made).kp T.b__law_made .nil (fun _ => rfl) tk (sArCons (sSlot (pe_var (i := 2) rfl (.inl rfl))) (sArCons (sSlot (pe_var (i := 6) rfl (.inl rfl))) (sArNil))) fn__law_made_len))) (sLV (sFrz (sLst (sVsCons (sStr) (sVsCons (sStr) (sVsNil)))))) (nomark _)) (sOrT1 (sCmpT (op_neD hr.units) sv_ne (sLV (sFrz (sCall rfl rfl (ok__law_made T) (hr.mono (by decide)) rfl (T.glo (T.c.fact 39)) (T.F__law_made).kp T.b__law_made .nil (fun _ => rfl) tk (sArCons (sSlot (pe_var (i := 6) rfl (.inl rfl))) (sArCons (sSlot (pe_var (i := 6) rfl (.inl rfl))) (sArNil))) fn__law_made_len))) (sLV (sFrz (sLst (sVsCons (sStr) (sVsCons (sStr) (sVsNil)))))) (nomark _)))))) (sOne (sRet (sVal (sBl)))) (sNil)) (sOne (sRet (sCmp (op_eqD hr.units) sv_eq (sLV (sFrz (sCall rfl rfl (ok__law_made T) (hr.mono (by decide)) rfl (T.glo (T.c.fact 39)) (T.F__law_made).kp T.b__law_made .nil (fun _ => rfl) tk (sArCons (sSlot (pe_var (i := 2) rfl (.inl rfl))) (sArCons (sLV (sInt)) (sArNil))) fn__law_made_len))) (sLV (sFrz (sLst (sVsCons (sStr) (sVsCons (sStr) (sVsNil)))))) (nomark _))))))))))))))
/-! _law_tuples -/
abbrev N__law_tuples : List Str := ["_law_thing", "_law_item"]
theorem sc__law_tuples : FnScope N__law_tuples ["_law_thing"] (defScope (top 29)) := ⟨rfl, rfl, rfl, by decide +kernel, rfl, by decide +kernel, by decide +kernel⟩
noncomputable def cd__law_tuples_1 (self : Fn) : DenT := dNotT (dTru (dLV (dFrz (dCall self [] (dArs [dSlot 1])))))
noncomputable def el__law_tuples_2 (self : Fn) : DenV := dC (.int 1)
noncomputable def den__law_tuples (self : Fn) : DenS := dSeq (dIfS (dTru (dLV (dIsi ["tuple"] (dSlot 0)))) (dRet (dVal (dNotL (dLV (dFrz (dLc [1] (asN 1) (dIt (dVar 0)) ((cd__law_tuples_1 self)) ((el__law_tuples_2 self)))))))) (dSkip)) (dRet (dVal (dOrV (dFrz (dBin gIs (dSlot 0) (dLV (dC .non)))) (dAndV (dIsi ["int"] (dSlot 0)) (dNotL (dLV (dIsi ["bool"] (dSlot 0))))))))
noncomputable def fn__law_tuples : Fn := recFn 1 2 den__law_tuples 12
theorem fn__law_tuples_len (args : List Ent) (h : args.length ≠ 1) : fn__law_tuples args = .bad := recFn_len _ _ h
theorem okr__law_tuples (T : Tz K mg) : ∀ n, FnOk P w K mg base (L2.CX P w) (0 + n) (He.ga K "_law_tuples") (fdOf K (He.ga K "_law_tuples")) ["_law_thing"] (spOf K mg [] 1 (recFn 1 2 den__law_tuples n))
  | 0 => FnOk.never
  | n + 1 => by
    refine fn_ok (N := N__law_tuples) (np := 1) (k := 0 + n) (R := []) T.F__law_tuples sc__law_tuples rfl (f := den__law_tuples (recFn 1 2 den__law_tuples n)) (fun cdv A outer s H E hr => ?_)
    have tk : Takes (cxOf (L2.CX P w) P w K mg base N__law_tuples "_law_tuples" (defScope (top 29)) (He.ga K "_law_tuples") cdv A outer s H E) (fun cls d _ H => E cls d H) := takes_of rfl rfl rfl rfl
    have hp := passes_of (X := cxOf (L2.CX P w) P w K mg base N__law_tuples "_law_tuples" (defScope (top 29)) (He.ga K "_law_tuples") cdv A outer s H E) rfl
    have F := okr__law_tuples T n
    have ga := recFn_len (np := 1) (ns := 2) (den := den__law_tuples) n
    exact sCons (sIfS (sTru rfl (sLV (sIsi rfl rfl (T.free (T.c.fact 1)) bt_isinstance (sSlot (pe_var (i := 0) rfl (.inl rfl))) (pe_bltn rfl (T.free (T.c.fact 4)) bt_tuple rfl) rfl))) (sOne (sRet (sVal (sNotL rfl (sLV (sFrz (sLc (own := [("_law_item", 1)]) (nRs rfl) rfl sc__law_tuples.nd (sIt rfl (sVar (pe_var (i := 0) rfl (.inl rfl)))) (blkOk_by (N := N__law_tuples) (sc := defScope (top 29)) (by decide +kernel)) (fun s H C cl fp => gN (i := 1) (by decide) (nR rfl) sc__law_tuples.nd rfl (.inl rfl)) (fun s H C cl fp => sTs1 (sNotT (sTru rfl (sLV (sFrz (sCall rfl rfl F hr rfl (T.glo (T.c.fact 21)) (T.F__law_tuples).kp T.b__law_tuples .nil (fun _ => rfl) takes0 (sArCons (sSlot (pe_var (i := 1) rfl (.inl rfl))) (sArNil)) ga)))))) (fun s H C cl fp => sInt)))))))) (sNil)) (sOne (sRet (sVal (sOrV (sFrz (sCmp op_isE sv_is (sSlot (pe_var (i := 0) rfl (.inl rfl))) (sLV (sNon)) (nomark _))) (sOneV (sAndV (sIsi rfl rfl (T.free (T.c.fact 1)) bt_isinstance (sSlot (pe_var (i := 0) rfl (.inl rfl))) (pe_bltn rfl (T.free (T.c.fact 3)) bt_int rfl) rfl) (sOneV (sNotL rfl (sLV (sIsi rfl rfl (T.free (T.c.fact 1)) bt_isinstance (sSlot (pe_var (i := 0) rfl (.inl rfl))) (pe_bltn rfl (T.free (T.c.fact 2)) bt_bool rfl) rfl))))))))))
theorem ok__law_tuples (T : Tz K mg) : FnOk P w K mg base (L2.CX P w) 12 (He.ga K "_law_tuples") (fdOf K (He.ga K "_law_tuples")) ["_law_thing"] (spOf K mg [] 1 fn__law_tuples) := okr__law_tuples T 12
/-! _law_pair -/
abbrev N__law_pair : List Str := ["_law_one", "_law_other", "_law_a", "_law_b", "_law_c", "_law_d", "_law_due", "_law_order", "_law_found", "_law_whole"]
theorem sc__law_pair : FnScope N__law_pair ["_law_one", "_law_other"] (defScope (top 34)) := ⟨rfl, rfl, rfl, by decide +kernel, rfl, by decide +kernel, by decide +kernel⟩
noncomputable def den__law_pair : DenS := dSeq (dAsg (asT 2 (asCons (asN 2) (asCons (asN 3) (asNil)))) (dVar 0)) (dSeq (dAsg (asT 2 (asCons (asN 4) (asCons (asN 5) (asNil)))) (dVar 1)) (dSeq (dIfS (dOrT (dTB (dBin gNe (dLV (dFrz (dCall fn_plus [] (dArs [dSlot 0, dSlot 1])))) (dLV (dFrz (dCall fn__law_ratio [] (dArs [dLV (dFrz (dBin gAdd (dLV (dFrz (dBin gMul (dSlot 2) (dSlot 5)))) (dLV (dFrz (dBin gMul (dSlot 4) (dSlot 3)))))), dLV (dFrz (dBin gMul (dSlot 3) (dSlot 5)))])))))) (dTB (dBin gNe (dLV (dFrz (dCall fn_minus [] (dArs [dSlot 0, dSlot 1])))) (dLV (dFrz (dCall fn__law_ratio [] (dArs [dLV (dFrz (dBin gSub (dLV (dFrz (dBin gMul (dSlot 2) (dSlot 5)))) (dLV (dFrz (dBin gMul (dSlot 4) (dSlot 3)))))), dLV (dFrz (dBin gMul (dSlot 3) (dSlot 5)))]))))))) (dRet (dVal (dC (.bl false)))) (dSkip)) (dSeq (dIfS (dOrT (dTB (dBin gNe (dLV (dFrz (dCall fn_times [] (dArs [dSlot 0, dSlot 1])))) (dLV (dFrz (dCall fn__law_ratio [] (dArs [dLV (dFrz (dBin gMul (dSlot 2) (dSlot 4))), dLV (dFrz (dBin gMul (dSlot 3) (dSlot 5)))])))))) (dTB (dBin gNe (dLV (dFrz (dCall fn_negative [] (dArs [dSlot 0])))) (dLV (dTup [dNeg (dVar 2), dVar 3]))))) (dRet (dVal (dC (.bl false)))) (dSkip)) (dSeq (dSet 6 (dIfF (dTB (dBin gEq (dSlot 4) (dLV (dC (.int 0))))) (dLst [dC (.str "BadRatio"), dC (.str "zero")]) (dCall fn__law_signed [] (dArs [dLV (dFrz (dBin gMul (dSlot 2) (dSlot 5))), dLV (dFrz (dBin gMul (dSlot 3) (dSlot 4)))])))) (dSeq (dIfS (dTB (dBin gNe (dLV (dFrz (dCall fn__law_parted [] (dArs [dSlot 0, dSlot 1])))) (dSlot 6))) (dRet (dVal (dC (.bl false)))) (dSkip)) (dSeq (dSet 7 (dIfF (dTB (dBin gEq (dLV (dFrz (dBin gMul (dSlot 2) (dSlot 5)))) (dLV (dFrz (dBin gMul (dSlot 4) (dSlot 3)))))) (dVal (dC (.int 0))) (dIfF (dTB (dBin gLt (dLV (dFrz (dBin gMul (dSlot 2) (dSlot 5)))) (dLV (dFrz (dBin gMul (dSlot 4) (dSlot 3)))))) (dVal (dNeg (dC (.int 1)))) (dVal (dC (.int 1)))))) (dSeq (dSet 8 (dCall fn_compare [] (dArs [dSlot 0, dSlot 1]))) (dSeq (dIfS (dOrT (dTB (dBin gNe (dSlot 8) (dSlot 7))) (dOrT (dTru (dLV (dIsi ["bool"] (dSlot 8)))) (dTB (dBin gNe (dLV (dFrz (dCall fn_compare [] (dArs [dSlot 1, dSlot 0])))) (dLV (dNeg (dVar 7))))))) (dRet (dVal (dC (.bl false)))) (dSkip)) (dSeq (dSet 9 (dCall fn_floor_of [] (dArs [dSlot 0]))) (dSeq (dIfS (dOrT (dNotT (dTru (dLV (dIsi ["int"] (dSlot 9))))) (dOrT (dTru (dLV (dIsi ["bool"] (dSlot 9)))) (dNotT (dTB (dChain gLe gLt (dLV (dFrz (dBin gMul (dSlot 9) (dSlot 3)))) (dSlot 2) (dLV (dFrz (dBin gMul (dLV (dFrz (dBin gAdd (dSlot 9) (dLV (dC (.int 1)))))) (dSlot 3))))))))) (dRet (dVal (dC (.bl false)))) (dSkip)) (dRet (dVal (dAndV (dFrz (dBin gEq (dLV (dFrz (dCall fn_broken_of [] (dArs [dSlot 0])))) (dLV (dTup [dFrz (dBin gSub (dSlot 2) (dLV (dFrz (dBin gMul (dSlot 9) (dSlot 3))))), dVar 3])))) (dFrz (dCall fn__law_tuples [] (dArs [dLV (dTup [dFrz (dCall fn_plus [] (dArs [dSlot 0, dSlot 1])), dFrz (dCall fn_times [] (dArs [dSlot 0, dSlot 1])), dFrz (dCall fn_broken_of [] (dArs [dSlot 0]))])]))))))))))))))))
noncomputable def fn__law_pair : Fn := mkFn 2 10 den__law_pair
theorem fn__law_pair_len (args : List Ent) (h : args.length ≠ 2) : fn__law_pair args = .bad := mkFn_len args h
theorem ok__law_pair (T : Tz K mg) : FnOk P w K mg base (L2.CX P w) 13 (He.ga K "_law_pair") (fdOf K (He.ga K "_law_pair")) ["_law_one", "_law_other"] (spOf K mg [] 2 fn__law_pair) := by
  refine fn_ok (N := N__law_pair) (np := 2) (k := 12) (R := []) T.F__law_pair sc__law_pair rfl (f := den__law_pair) (fun cdv A outer s H E hr => ?_)
  have tk : Takes (cxOf (L2.CX P w) P w K mg base N__law_pair "_law_pair" (defScope (top 34)) (He.ga K "_law_pair") cdv A outer s H E) (fun cls d _ H => E cls d H) := takes_of rfl rfl rfl rfl
  have hp := passes_of (X := cxOf (L2.CX P w) P w K mg base N__law_pair "_law_pair" (defScope (top 34)) (He.ga K "_law_pair") cdv A outer s H E) rfl
  exact sCons (sAsg (own := [2, 3]) (sVar (pe_var (i := 0) rfl (.inl rfl))) (gT rfl rfl (gsCons (gN (i := 2) (by decide) (nR rfl) sc__law_pair.nd rfl (.inl rfl)) (gsCons (gN (i := 3) (by decide) (nR rfl) sc__law_pair.nd rfl (.inl rfl)) (gsNil))))) (sCons (sAsg (own := [4, 5]) (sVar (pe_var (i := 1) rfl (.inl rfl))) (gT rfl rfl (gsCons (gN (i := 4) (by decide) (nR rfl) sc__law_pair.nd rfl (.inl rfl)) (gsCons (gN (i := 5) (by decide) (nR rfl) sc__law_pair.nd rfl (.inl rfl)) (gsNil))))) (sCons (sIfS (sWT (sOrT (sCmpT (op_neD hr.units) sv_ne (sLV (sFrz (sCall rfl rfl (ok_plus T) (hr.mono (by decide)) rfl (T.glo (T.c.fact 16)) (T.F_plus).kp T.b_plus .nil (fun _ => rfl) tk (sArCons (sSlot (pe_var (i := 0) rfl (.inl rfl))) (sArCons (sSlot (pe_var (i := 1) rfl (.inl rfl))) (sArNil))) fn_plus_len))) (sLV (sFrz (sCall rfl rfl (ok__law_ratio T) (hr.mono (by decide)) rfl (T.glo (T.c.fact 23)) (T.F__law_ratio).kp T.b__law_ratio .nil (fun _ => rfl) tk (sArCons (sLV (sFrz (sBin op_addE sv_add (sLV (sFrz (sBin op_mulE sv_mul (sSlot (pe_var (i := 2) rfl (.inl rfl))) (sSlot (pe_var (i := 5) rfl (.inl rfl)))))) (sLV (sFrz (sBin op_mulE sv_mul (sSlot (pe_var (i := 4) rfl (.inl rfl))) (sSlot (pe_var (i := 3) rfl (.inl rfl))))))))) (sArCons (sLV (sFrz (sBin op_mulE sv_mul (sSlot (pe_var (i := 3) rfl (.inl rfl))) (sSlot (pe_var (i := 5) rfl (.inl rfl)))))) (sArNil))) fn__law_ratio_len))) (nomark _)) (sOrT1 (sCmpT (op_neD hr.units) sv_ne (sLV (sFrz (sCall rfl rfl (ok_minus T) (hr.mono (by decide)) rfl (T.glo (T.c.fact 28)) (T.F_minus).kp T.b_minus .nil (fun _ => rfl) tk (sArCons (sSlot (pe_var (i := 0) rfl (.inl rfl))) (sArCons (sSlot (pe_var (i := 1) rfl (.inl rfl))) (sArNil))) fn_minus_len))) (sLV (sFrz (sCall rfl rfl (ok__law_ratio T) (hr.mono (by decide)) rfl (T.glo (T.c.fact 23)) (T.F__law_ratio).kp T.b__law_ratio .nil (fun _ => rfl) tk (sArCons (sLV (sFrz (sBin op_sub sv_sub (sLV (sFrz (sBin op_mulE sv_mul (sSlot (pe_var (i := 2) rfl (.inl rfl))) (sSlot (pe_var (i := 5) rfl (.inl rfl)))))) (sLV (sFrz (sBin op_mulE sv_mul (sSlot (pe_var (i := 4) rfl (.inl rfl))) (sSlot (pe_var (i := 3) rfl (.inl rfl))))))))) (sArCons (sLV (sFrz (sBin op_mulE sv_mul (sSlot (pe_var (i := 3) rfl (.inl rfl))) (sSlot (pe_var (i := 5) rfl (.inl rfl)))))) (sArNil))) fn__law_ratio_len))) (nomark _))))) (sOne (sRet (sVal (sBl)))) (sNil)) (sCons (sIfS (sWT (sOrT (sCmpT (op_neD hr.units) sv_ne (sLV (sFrz (sCall rfl rfl (ok_times T) (hr.mono (by decide)) rfl (T.glo (T.c.fact 29)) (T.F_times).kp T.b_times .nil (fun _ => rfl) tk (sArCons (sSlot (pe_var (i := 0) rfl (.inl rfl))) (sArCons (sSlot (pe_var (i := 1) rfl (.inl rfl))) (sArNil))) fn_times_len))) (sLV (sFrz (sCall rfl rfl (ok__law_ratio T) (hr.mono (by decide)) rfl (T.glo (T.c.fact 23)) (T.F__law_ratio).kp T.b__law_ratio .nil (fun _ => rfl) tk (sArCons (sLV (sFrz (sBin op_mulE sv_mul (sSlot (pe_var (i := 2) rfl (.inl rfl))) (sSlot (pe_var (i := 4) rfl (.inl rfl)))))) (sArCons (sLV (sFrz (sBin op_mulE sv_mul (sSlot (pe_var (i := 3) rfl (.inl rfl))) (sSlot (pe_var (i := 5) rfl (.inl rfl)))))) (sArNil))) fn__law_ratio_len))) (nomark _)) (sOrT1 (sCmpT (op_neD hr.units) sv_ne (sLV (sFrz (sCall rfl rfl (ok_negative T) (hr.mono (by decide)) rfl (T.glo (T.c.fact 30)) (T.F_negative).kp T.b_negative .nil (fun _ => rfl) tk (sArCons (sSlot (pe_var (i := 0) rfl (.inl rfl))) (sArNil)) fn_negative_len))) (sLV (sTup (sVsCons (sNeg (sVar (pe_var (i := 2) rfl (.inl rfl)))) (sVsCons (sVar (pe_var (i := 3) rfl (.inl rfl))) (sVsNil))))) (nomark _))))) (sOne (sRet (sVal (sBl)))) (sNil)) (sCons (sSet (i := 6) (nR rfl) (sIfF (sCmpT (op_eqD hr.units) sv_eq (sSlot (pe_var (i := 4) rfl (.inl rfl))) (sLV (sInt)) (nomark _)) (sLst (sVsCons (sStr) (sVsCons (sStr) (sVsNil)))) (sCall rfl rfl (ok__law_signed T) (hr.mono (by decide)) rfl (T.glo (T.c.fact 31)) (T.F__law_signed).kp T.b__law_signed .nil (fun _ => rfl) tk (sArCons (sLV (sFrz (sBin op_mulE sv_mul (sSlot (pe_var (i := 2) rfl (.inl rfl))) (sSlot (pe_var (i := 5) rfl (.inl rfl)))))) (sArCons (sLV (sFrz (sBin op_mulE sv_mul (sSlot (pe_var (i := 3) rfl (.inl rfl))) (sSlot (pe_var (i := 4) rfl (.inl rfl)))))) (sArNil))) fn__law_signed_len)) sc__law_pair.nd rfl (.inl rfl)) (sCons (sIfS (sCmpT (op_neD hr.units) sv_ne (sLV (sFrz (sCall rfl rfl (ok__law_parted T) (hr.mono (by decide)) rfl (T.glo (T.c.fact 32)) (T.F__law_parted).kp T.b__law_parted .nil (fun _ => rfl) tk (sArCons (sSlot (pe_var (i := 0) rfl (.inl rfl))) (sArCons (sSlot (pe_var (i := 1) rfl (.inl rfl))) (sArNil))) fn__law_parted_len))) (sSlot (pe_var (i := 6) rfl (.inl rfl))) (nomark _)) (sOne (sRet (sVal (sBl)))) (sNil)) (sCons (sSet (i := 7) (nR rfl) (sIfF (sCmpT (op_eqD hr.units) sv_eq (sLV (sFrz (sBin op_mulE sv_mul (sSlot (pe_var (i := 2) rfl (.inl rfl))) (sSlot (pe_var (i := 5) rfl (.inl rfl)))))) (sLV (sFrz (sBin op_mulE sv_mul (sSlot (pe_var (i := 4) rfl (.inl rfl))) (sSlot (pe_var (i := 3) rfl (.inl rfl)))))) (nomark _)) (sVal (sInt)) (sIfF (sCmpT op_lt sv_lt (sLV (sFrz (sBin op_mulE sv_mul (sSlot (pe_var (i := 2) rfl (.inl rfl))) (sSlot (pe_var (i := 5) rfl (.inl rfl)))))) (sLV (sFrz (sBin op_mulE sv_mul (sSlot (pe_var (i := 4) rfl (.inl rfl))) (sSlot (pe_var (i := 3) rfl (.inl rfl)))))) (nomark _)) (sVal (sNeg (sInt))) (sVal (sInt)))) sc__law_pair.nd rfl (.inl rfl)) (sCons (sSet (i := 8) (nR rfl) (sCall rfl rfl (ok_compare T) (hr.mono (by decide)) rfl (T.glo (T.c.fact 17)) (T.F_compare).kp T.b_compare .nil (fun _ => rfl) tk (sArCons (sSlot (pe_var (i := 0) rfl (.inl rfl))) (sArCons (sSlot (pe_var (i := 1) rfl (.inl rfl))) (sArNil))) fn_compare_len) sc__law_pair.nd rfl (.inl rfl)) (sCons (sIfS (sWT (sOrT (sCmpT (op_neD hr.units) sv_ne (sSlot (pe_var (i := 8) rfl (.inl rfl))) (sSlot (pe_var (i := 7) rfl (.inl rfl))) (nomark _)) (sOrT (sTru rfl (sLV (sIsi rfl rfl (T.free (T.c.fact 1)) bt_isinstance (sSlot (pe_var (i := 8) rfl (.inl rfl))) (pe_bltn rfl (T.free (T.c.fact 2)) bt_bool rfl) rfl))) (sOrT1 (sCmpT (op_neD hr.units) sv_ne (sLV (sFrz (sCall rfl rfl (ok_compare T) (hr.mono (by decide)) rfl (T.glo (T.c.fact 17)) (T.F_compare).kp T.b_compare .nil (fun _ => rfl) tk (sArCons (sSlot (pe_var (i := 1) rfl (.inl rfl))) (sArCons (sSlot (pe_var (i := 0) rfl (.inl rfl))) (sArNil))) fn_compare_len))) (sLV (sNeg (sVar (pe_var (i := 7) rfl (.inl rfl))))) (nomark _)))))) (sOne (sRet (sVal (sBl)))) (sNil)) (sCons (sSet (i := 9) (nR rfl) (sCall rfl rfl (ok_floor_of T) (hr.mono (by decide)) rfl (T.glo (T.c.fact 33)) (T.F_floor_of).kp T.b_floor_of .nil (fun _ => rfl) tk (sArCons (sSlot (pe_var (i := 0) rfl (.inl rfl))) (sArNil)) fn_floor_of_len) sc__law_pair.nd rfl (.inl rfl)) (sCons (sIfS (sWT (sOrT (sNotT (sTru rfl (sLV (sIsi rfl rfl (T.free (T.c.fact 1)) bt_isinstance (sSlot (pe_var (i := 9) rfl (.inl rfl))) (pe_bltn rfl (T.free (T.c.fact 3)) bt_int rfl) rfl)))) (sOrT (sTru rfl (sLV (sIsi rfl rfl (T.free (T.c.fact 1)) bt_isinstance (sSlot (pe_var (i := 9) rfl (.inl rfl))) (pe_bltn rfl (T.free (T.c.fact 2)) bt_bool rfl) rfl))) (sOrT1 (sNotT (sChainT op_le op_lt sv_le sv_lt (sLV (sFrz (sBin op_mulE sv_mul (sSlot (pe_var (i := 9) rfl (.inl rfl))) (sSlot (pe_var (i := 3) rfl (.inl rfl)))))) (sSlot (pe_var (i := 2) rfl (.inl rfl))) (sLV (sFrz (sBin op_mulE sv_mul (sLV (sFrz (sBin op_addE sv_add (sSlot (pe_var (i := 9) rfl (.inl rfl))) (sLV (sInt))))) (sSlot (pe_var (i := 3) rfl (.inl rfl)))))) (by with_unfolding_all rfl))))))) (sOne (sRet (sVal (sBl)))) (sNil)) (sOne (sRet (sVal (sAndV (sFrz (sCmp (op_eqD hr.units) sv_eq (sLV (sFrz (sCall rfl rfl (ok_broken_of T) (hr.mono (by decide)) rfl (T.glo (T.c.fact 34)) (T.F_broken_of).kp T.b_broken_of .nil (fun _ => rfl) tk (sArCons (sSlot (pe_var (i := 0) rfl (.inl rfl))) (sArNil)) fn_broken_of_len))) (sLV (sTup (sVsCons (sFrz (sBin op_sub sv_sub (sSlot (pe_var (i := 2) rfl (.inl rfl))) (sLV (sFrz (sBin op_mulE sv_mul (sSlot (pe_var (i := 9) rfl (.inl rfl))) (sSlot (pe_var (i := 3) rfl (.inl rfl)))))))) (sVsCons (sVar (pe_var (i := 3) rfl (.inl rfl))) (sVsNil))))) (nomark _))) (sOneV (sFrz (sCall rfl rfl (ok__law_tuples T) (hr.mono (by decide)) rfl (T.glo (T.c.fact 21)) (T.F__law_tuples).kp T.b__law_tuples .nil (fun _ => rfl) tk (sArCons (sLV (sTup (sVsCons (sFrz (sCall rfl rfl (ok_plus T) (hr.mono (by decide)) rfl (T.glo (T.c.fact 16)) (T.F_plus).kp T.b_plus .nil (fun _ => rfl) tk (sArCons (sSlot (pe_var (i := 0) rfl (.inl rfl))) (sArCons (sSlot (pe_var (i := 1) rfl (.inl rfl))) (sArNil))) fn_plus_len)) (sVsCons (sFrz (sCall rfl rfl (ok_times T) (hr.mono (by decide)) rfl (T.glo (T.c.fact 29)) (T.F_times).kp T.b_times .nil (fun _ => rfl) tk (sArCons (sSlot (pe_var (i := 0) rfl (.inl rfl))) (sArCons (sSlot (pe_var (i := 1) rfl (.inl rfl))) (sArNil))) fn_times_len)) (sVsCons (sFrz (sCall rfl rfl (ok_broken_of T) (hr.mono (by decide)) rfl (T.glo (T.c.fact 34)) (T.F_broken_of).kp T.b_broken_of .nil (fun _ => rfl) tk (sArCons (sSlot (pe_var (i := 0) rfl (.inl rfl))) (sArNil)) fn_broken_of_len)) (sVsNil)))))) (sArNil)) fn__law_tuples_len)))))))))))))))))
/-! law -/
abbrev N_law : List Str := ["_law_script", "_law_hand_here", "_law_one", "_law_other", "_law_size", "_law_due", "_law_rows_here", "_law_turn"]
theorem sc_law : FnScope N_law ["_law_script"] (defScope (top 37)) := ⟨rfl, rfl, rfl, by decide +kernel, rfl, by decide +kernel, by decide +kernel⟩
noncomputable def el_law_1 : DenV := dFrz (dCallR fn__law_drawn 1 [] (dArs []))
noncomputable def den_law : DenS := dSeq (dSet 1 (dCall fn__law_hand [] (dArs [dSlot 0]))) (dSeq (dSet 2 (dCallR fn__law_drawn 1 [] (dArs []))) (dSeq (dSet 3 (dCallR fn__law_drawn 1 [] (dArs []))) (dSeq (dIfS (dOrT (dTB (dBin gNe (dLV (dC (.tup [(.int 0), (.int 1)]))) (dLV (dTup [dC (.int 0), dC (.int 1)])))) (dOrT (dTB (dBin gNe (dLV (dC (.tup [(.int 1), (.int 1)]))) (dLV (dTup [dC (.int 1), dC (.int 1)])))) (dOrT (dTB (dBin gNe (dLV (dC (.tup [(.int 1), (.int 2)]))) (dLV (dTup [dC (.int 1), dC (.int 2)])))) (dTB (dBin gNe (dLV (dFrz (dCall fn_make_ratio [(.int 1)] (dArs [dLV (dFrz (dBin gIx (dSlot 2) (dLV (dC (.int 0)))))])))) (dLV (dTup [dFrz (dBin gIx (dSlot 2) (dLV (dC (.int 0)))), dC (.int 1)]))))))) (dRet (dVal (dC (.bl false)))) (dSkip)) (dSeq (dSet 4 (dBin gSub (dLV (dFrz (dCallR fn__law_take 1 [] (dArs [dLV (dC (.int 40))])))) (dLV (dC (.int 20))))) (dSeq (dSet 5 (dIfF (dTB (dBin gEq (dSlot 4) (dLV (dC (.int 0))))) (dLst [dC (.str "BadRatio"), dC (.str "bottom")]) (dCall fn__law_signed [] (dArs [dLV (dFrz (dBin gMul (dLV (dFrz (dBin gIx (dSlot 2) (dLV (dC (.int 0)))))) (dSlot 4))), dLV (dFrz (dBin gMul (dLV (dFrz (dBin gIx (dSlot 2) (dLV (dC (.int 1)))))) (dSlot 4)))])))) (dSeq (dIfS (dTB (dBin gNe (dLV (dFrz (dCall fn__law_made [] (dArs [dLV (dFrz (dBin gMul (dLV (dFrz (dBin gIx (dSlot 2) (dLV (dC (.int 0)))))) (dSlot 4))), dLV (dFrz (dBin gMul (dLV (dFrz (dBin gIx (dSlot 2) (dLV (dC (.int 1)))))) (dSlot 4)))])))) (dSlot 5))) (dRet (dVal (dC (.bl false)))) (dSkip)) (dSeq (dIfS (dOrT (dNotT (dTru (dLV (dFrz (dCall fn__law_pair [] (dArs [dSlot 2, dSlot 3])))))) (dOrT (dNotT (dTru (dLV (dFrz (dCall fn__law_pair [] (dArs [dSlot 3, dSlot 2])))))) (dOrT (dNotT (dTru (dLV (dFrz (dCall fn__law_pair [] (dArs [dSlot 2, dSlot 2])))))) (dNotT (dTru (dLV (dFrz (dCall fn__law_pair [] (dArs [dSlot 2, dLV (dTup [dC (.int 0), dC (.int 1)])]))))))))) (dRet (dVal (dC (.bl false)))) (dSkip)) (dSeq (dSet 6 (dLc [7] (asN 7) (dRng1 (dArs [dLV (dFrz (dCallR fn__law_take 1 [] (dArs [dLV (dC (.int 8))])))])) (dTrue) (el_law_1))) (dRet (dVal (dAndV (dFrz (dCall fn__law_rows [] (dArs [dSlot 6]))) (dAndV (dFrz (dCall fn__law_rows [] (dArs [dLV (dFrz (dBin gAdd (dSlot 6) (dLV (dFrz (dSl (dSlot 6) dPn (dPs (dC (.int 1))))))))]))) (dFrz (dCallR fn__law_odd_ones 1 [] (dArs [dSlot 2])))))))))))))))
noncomputable def fn_law : Fn := mkFn 1 8 den_law
theorem fn_law_len (args : List Ent) (h : args.length ≠ 1) : fn_law args = .bad := mkFn_len args h
theorem ok_law (T : Tz K mg) : FnOk P w K mg base (L2.CX P w) 14 (He.ga K "law") (fdOf K (He.ga K "law")) ["_law_script"] (spOf K mg [] 1 fn_law) := by
  obtain ⟨ds_make_ratio_1, v_make_ratio_1, b_make_ratio_1⟩ := T.bd_make_ratio_1
  refine fn_ok (N := N_law) (np := 1) (k := 13) (R := []) T.F_law sc_law rfl (f := den_law) (fun cdv A outer s H E hr => ?_)
  have tk : Takes (cxOf (L2.CX P w) P w K mg base N_law "law" (defScope (top 37)) (He.ga K "law") cdv A outer s H E) (fun cls d _ H => E cls d H) := takes_of rfl rfl rfl rfl
  have hp := passes_of (X := cxOf (L2.CX P w) P w K mg base N_law "law" (defScope (top 37)) (He.ga K "law") cdv A outer s H E) rfl
  exact sCons (sSet (i := 1) (nR rfl) (sCall rfl rfl (ok__law_hand T) (hr.mono (by decide)) rfl (T.glo (T.c.fact 40)) (T.F__law_hand).kp T.b__law_hand .nil (fun _ => rfl) tk (sArCons (sSlot (pe_var (i := 0) rfl (.inl rfl))) (sArNil)) fn__law_hand_len) sc_law.nd rfl (.inr rfl)) (sCons (sSet (i := 2) (nR rfl) (sCallR rfl rfl (ok__law_drawn T) (hr.mono (by decide)) rfl (T.glo (T.c.fact 41)) (T.F__law_drawn).kp T.b__law_drawn .nil (fun _ => rfl) tk (pe_var (i := 1) rfl (.inr (.inl rfl))) (sArNil) fn__law_drawn_len) sc_law.nd rfl (.inl rfl)) (sCons (sSet (i := 3) (nR rfl) (sCallR rfl rfl (ok__law_drawn T) (hr.mono (by decide)) rfl (T.glo (T.c.fact 41)) (T.F__law_drawn).kp T.b__law_drawn .nil (fun _ => rfl) tk (pe_var (i := 1) rfl (.inr (.inl rfl))) (sArNil) fn__law_drawn_len) sc_law.nd rfl (.inl rfl)) (sCons (sIfS (sWT (sOrT (sCmpT (op_neD hr.units) sv_ne (sLV (sC (pe_glob (v := .ref (He.ga K "ZERO")) rfl (T.glo (T.c.fact 15)) rfl) (fun B => ⟨_, _, rfl, fx_tab (T.c.fact 14) B, ⟨_, _, rfl, rfl, ⟨_, _, rfl, rfl, rfl⟩⟩⟩))) (sLV (sTup (sVsCons (sInt) (sVsCons (sInt) (sVsNil))))) (nomark _)) (sOrT (sCmpT (op_neD hr.units) sv_ne (sLV (sC (pe_glob (v := .ref (He.ga K "ONE")) rfl (T.glo (T.c.fact 43)) rfl) (fun B => ⟨_, _, rfl, fx_tab (T.c.fact 42) B, ⟨_, _, rfl, rfl, ⟨_, _, rfl, rfl, rfl⟩⟩⟩))) (sLV (sTup (sVsCons (sInt) (sVsCons (sInt) (sVsNil))))) (nomark _)) (sOrT (sCmpT (op_neD hr.units) sv_ne (sLV (sC (pe_glob (v := .ref (He.ga K "HALF")) rfl (T.glo (T.c.fact 45)) rfl) (fun B => ⟨_, _, rfl, fx_tab (T.c.fact 44) B, ⟨_, _, rfl, rfl, ⟨_, _, rfl, rfl, rfl⟩⟩⟩))) (sLV (sTup (sVsCons (sInt) (sVsCons (sInt) (sVsNil))))) (nomark _)) (sOrT1 (sCmpT (op_neD hr.units) sv_ne (sLV (sFrz (sCall rfl rfl (ok_make_ratio T) (hr.mono (by decide)) rfl (T.glo (T.c.fact 24)) (T.F_make_ratio).kp b_make_ratio_1 v_make_ratio_1 (fun _ => ⟨_, _, rfl, rfl, rfl⟩) tk (sArCons (sLV (sFrz (sIx rfl (sSlot (pe_var (i := 2) rfl (.inl rfl))) (sLV (sInt))))) (sArNil)) fn_make_ratio_len))) (sLV (sTup (sVsCons (sFrz (sIx rfl (sSlot (pe_var (i := 2) rfl (.inl rfl))) (sLV (sInt)))) (sVsCons (sInt) (sVsNil))))) (nomark _))))))) (sOne (sRet (sVal (sBl)))) (sNil)) (sCons (sSet (i := 4) (nR rfl) (sBin op_sub sv_sub (sLV (sFrz (sCallR rfl rfl (ok__law_take T) (hr.mono (by decide)) rfl (T.glo (T.c.fact 22)) (T.F__law_take).kp T.b__law_take .nil (fun _ => rfl) tk (pe_var (i := 1) rfl (.inr (.inl rfl))) (sArCons (sLV (sInt)) (sArNil)) fn__law_take_len))) (sLV (sInt))) sc_law.nd rfl (.inl rfl)) (sCons (sSet (i := 5) (nR rfl) (sIfF (sCmpT (op_eqD hr.units) sv_eq (sSlot (pe_var (i := 4) rfl (.inl rfl))) (sLV (sInt)) (nomark _)) (sLst (sVsCons (sStr) (sVsCons (sStr) (sVsNil)))) (sCall rfl rfl (ok__law_signed T) (hr.mono (by decide)) rfl (T.glo (T.c.fact 31)) (T.F__law_signed).kp T.b__law_signed .nil (fun _ => rfl) tk (sArCons (sLV (sFrz (sBin op_mulE sv_mul (sLV (sFrz (sIx rfl (sSlot (pe_var (i := 2) rfl (.inl rfl))) (sLV (sInt))))) (sSlot (pe_var (i := 4) rfl (.inl rfl)))))) (sArCons (sLV (sFrz (sBin op_mulE sv_mul (sLV (sFrz (sIx rfl (sSlot (pe_var (i := 2) rfl (.inl rfl))) (sLV (sInt))))) (sSlot (pe_var (i := 4) rfl (.inl rfl)))))) (sArNil))) fn__law_signed_len)) sc_law.nd rfl (.inl rfl)) (sCons (sIfS (sCmpT (op_neD hr.units) sv_ne (sLV (sFrz (sCall rfl rfl (ok__law_made T) (hr.mono (by decide)) rfl (T.glo (T.c.fact 39)) (T.F__law_made).kp T.b__law_made .nil (fun _ => rfl) tk (sArCons (sLV (sFrz (sBin op_mulE sv_mul (sLV (sFrz (sIx rfl (sSlot (pe_var (i := 2) rfl (.inl rfl))) (sLV (sInt))))) (sSlot (pe_var (i := 4) rfl (.inl rfl)))))) (sArCons (sLV (sFrz (sBin op_mulE sv_mul (sLV (sFrz (sIx rfl (sSlot (pe_var (i := 2) rfl (.inl rfl))) (sLV (sInt))))) (sSlot (pe_var (i := 4) rfl (.inl rfl)))))) (sArNil))) fn__law_made_len))) (sSlot (pe_var (i := 5) rfl (.inl rfl))) (nomark _)) (sOne (sRet (sVal (sBl)))) (sNil)) (sCons (sIfS (sWT (sOrT (sNotT (sTru rfl (sLV (sFrz (sCall rfl rfl (ok__law_pair T) (hr.mono (by decide)) rfl (T.glo (T.c.fact 46)) (T.F__law_pair).kp T.b__law_pair .nil (fun _ => rfl) tk (sArCons (sSlot (pe_var (i := 2) rfl (.inl rfl))) (sArCons (sSlot (pe_var (i := 3) rfl (.inl rfl))) (sArNil))) fn__law_pair_len))))) (sOrT (sNotT (sTru rfl (sLV (sFrz (sCall rfl rfl (ok__law_pair T) (hr.mono (by decide)) rfl (T.glo (T.c.fact 46)) (T.F__law_pair).kp T.b__law_pair .nil (fun _ => rfl) tk (sArCons (sSlot (pe_var (i := 3) rfl (.inl rfl))) (sArCons (sSlot (pe_var (i := 2) rfl (.inl rfl))) (sArNil))) fn__law_pair_len))))) (sOrT (sNotT (sTru rfl (sLV (sFrz (sCall rfl rfl (ok__law_pair T) (hr.mono (by decide)) rfl (T.glo (T.c.fact 46)) (T.F__law_pair).kp T.b__law_pair .nil (fun _ => rfl) tk (sArCons (sSlot (pe_var (i := 2) rfl (.inl rfl))) (sArCons (sSlot (pe_var (i := 2) rfl (.inl rfl))) (sArNil))) fn__law_pair_len))))) (sOrT1 (sNotT (sTru rfl (sLV (sFrz (sCall rfl rfl (ok__law_pair T) (hr.mono (by decide)) rfl (T.glo (T.c.fact 46)) (T.F__law_pair).kp T.b__law_pair .nil (fun _ => rfl) tk (sArCons (sSlot (pe_var (i := 2) rfl (.inl rfl))) (sArCons (sLV (sTup (sVsCons (sInt) (sVsCons (sInt) (sVsNil))))) (sArNil))) fn__law_pair_len)))))))))) (sOne (sRet (sVal (sBl)))) (sNil)) (sCons (sSetLc (own := [("_law_turn", 7)]) (i := 6) (nR rfl) (nRs rfl) rfl sc_law.nd rfl rfl (sw_true rfl rfl rfl (by decide +kernel)) (sRng1 rfl (T.free (T.c.fact 47)) (sArCons (sLV (sFrz (sCallR rfl rfl (ok__law_take T) (hr.mono (by decide)) rfl (T.glo (T.c.fact 22)) (T.F__law_take).kp T.b__law_take .nil (fun _ => rfl) tk (pe_var (i := 1) rfl (.inr (.inl rfl))) (sArCons (sLV (sInt)) (sArNil)) fn__law_take_len))) (sArNil))) (blkOk_by (N := N_law) (sc := defScope (top 37)) (by decide +kernel)) (fun s H C cl fp => gN (i := 7) (by decide) (nR rfl) sc_law.nd rfl (.inl rfl)) (fun s H C cl fp => sTs0) (fun s H C cl fp => sFrz (sCallR rfl rfl (ok__law_drawn T) (hr.mono (by decide)) rfl (T.glo (T.c.fact 41)) (T.F__law_drawn).kp T.b__law_drawn .nil (fun _ => rfl) takes0 (pe_var (i := 1) rfl (.inr (.inl rfl))) (sArNil) fn__law_drawn_len))) (sOne (sRet (sVal (sAndV (sFrz (sCall rfl rfl (ok__law_rows T) (hr.mono (by decide)) rfl (T.glo (T.c.fact 48)) (T.F__law_rows).kp T.b__law_rows .nil (fun _ => rfl) tk (sArCons (sSlot (pe_var (i := 6) rfl (.inl rfl))) (sArNil)) fn__law_rows_len)) (sAndV (sFrz (sCall rfl rfl (ok__law_rows T) (hr.mono (by decide)) rfl (T.glo (T.c.fact 48)) (T.F__law_rows).kp T.b__law_rows .nil (fun _ => rfl) tk (sArCons (sLV (sFrz (sBin op_addE sv_add (sSlot (pe_var (i := 6) rfl (.inl rfl))) (sLV (sFrz (sSl rfl (sSlot (pe_var (i := 6) rfl (.inl rfl))) sPn (sPs (sInt)))))))) (sArNil)) fn__law_rows_len)) (sOneV (sFrz (sCallR rfl rfl (ok__law_odd_ones T) (hr.mono (by decide)) rfl (T.glo (T.c.fact 49)) (T.F__law_odd_ones).kp T.b__law_odd_ones .nil (fun _ => rfl) tk (pe_var (i := 1) rfl (.inr (.inl rfl))) (sArCons (sSlot (pe_var (i := 2) rfl (.inl rfl))) (sArNil)) fn__law_odd_ones_len))))))))))))))))
end
end Kx

set_option linter.all false
set_option maxRecDepth 100000
set_option maxHeartbeats 4000000
namespace Kx
open PySem PySem.Spec PyProof.Rows L2 Ev
theorem mixed_ev (n t : Int) (hn : Bd 40 n) (ht : Bd 40 t) : ∃ r ps, fn__law_mixed [.val (.int n), .val (.int t)] = .ok (.val (.int r)) ps := by
  have m1 : mulOk n 48271 = true := mulOk_of (k := 39) (m := 39) hn .lit (by decide)
  have m2 : mulOk t 10007 = true := mulOk_of (k := 39) (m := 39) ht .lit (by decide)
  have m4 : mulOk t 92821 = true := mulOk_of (k := 39) (m := 39) ht .lit (by decide)
  generalize ho : (n * 48271 + t * 10007 + 30011).fmod 2147483647 = o
  have bo : Bd 40 o := Bd.ofR (b := 2147483647) (ho ▸ fmod_range (by decide)) (by decide)
  have m3 : mulOk o o = true := mulOk_of (k := 39) (m := 39) bo bo (by decide)
  generalize hw : (o * o + t * 92821 + o.fdiv 257).fmod 2147483629 = w
  have bw : Bd 40 w := Bd.ofR (b := 2147483629) (hw ▸ fmod_range (by decide)) (by decide)
  have m5 : mulOk w 69621 = true := mulOk_of (k := 39) (m := 39) bw .lit (by decide)
  have d1 : divOk 257 = true := by decide
  have d2 : divOk 11 = true := by decide
  have d3 : divOk 64 = true := by decide
  have z1 : (2147483647 : Int) ≠ 0 := by decide
  have z2 : (2147483629 : Int) ≠ 0 := by decide
  have z3 : (2147483587 : Int) ≠ 0 := by decide
  simp only [fn__law_mixed, den__law_mixed, dC_a, dVar_a, dSlot_a, dMove_a, dLV_a, dFrz_a, dVal_a, dBin_a, dNeg_a, dTB_a, dBT_a, dTru_a, dNotT_a, dAndT_a, dOrT_a, dAndV_a, dOrV_a, dNotL_a, dIf_a, dIfF_a, dChain_a, dVs_n, dVs_c, dArs_n, dArs_c, dTup_a, dLst_a, getAll_n, getAll_c, dCB_a, dCall_a, dCall0_a, dCallR_a, dIsi_a, dSeq_a, dSkip_a, dIfS_a, dRet_a, dSet_a, dAsg_a, asN_a, asT_a, asT_l, asC_a, asNil_a, dPar_a, dPut_a, dExp_a, dApp_a, dFor_a, loopF_n, dIt_a, mkFn_a, frzE_val, frzE_mu, get_v, get_s, Res.bind_ok, Res.bind_err, Res.bind_bad, List.getElem?_cons_zero, List.getElem?_cons_succ, List.set_cons_zero, List.set_cons_succ, List.map_cons, List.map_nil, List.cons_append, List.nil_append, List.append_nil, List.length_cons, List.length_nil, List.replicate, List.take, finF, if_true, if_false, ite_true, ite_false, Ent.flat, D.flat, frzAr, reduceIte, Nat.reduceAdd, Nat.reduceSub, Nat.reduceLeDiff, Bool.false_eq_true, Nat.reduceEqDiff, Nat.add_eq, Nat.add_zero, Nat.zero_add, Option.bind_some, Option.map_some, Nat.sub_self, eq_self, and_self, and_true, true_and, gAdd_i, gMul_i m1, gMul_i m2, gMul_i m3, gMul_i m4, gMul_i m5, gDiv_i d1, gDiv_i d2, gDiv_i d3, gInt_i, gMod_i z1, gMod_i z2, gMod_i z3, ho, hw]
  exact ⟨_, _, rfl⟩
def HandOk (xs : List D) : Prop := ∃ (cs : List Int) (k r t : Int), xs = [.lst (cs.map .int), .int k, .int r, .int t] ∧ cs.length ≤ 63 ∧ 0 ≤ k ∧ k ≤ cs.length ∧ 0 ≤ t ∧ t < 2147483549
theorem take_ev (xs : List D) (h : HandOk xs) (m : Int) (hm : 0 < m) (hd : divOk m = true) : ∃ v ys, fn__law_take [.mu xs, .val (.int m)] = .ok (.val (.int v)) [.mu ys, .val (.int m)] ∧ HandOk ys ∧ 0 ≤ v ∧ v < m := by
  obtain ⟨cs, k, r, t, rfl, hl, k0, k1, t0, t1⟩ := h
  have hm0 : m ≠ 0 := by omega
  have bk : Bd 40 k := Bd.ofR (b := 64) ⟨k0, by omega⟩ (by decide)
  have bk1 : Bd 40 (k + 1) := Bd.ofR (b := 65) ⟨by omega, by omega⟩ (by decide)
  have z1 : (2147483647 : Int) ≠ 0 := by decide
  have z2 : (2147483549 : Int) ≠ 0 := by decide
  have p18 : gPow (.int 10) (.int 18) = some (.val (.int 1000000000000000000)) := by rfl
  have L0 : gLen [.lst (cs.map D.int)] = some (.val (.int cs.length)) := by rw [gLen_l, List.length_map]
  by_cases hr : r = 0
  · subst hr
    have c00 : (decide ((0 : Int) = 0)) = true := by decide
    by_cases hk : k < cs.length
    · -- a cell is read
      obtain ⟨kn, rfl⟩ : ∃ kn : Nat, k = kn := ⟨k.toNat, by omega⟩
      have hkn : kn < cs.length := by omega
      have ge : cs[kn]? = some cs[kn] := List.getElem?_eq_getElem hkn
      generalize cs[kn] = c at ge
      have I0 : gIx (.lst (cs.map D.int)) (.int (kn : Int)) = some (.val (.int c)) := congrArg (Option.map Ent.val) (Ev.atI_nat (by rw [List.getElem?_map, ge]; rfl))
      by_cases hc : c < 1000000000000000000
      · obtain ⟨q, ps, hq⟩ := mixed_ev (c.fmod 2147483647) ((kn : Int) + 1) (Bd.ofR (b := 2147483647) (fmod_range (by decide)) (by decide)) bk1
        refine ⟨q.fmod m, [.lst (cs.map .int), .int (kn + 1), .int 0, .int t], ?_, ⟨cs, kn + 1, 0, t, rfl, hl, by omega, by omega, t0, t1⟩, (fmod_range hm).1, (fmod_range hm).2⟩
        simp only [fn__law_take, den__law_take, dC_a, dVar_a, dSlot_a, dMove_a, dLV_a, dFrz_a, dVal_a, dBin_a, dNeg_a, dTB_a, dBT_a, dTru_a, dNotT_a, dAndT_a, dOrT_a, dAndV_a, dOrV_a, dNotL_a, dIf_a, dIfF_a, dChain_a, dVs_n, dVs_c, dArs_n, dArs_c, dTup_a, dLst_a, getAll_n, getAll_c, dCB_a, dCall_a, dCall0_a, dCallR_a, dIsi_a, dSeq_a, dSkip_a, dIfS_a, dRet_a, dSet_a, dAsg_a, asN_a, asT_a, asT_l, asC_a, asNil_a, dPar_a, dPut_a, dExp_a, dApp_a, dFor_a, loopF_n, dIt_a, mkFn_a, frzE_val, frzE_mu, get_v, get_s, Res.bind_ok, Res.bind_err, Res.bind_bad, List.getElem?_cons_zero, List.getElem?_cons_succ, List.set_cons_zero, List.set_cons_succ, List.map_cons, List.map_nil, List.cons_append, List.nil_append, List.append_nil, List.length_cons, List.length_nil, List.replicate, List.take, finF, if_true, if_false, ite_true, ite_false, Ent.flat, D.flat, frzAr, reduceIte, Nat.reduceAdd, Nat.reduceSub, Nat.reduceLeDiff, Bool.false_eq_true, Nat.reduceEqDiff, Nat.add_eq, Nat.add_zero, Nat.zero_add, Option.bind_some, Option.map_some, Nat.sub_self, eq_self, and_self, and_true, true_and, gEq_int, gLt_i, at0, at1, at2, at3, ix_l0, ix_l1, ix_l2, ix_l3, L0, I0, vb, c00, hk, hc, decide_true, p18, gAdd_i, gInt_i, gMod_i z1, gMod_i hm0, hq, ixc_1]
      · refine ⟨c.fmod m, [.lst (cs.map .int), .int (kn + 1), .int (c.fdiv m), .int t], ?_, ⟨cs, kn + 1, c.fdiv m, t, rfl, hl, by omega, by omega, t0, t1⟩, (fmod_range hm).1, (fmod_range hm).2⟩
        have c1 : 0 < c := by omega
        simp only [fn__law_take, den__law_take, dC_a, dVar_a, dSlot_a, dMove_a, dLV_a, dFrz_a, dVal_a, dBin_a, dNeg_a, dTB_a, dBT_a, dTru_a, dNotT_a, dAndT_a, dOrT_a, dAndV_a, dOrV_a, dNotL_a, dIf_a, dIfF_a, dChain_a, dVs_n, dVs_c, dArs_n, dArs_c, dTup_a, dLst_a, getAll_n, getAll_c, dCB_a, dCall_a, dCall0_a, dCallR_a, dIsi_a, dSeq_a, dSkip_a, dIfS_a, dRet_a, dSet_a, dAsg_a, asN_a, asT_a, asT_l, asC_a, asNil_a, dPar_a, dPut_a, dExp_a, dApp_a, dFor_a, loopF_n, dIt_a, mkFn_a, frzE_val, frzE_mu, get_v, get_s, Res.bind_ok, Res.bind_err, Res.bind_bad, List.getElem?_cons_zero, List.getElem?_cons_succ, List.set_cons_zero, List.set_cons_succ, List.map_cons, List.map_nil, List.cons_append, List.nil_append, List.append_nil, List.length_cons, List.length_nil, List.replicate, List.take, finF, if_true, if_false, ite_true, ite_false, Ent.flat, D.flat, frzAr, reduceIte, Nat.reduceAdd, Nat.reduceSub, Nat.reduceLeDiff, Bool.false_eq_true, Nat.reduceEqDiff, Nat.add_eq, Nat.add_zero, Nat.zero_add, Option.bind_some, Option.map_some, Nat.sub_self, eq_self, and_self, and_true, true_and, gEq_int, gLt_i, gGt_i, at0, at1, at2, at3, ix_l0, ix_l1, ix_l2, ix_l3, L0, I0, vb, c00, hk, hc, c1, decide_true, decide_false, p18, gAdd_i, gInt_i, gDiv_i hd, gMod_i z1, gMod_i hm0, ixc_1, ixc_2]
    · obtain ⟨q, ps, hq⟩ := mixed_ev ((t + 1).fmod 2147483549) k (Bd.ofR (b := 2147483549) (fmod_range (by decide)) (by decide)) bk
      have f1 := fmod_range (a := t + 1) (b := 2147483549) (by decide)
      refine ⟨q.fmod m, [.lst (cs.map .int), .int k, .int 0, .int ((t + 1).fmod 2147483549)], ?_, ⟨cs, k, 0, _, rfl, hl, k0, k1, f1.1, f1.2⟩, (fmod_range hm).1, (fmod_range hm).2⟩
      have c01 : ¬ (0 : Int) < 0 := by decide
      simp only [fn__law_take, den__law_take, dC_a, dVar_a, dSlot_a, dMove_a, dLV_a, dFrz_a, dVal_a, dBin_a, dNeg_a, dTB_a, dBT_a, dTru_a, dNotT_a, dAndT_a, dOrT_a, dAndV_a, dOrV_a, dNotL_a, dIf_a, dIfF_a, dChain_a, dVs_n, dVs_c, dArs_n, dArs_c, dTup_a, dLst_a, getAll_n, getAll_c, dCB_a, dCall_a, dCall0_a, dCallR_a, dIsi_a, dSeq_a, dSkip_a, dIfS_a, dRet_a, dSet_a, dAsg_a, asN_a, asT_a, asT_l, asC_a, asNil_a, dPar_a, dPut_a, dExp_a, dApp_a, dFor_a, loopF_n, dIt_a, mkFn_a, frzE_val, frzE_mu, get_v, get_s, Res.bind_ok, Res.bind_err, Res.bind_bad, List.getElem?_cons_zero, List.getElem?_cons_succ, List.set_cons_zero, List.set_cons_succ, List.map_cons, List.map_nil, List.cons_append, List.nil_append, List.append_nil, List.length_cons, List.length_nil, List.replicate, List.take, finF, if_true, if_false, ite_true, ite_false, Ent.flat, D.flat, frzAr, reduceIte, Nat.reduceAdd, Nat.reduceSub, Nat.reduceLeDiff, Bool.false_eq_true, Nat.reduceEqDiff, Nat.add_eq, Nat.add_zero, Nat.zero_add, Option.bind_some, Option.map_some, Nat.sub_self, eq_self, and_self, and_true, true_and, gEq_int, gLt_i, gGt_i, at0, at1, at2, at3, ix_l0, ix_l1, ix_l2, ix_l3, L0, vb, c00, c01, hk, decide_true, decide_false, gAdd_i, gInt_i, gMod_i z2, gMod_i hm0, hq, ixc_3]
  · by_cases hp : 0 < r
    · refine ⟨r.fmod m, [.lst (cs.map .int), .int k, .int (r.fdiv m), .int t], ?_, ⟨cs, k, _, t, rfl, hl, k0, k1, t0, t1⟩, (fmod_range hm).1, (fmod_range hm).2⟩
      simp only [fn__law_take, den__law_take, dC_a, dVar_a, dSlot_a, dMove_a, dLV_a, dFrz_a, dVal_a, dBin_a, dNeg_a, dTB_a, dBT_a, dTru_a, dNotT_a, dAndT_a, dOrT_a, dAndV_a, dOrV_a, dNotL_a, dIf_a, dIfF_a, dChain_a, dVs_n, dVs_c, dArs_n, dArs_c, dTup_a, dLst_a, getAll_n, getAll_c, dCB_a, dCall_a, dCall0_a, dCallR_a, dIsi_a, dSeq_a, dSkip_a, dIfS_a, dRet_a, dSet_a, dAsg_a, asN_a, asT_a, asT_l, asC_a, asNil_a, dPar_a, dPut_a, dExp_a, dApp_a, dFor_a, loopF_n, dIt_a, mkFn_a, frzE_val, frzE_mu, get_v, get_s, Res.bind_ok, Res.bind_err, Res.bind_bad, List.getElem?_cons_zero, List.getElem?_cons_succ, List.set_cons_zero, List.set_cons_succ, List.map_cons, List.map_nil, List.cons_append, List.nil_append, List.append_nil, List.length_cons, List.length_nil, List.replicate, List.take, finF, if_true, if_false, ite_true, ite_false, Ent.flat, D.flat, frzAr, reduceIte, Nat.reduceAdd, Nat.reduceSub, Nat.reduceLeDiff, Bool.false_eq_true, Nat.reduceEqDiff, Nat.add_eq, Nat.add_zero, Nat.zero_add, Option.bind_some, Option.map_some, Nat.sub_self, eq_self, and_self, and_true, true_and, gEq_int, gLt_i, gGt_i, at0, at1, at2, at3, ix_l0, ix_l1, ix_l2, ix_l3, L0, vb, hr, hp, decide_true, decide_false, gAdd_i, gInt_i, gDiv_i hd, gMod_i hm0, ixc_2]
    · obtain ⟨q, ps, hq⟩ := mixed_ev ((t + 1).fmod 2147483549) k (Bd.ofR (b := 2147483549) (fmod_range (by decide)) (by decide)) bk
      have f1 := fmod_range (a := t + 1) (b := 2147483549) (by decide)
      refine ⟨q.fmod m, [.lst (cs.map .int), .int k, .int r, .int ((t + 1).fmod 2147483549)], ?_, ⟨cs, k, r, _, rfl, hl, k0, k1, f1.1, f1.2⟩, (fmod_range hm).1, (fmod_range hm).2⟩
      simp only [fn__law_take, den__law_take, dC_a, dVar_a, dSlot_a, dMove_a, dLV_a, dFrz_a, dVal_a, dBin_a, dNeg_a, dTB_a, dBT_a, dTru_a, dNotT_a, dAndT_a, dOrT_a, dAndV_a, dOrV_a, dNotL_a, dIf_a, dIfF_a, dChain_a, dVs_n, dVs_c, dArs_n, dArs_c, dTup_a, dLst_a, getAll_n, getAll_c, dCB_a, dCall_a, dCall0_a, dCallR_a, dIsi_a, dSeq_a, dSkip_a, dIfS_a, dRet_a, dSet_a, dAsg_a, asN_a, asT_a, asT_l, asC_a, asNil_a, dPar_a, dPut_a, dExp_a, dApp_a, dFor_a, loopF_n, dIt_a, mkFn_a, frzE_val, frzE_mu, get_v, get_s, Res.bind_ok, Res.bind_err, Res.bind_bad, List.getElem?_cons_zero, List.getElem?_cons_succ, List.set_cons_zero, List.set_cons_succ, List.map_cons, List.map_nil, List.cons_append, List.nil_append, List.append_nil, List.length_cons, List.length_nil, List.replicate, List.take, finF, if_true, if_false, ite_true, ite_false, Ent.flat, D.flat, frzAr, reduceIte, Nat.reduceAdd, Nat.reduceSub, Nat.reduceLeDiff, Bool.false_eq_true, Nat.reduceEqDiff, Nat.add_eq, Nat.add_zero, Nat.zero_add, Option.bind_some, Option.map_some, Nat.sub_self, eq_self, and_self, and_true, true_and, gEq_int, gLt_i, gGt_i, at0, at1, at2, at3, ix_l0, ix_l1, ix_l2, ix_l3, L0, vb, hr, hp, decide_true, decide_false, gAdd_i, gInt_i, gMod_i z2, gMod_i hm0, hq, ixc_3]
end Kx

set_option linter.all false
set_option maxRecDepth 100000
set_option maxHeartbeats 4000000
namespace Kx
open PySem PySem.Spec PyProof.Rows L2 Ev
abbrev I2 (a b : Int) : D := .tup [.int a, .int b]
abbrev gc (a b : Int) : Int := ((Nat.gcd a.natAbs b.natAbs : Nat) : Int)
abbrev qr (a b : Int) : D := I2 (a / gc a b) (b / gc a b)
theorem common_loop : ∀ (n y x : Nat), y ≤ n → ∃ z, dWhile cd__law_common_1 bd__law_common_2 [.val (.int x), .val (.int y)] = .ok .nx [.val (.int (Nat.gcd x y : Nat)), z]
  | n, 0, x, _ => by
    refine ⟨.val (.int 0), ?_⟩
    rw [dWhile_end (e := [.val (.int x), .val (.int 0)])]
    · rw [Nat.gcd_zero_right]
    · simp only [cd__law_common_1, dC_a, dVar_a, dSlot_a, dMove_a, dLV_a, dFrz_a, dVal_a, dBin_a, dNeg_a, dTB_a, dBT_a, dTru_a, dNotT_a, dAndT_a, dOrT_a, dAndV_a, dOrV_a, dNotL_a, dIf_a, dIfF_a, dChain_a, dVs_n, dVs_c, dArs_n, dArs_c, dTup_a, dLst_a, getAll_n, getAll_c, dCB_a, dCall_a, dCall0_a, dCallR_a, dIsi_a, dSeq_a, dSkip_a, dIfS_a, dRet_a, dSet_a, dAsg_a, asN_a, asT_a, asT_l, asC_a, asNil_a, dPar_a, dPut_a, dExp_a, dApp_a, dFor_a, loopF_n, dIt_a, mkFn_a, frzE_val, frzE_mu, get_v, get_s, Res.bind_ok, Res.bind_err, Res.bind_bad, List.getElem?_cons_zero, List.getElem?_cons_succ, List.set_cons_zero, List.set_cons_succ, List.map_cons, List.map_nil, List.cons_append, List.nil_append, List.append_nil, List.length_cons, List.length_nil, List.replicate, List.take, finF, if_true, if_false, ite_true, ite_false, Ent.flat, D.flat, frzAr, reduceIte, Nat.reduceAdd, Nat.reduceSub, Nat.reduceLeDiff, Bool.false_eq_true, Nat.reduceEqDiff, Nat.add_eq, Nat.add_zero, Nat.zero_add, Option.bind_some, Option.map_some, Nat.sub_self, eq_self, and_self, and_true, true_and, gGt_i, vb, Int.lt_irrefl, decide_false, Int.ofNat_zero, Int.natCast_zero]
  | 0, y + 1, x, h => absurd h (by omega)
  | n + 1, y + 1, x, h => by
    have z : ((y + 1 : Nat) : Int) ≠ 0 := by omega
    have p : (0 : Int) < ((y + 1 : Nat) : Int) := by omega
    have e : ((x : Int)).fmod ((y + 1 : Nat) : Int) = ((x % (y + 1) : Nat) : Int) := by
      rw [Int.fmod_eq_emod_of_nonneg _ (by omega)]
      exact (Int.natCast_emod x (y + 1)).symm
    obtain ⟨q, ih⟩ := common_loop n (x % (y + 1)) (y + 1) (by have := Nat.mod_lt x (y := y + 1) (by omega); omega)
    refine ⟨q, ?_⟩
    rw [dWhile_turn (e := [.val (.int x), .val (.int ((y + 1 : Nat) : Int))]) (e2 := [.val (.int ((y + 1 : Nat) : Int)), .val (.int ((x % (y + 1) : Nat) : Int))])]
    · rw [ih, Nat.gcd_comm (y + 1), ← Nat.gcd_rec, Nat.gcd_comm]
    · simp only [cd__law_common_1, dC_a, dVar_a, dSlot_a, dMove_a, dLV_a, dFrz_a, dVal_a, dBin_a, dNeg_a, dTB_a, dBT_a, dTru_a, dNotT_a, dAndT_a, dOrT_a, dAndV_a, dOrV_a, dNotL_a, dIf_a, dIfF_a, dChain_a, dVs_n, dVs_c, dArs_n, dArs_c, dTup_a, dLst_a, getAll_n, getAll_c, dCB_a, dCall_a, dCall0_a, dCallR_a, dIsi_a, dSeq_a, dSkip_a, dIfS_a, dRet_a, dSet_a, dAsg_a, asN_a, asT_a, asT_l, asC_a, asNil_a, dPar_a, dPut_a, dExp_a, dApp_a, dFor_a, loopF_n, dIt_a, mkFn_a, frzE_val, frzE_mu, get_v, get_s, Res.bind_ok, Res.bind_err, Res.bind_bad, List.getElem?_cons_zero, List.getElem?_cons_succ, List.set_cons_zero, List.set_cons_succ, List.map_cons, List.map_nil, List.cons_append, List.nil_append, List.append_nil, List.length_cons, List.length_nil, List.replicate, List.take, finF, if_true, if_false, ite_true, ite_false, Ent.flat, D.flat, frzAr, reduceIte, Nat.reduceAdd, Nat.reduceSub, Nat.reduceLeDiff, Bool.false_eq_true, Nat.reduceEqDiff, Nat.add_eq, Nat.add_zero, Nat.zero_add, Option.bind_some, Option.map_some, Nat.sub_self, eq_self, and_self, and_true, true_and, gGt_i, vb, p, decide_true]
    · refine .inl ?_
      simp only [bd__law_common_2, dC_a, dVar_a, dSlot_a, dMove_a, dLV_a, dFrz_a, dVal_a, dBin_a, dNeg_a, dTB_a, dBT_a, dTru_a, dNotT_a, dAndT_a, dOrT_a, dAndV_a, dOrV_a, dNotL_a, dIf_a, dIfF_a, dChain_a, dVs_n, dVs_c, dArs_n, dArs_c, dTup_a, dLst_a, getAll_n, getAll_c, dCB_a, dCall_a, dCall0_a, dCallR_a, dIsi_a, dSeq_a, dSkip_a, dIfS_a, dRet_a, dSet_a, dAsg_a, asN_a, asT_a, asT_l, asC_a, asNil_a, dPar_a, dPut_a, dExp_a, dApp_a, dFor_a, loopF_n, dIt_a, mkFn_a, frzE_val, frzE_mu, get_v, get_s, Res.bind_ok, Res.bind_err, Res.bind_bad, List.getElem?_cons_zero, List.getElem?_cons_succ, List.set_cons_zero, List.set_cons_succ, List.map_cons, List.map_nil, List.cons_append, List.nil_append, List.append_nil, List.length_cons, List.length_nil, List.replicate, List.take, finF, if_true, if_false, ite_true, ite_false, Ent.flat, D.flat, frzAr, reduceIte, Nat.reduceAdd, Nat.reduceSub, Nat.reduceLeDiff, Bool.false_eq_true, Nat.reduceEqDiff, Nat.add_eq, Nat.add_zero, Nat.zero_add, Option.bind_some, Option.map_some, Nat.sub_self, eq_self, and_self, and_true, true_and, gInt_i, gMod_i z, e]
theorem common_ev (a b : Int) : ∃ ps, fn__law_common [.val (.int a), .val (.int b)] = .ok (.val (.int (gc a b))) ps := by
  obtain ⟨z, h⟩ := common_loop b.natAbs b.natAbs a.natAbs (Nat.le_refl _)
  simp only [fn__law_common, den__law_common, dC_a, dVar_a, dSlot_a, dMove_a, dLV_a, dFrz_a, dVal_a, dBin_a, dNeg_a, dTB_a, dBT_a, dTru_a, dNotT_a, dAndT_a, dOrT_a, dAndV_a, dOrV_a, dNotL_a, dIf_a, dIfF_a, dChain_a, dVs_n, dVs_c, dArs_n, dArs_c, dTup_a, dLst_a, getAll_n, getAll_c, dCB_a, dCall_a, dCall0_a, dCallR_a, dIsi_a, dSeq_a, dSkip_a, dIfS_a, dRet_a, dSet_a, dAsg_a, asN_a, asT_a, asT_l, asC_a, asNil_a, dPar_a, dPut_a, dExp_a, dApp_a, dFor_a, loopF_n, dIt_a, mkFn_a, frzE_val, frzE_mu, get_v, get_s, Res.bind_ok, Res.bind_err, Res.bind_bad, List.getElem?_cons_zero, List.getElem?_cons_succ, List.set_cons_zero, List.set_cons_succ, List.map_cons, List.map_nil, List.cons_append, List.nil_append, List.append_nil, List.length_cons, List.length_nil, List.replicate, List.take, finF, if_true, if_false, ite_true, ite_false, Ent.flat, D.flat, frzAr, reduceIte, Nat.reduceAdd, Nat.reduceSub, Nat.reduceLeDiff, Bool.false_eq_true, Nat.reduceEqDiff, Nat.add_eq, Nat.add_zero, Nat.zero_add, Option.bind_some, Option.map_some, Nat.sub_self, eq_self, and_self, and_true, true_and, gAbs_i, h]
  exact ⟨_, rfl⟩
theorem gc_pos {a b : Int} (h : b ≠ 0) : 0 < gc a b := by
  have : 0 < Nat.gcd a.natAbs b.natAbs := Nat.gcd_pos_of_pos_right _ (by omega)
  unfold gc
  omega
theorem gc_div {a b : Int} {k : Nat} (h : b ≠ 0) (hk : Bd (k + 1) b) (l : k < 9000) : divOk (gc a b) = true := by
  have gl : Nat.gcd a.natAbs b.natAbs ≤ b.natAbs := Nat.gcd_le_right _ (by omega)
  exact divOk_of (k := k) (hk.of_le (by unfold gc; omega)) (by have := gc_pos (a := a) h; omega) l
theorem ratio_ev (a b : Int) (hb : b ≠ 0) (k : Nat) (hk : Bd (k + 1) b) (l : k < 9000) : ∃ ps, fn__law_ratio [.val (.int a), .val (.int b)] = .ok (.val (qr a b)) ps := by
  obtain ⟨ps, h⟩ := common_ev a b
  simp only [fn__law_ratio, den__law_ratio, dC_a, dVar_a, dSlot_a, dMove_a, dLV_a, dFrz_a, dVal_a, dBin_a, dNeg_a, dTB_a, dBT_a, dTru_a, dNotT_a, dAndT_a, dOrT_a, dAndV_a, dOrV_a, dNotL_a, dIf_a, dIfF_a, dChain_a, dVs_n, dVs_c, dArs_n, dArs_c, dTup_a, dLst_a, getAll_n, getAll_c, dCB_a, dCall_a, dCall0_a, dCallR_a, dIsi_a, dSeq_a, dSkip_a, dIfS_a, dRet_a, dSet_a, dAsg_a, asN_a, asT_a, asT_l, asC_a, asNil_a, dPar_a, dPut_a, dExp_a, dApp_a, dFor_a, loopF_n, dIt_a, mkFn_a, frzE_val, frzE_mu, get_v, get_s, Res.bind_ok, Res.bind_err, Res.bind_bad, List.getElem?_cons_zero, List.getElem?_cons_succ, List.set_cons_zero, List.set_cons_succ, List.map_cons, List.map_nil, List.cons_append, List.nil_append, List.append_nil, List.length_cons, List.length_nil, List.replicate, List.take, finF, if_true, if_false, ite_true, ite_false, Ent.flat, D.flat, frzAr, reduceIte, Nat.reduceAdd, Nat.reduceSub, Nat.reduceLeDiff, Bool.false_eq_true, Nat.reduceEqDiff, Nat.add_eq, Nat.add_zero, Nat.zero_add, Option.bind_some, Option.map_some, Nat.sub_self, eq_self, and_self, and_true, true_and, h, gDiv_i (gc_div hb hk l), fdiv_pos (gc_pos hb)]
  exact ⟨_, rfl⟩
theorem low_pos (a b : Int) (hb : 0 < b) (k : Nat) (hk : Bd (k + 1) b) (l : k < 9000) : ∃ ps, fn_in_lowest [.val (.int a), .val (.int b)] = .ok (.val (qr a b)) ps := by
  have hz : ¬ b < 0 := by omega
  have h0 : b ≠ 0 := by omega
  simp only [fn_in_lowest, den_in_lowest, dC_a, dVar_a, dSlot_a, dMove_a, dLV_a, dFrz_a, dVal_a, dBin_a, dNeg_a, dTB_a, dBT_a, dTru_a, dNotT_a, dAndT_a, dOrT_a, dAndV_a, dOrV_a, dNotL_a, dIf_a, dIfF_a, dChain_a, dVs_n, dVs_c, dArs_n, dArs_c, dTup_a, dLst_a, getAll_n, getAll_c, dCB_a, dCall_a, dCall0_a, dCallR_a, dIsi_a, dSeq_a, dSkip_a, dIfS_a, dRet_a, dSet_a, dAsg_a, asN_a, asT_a, asT_l, asC_a, asNil_a, dPar_a, dPut_a, dExp_a, dApp_a, dFor_a, loopF_n, dIt_a, mkFn_a, frzE_val, frzE_mu, get_v, get_s, Res.bind_ok, Res.bind_err, Res.bind_bad, List.getElem?_cons_zero, List.getElem?_cons_succ, List.set_cons_zero, List.set_cons_succ, List.map_cons, List.map_nil, List.cons_append, List.nil_append, List.append_nil, List.length_cons, List.length_nil, List.replicate, List.take, finF, if_true, if_false, ite_true, ite_false, Ent.flat, D.flat, frzAr, reduceIte, Nat.reduceAdd, Nat.reduceSub, Nat.reduceLeDiff, Bool.false_eq_true, Nat.reduceEqDiff, Nat.add_eq, Nat.add_zero, Nat.zero_add, Option.bind_some, Option.map_some, Nat.sub_self, eq_self, and_self, and_true, true_and, gGcd, gLt_i, vb, hz, decide_false, gDiv_i (gc_div h0 hk l), fdiv_pos (gc_pos h0)]
  exact ⟨_, rfl⟩
theorem low_neg (a b : Int) (hb : b < 0) (k : Nat) (hk : Bd (k + 1) b) (l : k < 9000) : ∃ ps, fn_in_lowest [.val (.int a), .val (.int b)] = .ok (.val (qr (-a) (-b))) ps := by
  have h0 : b ≠ 0 := by omega
  have g0 := gc_pos (a := a) h0
  have d : divOk (-(gc a b)) = true := by
    have gl : Nat.gcd a.natAbs b.natAbs ≤ b.natAbs := Nat.gcd_le_right _ (by omega)
    exact divOk_of (k := k) (hk.of_le (by unfold gc; omega)) (by omega) l
  have e : ∀ x : Int, x.fdiv (-(gc a b)) = (-x) / gc a b := fun x => by
    rw [← fdiv_pos g0, ← Int.neg_fdiv_neg (-x), Int.neg_neg]
  have e2 : gc (-a) (-b) = gc a b := by
    unfold gc
    rw [Int.natAbs_neg, Int.natAbs_neg]
  simp only [fn_in_lowest, den_in_lowest, dC_a, dVar_a, dSlot_a, dMove_a, dLV_a, dFrz_a, dVal_a, dBin_a, dNeg_a, dTB_a, dBT_a, dTru_a, dNotT_a, dAndT_a, dOrT_a, dAndV_a, dOrV_a, dNotL_a, dIf_a, dIfF_a, dChain_a, dVs_n, dVs_c, dArs_n, dArs_c, dTup_a, dLst_a, getAll_n, getAll_c, dCB_a, dCall_a, dCall0_a, dCallR_a, dIsi_a, dSeq_a, dSkip_a, dIfS_a, dRet_a, dSet_a, dAsg_a, asN_a, asT_a, asT_l, asC_a, asNil_a, dPar_a, dPut_a, dExp_a, dApp_a, dFor_a, loopF_n, dIt_a, mkFn_a, frzE_val, frzE_mu, get_v, get_s, Res.bind_ok, Res.bind_err, Res.bind_bad, List.getElem?_cons_zero, List.getElem?_cons_succ, List.set_cons_zero, List.set_cons_succ, List.map_cons, List.map_nil, List.cons_append, List.nil_append, List.append_nil, List.length_cons, List.length_nil, List.replicate, List.take, finF, if_true, if_false, ite_true, ite_false, Ent.flat, D.flat, frzAr, reduceIte, Nat.reduceAdd, Nat.reduceSub, Nat.reduceLeDiff, Bool.false_eq_true, Nat.reduceEqDiff, Nat.add_eq, Nat.add_zero, Nat.zero_add, Option.bind_some, Option.map_some, Nat.sub_self, eq_self, and_self, and_true, true_and, gGcd, gLt_i, vb, hb, decide_true, gDiv_i d, e]
  rw [qr, e2]
  exact ⟨_, rfl⟩
end Kx

set_option linter.all false
set_option maxRecDepth 100000
set_option maxHeartbeats 4000000
namespace Kx
open PySem PySem.Spec PyProof.Rows L2 Ev
theorem loopF_c {t : Asg} {b : DenS} {d : D} {ds : List D} {env : Sto} : loopF t b (d :: ds) env = match t d env with
    | none => .bad
    | some e1 => (match b e1 with
      | .ok .nx e2 => loopF t b ds e2
      | .ok .ct e2 => loopF t b ds e2
      | .ok .bk e2 => .ok .nx e2
      | r => r) := rfl
theorem hand_loop : ∀ (ns : List Int) (f e3 : Ent) (tot : Int) (acc : List Int), 0 ≤ tot → tot < 2147483549 → acc.length + ns.length ≤ 63 → ∃ (t : Int) (e : Ent), loopF (asN 3) bd__law_hand_1 (ns.map .int) [f, .val (.int tot), .mu (acc.map .int), e3] = .ok .nx [f, .val (.int t), .mu ((acc ++ ns.map fun z => (z.natAbs : Int)).map .int), e] ∧ 0 ≤ t ∧ t < 2147483549
  | [], f, e3, tot, acc, h0, h1, hl => ⟨tot, e3, by rw [List.map_nil, List.map_nil, List.append_nil]; rfl, h0, h1⟩
  | z :: ns, f, e3, tot, acc, h0, h1, hl => by
    rw [List.length_cons] at hl
    have r := fmod_range (a := tot * 1103 + z) (b := 2147483549) (by decide)
    obtain ⟨t, e, ih, t0, t1⟩ := hand_loop ns f (.val (.int z)) ((tot * 1103 + z).fmod 2147483549) (acc ++ [(z.natAbs : Int)]) r.1 r.2 (by rw [List.length_append, List.length_singleton]; omega)
    refine ⟨t, e, ?_, t0, t1⟩
    have m1 : mulOk tot 1103 = true := mulOk_of (k := 39) (m := 39) (Bd.ofR (b := 2147483549) ⟨h0, h1⟩ (by decide)) .lit (by decide)
    have z2 : (2147483549 : Int) ≠ 0 := by decide
    have l1 : acc.length < 1000000 := by omega
    rw [List.map_append, List.map_cons, List.map_nil, List.append_assoc] at ih
    rw [List.map_cons, loopF_c, List.map_cons]
    simp only [bd__law_hand_1, dC_a, dVar_a, dSlot_a, dMove_a, dLV_a, dFrz_a, dVal_a, dBin_a, dNeg_a, dTB_a, dBT_a, dTru_a, dNotT_a, dAndT_a, dOrT_a, dAndV_a, dOrV_a, dNotL_a, dIf_a, dIfF_a, dChain_a, dVs_n, dVs_c, dArs_n, dArs_c, dTup_a, dLst_a, getAll_n, getAll_c, dCB_a, dCall_a, dCall0_a, dCallR_a, dIsi_a, dSeq_a, dSkip_a, dIfS_a, dRet_a, dSet_a, dAsg_a, asN_a, asT_a, asT_l, asC_a, asNil_a, dPar_a, dPut_a, dExp_a, dApp_a, dFor_a, loopF_n, dIt_a, mkFn_a, frzE_val, frzE_mu, get_v, get_s, Res.bind_ok, Res.bind_err, Res.bind_bad, List.getElem?_cons_zero, List.getElem?_cons_succ, List.set_cons_zero, List.set_cons_succ, List.map_cons, List.map_nil, List.cons_append, List.nil_append, List.append_nil, List.length_cons, List.length_nil, List.replicate, List.take, finF, if_true, if_false, ite_true, ite_false, Ent.flat, D.flat, frzAr, reduceIte, Nat.reduceAdd, Nat.reduceSub, Nat.reduceLeDiff, Bool.false_eq_true, Nat.reduceEqDiff, Nat.add_eq, Nat.add_zero, Nat.zero_add, Option.bind_some, Option.map_some, Nat.sub_self, eq_self, and_self, and_true, true_and, gMul_i m1, gInt_i, gAdd_i, gMod_i z2, gAbs_i, List.length_map, l1]
    exact ih
theorem hand_ev (ns : List Int) (h : ns.length ≤ 63) : ∃ xs ps, fn__law_hand [.val (.fl (ns.map .int))] = .ok (.mu xs) ps ∧ HandOk xs := by
  have m1 : mulOk 3 (ns.length : Int) = true := mulOk_of (k := 39) (m := 39) .lit (Bd.nat (Nat.lt_of_le_of_lt h (by decide))) (by decide)
  obtain ⟨t, e, hl, t0, t1⟩ := hand_loop ns (.val (.fl (ns.map .int))) .un (3 * (ns.length : Int) + 71) [] (by omega) (by omega) (by simpa using h)
  rw [List.nil_append, List.map_nil] at hl
  refine ⟨[.lst ((ns.map fun z => (z.natAbs : Int)).map .int), .int 0, .int 0, .int t], ?_⟩
  simp only [fn__law_hand, den__law_hand, dC_a, dVar_a, dSlot_a, dMove_a, dLV_a, dFrz_a, dVal_a, dBin_a, dNeg_a, dTB_a, dBT_a, dTru_a, dNotT_a, dAndT_a, dOrT_a, dAndV_a, dOrV_a, dNotL_a, dIf_a, dIfF_a, dChain_a, dVs_n, dVs_c, dArs_n, dArs_c, dTup_a, dLst_a, getAll_n, getAll_c, dCB_a, dCall_a, dCall0_a, dCallR_a, dIsi_a, dSeq_a, dSkip_a, dIfS_a, dRet_a, dSet_a, dAsg_a, asN_a, asT_a, asT_l, asC_a, asNil_a, dPar_a, dPut_a, dExp_a, dApp_a, dFor_a, loopF_n, dIt_a, mkFn_a, frzE_val, frzE_mu, get_v, get_s, Res.bind_ok, Res.bind_err, Res.bind_bad, List.getElem?_cons_zero, List.getElem?_cons_succ, List.set_cons_zero, List.set_cons_succ, List.map_cons, List.map_nil, List.cons_append, List.nil_append, List.append_nil, List.length_cons, List.length_nil, List.replicate, List.take, finF, if_true, if_false, ite_true, ite_false, Ent.flat, D.flat, frzAr, reduceIte, Nat.reduceAdd, Nat.reduceSub, Nat.reduceLeDiff, Bool.false_eq_true, Nat.reduceEqDiff, Nat.add_eq, Nat.add_zero, Nat.zero_add, Option.bind_some, Option.map_some, Nat.sub_self, eq_self, and_self, and_true, true_and, gLen_f, List.length_map, gMul_i m1, gAdd_i, its_f, hl]
  exact ⟨_, rfl, _, 0, 0, t, rfl, by rw [List.length_map]; exact h, by omega, by omega, t0, t1⟩
/-- a ratio in lowest terms -/
structure Ra (a b : Int) : Prop where
  pos : 0 < b
  cop : Nat.gcd a.natAbs b.natAbs = 1
  ba : Bd 110 a
  bb : Bd 110 b
theorem gc_dvd_l (a b : Int) : gc a b ∣ a := Int.ofNat_dvd_left.mpr (Nat.gcd_dvd_left _ _)
theorem gc_dvd_r (a b : Int) : gc a b ∣ b := Int.ofNat_dvd_left.mpr (Nat.gcd_dvd_right _ _)
theorem abs_div {a : Int} {g : Nat} (h : (g : Int) ∣ a) : (a / (g : Int)).natAbs = a.natAbs / g := by
  by_cases z : g = 0
  · subst z
    simp
  · obtain ⟨c, rfl⟩ := h
    rw [Int.mul_ediv_cancel_left _ (by omega), Int.natAbs_mul, Int.natAbs_natCast, Nat.mul_div_cancel_left _ (by omega)]
theorem qr_ra {a b : Int} (h : 0 < b) (ha : Bd 110 a) (hb : Bd 110 b) : Ra (a / gc a b) (b / gc a b) where
  pos := by
    have g0 := gc_pos (a := a) (b := b) (by omega)
    obtain ⟨c, hc⟩ := gc_dvd_r a b
    have e : b / gc a b = c := by
      rw [show b / gc a b = (gc a b * c) / gc a b from congrArg (· / gc a b) hc]
      exact Int.mul_ediv_cancel_left _ (by omega)
    rw [e]
    rcases Int.lt_trichotomy c 0 with q | q | q
    · have := Int.mul_neg_of_pos_of_neg g0 q
      omega
    · rw [q] at hc
      omega
    · exact q
  cop := by
    rw [abs_div (gc_dvd_l a b), abs_div (gc_dvd_r a b)]
    rw [Nat.gcd_div (Nat.gcd_dvd_left _ _) (Nat.gcd_dvd_right _ _)]
    exact Nat.div_self (Nat.gcd_pos_of_pos_right _ (by omega))
  ba := ha.div
  bb := hb.div
theorem drawn_ev (xs : List D) (h : HandOk xs) : ∃ a b ys, fn__law_drawn [.mu xs] = .ok (.val (I2 a b)) [.mu ys] ∧ HandOk ys ∧ Ra a b := by
  obtain ⟨v, x1, e1, h1, v0, v1⟩ := take_ev xs h 4 (by decide) (by decide)
  have p30 : gPow (.int 10) (.int 30) = some (.val (.int 1000000000000000000000000000000)) := by rfl
  have m1 : mulOk 2 1000000000000000000000000000000 = true := by decide +kernel
  by_cases hv : v = 0
  · obtain ⟨a, x2, e2, h2, a0, a1⟩ := take_ev x1 h1 (2 * 1000000000000000000000000000000 + 1) (by decide) (by decide +kernel)
    obtain ⟨b, x3, e3, h3, b0, b1⟩ := take_ev x2 h2 1000000000000000000000000000000 (by decide) (by decide +kernel)
    have ba : Bd 110 (a - 1000000000000000000000000000000) := by
      unfold Bd
      have : (2 : Nat) ^ 110 = 1298074214633706907132624082305024 := by decide
      omega
    have bb : Bd 110 (1 + b) := by
      unfold Bd
      have : (2 : Nat) ^ 110 = 1298074214633706907132624082305024 := by decide
      omega
    obtain ⟨ps, hr⟩ := ratio_ev (a - 1000000000000000000000000000000) (1 + b) (by omega) 109 bb (by decide)
    refine ⟨_, _, x3, ?_, h3, qr_ra (by omega) ba bb⟩
    simp only [fn__law_drawn, den__law_drawn, dC_a, dVar_a, dSlot_a, dMove_a, dLV_a, dFrz_a, dVal_a, dBin_a, dNeg_a, dTB_a, dBT_a, dTru_a, dNotT_a, dAndT_a, dOrT_a, dAndV_a, dOrV_a, dNotL_a, dIf_a, dIfF_a, dChain_a, dVs_n, dVs_c, dArs_n, dArs_c, dTup_a, dLst_a, getAll_n, getAll_c, dCB_a, dCall_a, dCall0_a, dCallR_a, dIsi_a, dSeq_a, dSkip_a, dIfS_a, dRet_a, dSet_a, dAsg_a, asN_a, asT_a, asT_l, asC_a, asNil_a, dPar_a, dPut_a, dExp_a, dApp_a, dFor_a, loopF_n, dIt_a, mkFn_a, frzE_val, frzE_mu, get_v, get_s, Res.bind_ok, Res.bind_err, Res.bind_bad, List.getElem?_cons_zero, List.getElem?_cons_succ, List.set_cons_zero, List.set_cons_succ, List.map_cons, List.map_nil, List.cons_append, List.nil_append, List.append_nil, List.length_cons, List.length_nil, List.replicate, List.take, finF, if_true, if_false, ite_true, ite_false, Ent.flat, D.flat, frzAr, reduceIte, Nat.reduceAdd, Nat.reduceSub, Nat.reduceLeDiff, Bool.false_eq_true, Nat.reduceEqDiff, Nat.add_eq, Nat.add_zero, Nat.zero_add, Option.bind_some, Option.map_some, Nat.sub_self, eq_self, and_self, and_true, true_and, hasS, e1, gEq_int, vb, hv, decide_true, p30, gMul_i m1, gAdd_i, gSub_i, e2, e3, hr]
  · obtain ⟨a, x2, e2, h2, a0, a1⟩ := take_ev x1 h1 49 (by decide) (by decide)
    obtain ⟨b, x3, e3, h3, b0, b1⟩ := take_ev x2 h2 12 (by decide) (by decide)
    have ba : Bd 110 (a - 24) := by
      unfold Bd
      have : (2 : Nat) ^ 110 = 1298074214633706907132624082305024 := by decide
      omega
    have bb : Bd 110 (1 + b) := by
      unfold Bd
      have : (2 : Nat) ^ 110 = 1298074214633706907132624082305024 := by decide
      omega
    obtain ⟨ps, hr⟩ := ratio_ev (a - 24) (1 + b) (by omega) 109 bb (by decide)
    refine ⟨_, _, x3, ?_, h3, qr_ra (by omega) ba bb⟩
    simp only [fn__law_drawn, den__law_drawn, dC_a, dVar_a, dSlot_a, dMove_a, dLV_a, dFrz_a, dVal_a, dBin_a, dNeg_a, dTB_a, dBT_a, dTru_a, dNotT_a, dAndT_a, dOrT_a, dAndV_a, dOrV_a, dNotL_a, dIf_a, dIfF_a, dChain_a, dVs_n, dVs_c, dArs_n, dArs_c, dTup_a, dLst_a, getAll_n, getAll_c, dCB_a, dCall_a, dCall0_a, dCallR_a, dIsi_a, dSeq_a, dSkip_a, dIfS_a, dRet_a, dSet_a, dAsg_a, asN_a, asT_a, asT_l, asC_a, asNil_a, dPar_a, dPut_a, dExp_a, dApp_a, dFor_a, loopF_n, dIt_a, mkFn_a, frzE_val, frzE_mu, get_v, get_s, Res.bind_ok, Res.bind_err, Res.bind_bad, List.getElem?_cons_zero, List.getElem?_cons_succ, List.set_cons_zero, List.set_cons_succ, List.map_cons, List.map_nil, List.cons_append, List.nil_append, List.append_nil, List.length_cons, List.length_nil, List.replicate, List.take, finF, if_true, if_false, ite_true, ite_false, Ent.flat, D.flat, frzAr, reduceIte, Nat.reduceAdd, Nat.reduceSub, Nat.reduceLeDiff, Bool.false_eq_true, Nat.reduceEqDiff, Nat.add_eq, Nat.add_zero, Nat.zero_add, Option.bind_some, Option.map_some, Nat.sub_self, eq_self, and_self, and_true, true_and, hasS, e1, gEq_int, vb, hv, decide_false, gAdd_i, gSub_i, e2, e3, hr]
end Kx

set_option linter.all false
set_option maxRecDepth 100000
set_option maxHeartbeats 4000000
namespace Kx
open PySem PySem.Spec PyProof.Rows L2 Ev
section
variable {a b c d : Int} {k m : Nat}
structure Four (k m : Nat) (a b c d : Int) : Prop where
  ha : Bd (k + 1) a
  hb : Bd (k + 1) b
  hc : Bd (m + 1) c
  hd : Bd (m + 1) d
  l : k + m < 8000
theorem Four.ad (h : Four k m a b c d) : mulOk a d = true := mulOk_of h.ha h.hd (by have := h.l; omega)
theorem Four.cb (h : Four k m a b c d) : mulOk c b = true := mulOk_of h.hc h.hb (by have := h.l; omega)
theorem Four.bd (h : Four k m a b c d) : mulOk b d = true := mulOk_of h.hb h.hd (by have := h.l; omega)
theorem Four.ac (h : Four k m a b c d) : mulOk a c = true := mulOk_of h.ha h.hc (by have := h.l; omega)
theorem Four.bc (h : Four k m a b c d) : mulOk b c = true := mulOk_of h.hb h.hc (by have := h.l; omega)
theorem Four.bbd (h : Four k m a b c d) : Bd ((k + m + 1) + 1) (b * d) := (h.hb.mul h.hd).mono (by omega)
theorem Four.bbc (h : Four k m a b c d) : Bd ((k + m + 1) + 1) (b * c) := (h.hb.mul h.hc).mono (by omega)
theorem plus_ev (h : Four k m a b c d) (hb : 0 < b) (hd : 0 < d) : ∃ ps, fn_plus [.val (I2 a b), .val (I2 c d)] = .ok (.val (qr (a * d + c * b) (b * d))) ps := by
  obtain ⟨ps, e⟩ := low_pos (a * d + c * b) (b * d) (Int.mul_pos hb hd) (k + m + 1) h.bbd (by have := h.l; omega)
  simp only [fn_plus, den_plus, dC_a, dVar_a, dSlot_a, dMove_a, dLV_a, dFrz_a, dVal_a, dBin_a, dNeg_a, dTB_a, dBT_a, dTru_a, dNotT_a, dAndT_a, dOrT_a, dAndV_a, dOrV_a, dNotL_a, dIf_a, dIfF_a, dChain_a, dVs_n, dVs_c, dArs_n, dArs_c, dTup_a, dLst_a, getAll_n, getAll_c, dCB_a, dCall_a, dCall0_a, dCallR_a, dIsi_a, dSeq_a, dSkip_a, dIfS_a, dRet_a, dSet_a, dAsg_a, asN_a, asT_a, asT_l, asC_a, asNil_a, dPar_a, dPut_a, dExp_a, dApp_a, dFor_a, loopF_n, dIt_a, mkFn_a, frzE_val, frzE_mu, get_v, get_s, Res.bind_ok, Res.bind_err, Res.bind_bad, List.getElem?_cons_zero, List.getElem?_cons_succ, List.set_cons_zero, List.set_cons_succ, List.map_cons, List.map_nil, List.cons_append, List.nil_append, List.append_nil, List.length_cons, List.length_nil, List.replicate, List.take, finF, if_true, if_false, ite_true, ite_false, Ent.flat, D.flat, frzAr, reduceIte, Nat.reduceAdd, Nat.reduceSub, Nat.reduceLeDiff, Bool.false_eq_true, Nat.reduceEqDiff, Nat.add_eq, Nat.add_zero, Nat.zero_add, Option.bind_some, Option.map_some, Nat.sub_self, eq_self, and_self, and_true, true_and, ix_t0, ix_t1, gMul_i h.ad, gMul_i h.cb, gMul_i h.bd, gAdd_i, e]
  exact ⟨_, rfl⟩
theorem minus_ev (h : Four k m a b c d) (hb : 0 < b) (hd : 0 < d) : ∃ ps, fn_minus [.val (I2 a b), .val (I2 c d)] = .ok (.val (qr (a * d - c * b) (b * d))) ps := by
  obtain ⟨ps, e⟩ := low_pos (a * d - c * b) (b * d) (Int.mul_pos hb hd) (k + m + 1) h.bbd (by have := h.l; omega)
  simp only [fn_minus, den_minus, dC_a, dVar_a, dSlot_a, dMove_a, dLV_a, dFrz_a, dVal_a, dBin_a, dNeg_a, dTB_a, dBT_a, dTru_a, dNotT_a, dAndT_a, dOrT_a, dAndV_a, dOrV_a, dNotL_a, dIf_a, dIfF_a, dChain_a, dVs_n, dVs_c, dArs_n, dArs_c, dTup_a, dLst_a, getAll_n, getAll_c, dCB_a, dCall_a, dCall0_a, dCallR_a, dIsi_a, dSeq_a, dSkip_a, dIfS_a, dRet_a, dSet_a, dAsg_a, asN_a, asT_a, asT_l, asC_a, asNil_a, dPar_a, dPut_a, dExp_a, dApp_a, dFor_a, loopF_n, dIt_a, mkFn_a, frzE_val, frzE_mu, get_v, get_s, Res.bind_ok, Res.bind_err, Res.bind_bad, List.getElem?_cons_zero, List.getElem?_cons_succ, List.set_cons_zero, List.set_cons_succ, List.map_cons, List.map_nil, List.cons_append, List.nil_append, List.append_nil, List.length_cons, List.length_nil, List.replicate, List.take, finF, if_true, if_false, ite_true, ite_false, Ent.flat, D.flat, frzAr, reduceIte, Nat.reduceAdd, Nat.reduceSub, Nat.reduceLeDiff, Bool.false_eq_true, Nat.reduceEqDiff, Nat.add_eq, Nat.add_zero, Nat.zero_add, Option.bind_some, Option.map_some, Nat.sub_self, eq_self, and_self, and_true, true_and, ix_t0, ix_t1, gMul_i h.ad, gMul_i h.cb, gMul_i h.bd, gSub_i, e]
  exact ⟨_, rfl⟩
theorem times_ev (h : Four k m a b c d) (hb : 0 < b) (hd : 0 < d) : ∃ ps, fn_times [.val (I2 a b), .val (I2 c d)] = .ok (.val (qr (a * c) (b * d))) ps := by
  obtain ⟨ps, e⟩ := low_pos (a * c) (b * d) (Int.mul_pos hb hd) (k + m + 1) h.bbd (by have := h.l; omega)
  simp only [fn_times, den_times, dC_a, dVar_a, dSlot_a, dMove_a, dLV_a, dFrz_a, dVal_a, dBin_a, dNeg_a, dTB_a, dBT_a, dTru_a, dNotT_a, dAndT_a, dOrT_a, dAndV_a, dOrV_a, dNotL_a, dIf_a, dIfF_a, dChain_a, dVs_n, dVs_c, dArs_n, dArs_c, dTup_a, dLst_a, getAll_n, getAll_c, dCB_a, dCall_a, dCall0_a, dCallR_a, dIsi_a, dSeq_a, dSkip_a, dIfS_a, dRet_a, dSet_a, dAsg_a, asN_a, asT_a, asT_l, asC_a, asNil_a, dPar_a, dPut_a, dExp_a, dApp_a, dFor_a, loopF_n, dIt_a, mkFn_a, frzE_val, frzE_mu, get_v, get_s, Res.bind_ok, Res.bind_err, Res.bind_bad, List.getElem?_cons_zero, List.getElem?_cons_succ, List.set_cons_zero, List.set_cons_succ, List.map_cons, List.map_nil, List.cons_append, List.nil_append, List.append_nil, List.length_cons, List.length_nil, List.replicate, List.take, finF, if_true, if_false, ite_true, ite_false, Ent.flat, D.flat, frzAr, reduceIte, Nat.reduceAdd, Nat.reduceSub, Nat.reduceLeDiff, Bool.false_eq_true, Nat.reduceEqDiff, Nat.add_eq, Nat.add_zero, Nat.zero_add, Option.bind_some, Option.map_some, Nat.sub_self, eq_self, and_self, and_true, true_and, ix_t0, ix_t1, gMul_i h.ac, gMul_i h.bd, e]
  exact ⟨_, rfl⟩
theorem negative_ev : ∃ ps, fn_negative [.val (I2 a b)] = .ok (.val (I2 (-a) b)) ps := by
  simp only [fn_negative, den_negative, dC_a, dVar_a, dSlot_a, dMove_a, dLV_a, dFrz_a, dVal_a, dBin_a, dNeg_a, dTB_a, dBT_a, dTru_a, dNotT_a, dAndT_a, dOrT_a, dAndV_a, dOrV_a, dNotL_a, dIf_a, dIfF_a, dChain_a, dVs_n, dVs_c, dArs_n, dArs_c, dTup_a, dLst_a, getAll_n, getAll_c, dCB_a, dCall_a, dCall0_a, dCallR_a, dIsi_a, dSeq_a, dSkip_a, dIfS_a, dRet_a, dSet_a, dAsg_a, asN_a, asT_a, asT_l, asC_a, asNil_a, dPar_a, dPut_a, dExp_a, dApp_a, dFor_a, loopF_n, dIt_a, mkFn_a, frzE_val, frzE_mu, get_v, get_s, Res.bind_ok, Res.bind_err, Res.bind_bad, List.getElem?_cons_zero, List.getElem?_cons_succ, List.set_cons_zero, List.set_cons_succ, List.map_cons, List.map_nil, List.cons_append, List.nil_append, List.append_nil, List.length_cons, List.length_nil, List.replicate, List.take, finF, if_true, if_false, ite_true, ite_false, Ent.flat, D.flat, frzAr, reduceIte, Nat.reduceAdd, Nat.reduceSub, Nat.reduceLeDiff, Bool.false_eq_true, Nat.reduceEqDiff, Nat.add_eq, Nat.add_zero, Nat.zero_add, Option.bind_some, Option.map_some, Nat.sub_self, eq_self, and_self, and_true, true_and, ix_t0, ix_t1]
  exact ⟨_, rfl⟩
/-- top over bottom, the sign above -/
def sx (t b : Int) : Int := if 0 < b then t / gc t b else (-t) / gc (-t) (-b)
def sy (t b : Int) : Int := if 0 < b then b / gc t b else (-b) / gc (-t) (-b)
abbrev sg (t b : Int) : D := I2 (sx t b) (sy t b)
theorem sg_pos {t b : Int} (h : 0 < b) : sg t b = qr t b := by
  unfold sg sx sy
  rw [if_pos h, if_pos h]
theorem sg_neg {t b : Int} (h : ¬ 0 < b) : sg t b = qr (-t) (-b) := by
  unfold sg sx sy
  rw [if_neg h, if_neg h]
theorem signed_ev (t b : Int) (h : b ≠ 0) (hk : Bd (k + 1) b) (l : k < 9000) : ∃ ps, fn__law_signed [.val (.int t), .val (.int b)] = .ok (.val (sg t b)) ps := by
  by_cases hb : 0 < b
  · obtain ⟨ps, e⟩ := ratio_ev t b h k hk l
    rw [sg_pos hb]
    simp only [fn__law_signed, den__law_signed, dC_a, dVar_a, dSlot_a, dMove_a, dLV_a, dFrz_a, dVal_a, dBin_a, dNeg_a, dTB_a, dBT_a, dTru_a, dNotT_a, dAndT_a, dOrT_a, dAndV_a, dOrV_a, dNotL_a, dIf_a, dIfF_a, dChain_a, dVs_n, dVs_c, dArs_n, dArs_c, dTup_a, dLst_a, getAll_n, getAll_c, dCB_a, dCall_a, dCall0_a, dCallR_a, dIsi_a, dSeq_a, dSkip_a, dIfS_a, dRet_a, dSet_a, dAsg_a, asN_a, asT_a, asT_l, asC_a, asNil_a, dPar_a, dPut_a, dExp_a, dApp_a, dFor_a, loopF_n, dIt_a, mkFn_a, frzE_val, frzE_mu, get_v, get_s, Res.bind_ok, Res.bind_err, Res.bind_bad, List.getElem?_cons_zero, List.getElem?_cons_succ, List.set_cons_zero, List.set_cons_succ, List.map_cons, List.map_nil, List.cons_append, List.nil_append, List.append_nil, List.length_cons, List.length_nil, List.replicate, List.take, finF, if_true, if_false, ite_true, ite_false, Ent.flat, D.flat, frzAr, reduceIte, Nat.reduceAdd, Nat.reduceSub, Nat.reduceLeDiff, Bool.false_eq_true, Nat.reduceEqDiff, Nat.add_eq, Nat.add_zero, Nat.zero_add, Option.bind_some, Option.map_some, Nat.sub_self, eq_self, and_self, and_true, true_and, gGt_i, vb, hb, decide_true, e]
    exact ⟨_, rfl⟩
  · obtain ⟨ps, e⟩ := ratio_ev (-t) (-b) (by omega) k hk.neg l
    rw [sg_neg hb]
    simp only [fn__law_signed, den__law_signed, dC_a, dVar_a, dSlot_a, dMove_a, dLV_a, dFrz_a, dVal_a, dBin_a, dNeg_a, dTB_a, dBT_a, dTru_a, dNotT_a, dAndT_a, dOrT_a, dAndV_a, dOrV_a, dNotL_a, dIf_a, dIfF_a, dChain_a, dVs_n, dVs_c, dArs_n, dArs_c, dTup_a, dLst_a, getAll_n, getAll_c, dCB_a, dCall_a, dCall0_a, dCallR_a, dIsi_a, dSeq_a, dSkip_a, dIfS_a, dRet_a, dSet_a, dAsg_a, asN_a, asT_a, asT_l, asC_a, asNil_a, dPar_a, dPut_a, dExp_a, dApp_a, dFor_a, loopF_n, dIt_a, mkFn_a, frzE_val, frzE_mu, get_v, get_s, Res.bind_ok, Res.bind_err, Res.bind_bad, List.getElem?_cons_zero, List.getElem?_cons_succ, List.set_cons_zero, List.set_cons_succ, List.map_cons, List.map_nil, List.cons_append, List.nil_append, List.append_nil, List.length_cons, List.length_nil, List.replicate, List.take, finF, if_true, if_false, ite_true, ite_false, Ent.flat, D.flat, frzAr, reduceIte, Nat.reduceAdd, Nat.reduceSub, Nat.reduceLeDiff, Bool.false_eq_true, Nat.reduceEqDiff, Nat.add_eq, Nat.add_zero, Nat.zero_add, Option.bind_some, Option.map_some, Nat.sub_self, eq_self, and_self, and_true, true_and, gGt_i, vb, hb, decide_false, e]
    exact ⟨_, rfl⟩
theorem low_ev (t b : Int) (h : b ≠ 0) (hk : Bd (k + 1) b) (l : k < 9000) : ∃ ps, fn_in_lowest [.val (.int t), .val (.int b)] = .ok (.val (sg t b)) ps := by
  by_cases hb : 0 < b
  · rw [sg_pos hb]
    exact low_pos t b hb k hk l
  · rw [sg_neg hb]
    exact low_neg t b (by omega) k hk l
theorem over_ev (h : Four k m a b c d) (hb : 0 < b) (hc : c ≠ 0) : ∃ ps, fn_over [.val (I2 a b), .val (I2 c d)] = .ok (.val (sg (a * d) (b * c))) ps := by
  have hz : b * c ≠ 0 := Int.mul_ne_zero (by omega) hc
  obtain ⟨ps, e⟩ := low_ev (a * d) (b * c) hz h.bbc (by have := h.l; omega)
  simp only [fn_over, den_over, dC_a, dVar_a, dSlot_a, dMove_a, dLV_a, dFrz_a, dVal_a, dBin_a, dNeg_a, dTB_a, dBT_a, dTru_a, dNotT_a, dAndT_a, dOrT_a, dAndV_a, dOrV_a, dNotL_a, dIf_a, dIfF_a, dChain_a, dVs_n, dVs_c, dArs_n, dArs_c, dTup_a, dLst_a, getAll_n, getAll_c, dCB_a, dCall_a, dCall0_a, dCallR_a, dIsi_a, dSeq_a, dSkip_a, dIfS_a, dRet_a, dSet_a, dAsg_a, asN_a, asT_a, asT_l, asC_a, asNil_a, dPar_a, dPut_a, dExp_a, dApp_a, dFor_a, loopF_n, dIt_a, mkFn_a, frzE_val, frzE_mu, get_v, get_s, Res.bind_ok, Res.bind_err, Res.bind_bad, List.getElem?_cons_zero, List.getElem?_cons_succ, List.set_cons_zero, List.set_cons_succ, List.map_cons, List.map_nil, List.cons_append, List.nil_append, List.append_nil, List.length_cons, List.length_nil, List.replicate, List.take, finF, if_true, if_false, ite_true, ite_false, Ent.flat, D.flat, frzAr, reduceIte, Nat.reduceAdd, Nat.reduceSub, Nat.reduceLeDiff, Bool.false_eq_true, Nat.reduceEqDiff, Nat.add_eq, Nat.add_zero, Nat.zero_add, Option.bind_some, Option.map_some, Nat.sub_self, eq_self, and_self, and_true, true_and, ix_t0, ix_t1, gEq_int, vb, hc, decide_false, gMul_i h.ad, gMul_i h.bc, e]
  exact ⟨_, rfl⟩
theorem over_err : ∃ ps, fn_over [.val (I2 a b), .val (I2 0 d)] = .err "BadRatio" ["what"] [.str "zero"] ps := by
  simp only [fn_over, den_over, dC_a, dVar_a, dSlot_a, dMove_a, dLV_a, dFrz_a, dVal_a, dBin_a, dNeg_a, dTB_a, dBT_a, dTru_a, dNotT_a, dAndT_a, dOrT_a, dAndV_a, dOrV_a, dNotL_a, dIf_a, dIfF_a, dChain_a, dVs_n, dVs_c, dArs_n, dArs_c, dTup_a, dLst_a, getAll_n, getAll_c, dCB_a, dCall_a, dCall0_a, dCallR_a, dIsi_a, dSeq_a, dSkip_a, dIfS_a, dRet_a, dSet_a, dAsg_a, asN_a, asT_a, asT_l, asC_a, asNil_a, dPar_a, dPut_a, dExp_a, dApp_a, dFor_a, loopF_n, dIt_a, mkFn_a, frzE_val, frzE_mu, get_v, get_s, Res.bind_ok, Res.bind_err, Res.bind_bad, List.getElem?_cons_zero, List.getElem?_cons_succ, List.set_cons_zero, List.set_cons_succ, List.map_cons, List.map_nil, List.cons_append, List.nil_append, List.append_nil, List.length_cons, List.length_nil, List.replicate, List.take, finF, if_true, if_false, ite_true, ite_false, Ent.flat, D.flat, frzAr, reduceIte, Nat.reduceAdd, Nat.reduceSub, Nat.reduceLeDiff, Bool.false_eq_true, Nat.reduceEqDiff, Nat.add_eq, Nat.add_zero, Nat.zero_add, Option.bind_some, Option.map_some, Nat.sub_self, eq_self, and_self, and_true, true_and, ix_t0, ix_t1, gEq_int, vb, decide_true, dRaise]
  exact ⟨_, rfl⟩
theorem tab_bb : tabX "BadRatio" "BadRatio" = some true := by rfl
theorem dTry_a {T : XTab} {b : DenS} {hs : List (Str × Option Nat × DenS)} {env : Sto} : dTry T b hs env = match b env with
  | .err c ns xs e => runH T c ns xs e hs
  | r => r := rfl
theorem runH_a {T : XTab} {c h : Str} {ns : List Str} {xs : List D} {e : Sto} {o : Option Nat} {s : DenS} {r : List (Str × Option Nat × DenS)} : runH T c ns xs e ((h, o, s) :: r) = match T c h with
    | some true => finX o (s (match o with
      | some i => (noX e).set i (.exn c ns xs)
      | none => noX e))
    | some false => runH T c ns xs e r
    | none => .bad := rfl
theorem dXf_a {cs : List Str} {i : Nat} {n : Str} {env : Sto} : dXf cs i n env = match env[i]? with
  | some (.exn c ns xs) => if cs.contains c = true then (match (ns.zip xs).lookup n with
    | some d => .ok d env
    | none => .bad) else .bad
  | _ => .bad := rfl
theorem con_b : (["BadRatio"] : List Str).contains "BadRatio" = true := by rfl
theorem look_w {d : D} : ((["what"] : List Str).zip [d]).lookup ("what" : Str) = some d := by rfl
theorem parted_ev (h : Four k m a b c d) (hb : 0 < b) (hc : c ≠ 0) : ∃ ps, fn__law_parted [.val (I2 a b), .val (I2 c d)] = .ok (.val (sg (a * d) (b * c))) ps := by
  obtain ⟨ps, e⟩ := over_ev h hb hc
  simp only [fn__law_parted, den__law_parted, dC_a, dVar_a, dSlot_a, dMove_a, dLV_a, dFrz_a, dVal_a, dBin_a, dNeg_a, dTB_a, dBT_a, dTru_a, dNotT_a, dAndT_a, dOrT_a, dAndV_a, dOrV_a, dNotL_a, dIf_a, dIfF_a, dChain_a, dVs_n, dVs_c, dArs_n, dArs_c, dTup_a, dLst_a, getAll_n, getAll_c, dCB_a, dCall_a, dCall0_a, dCallR_a, dIsi_a, dSeq_a, dSkip_a, dIfS_a, dRet_a, dSet_a, dAsg_a, asN_a, asT_a, asT_l, asC_a, asNil_a, dPar_a, dPut_a, dExp_a, dApp_a, dFor_a, loopF_n, dIt_a, mkFn_a, frzE_val, frzE_mu, get_v, get_s, Res.bind_ok, Res.bind_err, Res.bind_bad, List.getElem?_cons_zero, List.getElem?_cons_succ, List.set_cons_zero, List.set_cons_succ, List.map_cons, List.map_nil, List.cons_append, List.nil_append, List.append_nil, List.length_cons, List.length_nil, List.replicate, List.take, finF, if_true, if_false, ite_true, ite_false, Ent.flat, D.flat, frzAr, reduceIte, Nat.reduceAdd, Nat.reduceSub, Nat.reduceLeDiff, Bool.false_eq_true, Nat.reduceEqDiff, Nat.add_eq, Nat.add_zero, Nat.zero_add, Option.bind_some, Option.map_some, Nat.sub_self, eq_self, and_self, and_true, true_and, dTry_a, e]
  exact ⟨_, rfl⟩
theorem parted_err : ∃ ps, fn__law_parted [.val (I2 a b), .val (I2 0 d)] = .ok (.mu [.str "BadRatio", .str "zero"]) ps := by
  obtain ⟨ps, e⟩ := over_err (a := a) (b := b) (d := d)
  simp only [fn__law_parted, den__law_parted, dC_a, dVar_a, dSlot_a, dMove_a, dLV_a, dFrz_a, dVal_a, dBin_a, dNeg_a, dTB_a, dBT_a, dTru_a, dNotT_a, dAndT_a, dOrT_a, dAndV_a, dOrV_a, dNotL_a, dIf_a, dIfF_a, dChain_a, dVs_n, dVs_c, dArs_n, dArs_c, dTup_a, dLst_a, getAll_n, getAll_c, dCB_a, dCall_a, dCall0_a, dCallR_a, dIsi_a, dSeq_a, dSkip_a, dIfS_a, dRet_a, dSet_a, dAsg_a, asN_a, asT_a, asT_l, asC_a, asNil_a, dPar_a, dPut_a, dExp_a, dApp_a, dFor_a, loopF_n, dIt_a, mkFn_a, frzE_val, frzE_mu, get_v, get_s, Res.bind_ok, Res.bind_err, Res.bind_bad, List.getElem?_cons_zero, List.getElem?_cons_succ, List.set_cons_zero, List.set_cons_succ, List.map_cons, List.map_nil, List.cons_append, List.nil_append, List.append_nil, List.length_cons, List.length_nil, List.replicate, List.take, finF, if_true, if_false, ite_true, ite_false, Ent.flat, D.flat, frzAr, reduceIte, Nat.reduceAdd, Nat.reduceSub, Nat.reduceLeDiff, Bool.false_eq_true, Nat.reduceEqDiff, Nat.add_eq, Nat.add_zero, Nat.zero_add, Option.bind_some, Option.map_some, Nat.sub_self, eq_self, and_self, and_true, true_and, dTry_a, e, runH_a, tab_bb, noX, Ent.noX, dXf_a, con_b, look_w, finX]
  exact ⟨_, rfl⟩
def cmpv (x y : Int) : Int := if x = y then 0 else if x < y then -1 else 1
theorem compare_ev (h : Four k m a b c d) : ∃ ps, fn_compare [.val (I2 a b), .val (I2 c d)] = .ok (.val (.int (cmpv (a * d) (c * b)))) ps := by
  unfold cmpv
  by_cases h1 : a * d = c * b
  · have e : decide (a * d - c * b = 0) = true := decide_eq_true (by omega)
    simp only [fn_compare, den_compare, dC_a, dVar_a, dSlot_a, dMove_a, dLV_a, dFrz_a, dVal_a, dBin_a, dNeg_a, dTB_a, dBT_a, dTru_a, dNotT_a, dAndT_a, dOrT_a, dAndV_a, dOrV_a, dNotL_a, dIf_a, dIfF_a, dChain_a, dVs_n, dVs_c, dArs_n, dArs_c, dTup_a, dLst_a, getAll_n, getAll_c, dCB_a, dCall_a, dCall0_a, dCallR_a, dIsi_a, dSeq_a, dSkip_a, dIfS_a, dRet_a, dSet_a, dAsg_a, asN_a, asT_a, asT_l, asC_a, asNil_a, dPar_a, dPut_a, dExp_a, dApp_a, dFor_a, loopF_n, dIt_a, mkFn_a, frzE_val, frzE_mu, get_v, get_s, Res.bind_ok, Res.bind_err, Res.bind_bad, List.getElem?_cons_zero, List.getElem?_cons_succ, List.set_cons_zero, List.set_cons_succ, List.map_cons, List.map_nil, List.cons_append, List.nil_append, List.append_nil, List.length_cons, List.length_nil, List.replicate, List.take, finF, if_true, if_false, ite_true, ite_false, Ent.flat, D.flat, frzAr, reduceIte, Nat.reduceAdd, Nat.reduceSub, Nat.reduceLeDiff, Bool.false_eq_true, Nat.reduceEqDiff, Nat.add_eq, Nat.add_zero, Nat.zero_add, Option.bind_some, Option.map_some, Nat.sub_self, eq_self, and_self, and_true, true_and, ix_t0, ix_t1, gMul_i h.ad, gMul_i h.cb, gSub_i, gEq_int, vb, e, if_pos h1]
    exact ⟨_, rfl⟩
  · have e : decide (a * d - c * b = 0) = false := decide_eq_false (by omega)
    rw [if_neg h1]
    by_cases h2 : a * d < c * b
    · have e2 : decide (a * d - c * b < 0) = true := decide_eq_true (by omega)
      simp only [fn_compare, den_compare, dC_a, dVar_a, dSlot_a, dMove_a, dLV_a, dFrz_a, dVal_a, dBin_a, dNeg_a, dTB_a, dBT_a, dTru_a, dNotT_a, dAndT_a, dOrT_a, dAndV_a, dOrV_a, dNotL_a, dIf_a, dIfF_a, dChain_a, dVs_n, dVs_c, dArs_n, dArs_c, dTup_a, dLst_a, getAll_n, getAll_c, dCB_a, dCall_a, dCall0_a, dCallR_a, dIsi_a, dSeq_a, dSkip_a, dIfS_a, dRet_a, dSet_a, dAsg_a, asN_a, asT_a, asT_l, asC_a, asNil_a, dPar_a, dPut_a, dExp_a, dApp_a, dFor_a, loopF_n, dIt_a, mkFn_a, frzE_val, frzE_mu, get_v, get_s, Res.bind_ok, Res.bind_err, Res.bind_bad, List.getElem?_cons_zero, List.getElem?_cons_succ, List.set_cons_zero, List.set_cons_succ, List.map_cons, List.map_nil, List.cons_append, List.nil_append, List.append_nil, List.length_cons, List.length_nil, List.replicate, List.take, finF, if_true, if_false, ite_true, ite_false, Ent.flat, D.flat, frzAr, reduceIte, Nat.reduceAdd, Nat.reduceSub, Nat.reduceLeDiff, Bool.false_eq_true, Nat.reduceEqDiff, Nat.add_eq, Nat.add_zero, Nat.zero_add, Option.bind_some, Option.map_some, Nat.sub_self, eq_self, and_self, and_true, true_and, ix_t0, ix_t1, gMul_i h.ad, gMul_i h.cb, gSub_i, gEq_int, gLt_i, vb, e, e2, if_pos h2]
      exact ⟨_, rfl⟩
    · have e2 : decide (a * d - c * b < 0) = false := decide_eq_false (by omega)
      simp only [fn_compare, den_compare, dC_a, dVar_a, dSlot_a, dMove_a, dLV_a, dFrz_a, dVal_a, dBin_a, dNeg_a, dTB_a, dBT_a, dTru_a, dNotT_a, dAndT_a, dOrT_a, dAndV_a, dOrV_a, dNotL_a, dIf_a, dIfF_a, dChain_a, dVs_n, dVs_c, dArs_n, dArs_c, dTup_a, dLst_a, getAll_n, getAll_c, dCB_a, dCall_a, dCall0_a, dCallR_a, dIsi_a, dSeq_a, dSkip_a, dIfS_a, dRet_a, dSet_a, dAsg_a, asN_a, asT_a, asT_l, asC_a, asNil_a, dPar_a, dPut_a, dExp_a, dApp_a, dFor_a, loopF_n, dIt_a, mkFn_a, frzE_val, frzE_mu, get_v, get_s, Res.bind_ok, Res.bind_err, Res.bind_bad, List.getElem?_cons_zero, List.getElem?_cons_succ, List.set_cons_zero, List.set_cons_succ, List.map_cons, List.map_nil, List.cons_append, List.nil_append, List.append_nil, List.length_cons, List.length_nil, List.replicate, List.take, finF, if_true, if_false, ite_true, ite_false, Ent.flat, D.flat, frzAr, reduceIte, Nat.reduceAdd, Nat.reduceSub, Nat.reduceLeDiff, Bool.false_eq_true, Nat.reduceEqDiff, Nat.add_eq, Nat.add_zero, Nat.zero_add, Option.bind_some, Option.map_some, Nat.sub_self, eq_self, and_self, and_true, true_and, ix_t0, ix_t1, gMul_i h.ad, gMul_i h.cb, gSub_i, gEq_int, gLt_i, vb, e, e2, if_neg h2]
      exact ⟨_, rfl⟩
theorem cmpv_neg (x y : Int) : cmpv y x = -cmpv x y := by
  unfold cmpv
  rcases Int.lt_trichotomy x y with h | h | h
  · rw [if_neg (by omega), if_neg (by omega), if_neg (by omega), if_pos h]
    rfl
  · rw [if_pos h.symm, if_pos h]
    rfl
  · rw [if_neg (by omega), if_pos h, if_neg (by omega), if_neg (by omega)]
theorem floor_ev (hb : 0 < b) (hk : Bd (k + 1) b) (l : k < 9000) : ∃ ps, fn_floor_of [.val (I2 a b)] = .ok (.val (.int (a / b))) ps := by
  simp only [fn_floor_of, den_floor_of, dC_a, dVar_a, dSlot_a, dMove_a, dLV_a, dFrz_a, dVal_a, dBin_a, dNeg_a, dTB_a, dBT_a, dTru_a, dNotT_a, dAndT_a, dOrT_a, dAndV_a, dOrV_a, dNotL_a, dIf_a, dIfF_a, dChain_a, dVs_n, dVs_c, dArs_n, dArs_c, dTup_a, dLst_a, getAll_n, getAll_c, dCB_a, dCall_a, dCall0_a, dCallR_a, dIsi_a, dSeq_a, dSkip_a, dIfS_a, dRet_a, dSet_a, dAsg_a, asN_a, asT_a, asT_l, asC_a, asNil_a, dPar_a, dPut_a, dExp_a, dApp_a, dFor_a, loopF_n, dIt_a, mkFn_a, frzE_val, frzE_mu, get_v, get_s, Res.bind_ok, Res.bind_err, Res.bind_bad, List.getElem?_cons_zero, List.getElem?_cons_succ, List.set_cons_zero, List.set_cons_succ, List.map_cons, List.map_nil, List.cons_append, List.nil_append, List.append_nil, List.length_cons, List.length_nil, List.replicate, List.take, finF, if_true, if_false, ite_true, ite_false, Ent.flat, D.flat, frzAr, reduceIte, Nat.reduceAdd, Nat.reduceSub, Nat.reduceLeDiff, Bool.false_eq_true, Nat.reduceEqDiff, Nat.add_eq, Nat.add_zero, Nat.zero_add, Option.bind_some, Option.map_some, Nat.sub_self, eq_self, and_self, and_true, true_and, ix_t0, ix_t1, gDiv_i (divOk_of hk (by omega) l), fdiv_pos hb]
  exact ⟨_, rfl⟩
theorem broken_ev (hb : 0 < b) (ha : Bd (k + 1) a) (hk : Bd (k + 1) b) (l : k < 8000) : ∃ ps, fn_broken_of [.val (I2 a b)] = .ok (.val (I2 (a - a / b * b) b)) ps := by
  have m1 : mulOk (a / b) b = true := mulOk_of (k := k) (m := k) ha.div hk (by omega)
  simp only [fn_broken_of, den_broken_of, dC_a, dVar_a, dSlot_a, dMove_a, dLV_a, dFrz_a, dVal_a, dBin_a, dNeg_a, dTB_a, dBT_a, dTru_a, dNotT_a, dAndT_a, dOrT_a, dAndV_a, dOrV_a, dNotL_a, dIf_a, dIfF_a, dChain_a, dVs_n, dVs_c, dArs_n, dArs_c, dTup_a, dLst_a, getAll_n, getAll_c, dCB_a, dCall_a, dCall0_a, dCallR_a, dIsi_a, dSeq_a, dSkip_a, dIfS_a, dRet_a, dSet_a, dAsg_a, asN_a, asT_a, asT_l, asC_a, asNil_a, dPar_a, dPut_a, dExp_a, dApp_a, dFor_a, loopF_n, dIt_a, mkFn_a, frzE_val, frzE_mu, get_v, get_s, Res.bind_ok, Res.bind_err, Res.bind_bad, List.getElem?_cons_zero, List.getElem?_cons_succ, List.set_cons_zero, List.set_cons_succ, List.map_cons, List.map_nil, List.cons_append, List.nil_append, List.append_nil, List.length_cons, List.length_nil, List.replicate, List.take, finF, if_true, if_false, ite_true, ite_false, Ent.flat, D.flat, frzAr, reduceIte, Nat.reduceAdd, Nat.reduceSub, Nat.reduceLeDiff, Bool.false_eq_true, Nat.reduceEqDiff, Nat.add_eq, Nat.add_zero, Nat.zero_add, Option.bind_some, Option.map_some, Nat.sub_self, eq_self, and_self, and_true, true_and, ix_t0, ix_t1, gDiv_i (divOk_of hk (by omega) (by omega : k < 9000)), fdiv_pos hb, gMul_i m1, gSub_i]
  exact ⟨_, rfl⟩
end
end Kx

set_option linter.all false
set_option maxRecDepth 100000
set_option maxHeartbeats 4000000
namespace Kx
open PySem PySem.Spec PyProof.Rows L2 Ev
theorem truth_b {b : Bool} : truth (.bl b) = some b := rfl
theorem truth_l {xs : List D} : truth (.lst xs) = some (!xs.isEmpty) := rfl
theorem isi_ib {i : Int} : isTs (.int i) ["bool"] = false := rfl
theorem isi_ii {i : Int} : isTs (.int i) ["int"] = true := rfl
theorem isi_it {i : Int} : isTs (.int i) ["tuple"] = false := rfl
theorem isi_tt {xs : List D} : isTs (.tup xs) ["tuple"] = true := rfl
theorem ni_i {i : Int} : noIns (.int i) = true := rfl
theorem ni_t {xs : List D} : noIns (.tup xs) = true := rfl
theorem recFn_s {np ns : Nat} {den : Fn → DenS} {n : Nat} : recFn np ns den (n + 1) = mkFn np ns (den (recFn np ns den n)) := rfl
theorem loopC_n {own : List Nat} {t : Asg} {c : DenT} {f : DenV} {acc : List D} {e : Sto} : loopC own t c f [] acc e = .ok acc e := rfl
theorem loopC_c {own : List Nat} {t : Asg} {c : DenT} {f : DenV} {acc : List D} {e : Sto} {d : D} {ds : List D} : loopC own t c f (d :: ds) acc e = match t d e with
    | none => .bad
    | some e1 => (c e1).bindX fun b e2 => if b = true then (f e2).bindX fun y e3 => (if acc.length < 1000000 then loopC own t c f ds (acc ++ [y]) (wipeE e3 own) else .bad) else loopC own t c f ds acc (wipeE e2 own) := rfl
theorem bindX_o {α β : Type} {a : α} {e : Sto} {k : α → Sto → Res β} : (Res.ok a e).bindX k = k a e := rfl
theorem dLc_a {own : List Nat} {t : Asg} {it : DenI} {c : DenT} {f : DenV} {env : Sto} : dLc own t it c f env = (it env).bind fun items e => if okOwn e own = true then (loopC own t c f items [] (wipeE e own)).bindX fun acc e' => .ok (.mu acc) (restE e e' own) else .bad := rfl
theorem dTrue_a {env : Sto} : dTrue env = .ok true env := rfl
theorem tuples_int (n : Nat) (i : Int) : ∃ ps, recFn 1 2 den__law_tuples (n + 1) [.val (.int i)] = .ok (.val (.bl true)) ps := by
  rw [recFn_s]
  simp only [den__law_tuples, dC_a, dVar_a, dSlot_a, dMove_a, dLV_a, dFrz_a, dVal_a, dBin_a, dNeg_a, dTB_a, dBT_a, dTru_a, dNotT_a, dAndT_a, dOrT_a, dAndV_a, dOrV_a, dNotL_a, dIf_a, dIfF_a, dChain_a, dVs_n, dVs_c, dArs_n, dArs_c, dTup_a, dLst_a, getAll_n, getAll_c, dCB_a, dCall_a, dCall0_a, dCallR_a, dIsi_a, dSeq_a, dSkip_a, dIfS_a, dRet_a, dSet_a, dAsg_a, asN_a, asT_a, asT_l, asC_a, asNil_a, dPar_a, dPut_a, dExp_a, dApp_a, dFor_a, loopF_n, dIt_a, mkFn_a, frzE_val, frzE_mu, get_v, get_s, Res.bind_ok, Res.bind_err, Res.bind_bad, List.getElem?_cons_zero, List.getElem?_cons_succ, List.set_cons_zero, List.set_cons_succ, List.map_cons, List.map_nil, List.cons_append, List.nil_append, List.append_nil, List.length_cons, List.length_nil, List.replicate, List.take, finF, if_true, if_false, ite_true, ite_false, Ent.flat, D.flat, frzAr, reduceIte, Nat.reduceAdd, Nat.reduceSub, Nat.reduceLeDiff, Bool.false_eq_true, Nat.reduceEqDiff, Nat.add_eq, Nat.add_zero, Nat.zero_add, Option.bind_some, Option.map_some, Nat.sub_self, eq_self, and_self, and_true, true_and, truth_b, isi_it, isi_ib, isi_ii, ni_i, gIs, vb, D.isN, Bool.not_false]
  exact ⟨_, rfl⟩
theorem tuples_loop (self : Fn) (T : D) : ∀ ds : List D, (∀ d ∈ ds, ∃ ps, self [.val d] = .ok (.val (.bl true)) ps) → loopC [1] (asN 1) (cd__law_tuples_1 self) (el__law_tuples_2 self) ds [] [.val T, .un] = .ok [] [.val T, .un]
  | [], _ => rfl
  | d :: ds, h => by
    obtain ⟨ps, e⟩ := h d (List.mem_cons_self ..)
    have ih := tuples_loop self T ds fun x hx => h x (List.mem_cons_of_mem _ hx)
    rw [loopC_c]
    simp only [cd__law_tuples_1, dC_a, dVar_a, dSlot_a, dMove_a, dLV_a, dFrz_a, dVal_a, dBin_a, dNeg_a, dTB_a, dBT_a, dTru_a, dNotT_a, dAndT_a, dOrT_a, dAndV_a, dOrV_a, dNotL_a, dIf_a, dIfF_a, dChain_a, dVs_n, dVs_c, dArs_n, dArs_c, dTup_a, dLst_a, getAll_n, getAll_c, dCB_a, dCall_a, dCall0_a, dCallR_a, dIsi_a, dSeq_a, dSkip_a, dIfS_a, dRet_a, dSet_a, dAsg_a, asN_a, asT_a, asT_l, asC_a, asNil_a, dPar_a, dPut_a, dExp_a, dApp_a, dFor_a, loopF_n, dIt_a, mkFn_a, frzE_val, frzE_mu, get_v, get_s, Res.bind_ok, Res.bind_err, Res.bind_bad, List.getElem?_cons_zero, List.getElem?_cons_succ, List.set_cons_zero, List.set_cons_succ, List.map_cons, List.map_nil, List.cons_append, List.nil_append, List.append_nil, List.length_cons, List.length_nil, List.replicate, List.take, finF, if_true, if_false, ite_true, ite_false, Ent.flat, D.flat, frzAr, reduceIte, Nat.reduceAdd, Nat.reduceSub, Nat.reduceLeDiff, Bool.false_eq_true, Nat.reduceEqDiff, Nat.add_eq, Nat.add_zero, Nat.zero_add, Option.bind_some, Option.map_some, Nat.sub_self, eq_self, and_self, and_true, true_and, e, truth_b, bindX_o, Bool.not_true, wipeE]
    exact ih
theorem tuples_tup (n : Nat) (ds : List D) (h : ∀ d ∈ ds, ∃ ps, recFn 1 2 den__law_tuples n [.val d] = .ok (.val (.bl true)) ps) : ∃ ps, recFn 1 2 den__law_tuples (n + 1) [.val (.tup ds)] = .ok (.val (.bl true)) ps := by
  have l := tuples_loop (recFn 1 2 den__law_tuples n) (.tup ds) ds h
  rw [recFn_s]
  simp only [den__law_tuples, dC_a, dVar_a, dSlot_a, dMove_a, dLV_a, dFrz_a, dVal_a, dBin_a, dNeg_a, dTB_a, dBT_a, dTru_a, dNotT_a, dAndT_a, dOrT_a, dAndV_a, dOrV_a, dNotL_a, dIf_a, dIfF_a, dChain_a, dVs_n, dVs_c, dArs_n, dArs_c, dTup_a, dLst_a, getAll_n, getAll_c, dCB_a, dCall_a, dCall0_a, dCallR_a, dIsi_a, dSeq_a, dSkip_a, dIfS_a, dRet_a, dSet_a, dAsg_a, asN_a, asT_a, asT_l, asC_a, asNil_a, dPar_a, dPut_a, dExp_a, dApp_a, dFor_a, loopF_n, dIt_a, mkFn_a, frzE_val, frzE_mu, get_v, get_s, Res.bind_ok, Res.bind_err, Res.bind_bad, List.getElem?_cons_zero, List.getElem?_cons_succ, List.set_cons_zero, List.set_cons_succ, List.map_cons, List.map_nil, List.cons_append, List.nil_append, List.append_nil, List.length_cons, List.length_nil, List.replicate, List.take, finF, if_true, if_false, ite_true, ite_false, Ent.flat, D.flat, frzAr, reduceIte, Nat.reduceAdd, Nat.reduceSub, Nat.reduceLeDiff, Bool.false_eq_true, Nat.reduceEqDiff, Nat.add_eq, Nat.add_zero, Nat.zero_add, Option.bind_some, Option.map_some, Nat.sub_self, eq_self, and_self, and_true, true_and, truth_b, isi_tt, ni_t, dLc_a, its_t, okOwn, List.all_cons, List.all_nil, Bool.and_true, wipeE, l, bindX_o, restE, truth_l, List.isEmpty_nil, Bool.not_true, Bool.not_false]
  exact ⟨_, rfl⟩
theorem tuples_I2 (n : Nat) (a b : Int) : ∃ ps, recFn 1 2 den__law_tuples (n + 2) [.val (I2 a b)] = .ok (.val (.bl true)) ps := tuples_tup _ _ fun d hd => by
  simp only [List.mem_cons, List.not_mem_nil, or_false] at hd
  rcases hd with rfl | rfl
  · exact tuples_int _ _
  · exact tuples_int _ _
theorem tuples_3 (a b c d e f : Int) : ∃ ps, fn__law_tuples [.val (.tup [I2 a b, I2 c d, I2 e f])] = .ok (.val (.bl true)) ps := tuples_tup 11 _ fun d hd => by
  simp only [List.mem_cons, List.not_mem_nil, or_false] at hd
  rcases hd with rfl | rfl | rfl
  · exact tuples_I2 _ _ _
  · exact tuples_I2 _ _ _
  · exact tuples_I2 _ _ _
theorem ne_I2 {x y : Int} : gNe (I2 x y) (I2 x y) = vb false := gNe_self rfl
theorem eq_I2 {x y : Int} : gEq (I2 x y) (I2 x y) = vb true := gEq_self rfl
theorem four_of {a b c d : Int} (h : Ra a b) (q : Ra c d) : Four 109 109 a b c d := ⟨h.ba, h.bb, q.ba, q.bb, by decide⟩
theorem pair_ev {a b c d : Int} (h : Ra a b) (q : Ra c d) : ∃ ps, fn__law_pair [.val (I2 a b), .val (I2 c d)] = .ok (.val (.bl true)) ps := by
  have F := four_of h q
  have F' := four_of q h
  have hb0 : b ≠ 0 := by have := h.pos; omega
  have hbd : b * d ≠ 0 := by have := Int.mul_pos h.pos q.pos; omega
  obtain ⟨p1, e1⟩ := plus_ev F h.pos q.pos
  obtain ⟨p2, e2⟩ := minus_ev F h.pos q.pos
  obtain ⟨p3, e3⟩ := times_ev F h.pos q.pos
  obtain ⟨p4, e4⟩ := negative_ev (a := a) (b := b)
  obtain ⟨p5, e5⟩ := ratio_ev (a * d + c * b) (b * d) hbd _ F.bbd (by decide)
  obtain ⟨p6, e6⟩ := ratio_ev (a * d - c * b) (b * d) hbd _ F.bbd (by decide)
  obtain ⟨p7, e7⟩ := ratio_ev (a * c) (b * d) hbd _ F.bbd (by decide)
  obtain ⟨p8, e8⟩ := compare_ev F
  obtain ⟨p9, e9⟩ := compare_ev F'
  rw [cmpv_neg (a * d) (c * b)] at e9
  obtain ⟨p10, e10⟩ := floor_ev (a := a) h.pos (k := 109) h.bb (by decide)
  obtain ⟨p11, e11⟩ := broken_ev (a := a) h.pos (k := 109) h.ba h.bb (by decide)
  obtain ⟨p12, e12⟩ := tuples_3 ((a * d + c * b) / gc (a * d + c * b) (b * d)) (b * d / gc (a * d + c * b) (b * d)) ((a * c) / gc (a * c) (b * d)) (b * d / gc (a * c) (b * d)) (a - a / b * b) b
  have mf : mulOk (a / b) b = true := mulOk_of (k := 109) (m := 109) (Bd.div h.ba) h.bb (by decide)
  have mf2 : mulOk (a / b + 1) b = true := mulOk_of (k := 120) (m := 109) ((Bd.add (Bd.div h.ba) (Bd.lit (k := 110) (i := 1) (by decide +kernel))).mono (by decide)) h.bb (by decide)
  have w1 : a / b * b ≤ a := Int.ediv_mul_le a hb0
  have w2 : a < (a / b + 1) * b := Int.lt_ediv_add_one_mul_self a h.pos
  have fin : ∀ (o : Int), cmpv (a * d) (c * b) = o → ((a * d = c * b ∧ o = 0) ∨ (a * d ≠ c * b ∧ a * d < c * b ∧ o = -1) ∨ (a * d ≠ c * b ∧ ¬ a * d < c * b ∧ o = 1)) := fun o ho => by
    unfold cmpv at ho
    by_cases h1 : a * d = c * b
    · rw [if_pos h1] at ho
      exact .inl ⟨h1, ho.symm⟩
    · rw [if_neg h1] at ho
      by_cases h2 : a * d < c * b
      · rw [if_pos h2] at ho
        exact .inr (.inl ⟨h1, h2, ho.symm⟩)
      · rw [if_neg h2] at ho
        exact .inr (.inr ⟨h1, h2, ho.symm⟩)
  generalize hcv : cmpv (a * d) (c * b) = cv at e8 e9
  have hfin := fin cv hcv
  by_cases hc : c = 0
  · subst hc
    obtain ⟨pp, ep⟩ := parted_err (a := a) (b := b) (d := d)
    have hne : gNe (.lst [.str "BadRatio", .str "zero"]) (.lst [.str "BadRatio", .str "zero"]) = vb false := gNe_self (by decide +kernel)
    have c0 : decide ((0 : Int) = 0) = true := rfl
    rcases hfin with ⟨o1, rfl⟩ | ⟨o1, o2, rfl⟩ | ⟨o1, o2, rfl⟩
    · have q1 := decide_eq_true o1
      simp only [fn__law_pair, den__law_pair, dC_a, dVar_a, dSlot_a, dMove_a, dLV_a, dFrz_a, dVal_a, dBin_a, dNeg_a, dTB_a, dBT_a, dTru_a, dNotT_a, dAndT_a, dOrT_a, dAndV_a, dOrV_a, dNotL_a, dIf_a, dIfF_a, dChain_a, dVs_n, dVs_c, dArs_n, dArs_c, dTup_a, dLst_a, getAll_n, getAll_c, dCB_a, dCall_a, dCall0_a, dCallR_a, dIsi_a, dSeq_a, dSkip_a, dIfS_a, dRet_a, dSet_a, dAsg_a, asN_a, asT_a, asT_l, asC_a, asNil_a, dPar_a, dPut_a, dExp_a, dApp_a, dFor_a, loopF_n, dIt_a, mkFn_a, frzE_val, frzE_mu, get_v, get_s, Res.bind_ok, Res.bind_err, Res.bind_bad, List.getElem?_cons_zero, List.getElem?_cons_succ, List.set_cons_zero, List.set_cons_succ, List.map_cons, List.map_nil, List.cons_append, List.nil_append, List.append_nil, List.length_cons, List.length_nil, List.replicate, List.take, finF, if_true, if_false, ite_true, ite_false, Ent.flat, D.flat, frzAr, reduceIte, Nat.reduceAdd, Nat.reduceSub, Nat.reduceLeDiff, Bool.false_eq_true, Nat.reduceEqDiff, Nat.add_eq, Nat.add_zero, Nat.zero_add, Option.bind_some, Option.map_some, Nat.sub_self, eq_self, and_self, and_true, true_and, e1, e2, e3, e4, e5, e6, e7, e8, e9, e10, e11, e12, ep, q1, gMul_i F.ad, gMul_i F.cb, gMul_i F.bd, gMul_i F.ac, c0, gMul_i mf, gMul_i mf2, gAdd_i, gSub_i, ne_I2, eq_I2, hne, gEq_int, gNe_int, gLt_i, gLe_i, vb, truth_b, ni_i, isi_ib, isi_ii, w1, w2, decide_true, decide_false, Bool.not_true, Bool.not_false]
      exact ⟨_, rfl⟩
    · have q1 := decide_eq_false o1
      have q2 := decide_eq_true o2
      simp only [fn__law_pair, den__law_pair, dC_a, dVar_a, dSlot_a, dMove_a, dLV_a, dFrz_a, dVal_a, dBin_a, dNeg_a, dTB_a, dBT_a, dTru_a, dNotT_a, dAndT_a, dOrT_a, dAndV_a, dOrV_a, dNotL_a, dIf_a, dIfF_a, dChain_a, dVs_n, dVs_c, dArs_n, dArs_c, dTup_a, dLst_a, getAll_n, getAll_c, dCB_a, dCall_a, dCall0_a, dCallR_a, dIsi_a, dSeq_a, dSkip_a, dIfS_a, dRet_a, dSet_a, dAsg_a, asN_a, asT_a, asT_l, asC_a, asNil_a, dPar_a, dPut_a, dExp_a, dApp_a, dFor_a, loopF_n, dIt_a, mkFn_a, frzE_val, frzE_mu, get_v, get_s, Res.bind_ok, Res.bind_err, Res.bind_bad, List.getElem?_cons_zero, List.getElem?_cons_succ, List.set_cons_zero, List.set_cons_succ, List.map_cons, List.map_nil, List.cons_append, List.nil_append, List.append_nil, List.length_cons, List.length_nil, List.replicate, List.take, finF, if_true, if_false, ite_true, ite_false, Ent.flat, D.flat, frzAr, reduceIte, Nat.reduceAdd, Nat.reduceSub, Nat.reduceLeDiff, Bool.false_eq_true, Nat.reduceEqDiff, Nat.add_eq, Nat.add_zero, Nat.zero_add, Option.bind_some, Option.map_some, Nat.sub_self, eq_self, and_self, and_true, true_and, e1, e2, e3, e4, e5, e6, e7, e8, e9, e10, e11, e12, ep, q1, q2, gMul_i F.ad, gMul_i F.cb, gMul_i F.bd, gMul_i F.ac, c0, gMul_i mf, gMul_i mf2, gAdd_i, gSub_i, ne_I2, eq_I2, hne, gEq_int, gNe_int, gLt_i, gLe_i, vb, truth_b, ni_i, isi_ib, isi_ii, w1, w2, decide_true, decide_false, Bool.not_true, Bool.not_false]
      exact ⟨_, rfl⟩
    · have q1 := decide_eq_false o1
      have q2 := decide_eq_false o2
      simp only [fn__law_pair, den__law_pair, dC_a, dVar_a, dSlot_a, dMove_a, dLV_a, dFrz_a, dVal_a, dBin_a, dNeg_a, dTB_a, dBT_a, dTru_a, dNotT_a, dAndT_a, dOrT_a, dAndV_a, dOrV_a, dNotL_a, dIf_a, dIfF_a, dChain_a, dVs_n, dVs_c, dArs_n, dArs_c, dTup_a, dLst_a, getAll_n, getAll_c, dCB_a, dCall_a, dCall0_a, dCallR_a, dIsi_a, dSeq_a, dSkip_a, dIfS_a, dRet_a, dSet_a, dAsg_a, asN_a, asT_a, asT_l, asC_a, asNil_a, dPar_a, dPut_a, dExp_a, dApp_a, dFor_a, loopF_n, dIt_a, mkFn_a, frzE_val, frzE_mu, get_v, get_s, Res.bind_ok, Res.bind_err, Res.bind_bad, List.getElem?_cons_zero, List.getElem?_cons_succ, List.set_cons_zero, List.set_cons_succ, List.map_cons, List.map_nil, List.cons_append, List.nil_append, List.append_nil, List.length_cons, List.length_nil, List.replicate, List.take, finF, if_true, if_false, ite_true, ite_false, Ent.flat, D.flat, frzAr, reduceIte, Nat.reduceAdd, Nat.reduceSub, Nat.reduceLeDiff, Bool.false_eq_true, Nat.reduceEqDiff, Nat.add_eq, Nat.add_zero, Nat.zero_add, Option.bind_some, Option.map_some, Nat.sub_self, eq_self, and_self, and_true, true_and, e1, e2, e3, e4, e5, e6, e7, e8, e9, e10, e11, e12, ep, q1, q2, gMul_i F.ad, gMul_i F.cb, gMul_i F.bd, gMul_i F.ac, c0, gMul_i mf, gMul_i mf2, gAdd_i, gSub_i, ne_I2, eq_I2, hne, gEq_int, gNe_int, gLt_i, gLe_i, vb, truth_b, ni_i, isi_ib, isi_ii, w1, w2, decide_true, decide_false, Bool.not_true, Bool.not_false]
      exact ⟨_, rfl⟩
  · obtain ⟨pp, ep⟩ := parted_ev F h.pos hc
    have hne : (1 : Nat) = 1 := rfl
    obtain ⟨p13, e13⟩ := signed_ev (a * d) (b * c) (Int.mul_ne_zero hb0 hc) F.bbc (by decide)
    rcases hfin with ⟨o1, rfl⟩ | ⟨o1, o2, rfl⟩ | ⟨o1, o2, rfl⟩
    · have q1 := decide_eq_true o1
      simp only [fn__law_pair, den__law_pair, dC_a, dVar_a, dSlot_a, dMove_a, dLV_a, dFrz_a, dVal_a, dBin_a, dNeg_a, dTB_a, dBT_a, dTru_a, dNotT_a, dAndT_a, dOrT_a, dAndV_a, dOrV_a, dNotL_a, dIf_a, dIfF_a, dChain_a, dVs_n, dVs_c, dArs_n, dArs_c, dTup_a, dLst_a, getAll_n, getAll_c, dCB_a, dCall_a, dCall0_a, dCallR_a, dIsi_a, dSeq_a, dSkip_a, dIfS_a, dRet_a, dSet_a, dAsg_a, asN_a, asT_a, asT_l, asC_a, asNil_a, dPar_a, dPut_a, dExp_a, dApp_a, dFor_a, loopF_n, dIt_a, mkFn_a, frzE_val, frzE_mu, get_v, get_s, Res.bind_ok, Res.bind_err, Res.bind_bad, List.getElem?_cons_zero, List.getElem?_cons_succ, List.set_cons_zero, List.set_cons_succ, List.map_cons, List.map_nil, List.cons_append, List.nil_append, List.append_nil, List.length_cons, List.length_nil, List.replicate, List.take, finF, if_true, if_false, ite_true, ite_false, Ent.flat, D.flat, frzAr, reduceIte, Nat.reduceAdd, Nat.reduceSub, Nat.reduceLeDiff, Bool.false_eq_true, Nat.reduceEqDiff, Nat.add_eq, Nat.add_zero, Nat.zero_add, Option.bind_some, Option.map_some, Nat.sub_self, eq_self, and_self, and_true, true_and, e1, e2, e3, e4, e5, e6, e7, e8, e9, e10, e11, e12, ep, q1, gMul_i F.ad, gMul_i F.cb, gMul_i F.bd, gMul_i F.ac, hc, e13, gMul_i F.bc, gMul_i mf, gMul_i mf2, gAdd_i, gSub_i, ne_I2, eq_I2, hne, gEq_int, gNe_int, gLt_i, gLe_i, vb, truth_b, ni_i, isi_ib, isi_ii, w1, w2, decide_true, decide_false, Bool.not_true, Bool.not_false]
      exact ⟨_, rfl⟩
    · have q1 := decide_eq_false o1
      have q2 := decide_eq_true o2
      simp only [fn__law_pair, den__law_pair, dC_a, dVar_a, dSlot_a, dMove_a, dLV_a, dFrz_a, dVal_a, dBin_a, dNeg_a, dTB_a, dBT_a, dTru_a, dNotT_a, dAndT_a, dOrT_a, dAndV_a, dOrV_a, dNotL_a, dIf_a, dIfF_a, dChain_a, dVs_n, dVs_c, dArs_n, dArs_c, dTup_a, dLst_a, getAll_n, getAll_c, dCB_a, dCall_a, dCall0_a, dCallR_a, dIsi_a, dSeq_a, dSkip_a, dIfS_a, dRet_a, dSet_a, dAsg_a, asN_a, asT_a, asT_l, asC_a, asNil_a, dPar_a, dPut_a, dExp_a, dApp_a, dFor_a, loopF_n, dIt_a, mkFn_a, frzE_val, frzE_mu, get_v, get_s, Res.bind_ok, Res.bind_err, Res.bind_bad, List.getElem?_cons_zero, List.getElem?_cons_succ, List.set_cons_zero, List.set_cons_succ, List.map_cons, List.map_nil, List.cons_append, List.nil_append, List.append_nil, List.length_cons, List.length_nil, List.replicate, List.take, finF, if_true, if_false, ite_true, ite_false, Ent.flat, D.flat, frzAr, reduceIte, Nat.reduceAdd, Nat.reduceSub, Nat.reduceLeDiff, Bool.false_eq_true, Nat.reduceEqDiff, Nat.add_eq, Nat.add_zero, Nat.zero_add, Option.bind_some, Option.map_some, Nat.sub_self, eq_self, and_self, and_true, true_and, e1, e2, e3, e4, e5, e6, e7, e8, e9, e10, e11, e12, ep, q1, q2, gMul_i F.ad, gMul_i F.cb, gMul_i F.bd, gMul_i F.ac, hc, e13, gMul_i F.bc, gMul_i mf, gMul_i mf2, gAdd_i, gSub_i, ne_I2, eq_I2, hne, gEq_int, gNe_int, gLt_i, gLe_i, vb, truth_b, ni_i, isi_ib, isi_ii, w1, w2, decide_true, decide_false, Bool.not_true, Bool.not_false]
      exact ⟨_, rfl⟩
    · have q1 := decide_eq_false o1
      have q2 := decide_eq_false o2
      simp only [fn__law_pair, den__law_pair, dC_a, dVar_a, dSlot_a, dMove_a, dLV_a, dFrz_a, dVal_a, dBin_a, dNeg_a, dTB_a, dBT_a, dTru_a, dNotT_a, dAndT_a, dOrT_a, dAndV_a, dOrV_a, dNotL_a, dIf_a, dIfF_a, dChain_a, dVs_n, dVs_c, dArs_n, dArs_c, dTup_a, dLst_a, getAll_n, getAll_c, dCB_a, dCall_a, dCall0_a, dCallR_a, dIsi_a, dSeq_a, dSkip_a, dIfS_a, dRet_a, dSet_a, dAsg_a, asN_a, asT_a, asT_l, asC_a, asNil_a, dPar_a, dPut_a, dExp_a, dApp_a, dFor_a, loopF_n, dIt_a, mkFn_a, frzE_val, frzE_mu, get_v, get_s, Res.bind_ok, Res.bind_err, Res.bind_bad, List.getElem?_cons_zero, List.getElem?_cons_succ, List.set_cons_zero, List.set_cons_succ, List.map_cons, List.map_nil, List.cons_append, List.nil_append, List.append_nil, List.length_cons, List.length_nil, List.replicate, List.take, finF, if_true, if_false, ite_true, ite_false, Ent.flat, D.flat, frzAr, reduceIte, Nat.reduceAdd, Nat.reduceSub, Nat.reduceLeDiff, Bool.false_eq_true, Nat.reduceEqDiff, Nat.add_eq, Nat.add_zero, Nat.zero_add, Option.bind_some, Option.map_some, Nat.sub_self, eq_self, and_self, and_true, true_and, e1, e2, e3, e4, e5, e6, e7, e8, e9, e10, e11, e12, ep, q1, q2, gMul_i F.ad, gMul_i F.cb, gMul_i F.bd, gMul_i F.ac, hc, e13, gMul_i F.bc, gMul_i mf, gMul_i mf2, gAdd_i, gSub_i, ne_I2, eq_I2, hne, gEq_int, gNe_int, gLt_i, gLe_i, vb, truth_b, ni_i, isi_ib, isi_ii, w1, w2, decide_true, decide_false, Bool.not_true, Bool.not_false]
      exact ⟨_, rfl⟩
end Kx

set_option linter.all false
set_option maxRecDepth 100000
set_option maxHeartbeats 4000000
namespace Kx
open PySem PySem.Spec PyProof.Rows L2 Ev
abbrev PP := Int × Int
structure IsP (x : D) (p : PP) : Prop where
  z : gIx x (.int 0) = some (.val (.int p.1))
  o : gIx x (.int 1) = some (.val (.int p.2))
abbrev dT (p : PP) : D := .tup [.int p.1, .int p.2]
abbrev dL (p : PP) : D := .lst [.int p.1, .int p.2]
theorem isP_t (p : PP) : IsP (dT p) p := ⟨ix_t0, ix_t1⟩
theorem isP_l (p : PP) : IsP (dL p) p := ⟨ix_l0, ix_l1⟩
theorem plus_p {x y : D} {p q : PP} {k m : Nat} (hx : IsP x p) (hy : IsP y q) (h : Four k m p.1 p.2 q.1 q.2) (hb : 0 < p.2) (hd : 0 < q.2) : ∃ ps, fn_plus [.val x, .val y] = .ok (.val (qr (p.1 * q.2 + q.1 * p.2) (p.2 * q.2))) ps := by
  obtain ⟨ps, e⟩ := low_pos (p.1 * q.2 + q.1 * p.2) (p.2 * q.2) (Int.mul_pos hb hd) (k + m + 1) h.bbd (by have := h.l; omega)
  simp only [fn_plus, den_plus, dC_a, dVar_a, dSlot_a, dMove_a, dLV_a, dFrz_a, dVal_a, dBin_a, dNeg_a, dTB_a, dBT_a, dTru_a, dNotT_a, dAndT_a, dOrT_a, dAndV_a, dOrV_a, dNotL_a, dIf_a, dIfF_a, dChain_a, dVs_n, dVs_c, dArs_n, dArs_c, dTup_a, dLst_a, getAll_n, getAll_c, dCB_a, dCall_a, dCall0_a, dCallR_a, dIsi_a, dSeq_a, dSkip_a, dIfS_a, dRet_a, dSet_a, dAsg_a, asN_a, asT_a, asT_l, asC_a, asNil_a, dPar_a, dPut_a, dExp_a, dApp_a, dFor_a, loopF_n, dIt_a, mkFn_a, frzE_val, frzE_mu, get_v, get_s, Res.bind_ok, Res.bind_err, Res.bind_bad, List.getElem?_cons_zero, List.getElem?_cons_succ, List.set_cons_zero, List.set_cons_succ, List.map_cons, List.map_nil, List.cons_append, List.nil_append, List.append_nil, List.length_cons, List.length_nil, List.replicate, List.take, finF, if_true, if_false, ite_true, ite_false, Ent.flat, D.flat, frzAr, reduceIte, Nat.reduceAdd, Nat.reduceSub, Nat.reduceLeDiff, Bool.false_eq_true, Nat.reduceEqDiff, Nat.add_eq, Nat.add_zero, Nat.zero_add, Option.bind_some, Option.map_some, Nat.sub_self, eq_self, and_self, and_true, true_and, hx.z, hx.o, hy.z, hy.o, gMul_i h.ad, gMul_i h.cb, gMul_i h.bd, gAdd_i, e]
  exact ⟨_, rfl⟩
theorem compare_p {x y : D} {p q : PP} {k m : Nat} (hx : IsP x p) (hy : IsP y q) (h : Four k m p.1 p.2 q.1 q.2) : ∃ ps, fn_compare [.val x, .val y] = .ok (.val (.int (cmpv (p.1 * q.2) (q.1 * p.2)))) ps := by
  unfold cmpv
  by_cases h1 : p.1 * q.2 = q.1 * p.2
  · have e : decide (p.1 * q.2 - q.1 * p.2 = 0) = true := decide_eq_true (by omega)
    simp only [fn_compare, den_compare, dC_a, dVar_a, dSlot_a, dMove_a, dLV_a, dFrz_a, dVal_a, dBin_a, dNeg_a, dTB_a, dBT_a, dTru_a, dNotT_a, dAndT_a, dOrT_a, dAndV_a, dOrV_a, dNotL_a, dIf_a, dIfF_a, dChain_a, dVs_n, dVs_c, dArs_n, dArs_c, dTup_a, dLst_a, getAll_n, getAll_c, dCB_a, dCall_a, dCall0_a, dCallR_a, dIsi_a, dSeq_a, dSkip_a, dIfS_a, dRet_a, dSet_a, dAsg_a, asN_a, asT_a, asT_l, asC_a, asNil_a, dPar_a, dPut_a, dExp_a, dApp_a, dFor_a, loopF_n, dIt_a, mkFn_a, frzE_val, frzE_mu, get_v, get_s, Res.bind_ok, Res.bind_err, Res.bind_bad, List.getElem?_cons_zero, List.getElem?_cons_succ, List.set_cons_zero, List.set_cons_succ, List.map_cons, List.map_nil, List.cons_append, List.nil_append, List.append_nil, List.length_cons, List.length_nil, List.replicate, List.take, finF, if_true, if_false, ite_true, ite_false, Ent.flat, D.flat, frzAr, reduceIte, Nat.reduceAdd, Nat.reduceSub, Nat.reduceLeDiff, Bool.false_eq_true, Nat.reduceEqDiff, Nat.add_eq, Nat.add_zero, Nat.zero_add, Option.bind_some, Option.map_some, Nat.sub_self, eq_self, and_self, and_true, true_and, hx.z, hx.o, hy.z, hy.o, gMul_i h.ad, gMul_i h.cb, gSub_i, gEq_int, vb, e, if_pos h1]
    exact ⟨_, rfl⟩
  · have e : decide (p.1 * q.2 - q.1 * p.2 = 0) = false := decide_eq_false (by omega)
    rw [if_neg h1]
    by_cases h2 : p.1 * q.2 < q.1 * p.2
    · have e2 : decide (p.1 * q.2 - q.1 * p.2 < 0) = true := decide_eq_true (by omega)
      simp only [fn_compare, den_compare, dC_a, dVar_a, dSlot_a, dMove_a, dLV_a, dFrz_a, dVal_a, dBin_a, dNeg_a, dTB_a, dBT_a, dTru_a, dNotT_a, dAndT_a, dOrT_a, dAndV_a, dOrV_a, dNotL_a, dIf_a, dIfF_a, dChain_a, dVs_n, dVs_c, dArs_n, dArs_c, dTup_a, dLst_a, getAll_n, getAll_c, dCB_a, dCall_a, dCall0_a, dCallR_a, dIsi_a, dSeq_a, dSkip_a, dIfS_a, dRet_a, dSet_a, dAsg_a, asN_a, asT_a, asT_l, asC_a, asNil_a, dPar_a, dPut_a, dExp_a, dApp_a, dFor_a, loopF_n, dIt_a, mkFn_a, frzE_val, frzE_mu, get_v, get_s, Res.bind_ok, Res.bind_err, Res.bind_bad, List.getElem?_cons_zero, List.getElem?_cons_succ, List.set_cons_zero, List.set_cons_succ, List.map_cons, List.map_nil, List.cons_append, List.nil_append, List.append_nil, List.length_cons, List.length_nil, List.replicate, List.take, finF, if_true, if_false, ite_true, ite_false, Ent.flat, D.flat, frzAr, reduceIte, Nat.reduceAdd, Nat.reduceSub, Nat.reduceLeDiff, Bool.false_eq_true, Nat.reduceEqDiff, Nat.add_eq, Nat.add_zero, Nat.zero_add, Option.bind_some, Option.map_some, Nat.sub_self, eq_self, and_self, and_true, true_and, hx.z, hx.o, hy.z, hy.o, gMul_i h.ad, gMul_i h.cb, gSub_i, gEq_int, gLt_i, vb, e, e2, if_pos h2]
      exact ⟨_, rfl⟩
    · have e2 : decide (p.1 * q.2 - q.1 * p.2 < 0) = false := decide_eq_false (by omega)
      simp only [fn_compare, den_compare, dC_a, dVar_a, dSlot_a, dMove_a, dLV_a, dFrz_a, dVal_a, dBin_a, dNeg_a, dTB_a, dBT_a, dTru_a, dNotT_a, dAndT_a, dOrT_a, dAndV_a, dOrV_a, dNotL_a, dIf_a, dIfF_a, dChain_a, dVs_n, dVs_c, dArs_n, dArs_c, dTup_a, dLst_a, getAll_n, getAll_c, dCB_a, dCall_a, dCall0_a, dCallR_a, dIsi_a, dSeq_a, dSkip_a, dIfS_a, dRet_a, dSet_a, dAsg_a, asN_a, asT_a, asT_l, asC_a, asNil_a, dPar_a, dPut_a, dExp_a, dApp_a, dFor_a, loopF_n, dIt_a, mkFn_a, frzE_val, frzE_mu, get_v, get_s, Res.bind_ok, Res.bind_err, Res.bind_bad, List.getElem?_cons_zero, List.getElem?_cons_succ, List.set_cons_zero, List.set_cons_succ, List.map_cons, List.map_nil, List.cons_append, List.nil_append, List.append_nil, List.length_cons, List.length_nil, List.replicate, List.take, finF, if_true, if_false, ite_true, ite_false, Ent.flat, D.flat, frzAr, reduceIte, Nat.reduceAdd, Nat.reduceSub, Nat.reduceLeDiff, Bool.false_eq_true, Nat.reduceEqDiff, Nat.add_eq, Nat.add_zero, Nat.zero_add, Option.bind_some, Option.map_some, Nat.sub_self, eq_self, and_self, and_true, true_and, hx.z, hx.o, hy.z, hy.o, gMul_i h.ad, gMul_i h.cb, gSub_i, gEq_int, gLt_i, vb, e, e2, if_neg h2]
      exact ⟨_, rfl⟩
theorem cmpv_lt {x y : Int} : decide (cmpv x y < 0) = decide (x < y) := by
  unfold cmpv
  rcases Int.lt_trichotomy x y with h | h | h
  · rw [if_neg (by omega), if_pos h, decide_eq_true h]
    rfl
  · rw [if_pos h, decide_eq_false (by omega : ¬ x < y)]
    rfl
  · rw [if_neg (by omega), if_neg (by omega), decide_eq_false (by omega : ¬ x < y)]
    rfl
theorem cmpv_gt {x y : Int} : decide (0 < cmpv x y) = decide (y < x) := by
  unfold cmpv
  rcases Int.lt_trichotomy x y with h | h | h
  · rw [if_neg (by omega), if_pos h, decide_eq_false (by omega : ¬ y < x)]
    rfl
  · rw [if_pos h, decide_eq_false (by omega : ¬ y < x)]
    rfl
  · rw [if_neg (by omega), if_neg (by omega), decide_eq_true h]
    rfl
/-- the total goes on -/
def stT (t p : PP) : PP := ((t.1 * p.2 + p.1 * t.2) / gc (t.1 * p.2 + p.1 * t.2) (t.2 * p.2), (t.2 * p.2) / gc (t.1 * p.2 + p.1 * t.2) (t.2 * p.2))
def stL (q p : PP) : PP := if p.1 * q.2 < q.1 * p.2 then p else q
def stH (q p : PP) : PP := if q.1 * p.2 < p.1 * q.2 then p else q
abbrev RaP (p : PP) : Prop := Ra p.1 p.2
structure TOk (n : Nat) (t : PP) : Prop where
  pos : 0 < t.2
  ba : Bd (1 + 111 * n) t.1
  bb : Bd (1 + 111 * n) t.2
theorem TOk.four {n : Nat} {t p : PP} (h : TOk n t) (q : RaP p) (l : n ≤ 9) : Four (111 * n) 109 t.1 t.2 p.1 p.2 :=
  ⟨h.ba.mono (by omega), h.bb.mono (by omega), q.ba, q.bb, by omega⟩
theorem TOk.step {n : Nat} {t p : PP} (h : TOk n t) (q : RaP p) : TOk (n + 1) (stT t p) := by
  have hp : 0 < t.2 * p.2 := Int.mul_pos h.pos q.pos
  have b1 : Bd (1 + 111 * (n + 1)) (t.1 * p.2 + p.1 * t.2) := (Bd.add (k := 1 + 111 * n + 110) (h.ba.mul q.bb) ((q.ba.mul h.bb).mono (by omega))).mono (by omega)
  have b2 : Bd (1 + 111 * (n + 1)) (t.2 * p.2) := (h.bb.mul q.bb).mono (by omega)
  refine ⟨?_, b1.div, b2.div⟩
  have g0 := gc_pos (a := t.1 * p.2 + p.1 * t.2) (b := t.2 * p.2) (by omega)
  obtain ⟨c, hc⟩ := gc_dvd_r (t.1 * p.2 + p.1 * t.2) (t.2 * p.2)
  show 0 < (t.2 * p.2) / gc (t.1 * p.2 + p.1 * t.2) (t.2 * p.2)
  have e : (t.2 * p.2) / gc (t.1 * p.2 + p.1 * t.2) (t.2 * p.2) = c := by
    rw [show (t.2 * p.2) / gc (t.1 * p.2 + p.1 * t.2) (t.2 * p.2) = (gc (t.1 * p.2 + p.1 * t.2) (t.2 * p.2) * c) / gc (t.1 * p.2 + p.1 * t.2) (t.2 * p.2) from congrArg (· / gc (t.1 * p.2 + p.1 * t.2) (t.2 * p.2)) hc]
    exact Int.mul_ediv_cancel_left _ (by omega)
  rw [e]
  rcases Int.lt_trichotomy c 0 with z | z | z
  · have := Int.mul_neg_of_pos_of_neg g0 z
    omega
  · rw [z] at hc
    omega
  · exact z
/-- sum_of -/
theorem sum_loop (F : PP → D) (hF : ∀ p, IsP (F p) p) : ∀ (ps : List PP) (n : Nat) (t : PP) (f e : Ent), (∀ p ∈ ps, RaP p) → TOk n t → n + ps.length ≤ 9 →
    ∃ e', loopF (asN 2) bd_sum_of_1 (ps.map F) [f, .val (dT t), e] = .ok .nx [f, .val (dT (ps.foldl stT t)), e']
  | [], n, t, f, e, _, _, _ => ⟨e, rfl⟩
  | p :: ps, n, t, f, e, hp, ht, hl => by
    rw [List.length_cons] at hl
    have q := hp p (List.mem_cons_self ..)
    obtain ⟨zs, e1⟩ := plus_p (isP_t t) (hF p) (ht.four q (by omega)) ht.pos q.pos
    obtain ⟨e', ih⟩ := sum_loop F hF ps (n + 1) (stT t p) f (.val (F p)) (fun x hx => hp x (List.mem_cons_of_mem _ hx)) (ht.step q) (by omega)
    refine ⟨e', ?_⟩
    rw [List.map_cons, loopF_c, List.foldl_cons, ← ih]
    simp only [bd_sum_of_1, dC_a, dVar_a, dSlot_a, dMove_a, dLV_a, dFrz_a, dVal_a, dBin_a, dNeg_a, dTB_a, dBT_a, dTru_a, dNotT_a, dAndT_a, dOrT_a, dAndV_a, dOrV_a, dNotL_a, dIf_a, dIfF_a, dChain_a, dVs_n, dVs_c, dArs_n, dArs_c, dTup_a, dLst_a, getAll_n, getAll_c, dCB_a, dCall_a, dCall0_a, dCallR_a, dIsi_a, dSeq_a, dSkip_a, dIfS_a, dRet_a, dSet_a, dAsg_a, asN_a, asT_a, asT_l, asC_a, asNil_a, dPar_a, dPut_a, dExp_a, dApp_a, dFor_a, loopF_n, dIt_a, mkFn_a, frzE_val, frzE_mu, get_v, get_s, Res.bind_ok, Res.bind_err, Res.bind_bad, List.getElem?_cons_zero, List.getElem?_cons_succ, List.set_cons_zero, List.set_cons_succ, List.map_cons, List.map_nil, List.cons_append, List.nil_append, List.append_nil, List.length_cons, List.length_nil, List.replicate, List.take, finF, if_true, if_false, ite_true, ite_false, Ent.flat, D.flat, frzAr, reduceIte, Nat.reduceAdd, Nat.reduceSub, Nat.reduceLeDiff, Bool.false_eq_true, Nat.reduceEqDiff, Nat.add_eq, Nat.add_zero, Nat.zero_add, Option.bind_some, Option.map_some, Nat.sub_self, eq_self, and_self, and_true, true_and, e1]
    rfl
theorem T0 : TOk 0 (0, 1) := ⟨by decide, .lit, .lit⟩
theorem sum_ev (F : PP → D) (hF : ∀ p, IsP (F p) p) (ps : List PP) (hp : ∀ p ∈ ps, RaP p) (hl : ps.length ≤ 9) (w : D) (hw : w.its = some (ps.map F)) : ∃ zs, fn_sum_of [.val w] = .ok (.val (dT (ps.foldl stT (0, 1)))) zs := by
  obtain ⟨e', h⟩ := sum_loop F hF ps 0 (0, 1) (.val w) .un hp T0 (by omega)
  have h2 : loopF (asN 2) bd_sum_of_1 (List.map F ps) [Ent.val w, Ent.val (D.tup [D.int 0, D.int 1]), Ent.un] = _ := h
  simp only [fn_sum_of, den_sum_of, dC_a, dVar_a, dSlot_a, dMove_a, dLV_a, dFrz_a, dVal_a, dBin_a, dNeg_a, dTB_a, dBT_a, dTru_a, dNotT_a, dAndT_a, dOrT_a, dAndV_a, dOrV_a, dNotL_a, dIf_a, dIfF_a, dChain_a, dVs_n, dVs_c, dArs_n, dArs_c, dTup_a, dLst_a, getAll_n, getAll_c, dCB_a, dCall_a, dCall0_a, dCallR_a, dIsi_a, dSeq_a, dSkip_a, dIfS_a, dRet_a, dSet_a, dAsg_a, asN_a, asT_a, asT_l, asC_a, asNil_a, dPar_a, dPut_a, dExp_a, dApp_a, dFor_a, loopF_n, dIt_a, mkFn_a, frzE_val, frzE_mu, get_v, get_s, Res.bind_ok, Res.bind_err, Res.bind_bad, List.getElem?_cons_zero, List.getElem?_cons_succ, List.set_cons_zero, List.set_cons_succ, List.map_cons, List.map_nil, List.cons_append, List.nil_append, List.append_nil, List.length_cons, List.length_nil, List.replicate, List.take, finF, if_true, if_false, ite_true, ite_false, Ent.flat, D.flat, frzAr, reduceIte, Nat.reduceAdd, Nat.reduceSub, Nat.reduceLeDiff, Bool.false_eq_true, Nat.reduceEqDiff, Nat.add_eq, Nat.add_zero, Nat.zero_add, Option.bind_some, Option.map_some, Nat.sub_self, eq_self, and_self, and_true, true_and, hw, h2]
  exact ⟨_, rfl⟩
/-- least_of, greatest_of -/
theorem least_loop (F : PP → D) (hF : ∀ p, IsP (F p) p) : ∀ (ps : List PP) (t : PP) (f e : Ent), (∀ p ∈ ps, RaP p) → RaP t →
    ∃ e', loopF (asN 2) bd_least_of_1 (ps.map F) [f, .val (F t), e] = .ok .nx [f, .val (F (ps.foldl stL t)), e']
  | [], t, f, e, _, _ => ⟨e, rfl⟩
  | p :: ps, t, f, e, hp, ht => by
    have q := hp p (List.mem_cons_self ..)
    obtain ⟨zs, e1⟩ := compare_p (hF p) (hF t) (four_of q ht)
    rw [List.map_cons, loopF_c, List.foldl_cons]
    by_cases h : p.1 * t.2 < t.1 * p.2
    · obtain ⟨e', ih⟩ := least_loop F hF ps p f (.val (F p)) (fun x hx => hp x (List.mem_cons_of_mem _ hx)) q
      refine ⟨e', ?_⟩
      rw [show stL t p = p from if_pos h, ← ih]
      simp only [bd_least_of_1, dC_a, dVar_a, dSlot_a, dMove_a, dLV_a, dFrz_a, dVal_a, dBin_a, dNeg_a, dTB_a, dBT_a, dTru_a, dNotT_a, dAndT_a, dOrT_a, dAndV_a, dOrV_a, dNotL_a, dIf_a, dIfF_a, dChain_a, dVs_n, dVs_c, dArs_n, dArs_c, dTup_a, dLst_a, getAll_n, getAll_c, dCB_a, dCall_a, dCall0_a, dCallR_a, dIsi_a, dSeq_a, dSkip_a, dIfS_a, dRet_a, dSet_a, dAsg_a, asN_a, asT_a, asT_l, asC_a, asNil_a, dPar_a, dPut_a, dExp_a, dApp_a, dFor_a, loopF_n, dIt_a, mkFn_a, frzE_val, frzE_mu, get_v, get_s, Res.bind_ok, Res.bind_err, Res.bind_bad, List.getElem?_cons_zero, List.getElem?_cons_succ, List.set_cons_zero, List.set_cons_succ, List.map_cons, List.map_nil, List.cons_append, List.nil_append, List.append_nil, List.length_cons, List.length_nil, List.replicate, List.take, finF, if_true, if_false, ite_true, ite_false, Ent.flat, D.flat, frzAr, reduceIte, Nat.reduceAdd, Nat.reduceSub, Nat.reduceLeDiff, Bool.false_eq_true, Nat.reduceEqDiff, Nat.add_eq, Nat.add_zero, Nat.zero_add, Option.bind_some, Option.map_some, Nat.sub_self, eq_self, and_self, and_true, true_and, e1, gLt_i, cmpv_lt, vb, decide_eq_true h]
    · obtain ⟨e', ih⟩ := least_loop F hF ps t f (.val (F p)) (fun x hx => hp x (List.mem_cons_of_mem _ hx)) ht
      refine ⟨e', ?_⟩
      rw [show stL t p = t from if_neg h, ← ih]
      simp only [bd_least_of_1, dC_a, dVar_a, dSlot_a, dMove_a, dLV_a, dFrz_a, dVal_a, dBin_a, dNeg_a, dTB_a, dBT_a, dTru_a, dNotT_a, dAndT_a, dOrT_a, dAndV_a, dOrV_a, dNotL_a, dIf_a, dIfF_a, dChain_a, dVs_n, dVs_c, dArs_n, dArs_c, dTup_a, dLst_a, getAll_n, getAll_c, dCB_a, dCall_a, dCall0_a, dCallR_a, dIsi_a, dSeq_a, dSkip_a, dIfS_a, dRet_a, dSet_a, dAsg_a, asN_a, asT_a, asT_l, asC_a, asNil_a, dPar_a, dPut_a, dExp_a, dApp_a, dFor_a, loopF_n, dIt_a, mkFn_a, frzE_val, frzE_mu, get_v, get_s, Res.bind_ok, Res.bind_err, Res.bind_bad, List.getElem?_cons_zero, List.getElem?_cons_succ, List.set_cons_zero, List.set_cons_succ, List.map_cons, List.map_nil, List.cons_append, List.nil_append, List.append_nil, List.length_cons, List.length_nil, List.replicate, List.take, finF, if_true, if_false, ite_true, ite_false, Ent.flat, D.flat, frzAr, reduceIte, Nat.reduceAdd, Nat.reduceSub, Nat.reduceLeDiff, Bool.false_eq_true, Nat.reduceEqDiff, Nat.add_eq, Nat.add_zero, Nat.zero_add, Option.bind_some, Option.map_some, Nat.sub_self, eq_self, and_self, and_true, true_and, e1, gLt_i, cmpv_lt, vb, decide_eq_false h]
theorem greatest_loop (F : PP → D) (hF : ∀ p, IsP (F p) p) : ∀ (ps : List PP) (t : PP) (f e : Ent), (∀ p ∈ ps, RaP p) → RaP t →
    ∃ e', loopF (asN 2) bd_greatest_of_1 (ps.map F) [f, .val (F t), e] = .ok .nx [f, .val (F (ps.foldl stH t)), e']
  | [], t, f, e, _, _ => ⟨e, rfl⟩
  | p :: ps, t, f, e, hp, ht => by
    have q := hp p (List.mem_cons_self ..)
    obtain ⟨zs, e1⟩ := compare_p (hF p) (hF t) (four_of q ht)
    rw [List.map_cons, loopF_c, List.foldl_cons]
    by_cases h : t.1 * p.2 < p.1 * t.2
    · obtain ⟨e', ih⟩ := greatest_loop F hF ps p f (.val (F p)) (fun x hx => hp x (List.mem_cons_of_mem _ hx)) q
      refine ⟨e', ?_⟩
      rw [show stH t p = p from if_pos h, ← ih]
      simp only [bd_greatest_of_1, dC_a, dVar_a, dSlot_a, dMove_a, dLV_a, dFrz_a, dVal_a, dBin_a, dNeg_a, dTB_a, dBT_a, dTru_a, dNotT_a, dAndT_a, dOrT_a, dAndV_a, dOrV_a, dNotL_a, dIf_a, dIfF_a, dChain_a, dVs_n, dVs_c, dArs_n, dArs_c, dTup_a, dLst_a, getAll_n, getAll_c, dCB_a, dCall_a, dCall0_a, dCallR_a, dIsi_a, dSeq_a, dSkip_a, dIfS_a, dRet_a, dSet_a, dAsg_a, asN_a, asT_a, asT_l, asC_a, asNil_a, dPar_a, dPut_a, dExp_a, dApp_a, dFor_a, loopF_n, dIt_a, mkFn_a, frzE_val, frzE_mu, get_v, get_s, Res.bind_ok, Res.bind_err, Res.bind_bad, List.getElem?_cons_zero, List.getElem?_cons_succ, List.set_cons_zero, List.set_cons_succ, List.map_cons, List.map_nil, List.cons_append, List.nil_append, List.append_nil, List.length_cons, List.length_nil, List.replicate, List.take, finF, if_true, if_false, ite_true, ite_false, Ent.flat, D.flat, frzAr, reduceIte, Nat.reduceAdd, Nat.reduceSub, Nat.reduceLeDiff, Bool.false_eq_true, Nat.reduceEqDiff, Nat.add_eq, Nat.add_zero, Nat.zero_add, Option.bind_some, Option.map_some, Nat.sub_self, eq_self, and_self, and_true, true_and, e1, gGt_i, cmpv_gt, vb, decide_eq_true h]
    · obtain ⟨e', ih⟩ := greatest_loop F hF ps t f (.val (F p)) (fun x hx => hp x (List.mem_cons_of_mem _ hx)) ht
      refine ⟨e', ?_⟩
      rw [show stH t p = t from if_neg h, ← ih]
      simp only [bd_greatest_of_1, dC_a, dVar_a, dSlot_a, dMove_a, dLV_a, dFrz_a, dVal_a, dBin_a, dNeg_a, dTB_a, dBT_a, dTru_a, dNotT_a, dAndT_a, dOrT_a, dAndV_a, dOrV_a, dNotL_a, dIf_a, dIfF_a, dChain_a, dVs_n, dVs_c, dArs_n, dArs_c, dTup_a, dLst_a, getAll_n, getAll_c, dCB_a, dCall_a, dCall0_a, dCallR_a, dIsi_a, dSeq_a, dSkip_a, dIfS_a, dRet_a, dSet_a, dAsg_a, asN_a, asT_a, asT_l, asC_a, asNil_a, dPar_a, dPut_a, dExp_a, dApp_a, dFor_a, loopF_n, dIt_a, mkFn_a, frzE_val, frzE_mu, get_v, get_s, Res.bind_ok, Res.bind_err, Res.bind_bad, List.getElem?_cons_zero, List.getElem?_cons_succ, List.set_cons_zero, List.set_cons_succ, List.map_cons, List.map_nil, List.cons_append, List.nil_append, List.append_nil, List.length_cons, List.length_nil, List.replicate, List.take, finF, if_true, if_false, ite_true, ite_false, Ent.flat, D.flat, frzAr, reduceIte, Nat.reduceAdd, Nat.reduceSub, Nat.reduceLeDiff, Bool.false_eq_true, Nat.reduceEqDiff, Nat.add_eq, Nat.add_zero, Nat.zero_add, Option.bind_some, Option.map_some, Nat.sub_self, eq_self, and_self, and_true, true_and, e1, gGt_i, cmpv_gt, vb, decide_eq_false h]
theorem stL_self (p : PP) : stL p p = p := by
  unfold stL
  split <;> rfl
theorem stH_self (p : PP) : stH p p = p := by
  unfold stH
  split <;> rfl
theorem least_ev (F : PP → D) (hF : ∀ p, IsP (F p) p) (p : PP) (ps : List PP) (hp : ∀ x ∈ p :: ps, RaP x) (w : D) (hw : w.its = some ((p :: ps).map F)) (h0 : gIx w (.int 0) = some (.val (F p))) : ∃ zs, fn_least_of [.val w] = .ok (.val (dT (ps.foldl stL p))) zs := by
  obtain ⟨e', h⟩ := least_loop F hF (p :: ps) p (.val w) .un hp (hp p (List.mem_cons_self ..))
  rw [List.foldl_cons, stL_self, List.map_cons] at h
  have i := hF (ps.foldl stL p)
  simp only [fn_least_of, den_least_of, dC_a, dVar_a, dSlot_a, dMove_a, dLV_a, dFrz_a, dVal_a, dBin_a, dNeg_a, dTB_a, dBT_a, dTru_a, dNotT_a, dAndT_a, dOrT_a, dAndV_a, dOrV_a, dNotL_a, dIf_a, dIfF_a, dChain_a, dVs_n, dVs_c, dArs_n, dArs_c, dTup_a, dLst_a, getAll_n, getAll_c, dCB_a, dCall_a, dCall0_a, dCallR_a, dIsi_a, dSeq_a, dSkip_a, dIfS_a, dRet_a, dSet_a, dAsg_a, asN_a, asT_a, asT_l, asC_a, asNil_a, dPar_a, dPut_a, dExp_a, dApp_a, dFor_a, loopF_n, dIt_a, mkFn_a, frzE_val, frzE_mu, get_v, get_s, Res.bind_ok, Res.bind_err, Res.bind_bad, List.getElem?_cons_zero, List.getElem?_cons_succ, List.set_cons_zero, List.set_cons_succ, List.map_cons, List.map_nil, List.cons_append, List.nil_append, List.append_nil, List.length_cons, List.length_nil, List.replicate, List.take, finF, if_true, if_false, ite_true, ite_false, Ent.flat, D.flat, frzAr, reduceIte, Nat.reduceAdd, Nat.reduceSub, Nat.reduceLeDiff, Bool.false_eq_true, Nat.reduceEqDiff, Nat.add_eq, Nat.add_zero, Nat.zero_add, Option.bind_some, Option.map_some, Nat.sub_self, eq_self, and_self, and_true, true_and, hw, h0, h, i.z, i.o]
  exact ⟨_, rfl⟩
theorem greatest_ev (F : PP → D) (hF : ∀ p, IsP (F p) p) (p : PP) (ps : List PP) (hp : ∀ x ∈ p :: ps, RaP x) (w : D) (hw : w.its = some ((p :: ps).map F)) (h0 : gIx w (.int 0) = some (.val (F p))) : ∃ zs, fn_greatest_of [.val w] = .ok (.val (dT (ps.foldl stH p))) zs := by
  obtain ⟨e', h⟩ := greatest_loop F hF (p :: ps) p (.val w) .un hp (hp p (List.mem_cons_self ..))
  rw [List.foldl_cons, stH_self, List.map_cons] at h
  have i := hF (ps.foldl stH p)
  simp only [fn_greatest_of, den_greatest_of, dC_a, dVar_a, dSlot_a, dMove_a, dLV_a, dFrz_a, dVal_a, dBin_a, dNeg_a, dTB_a, dBT_a, dTru_a, dNotT_a, dAndT_a, dOrT_a, dAndV_a, dOrV_a, dNotL_a, dIf_a, dIfF_a, dChain_a, dVs_n, dVs_c, dArs_n, dArs_c, dTup_a, dLst_a, getAll_n, getAll_c, dCB_a, dCall_a, dCall0_a, dCallR_a, dIsi_a, dSeq_a, dSkip_a, dIfS_a, dRet_a, dSet_a, dAsg_a, asN_a, asT_a, asT_l, asC_a, asNil_a, dPar_a, dPut_a, dExp_a, dApp_a, dFor_a, loopF_n, dIt_a, mkFn_a, frzE_val, frzE_mu, get_v, get_s, Res.bind_ok, Res.bind_err, Res.bind_bad, List.getElem?_cons_zero, List.getElem?_cons_succ, List.set_cons_zero, List.set_cons_succ, List.map_cons, List.map_nil, List.cons_append, List.nil_append, List.append_nil, List.length_cons, List.length_nil, List.replicate, List.take, finF, if_true, if_false, ite_true, ite_false, Ent.flat, D.flat, frzAr, reduceIte, Nat.reduceAdd, Nat.reduceSub, Nat.reduceLeDiff, Bool.false_eq_true, Nat.reduceEqDiff, Nat.add_eq, Nat.add_zero, Nat.zero_add, Option.bind_some, Option.map_some, Nat.sub_self, eq_self, and_self, and_true, true_and, hw, h0, h, i.z, i.o]
  exact ⟨_, rfl⟩
end Kx

set_option linter.all false
set_option maxRecDepth 100000
set_option maxHeartbeats 4000000
namespace Kx
open PySem PySem.Spec PyProof.Rows L2 Ev
def ldO : Option PP → D
  | none => .non
  | some p => dT p
def foO (f : PP → PP → PP) (o : Option PP) (p : PP) : Option PP := match o with
  | none => some p
  | some q => some (f q p)
theorem rows_loop : ∀ (ps : List PP) (n : Nat) (t : PP) (lo hi : Option PP) (f e u : Ent), (∀ p ∈ ps, RaP p) → TOk n t → n + ps.length ≤ 9 → ((lo = none ∧ hi = none) ∨ ∃ x y, lo = some x ∧ hi = some y ∧ RaP x ∧ RaP y) → (e = .un ∨ ∃ d, e = .val d) →
    ∃ e', (e' = .un ∨ ∃ d, e' = .val d) ∧ loopF (asN 4) bd__law_rows_1 (ps.map dT) [f, .val (dT t), .val (ldO lo), .val (ldO hi), e, u] = .ok .nx [f, .val (dT (ps.foldl stT t)), .val (ldO (ps.foldl (foO stL) lo)), .val (ldO (ps.foldl (foO stH) hi)), e', u]
  | [], n, t, lo, hi, f, e, u, _, _, _, _, he => ⟨e, he, rfl⟩
  | p :: ps, n, t, lo, hi, f, e, u, hp, ht, hl, hh, he => by
    rw [List.length_cons] at hl
    have q := hp p (List.mem_cons_self ..)
    have F4 := ht.four q (by omega)
    have hz : t.2 * p.2 ≠ 0 := by have := Int.mul_pos ht.pos q.pos; omega
    obtain ⟨zs, e1⟩ := ratio_ev (t.1 * p.2 + p.1 * t.2) (t.2 * p.2) hz _ F4.bbd (by have := F4.l; omega)
    have hp' : ∀ x ∈ ps, RaP x := fun x hx => hp x (List.mem_cons_of_mem _ hx)
    rw [List.map_cons, loopF_c, List.foldl_cons, List.foldl_cons, List.foldl_cons]
    rcases hh with ⟨rfl, rfl⟩ | ⟨x, y, rfl, rfl, hx, hy⟩
    · obtain ⟨e', h1, ih⟩ := rows_loop ps (n + 1) (stT t p) (some p) (some p) f (.val (dT p)) u hp' (ht.step q) (by omega) (.inr ⟨p, p, rfl, rfl, q, q⟩) (.inr ⟨_, rfl⟩)
      refine ⟨e', h1, ?_⟩
      rw [show foO stL none p = some p from rfl, show foO stH none p = some p from rfl, ← ih]
      simp only [bd__law_rows_1, dC_a, dVar_a, dSlot_a, dMove_a, dLV_a, dFrz_a, dVal_a, dBin_a, dNeg_a, dTB_a, dBT_a, dTru_a, dNotT_a, dAndT_a, dOrT_a, dAndV_a, dOrV_a, dNotL_a, dIf_a, dIfF_a, dChain_a, dVs_n, dVs_c, dArs_n, dArs_c, dTup_a, dLst_a, getAll_n, getAll_c, dCB_a, dCall_a, dCall0_a, dCallR_a, dIsi_a, dSeq_a, dSkip_a, dIfS_a, dRet_a, dSet_a, dAsg_a, asN_a, asT_a, asT_l, asC_a, asNil_a, dPar_a, dPut_a, dExp_a, dApp_a, dFor_a, loopF_n, dIt_a, mkFn_a, frzE_val, frzE_mu, get_v, get_s, Res.bind_ok, Res.bind_err, Res.bind_bad, List.getElem?_cons_zero, List.getElem?_cons_succ, List.set_cons_zero, List.set_cons_succ, List.map_cons, List.map_nil, List.cons_append, List.nil_append, List.append_nil, List.length_cons, List.length_nil, List.replicate, List.take, finF, if_true, if_false, ite_true, ite_false, Ent.flat, D.flat, frzAr, reduceIte, Nat.reduceAdd, Nat.reduceSub, Nat.reduceLeDiff, Bool.false_eq_true, Nat.reduceEqDiff, Nat.add_eq, Nat.add_zero, Nat.zero_add, Option.bind_some, Option.map_some, Nat.sub_self, eq_self, and_self, and_true, true_and, ldO, ix_t0, ix_t1, gMul_i F4.ad, gMul_i F4.cb, gMul_i F4.bd, gAdd_i, e1, gIs, vb, D.isN]
      rfl
    · have Fx := four_of q hx
      have Fy := four_of q hy
      obtain ⟨e', h1, ih⟩ := rows_loop ps (n + 1) (stT t p) (some (stL x p)) (some (stH y p)) f (.val (dT p)) u hp' (ht.step q) (by omega) (.inr ⟨_, _, rfl, rfl, by unfold stL; split <;> assumption, by unfold stH; split <;> assumption⟩) (.inr ⟨_, rfl⟩)
      refine ⟨e', h1, ?_⟩
      rw [show foO stL (some x) p = some (stL x p) from rfl, show foO stH (some y) p = some (stH y p) from rfl, ← ih]
      unfold stL stH
      by_cases c1 : p.1 * x.2 < x.1 * p.2
      · have d1 := decide_eq_true c1
        by_cases c2 : y.1 * p.2 < p.1 * y.2
        · have d2 := decide_eq_true c2
          simp only [bd__law_rows_1, dC_a, dVar_a, dSlot_a, dMove_a, dLV_a, dFrz_a, dVal_a, dBin_a, dNeg_a, dTB_a, dBT_a, dTru_a, dNotT_a, dAndT_a, dOrT_a, dAndV_a, dOrV_a, dNotL_a, dIf_a, dIfF_a, dChain_a, dVs_n, dVs_c, dArs_n, dArs_c, dTup_a, dLst_a, getAll_n, getAll_c, dCB_a, dCall_a, dCall0_a, dCallR_a, dIsi_a, dSeq_a, dSkip_a, dIfS_a, dRet_a, dSet_a, dAsg_a, asN_a, asT_a, asT_l, asC_a, asNil_a, dPar_a, dPut_a, dExp_a, dApp_a, dFor_a, loopF_n, dIt_a, mkFn_a, frzE_val, frzE_mu, get_v, get_s, Res.bind_ok, Res.bind_err, Res.bind_bad, List.getElem?_cons_zero, List.getElem?_cons_succ, List.set_cons_zero, List.set_cons_succ, List.map_cons, List.map_nil, List.cons_append, List.nil_append, List.append_nil, List.length_cons, List.length_nil, List.replicate, List.take, finF, if_true, if_false, ite_true, ite_false, Ent.flat, D.flat, frzAr, reduceIte, Nat.reduceAdd, Nat.reduceSub, Nat.reduceLeDiff, Bool.false_eq_true, Nat.reduceEqDiff, Nat.add_eq, Nat.add_zero, Nat.zero_add, Option.bind_some, Option.map_some, Nat.sub_self, eq_self, and_self, and_true, true_and, ldO, ix_t0, ix_t1, gMul_i F4.ad, gMul_i F4.cb, gMul_i F4.bd, gMul_i Fx.ad, gMul_i Fx.cb, gMul_i Fy.ad, gMul_i Fy.cb, gAdd_i, e1, gIs, gLt_i, gGt_i, d1, d2, vb, D.isN, if_pos c1, if_pos c2]
          rfl
        · have d2 := decide_eq_false c2
          simp only [bd__law_rows_1, dC_a, dVar_a, dSlot_a, dMove_a, dLV_a, dFrz_a, dVal_a, dBin_a, dNeg_a, dTB_a, dBT_a, dTru_a, dNotT_a, dAndT_a, dOrT_a, dAndV_a, dOrV_a, dNotL_a, dIf_a, dIfF_a, dChain_a, dVs_n, dVs_c, dArs_n, dArs_c, dTup_a, dLst_a, getAll_n, getAll_c, dCB_a, dCall_a, dCall0_a, dCallR_a, dIsi_a, dSeq_a, dSkip_a, dIfS_a, dRet_a, dSet_a, dAsg_a, asN_a, asT_a, asT_l, asC_a, asNil_a, dPar_a, dPut_a, dExp_a, dApp_a, dFor_a, loopF_n, dIt_a, mkFn_a, frzE_val, frzE_mu, get_v, get_s, Res.bind_ok, Res.bind_err, Res.bind_bad, List.getElem?_cons_zero, List.getElem?_cons_succ, List.set_cons_zero, List.set_cons_succ, List.map_cons, List.map_nil, List.cons_append, List.nil_append, List.append_nil, List.length_cons, List.length_nil, List.replicate, List.take, finF, if_true, if_false, ite_true, ite_false, Ent.flat, D.flat, frzAr, reduceIte, Nat.reduceAdd, Nat.reduceSub, Nat.reduceLeDiff, Bool.false_eq_true, Nat.reduceEqDiff, Nat.add_eq, Nat.add_zero, Nat.zero_add, Option.bind_some, Option.map_some, Nat.sub_self, eq_self, and_self, and_true, true_and, ldO, ix_t0, ix_t1, gMul_i F4.ad, gMul_i F4.cb, gMul_i F4.bd, gMul_i Fx.ad, gMul_i Fx.cb, gMul_i Fy.ad, gMul_i Fy.cb, gAdd_i, e1, gIs, gLt_i, gGt_i, d1, d2, vb, D.isN, if_pos c1, if_neg c2]
          rfl
      · have d1 := decide_eq_false c1
        by_cases c2 : y.1 * p.2 < p.1 * y.2
        · have d2 := decide_eq_true c2
          simp only [bd__law_rows_1, dC_a, dVar_a, dSlot_a, dMove_a, dLV_a, dFrz_a, dVal_a, dBin_a, dNeg_a, dTB_a, dBT_a, dTru_a, dNotT_a, dAndT_a, dOrT_a, dAndV_a, dOrV_a, dNotL_a, dIf_a, dIfF_a, dChain_a, dVs_n, dVs_c, dArs_n, dArs_c, dTup_a, dLst_a, getAll_n, getAll_c, dCB_a, dCall_a, dCall0_a, dCallR_a, dIsi_a, dSeq_a, dSkip_a, dIfS_a, dRet_a, dSet_a, dAsg_a, asN_a, asT_a, asT_l, asC_a, asNil_a, dPar_a, dPut_a, dExp_a, dApp_a, dFor_a, loopF_n, dIt_a, mkFn_a, frzE_val, frzE_mu, get_v, get_s, Res.bind_ok, Res.bind_err, Res.bind_bad, List.getElem?_cons_zero, List.getElem?_cons_succ, List.set_cons_zero, List.set_cons_succ, List.map_cons, List.map_nil, List.cons_append, List.nil_append, List.append_nil, List.length_cons, List.length_nil, List.replicate, List.take, finF, if_true, if_false, ite_true, ite_false, Ent.flat, D.flat, frzAr, reduceIte, Nat.reduceAdd, Nat.reduceSub, Nat.reduceLeDiff, Bool.false_eq_true, Nat.reduceEqDiff, Nat.add_eq, Nat.add_zero, Nat.zero_add, Option.bind_some, Option.map_some, Nat.sub_self, eq_self, and_self, and_true, true_and, ldO, ix_t0, ix_t1, gMul_i F4.ad, gMul_i F4.cb, gMul_i F4.bd, gMul_i Fx.ad, gMul_i Fx.cb, gMul_i Fy.ad, gMul_i Fy.cb, gAdd_i, e1, gIs, gLt_i, gGt_i, d1, d2, vb, D.isN, if_neg c1, if_pos c2]
          rfl
        · have d2 := decide_eq_false c2
          simp only [bd__law_rows_1, dC_a, dVar_a, dSlot_a, dMove_a, dLV_a, dFrz_a, dVal_a, dBin_a, dNeg_a, dTB_a, dBT_a, dTru_a, dNotT_a, dAndT_a, dOrT_a, dAndV_a, dOrV_a, dNotL_a, dIf_a, dIfF_a, dChain_a, dVs_n, dVs_c, dArs_n, dArs_c, dTup_a, dLst_a, getAll_n, getAll_c, dCB_a, dCall_a, dCall0_a, dCallR_a, dIsi_a, dSeq_a, dSkip_a, dIfS_a, dRet_a, dSet_a, dAsg_a, asN_a, asT_a, asT_l, asC_a, asNil_a, dPar_a, dPut_a, dExp_a, dApp_a, dFor_a, loopF_n, dIt_a, mkFn_a, frzE_val, frzE_mu, get_v, get_s, Res.bind_ok, Res.bind_err, Res.bind_bad, List.getElem?_cons_zero, List.getElem?_cons_succ, List.set_cons_zero, List.set_cons_succ, List.map_cons, List.map_nil, List.cons_append, List.nil_append, List.append_nil, List.length_cons, List.length_nil, List.replicate, List.take, finF, if_true, if_false, ite_true, ite_false, Ent.flat, D.flat, frzAr, reduceIte, Nat.reduceAdd, Nat.reduceSub, Nat.reduceLeDiff, Bool.false_eq_true, Nat.reduceEqDiff, Nat.add_eq, Nat.add_zero, Nat.zero_add, Option.bind_some, Option.map_some, Nat.sub_self, eq_self, and_self, and_true, true_and, ldO, ix_t0, ix_t1, gMul_i F4.ad, gMul_i F4.cb, gMul_i F4.bd, gMul_i Fx.ad, gMul_i Fx.cb, gMul_i Fy.ad, gMul_i Fy.cb, gAdd_i, e1, gIs, gLt_i, gGt_i, d1, d2, vb, D.isN, if_neg c1, if_neg c2]
          rfl
theorem fold_some (f : PP → PP → PP) : ∀ (ps : List PP) (x : PP), ps.foldl (foO f) (some x) = some (ps.foldl f x)
  | [], _ => rfl
  | p :: ps, x => fold_some f ps (f x p)
theorem gList_t {xs : List D} : gList [.tup xs] = some (.mu xs) := rfl
theorem gTuple_l {xs : List D} : gTuple [.lst xs] = some (.val (.tup xs)) := rfl
/-- [list(x) for x in rows] -/
theorem kept_loop (el : DenV) (hel : ∀ (p : PP) (a b c d u : Ent), el [a, b, c, d, .val (dT p), u] = .ok (dL p) [a, b, c, d, .val (dT p), u]) : ∀ (ps : List PP) (acc : List D) (a b c d u : Ent), acc.length + ps.length ≤ 1000 →
    loopC [4] (asN 4) dTrue el (ps.map dT) acc [a, b, c, d, .un, u] = .ok (acc ++ ps.map dL) [a, b, c, d, .un, u]
  | [], acc, a, b, c, d, u, h => by rw [List.map_nil, List.map_nil, List.append_nil]; rfl
  | p :: ps, acc, a, b, c, d, u, h => by
    rw [List.length_cons] at h
    have ih := kept_loop el hel ps (acc ++ [dL p]) a b c d u (by rw [List.length_append, List.length_singleton]; omega)
    have l1 : acc.length < 1000000 := by omega
    rw [List.append_assoc] at ih
    rw [List.map_cons, List.map_cons, loopC_c]
    simp only [dC_a, dVar_a, dSlot_a, dMove_a, dLV_a, dFrz_a, dVal_a, dBin_a, dNeg_a, dTB_a, dBT_a, dTru_a, dNotT_a, dAndT_a, dOrT_a, dAndV_a, dOrV_a, dNotL_a, dIf_a, dIfF_a, dChain_a, dVs_n, dVs_c, dArs_n, dArs_c, dTup_a, dLst_a, getAll_n, getAll_c, dCB_a, dCall_a, dCall0_a, dCallR_a, dIsi_a, dSeq_a, dSkip_a, dIfS_a, dRet_a, dSet_a, dAsg_a, asN_a, asT_a, asT_l, asC_a, asNil_a, dPar_a, dPut_a, dExp_a, dApp_a, dFor_a, loopF_n, dIt_a, mkFn_a, frzE_val, frzE_mu, get_v, get_s, Res.bind_ok, Res.bind_err, Res.bind_bad, List.getElem?_cons_zero, List.getElem?_cons_succ, List.set_cons_zero, List.set_cons_succ, List.map_cons, List.map_nil, List.cons_append, List.nil_append, List.append_nil, List.length_cons, List.length_nil, List.replicate, List.take, finF, if_true, if_false, ite_true, ite_false, Ent.flat, D.flat, frzAr, reduceIte, Nat.reduceAdd, Nat.reduceSub, Nat.reduceLeDiff, Bool.false_eq_true, Nat.reduceEqDiff, Nat.add_eq, Nat.add_zero, Nat.zero_add, Option.bind_some, Option.map_some, Nat.sub_self, eq_self, and_self, and_true, true_and, bindX_o, dTrue_a, hel, l1, wipeE]
    exact ih
theorem shp_dL : ∀ ps : List PP, shps 63 (ps.map dL) = true
  | [] => rfl
  | p :: ps => by
    rw [List.map_cons]
    unfold shps
    rw [shp_dL ps]
    rfl
theorem hel2 (p : PP) (a b c d u : Ent) : el__law_rows_2 [a, b, c, d, .val (dT p), u] = .ok (dL p) [a, b, c, d, .val (dT p), u] := by
  simp only [el__law_rows_2, dC_a, dVar_a, dSlot_a, dMove_a, dLV_a, dFrz_a, dVal_a, dBin_a, dNeg_a, dTB_a, dBT_a, dTru_a, dNotT_a, dAndT_a, dOrT_a, dAndV_a, dOrV_a, dNotL_a, dIf_a, dIfF_a, dChain_a, dVs_n, dVs_c, dArs_n, dArs_c, dTup_a, dLst_a, getAll_n, getAll_c, dCB_a, dCall_a, dCall0_a, dCallR_a, dIsi_a, dSeq_a, dSkip_a, dIfS_a, dRet_a, dSet_a, dAsg_a, asN_a, asT_a, asT_l, asC_a, asNil_a, dPar_a, dPut_a, dExp_a, dApp_a, dFor_a, loopF_n, dIt_a, mkFn_a, frzE_val, frzE_mu, get_v, get_s, Res.bind_ok, Res.bind_err, Res.bind_bad, List.getElem?_cons_zero, List.getElem?_cons_succ, List.set_cons_zero, List.set_cons_succ, List.map_cons, List.map_nil, List.cons_append, List.nil_append, List.append_nil, List.length_cons, List.length_nil, List.replicate, List.take, finF, if_true, if_false, ite_true, ite_false, Ent.flat, D.flat, frzAr, reduceIte, Nat.reduceAdd, Nat.reduceSub, Nat.reduceLeDiff, Bool.false_eq_true, Nat.reduceEqDiff, Nat.add_eq, Nat.add_zero, Nat.zero_add, Option.bind_some, Option.map_some, Nat.sub_self, eq_self, and_self, and_true, true_and, gList_t]
theorem hel3 (p : PP) (a b c d u : Ent) : el__law_rows_3 [a, b, c, d, .val (dT p), u] = .ok (dL p) [a, b, c, d, .val (dT p), u] := by
  simp only [el__law_rows_3, dC_a, dVar_a, dSlot_a, dMove_a, dLV_a, dFrz_a, dVal_a, dBin_a, dNeg_a, dTB_a, dBT_a, dTru_a, dNotT_a, dAndT_a, dOrT_a, dAndV_a, dOrV_a, dNotL_a, dIf_a, dIfF_a, dChain_a, dVs_n, dVs_c, dArs_n, dArs_c, dTup_a, dLst_a, getAll_n, getAll_c, dCB_a, dCall_a, dCall0_a, dCallR_a, dIsi_a, dSeq_a, dSkip_a, dIfS_a, dRet_a, dSet_a, dAsg_a, asN_a, asT_a, asT_l, asC_a, asNil_a, dPar_a, dPut_a, dExp_a, dApp_a, dFor_a, loopF_n, dIt_a, mkFn_a, frzE_val, frzE_mu, get_v, get_s, Res.bind_ok, Res.bind_err, Res.bind_bad, List.getElem?_cons_zero, List.getElem?_cons_succ, List.set_cons_zero, List.set_cons_succ, List.map_cons, List.map_nil, List.cons_append, List.nil_append, List.append_nil, List.length_cons, List.length_nil, List.replicate, List.take, finF, if_true, if_false, ite_true, ite_false, Ent.flat, D.flat, frzAr, reduceIte, Nat.reduceAdd, Nat.reduceSub, Nat.reduceLeDiff, Bool.false_eq_true, Nat.reduceEqDiff, Nat.add_eq, Nat.add_zero, Nat.zero_add, Option.bind_some, Option.map_some, Nat.sub_self, eq_self, and_self, and_true, true_and, gList_t]
theorem ok_own {a b c d e u : Ent} (h : e = .un ∨ ∃ d, e = .val d) : okOwn [a, b, c, d, e, u] [4] = true := by
  rcases h with rfl | ⟨d, rfl⟩ <;> rfl
theorem isi_ttt {xs : List D} : isTs (.tup xs) ["tuple"] = true := rfl
theorem rows_ev (ps : List PP) (hp : ∀ p ∈ ps, RaP p) (hl : ps.length ≤ 9) : ∃ zs, fn__law_rows [.val (.lst (ps.map dT))] = .ok (.val (.bl true)) zs := by
  obtain ⟨e', he', h1⟩ := rows_loop ps 0 (0, 1) none none (.val (.lst (ps.map dT))) .un .un hp T0 (by omega) (.inl ⟨rfl, rfl⟩) (.inl rfl)
  have h1' : loopF (asN 4) bd__law_rows_1 (ps.map dT) [.val (.lst (ps.map dT)), .val (.tup [.int 0, .int 1]), .val .non, .val .non, .un, .un] = _ := h1
  have k2 := kept_loop el__law_rows_2 hel2 ps [] (.val (.lst (ps.map dT))) (.val (dT (ps.foldl stT (0, 1)))) (.val (ldO (ps.foldl (foO stL) none))) (.val (ldO (ps.foldl (foO stH) none))) .un (by simp only [List.length_nil]; omega)
  have k3 := kept_loop el__law_rows_3 hel3 ps [] (.val (.lst (ps.map dT))) (.val (dT (ps.foldl stT (0, 1)))) (.val (ldO (ps.foldl (foO stL) none))) (.val (ldO (ps.foldl (foO stH) none))) (.val (.lst (ps.map dL))) (by simp only [List.length_nil]; omega)
  rw [List.nil_append] at k2 k3
  obtain ⟨z1, s1⟩ := sum_ev dL isP_l ps hp hl (.lst (ps.map dL)) rfl
  obtain ⟨z2, s2⟩ := sum_ev dT isP_t ps hp hl (.tup (ps.map dT)) rfl
  have nL : gNe (.lst (ps.map dL)) (.lst (ps.map dL)) = vb false := gNe_self (shp_dL ps)
  cases ps with
  | nil =>
    simp only [fn__law_rows, den__law_rows, dC_a, dVar_a, dSlot_a, dMove_a, dLV_a, dFrz_a, dVal_a, dBin_a, dNeg_a, dTB_a, dBT_a, dTru_a, dNotT_a, dAndT_a, dOrT_a, dAndV_a, dOrV_a, dNotL_a, dIf_a, dIfF_a, dChain_a, dVs_n, dVs_c, dArs_n, dArs_c, dTup_a, dLst_a, getAll_n, getAll_c, dCB_a, dCall_a, dCall0_a, dCallR_a, dIsi_a, dSeq_a, dSkip_a, dIfS_a, dRet_a, dSet_a, dAsg_a, asN_a, asT_a, asT_l, asC_a, asNil_a, dPar_a, dPut_a, dExp_a, dApp_a, dFor_a, loopF_n, dIt_a, mkFn_a, frzE_val, frzE_mu, get_v, get_s, Res.bind_ok, Res.bind_err, Res.bind_bad, List.getElem?_cons_zero, List.getElem?_cons_succ, List.set_cons_zero, List.set_cons_succ, List.map_cons, List.map_nil, List.cons_append, List.nil_append, List.append_nil, List.length_cons, List.length_nil, List.replicate, List.take, finF, if_true, if_false, ite_true, ite_false, Ent.flat, D.flat, frzAr, reduceIte, Nat.reduceAdd, Nat.reduceSub, Nat.reduceLeDiff, Bool.false_eq_true, Nat.reduceEqDiff, Nat.add_eq, Nat.add_zero, Nat.zero_add, Option.bind_some, Option.map_some, Nat.sub_self, eq_self, and_self, and_true, true_and, its_l, h1', dLc_a, ok_own he', wipeE, k2, k3, bindX_o, restE, List.getElem?_cons_zero, frzS, s1, s2, gTuple_l, ne_I2, nL, vb, truth_l, List.map_nil, List.isEmpty_nil, Option.getD_some, Bool.not_true, Bool.not_false]
    exact ⟨_, rfl⟩
  | cons p ps =>
    obtain ⟨z3, s3⟩ := least_ev dT isP_t p ps hp (.lst ((p :: ps).map dT)) rfl ix_l0
    obtain ⟨z4, s4⟩ := greatest_ev dT isP_t p ps hp (.tup ((p :: ps).map dT)) rfl ix_t0
    obtain ⟨z5, s5⟩ := least_ev dL isP_l p ps hp (.lst ((p :: ps).map dL)) rfl ix_l0
    have f1 : (p :: ps).foldl (foO stL) none = some (ps.foldl stL p) := fold_some stL ps p
    have f2 : (p :: ps).foldl (foO stH) none = some (ps.foldl stH p) := fold_some stH ps p
    rw [f1, f2] at h1' k2 k3
    simp only [ldO] at h1' k2 k3
    have em : (List.map dT (p :: ps)).isEmpty = false := rfl
    generalize List.map dT (p :: ps) = A at *
    generalize List.map dL (p :: ps) = B at *
    simp only [fn__law_rows, den__law_rows, dC_a, dVar_a, dSlot_a, dMove_a, dLV_a, dFrz_a, dVal_a, dBin_a, dNeg_a, dTB_a, dBT_a, dTru_a, dNotT_a, dAndT_a, dOrT_a, dAndV_a, dOrV_a, dNotL_a, dIf_a, dIfF_a, dChain_a, dVs_n, dVs_c, dArs_n, dArs_c, dTup_a, dLst_a, getAll_n, getAll_c, dCB_a, dCall_a, dCall0_a, dCallR_a, dIsi_a, dSeq_a, dSkip_a, dIfS_a, dRet_a, dSet_a, dAsg_a, asN_a, asT_a, asT_l, asC_a, asNil_a, dPar_a, dPut_a, dExp_a, dApp_a, dFor_a, loopF_n, dIt_a, mkFn_a, frzE_val, frzE_mu, get_v, get_s, Res.bind_ok, Res.bind_err, Res.bind_bad, List.getElem?_cons_zero, List.getElem?_cons_succ, List.set_cons_zero, List.set_cons_succ, List.map_cons, List.map_nil, List.cons_append, List.nil_append, List.append_nil, List.length_cons, List.length_nil, List.replicate, List.take, finF, if_true, if_false, ite_true, ite_false, Ent.flat, D.flat, frzAr, reduceIte, Nat.reduceAdd, Nat.reduceSub, Nat.reduceLeDiff, Bool.false_eq_true, Nat.reduceEqDiff, Nat.add_eq, Nat.add_zero, Nat.zero_add, Option.bind_some, Option.map_some, Nat.sub_self, eq_self, and_self, and_true, true_and, its_l, h1', dLc_a, ok_own he', wipeE, k2, k3, bindX_o, restE, frzS, s1, s2, s3, s4, s5, gTuple_l, ne_I2, eq_I2, nL, vb, truth_l, em, Option.getD_some, Bool.not_true, Bool.not_false, ni_t, isi_tt]
    exact ⟨_, rfl⟩
end Kx

set_option linter.all false
set_option maxRecDepth 100000
set_option maxHeartbeats 4000000
namespace Kx
open PySem PySem.Spec PyProof.Rows L2 Ev
def oD : Option Int → D
  | none => .non
  | some i => .int i
def whV (i : Int) (lo hi : Option Int) : Bool := (match lo with
  | none => true
  | some l => decide (l ≤ i)) && (match hi with
  | none => true
  | some h => decide (i ≤ h))
theorem whole_i (i : Int) (lo hi : Option Int) : ∃ ps, fn_is_whole [.val (.int i), .val (oD lo), .val (oD hi)] = .ok (.val (.bl (whV i lo hi))) ps := by
  cases lo with
  | none =>
    cases hi with
    | none =>
      simp only [fn_is_whole, den_is_whole, dC_a, dVar_a, dSlot_a, dMove_a, dLV_a, dFrz_a, dVal_a, dBin_a, dNeg_a, dTB_a, dBT_a, dTru_a, dNotT_a, dAndT_a, dOrT_a, dAndV_a, dOrV_a, dNotL_a, dIf_a, dIfF_a, dChain_a, dVs_n, dVs_c, dArs_n, dArs_c, dTup_a, dLst_a, getAll_n, getAll_c, dCB_a, dCall_a, dCall0_a, dCallR_a, dIsi_a, dSeq_a, dSkip_a, dIfS_a, dRet_a, dSet_a, dAsg_a, asN_a, asT_a, asT_l, asC_a, asNil_a, dPar_a, dPut_a, dExp_a, dApp_a, dFor_a, loopF_n, dIt_a, mkFn_a, frzE_val, frzE_mu, get_v, get_s, Res.bind_ok, Res.bind_err, Res.bind_bad, List.getElem?_cons_zero, List.getElem?_cons_succ, List.set_cons_zero, List.set_cons_succ, List.map_cons, List.map_nil, List.cons_append, List.nil_append, List.append_nil, List.length_cons, List.length_nil, List.replicate, List.take, finF, if_true, if_false, ite_true, ite_false, Ent.flat, D.flat, frzAr, reduceIte, Nat.reduceAdd, Nat.reduceSub, Nat.reduceLeDiff, Bool.false_eq_true, Nat.reduceEqDiff, Nat.add_eq, Nat.add_zero, Nat.zero_add, Option.bind_some, Option.map_some, Nat.sub_self, eq_self, and_self, and_true, true_and, oD, whV, truth_b, isi_ib, isi_ii, ni_i, gIs, D.isN, vb, Bool.not_true, Bool.and_true]
      exact ⟨_, rfl⟩
    | some h =>
      simp only [fn_is_whole, den_is_whole, dC_a, dVar_a, dSlot_a, dMove_a, dLV_a, dFrz_a, dVal_a, dBin_a, dNeg_a, dTB_a, dBT_a, dTru_a, dNotT_a, dAndT_a, dOrT_a, dAndV_a, dOrV_a, dNotL_a, dIf_a, dIfF_a, dChain_a, dVs_n, dVs_c, dArs_n, dArs_c, dTup_a, dLst_a, getAll_n, getAll_c, dCB_a, dCall_a, dCall0_a, dCallR_a, dIsi_a, dSeq_a, dSkip_a, dIfS_a, dRet_a, dSet_a, dAsg_a, asN_a, asT_a, asT_l, asC_a, asNil_a, dPar_a, dPut_a, dExp_a, dApp_a, dFor_a, loopF_n, dIt_a, mkFn_a, frzE_val, frzE_mu, get_v, get_s, Res.bind_ok, Res.bind_err, Res.bind_bad, List.getElem?_cons_zero, List.getElem?_cons_succ, List.set_cons_zero, List.set_cons_succ, List.map_cons, List.map_nil, List.cons_append, List.nil_append, List.append_nil, List.length_cons, List.length_nil, List.replicate, List.take, finF, if_true, if_false, ite_true, ite_false, Ent.flat, D.flat, frzAr, reduceIte, Nat.reduceAdd, Nat.reduceSub, Nat.reduceLeDiff, Bool.false_eq_true, Nat.reduceEqDiff, Nat.add_eq, Nat.add_zero, Nat.zero_add, Option.bind_some, Option.map_some, Nat.sub_self, eq_self, and_self, and_true, true_and, oD, whV, truth_b, isi_ib, isi_ii, ni_i, gIs, D.isN, vb, gLe_i, Bool.not_true, Bool.and_true, Bool.true_and]
      exact ⟨_, rfl⟩
  | some l =>
    cases hi with
    | none =>
      by_cases c : l ≤ i
      · simp only [fn_is_whole, den_is_whole, dC_a, dVar_a, dSlot_a, dMove_a, dLV_a, dFrz_a, dVal_a, dBin_a, dNeg_a, dTB_a, dBT_a, dTru_a, dNotT_a, dAndT_a, dOrT_a, dAndV_a, dOrV_a, dNotL_a, dIf_a, dIfF_a, dChain_a, dVs_n, dVs_c, dArs_n, dArs_c, dTup_a, dLst_a, getAll_n, getAll_c, dCB_a, dCall_a, dCall0_a, dCallR_a, dIsi_a, dSeq_a, dSkip_a, dIfS_a, dRet_a, dSet_a, dAsg_a, asN_a, asT_a, asT_l, asC_a, asNil_a, dPar_a, dPut_a, dExp_a, dApp_a, dFor_a, loopF_n, dIt_a, mkFn_a, frzE_val, frzE_mu, get_v, get_s, Res.bind_ok, Res.bind_err, Res.bind_bad, List.getElem?_cons_zero, List.getElem?_cons_succ, List.set_cons_zero, List.set_cons_succ, List.map_cons, List.map_nil, List.cons_append, List.nil_append, List.append_nil, List.length_cons, List.length_nil, List.replicate, List.take, finF, if_true, if_false, ite_true, ite_false, Ent.flat, D.flat, frzAr, reduceIte, Nat.reduceAdd, Nat.reduceSub, Nat.reduceLeDiff, Bool.false_eq_true, Nat.reduceEqDiff, Nat.add_eq, Nat.add_zero, Nat.zero_add, Option.bind_some, Option.map_some, Nat.sub_self, eq_self, and_self, and_true, true_and, oD, whV, truth_b, isi_ib, isi_ii, ni_i, gIs, D.isN, vb, gGe_i, decide_eq_true c, Bool.not_true, Bool.and_true]
        exact ⟨_, rfl⟩
      · simp only [fn_is_whole, den_is_whole, dC_a, dVar_a, dSlot_a, dMove_a, dLV_a, dFrz_a, dVal_a, dBin_a, dNeg_a, dTB_a, dBT_a, dTru_a, dNotT_a, dAndT_a, dOrT_a, dAndV_a, dOrV_a, dNotL_a, dIf_a, dIfF_a, dChain_a, dVs_n, dVs_c, dArs_n, dArs_c, dTup_a, dLst_a, getAll_n, getAll_c, dCB_a, dCall_a, dCall0_a, dCallR_a, dIsi_a, dSeq_a, dSkip_a, dIfS_a, dRet_a, dSet_a, dAsg_a, asN_a, asT_a, asT_l, asC_a, asNil_a, dPar_a, dPut_a, dExp_a, dApp_a, dFor_a, loopF_n, dIt_a, mkFn_a, frzE_val, frzE_mu, get_v, get_s, Res.bind_ok, Res.bind_err, Res.bind_bad, List.getElem?_cons_zero, List.getElem?_cons_succ, List.set_cons_zero, List.set_cons_succ, List.map_cons, List.map_nil, List.cons_append, List.nil_append, List.append_nil, List.length_cons, List.length_nil, List.replicate, List.take, finF, if_true, if_false, ite_true, ite_false, Ent.flat, D.flat, frzAr, reduceIte, Nat.reduceAdd, Nat.reduceSub, Nat.reduceLeDiff, Bool.false_eq_true, Nat.reduceEqDiff, Nat.add_eq, Nat.add_zero, Nat.zero_add, Option.bind_some, Option.map_some, Nat.sub_self, eq_self, and_self, and_true, true_and, oD, whV, truth_b, isi_ib, isi_ii, ni_i, gIs, D.isN, vb, gGe_i, decide_eq_false c, Bool.not_true, Bool.and_true]
        exact ⟨_, rfl⟩
    | some h =>
      by_cases c : l ≤ i
      · simp only [fn_is_whole, den_is_whole, dC_a, dVar_a, dSlot_a, dMove_a, dLV_a, dFrz_a, dVal_a, dBin_a, dNeg_a, dTB_a, dBT_a, dTru_a, dNotT_a, dAndT_a, dOrT_a, dAndV_a, dOrV_a, dNotL_a, dIf_a, dIfF_a, dChain_a, dVs_n, dVs_c, dArs_n, dArs_c, dTup_a, dLst_a, getAll_n, getAll_c, dCB_a, dCall_a, dCall0_a, dCallR_a, dIsi_a, dSeq_a, dSkip_a, dIfS_a, dRet_a, dSet_a, dAsg_a, asN_a, asT_a, asT_l, asC_a, asNil_a, dPar_a, dPut_a, dExp_a, dApp_a, dFor_a, loopF_n, dIt_a, mkFn_a, frzE_val, frzE_mu, get_v, get_s, Res.bind_ok, Res.bind_err, Res.bind_bad, List.getElem?_cons_zero, List.getElem?_cons_succ, List.set_cons_zero, List.set_cons_succ, List.map_cons, List.map_nil, List.cons_append, List.nil_append, List.append_nil, List.length_cons, List.length_nil, List.replicate, List.take, finF, if_true, if_false, ite_true, ite_false, Ent.flat, D.flat, frzAr, reduceIte, Nat.reduceAdd, Nat.reduceSub, Nat.reduceLeDiff, Bool.false_eq_true, Nat.reduceEqDiff, Nat.add_eq, Nat.add_zero, Nat.zero_add, Option.bind_some, Option.map_some, Nat.sub_self, eq_self, and_self, and_true, true_and, oD, whV, truth_b, isi_ib, isi_ii, ni_i, gIs, D.isN, vb, gGe_i, gLe_i, decide_eq_true c, Bool.not_true, Bool.true_and]
        exact ⟨_, rfl⟩
      · simp only [fn_is_whole, den_is_whole, dC_a, dVar_a, dSlot_a, dMove_a, dLV_a, dFrz_a, dVal_a, dBin_a, dNeg_a, dTB_a, dBT_a, dTru_a, dNotT_a, dAndT_a, dOrT_a, dAndV_a, dOrV_a, dNotL_a, dIf_a, dIfF_a, dChain_a, dVs_n, dVs_c, dArs_n, dArs_c, dTup_a, dLst_a, getAll_n, getAll_c, dCB_a, dCall_a, dCall0_a, dCallR_a, dIsi_a, dSeq_a, dSkip_a, dIfS_a, dRet_a, dSet_a, dAsg_a, asN_a, asT_a, asT_l, asC_a, asNil_a, dPar_a, dPut_a, dExp_a, dApp_a, dFor_a, loopF_n, dIt_a, mkFn_a, frzE_val, frzE_mu, get_v, get_s, Res.bind_ok, Res.bind_err, Res.bind_bad, List.getElem?_cons_zero, List.getElem?_cons_succ, List.set_cons_zero, List.set_cons_succ, List.map_cons, List.map_nil, List.cons_append, List.nil_append, List.append_nil, List.length_cons, List.length_nil, List.replicate, List.take, finF, if_true, if_false, ite_true, ite_false, Ent.flat, D.flat, frzAr, reduceIte, Nat.reduceAdd, Nat.reduceSub, Nat.reduceLeDiff, Bool.false_eq_true, Nat.reduceEqDiff, Nat.add_eq, Nat.add_zero, Nat.zero_add, Option.bind_some, Option.map_some, Nat.sub_self, eq_self, and_self, and_true, true_and, oD, whV, truth_b, isi_ib, isi_ii, ni_i, gIs, D.isN, vb, gGe_i, decide_eq_false c, Bool.not_true, Bool.false_and]
        exact ⟨_, rfl⟩
def notw (o : D) : Bool := noIns o && (isTs o ["bool"] || !isTs o ["int"])
theorem whole_n (o lo hi : D) (h : notw o = true) : ∃ ps, fn_is_whole [.val o, .val lo, .val hi] = .ok (.val (.bl false)) ps := by
  unfold notw at h
  rw [Bool.and_eq_true] at h
  obtain ⟨h1, h2⟩ := h
  cases q : isTs o ["bool"] with
  | true =>
    simp only [fn_is_whole, den_is_whole, dC_a, dVar_a, dSlot_a, dMove_a, dLV_a, dFrz_a, dVal_a, dBin_a, dNeg_a, dTB_a, dBT_a, dTru_a, dNotT_a, dAndT_a, dOrT_a, dAndV_a, dOrV_a, dNotL_a, dIf_a, dIfF_a, dChain_a, dVs_n, dVs_c, dArs_n, dArs_c, dTup_a, dLst_a, getAll_n, getAll_c, dCB_a, dCall_a, dCall0_a, dCallR_a, dIsi_a, dSeq_a, dSkip_a, dIfS_a, dRet_a, dSet_a, dAsg_a, asN_a, asT_a, asT_l, asC_a, asNil_a, dPar_a, dPut_a, dExp_a, dApp_a, dFor_a, loopF_n, dIt_a, mkFn_a, frzE_val, frzE_mu, get_v, get_s, Res.bind_ok, Res.bind_err, Res.bind_bad, List.getElem?_cons_zero, List.getElem?_cons_succ, List.set_cons_zero, List.set_cons_succ, List.map_cons, List.map_nil, List.cons_append, List.nil_append, List.append_nil, List.length_cons, List.length_nil, List.replicate, List.take, finF, if_true, if_false, ite_true, ite_false, Ent.flat, D.flat, frzAr, reduceIte, Nat.reduceAdd, Nat.reduceSub, Nat.reduceLeDiff, Bool.false_eq_true, Nat.reduceEqDiff, Nat.add_eq, Nat.add_zero, Nat.zero_add, Option.bind_some, Option.map_some, Nat.sub_self, eq_self, and_self, and_true, true_and, truth_b, q, h1]
    exact ⟨_, rfl⟩
  | false =>
    rw [q, Bool.false_or, Bool.not_eq_true'] at h2
    simp only [fn_is_whole, den_is_whole, dC_a, dVar_a, dSlot_a, dMove_a, dLV_a, dFrz_a, dVal_a, dBin_a, dNeg_a, dTB_a, dBT_a, dTru_a, dNotT_a, dAndT_a, dOrT_a, dAndV_a, dOrV_a, dNotL_a, dIf_a, dIfF_a, dChain_a, dVs_n, dVs_c, dArs_n, dArs_c, dTup_a, dLst_a, getAll_n, getAll_c, dCB_a, dCall_a, dCall0_a, dCallR_a, dIsi_a, dSeq_a, dSkip_a, dIfS_a, dRet_a, dSet_a, dAsg_a, asN_a, asT_a, asT_l, asC_a, asNil_a, dPar_a, dPut_a, dExp_a, dApp_a, dFor_a, loopF_n, dIt_a, mkFn_a, frzE_val, frzE_mu, get_v, get_s, Res.bind_ok, Res.bind_err, Res.bind_bad, List.getElem?_cons_zero, List.getElem?_cons_succ, List.set_cons_zero, List.set_cons_succ, List.map_cons, List.map_nil, List.cons_append, List.nil_append, List.append_nil, List.length_cons, List.length_nil, List.replicate, List.take, finF, if_true, if_false, ite_true, ite_false, Ent.flat, D.flat, frzAr, reduceIte, Nat.reduceAdd, Nat.reduceSub, Nat.reduceLeDiff, Bool.false_eq_true, Nat.reduceEqDiff, Nat.add_eq, Nat.add_zero, Nat.zero_add, Option.bind_some, Option.map_some, Nat.sub_self, eq_self, and_self, and_true, true_and, truth_b, q, h1, h2, Bool.not_false]
    exact ⟨_, rfl⟩
theorem wh_nn (i : Int) : ∃ ps, fn_is_whole [.val (.int i), .val .non, .val .non] = .ok (.val (.bl true)) ps := whole_i i none none
theorem wh_1 (i : Int) : ∃ ps, fn_is_whole [.val (.int i), .val (.int 1), .val .non] = .ok (.val (.bl (decide (1 ≤ i)))) ps := by
  obtain ⟨ps, e⟩ := whole_i i (some 1) none
  refine ⟨ps, e.trans ?_⟩
  unfold whV
  rw [Bool.and_true]
/-- two whole numbers in a tuple or a list -/
theorem isr_i (w : D) (x y : Int) (hw : IsP w (x, y)) (h1 : noIns w = true) (h2 : isTs w ["list", "tuple"] = true) (h3 : gLen [w] = some (.val (.int 2))) : ∃ ps, fn_is_ratio [.val w] = .ok (.val (.bl (decide (1 ≤ y) && decide (gc x y = 1)))) ps := by
  obtain ⟨p1, e1⟩ := wh_nn x
  obtain ⟨p2, e2⟩ := wh_1 y
  have z := hw.z
  have o := hw.o
  have n2 : gNe (.int 2) (.int 2) = vb false := gNe_self rfl
  by_cases c : 1 ≤ y
  · simp only [fn_is_ratio, den_is_ratio, dC_a, dVar_a, dSlot_a, dMove_a, dLV_a, dFrz_a, dVal_a, dBin_a, dNeg_a, dTB_a, dBT_a, dTru_a, dNotT_a, dAndT_a, dOrT_a, dAndV_a, dOrV_a, dNotL_a, dIf_a, dIfF_a, dChain_a, dVs_n, dVs_c, dArs_n, dArs_c, dTup_a, dLst_a, getAll_n, getAll_c, dCB_a, dCall_a, dCall0_a, dCallR_a, dIsi_a, dSeq_a, dSkip_a, dIfS_a, dRet_a, dSet_a, dAsg_a, asN_a, asT_a, asT_l, asC_a, asNil_a, dPar_a, dPut_a, dExp_a, dApp_a, dFor_a, loopF_n, dIt_a, mkFn_a, frzE_val, frzE_mu, get_v, get_s, Res.bind_ok, Res.bind_err, Res.bind_bad, List.getElem?_cons_zero, List.getElem?_cons_succ, List.set_cons_zero, List.set_cons_succ, List.map_cons, List.map_nil, List.cons_append, List.nil_append, List.append_nil, List.length_cons, List.length_nil, List.replicate, List.take, finF, if_true, if_false, ite_true, ite_false, Ent.flat, D.flat, frzAr, reduceIte, Nat.reduceAdd, Nat.reduceSub, Nat.reduceLeDiff, Bool.false_eq_true, Nat.reduceEqDiff, Nat.add_eq, Nat.add_zero, Nat.zero_add, Option.bind_some, Option.map_some, Nat.sub_self, eq_self, and_self, and_true, true_and, h1, h2, h3, truth_b, n2, vb, Bool.not_true, z, o, e1, e2, decide_eq_true c, gGcd, gEq_int, Bool.true_and]
    exact ⟨_, rfl⟩
  · simp only [fn_is_ratio, den_is_ratio, dC_a, dVar_a, dSlot_a, dMove_a, dLV_a, dFrz_a, dVal_a, dBin_a, dNeg_a, dTB_a, dBT_a, dTru_a, dNotT_a, dAndT_a, dOrT_a, dAndV_a, dOrV_a, dNotL_a, dIf_a, dIfF_a, dChain_a, dVs_n, dVs_c, dArs_n, dArs_c, dTup_a, dLst_a, getAll_n, getAll_c, dCB_a, dCall_a, dCall0_a, dCallR_a, dIsi_a, dSeq_a, dSkip_a, dIfS_a, dRet_a, dSet_a, dAsg_a, asN_a, asT_a, asT_l, asC_a, asNil_a, dPar_a, dPut_a, dExp_a, dApp_a, dFor_a, loopF_n, dIt_a, mkFn_a, frzE_val, frzE_mu, get_v, get_s, Res.bind_ok, Res.bind_err, Res.bind_bad, List.getElem?_cons_zero, List.getElem?_cons_succ, List.set_cons_zero, List.set_cons_succ, List.map_cons, List.map_nil, List.cons_append, List.nil_append, List.append_nil, List.length_cons, List.length_nil, List.replicate, List.take, finF, if_true, if_false, ite_true, ite_false, Ent.flat, D.flat, frzAr, reduceIte, Nat.reduceAdd, Nat.reduceSub, Nat.reduceLeDiff, Bool.false_eq_true, Nat.reduceEqDiff, Nat.add_eq, Nat.add_zero, Nat.zero_add, Option.bind_some, Option.map_some, Nat.sub_self, eq_self, and_self, and_true, true_and, h1, h2, h3, truth_b, n2, vb, Bool.not_true, z, o, e1, e2, decide_eq_false c, Bool.false_and]
    exact ⟨_, rfl⟩
theorem isr_t (x y : Int) : ∃ ps, fn_is_ratio [.val (I2 x y)] = .ok (.val (.bl (decide (1 ≤ y) && decide (gc x y = 1)))) ps := isr_i _ x y (isP_t (x, y)) rfl rfl rfl
theorem isr_l (x y : Int) : ∃ ps, fn_is_ratio [.val (.lst [.int x, .int y])] = .ok (.val (.bl (decide (1 ≤ y) && decide (gc x y = 1)))) ps := isr_i _ x y (isP_l (x, y)) rfl rfl rfl
theorem isr_n (w : D) (h1 : noIns w = true) (h2 : isTs w ["list", "tuple"] = false) : ∃ ps, fn_is_ratio [.val w] = .ok (.val (.bl false)) ps := by
  simp only [fn_is_ratio, den_is_ratio, dC_a, dVar_a, dSlot_a, dMove_a, dLV_a, dFrz_a, dVal_a, dBin_a, dNeg_a, dTB_a, dBT_a, dTru_a, dNotT_a, dAndT_a, dOrT_a, dAndV_a, dOrV_a, dNotL_a, dIf_a, dIfF_a, dChain_a, dVs_n, dVs_c, dArs_n, dArs_c, dTup_a, dLst_a, getAll_n, getAll_c, dCB_a, dCall_a, dCall0_a, dCallR_a, dIsi_a, dSeq_a, dSkip_a, dIfS_a, dRet_a, dSet_a, dAsg_a, asN_a, asT_a, asT_l, asC_a, asNil_a, dPar_a, dPut_a, dExp_a, dApp_a, dFor_a, loopF_n, dIt_a, mkFn_a, frzE_val, frzE_mu, get_v, get_s, Res.bind_ok, Res.bind_err, Res.bind_bad, List.getElem?_cons_zero, List.getElem?_cons_succ, List.set_cons_zero, List.set_cons_succ, List.map_cons, List.map_nil, List.cons_append, List.nil_append, List.append_nil, List.length_cons, List.length_nil, List.replicate, List.take, finF, if_true, if_false, ite_true, ite_false, Ent.flat, D.flat, frzAr, reduceIte, Nat.reduceAdd, Nat.reduceSub, Nat.reduceLeDiff, Bool.false_eq_true, Nat.reduceEqDiff, Nat.add_eq, Nat.add_zero, Nat.zero_add, Option.bind_some, Option.map_some, Nat.sub_self, eq_self, and_self, and_true, true_and, h1, h2, truth_b, Bool.not_false]
  exact ⟨_, rfl⟩
theorem isr_len (w : D) (n : Int) (h1 : noIns w = true) (h2 : isTs w ["list", "tuple"] = true) (h3 : gLen [w] = some (.val (.int n))) (hn : n ≠ 2) : ∃ ps, fn_is_ratio [.val w] = .ok (.val (.bl false)) ps := by
  simp only [fn_is_ratio, den_is_ratio, dC_a, dVar_a, dSlot_a, dMove_a, dLV_a, dFrz_a, dVal_a, dBin_a, dNeg_a, dTB_a, dBT_a, dTru_a, dNotT_a, dAndT_a, dOrT_a, dAndV_a, dOrV_a, dNotL_a, dIf_a, dIfF_a, dChain_a, dVs_n, dVs_c, dArs_n, dArs_c, dTup_a, dLst_a, getAll_n, getAll_c, dCB_a, dCall_a, dCall0_a, dCallR_a, dIsi_a, dSeq_a, dSkip_a, dIfS_a, dRet_a, dSet_a, dAsg_a, asN_a, asT_a, asT_l, asC_a, asNil_a, dPar_a, dPut_a, dExp_a, dApp_a, dFor_a, loopF_n, dIt_a, mkFn_a, frzE_val, frzE_mu, get_v, get_s, Res.bind_ok, Res.bind_err, Res.bind_bad, List.getElem?_cons_zero, List.getElem?_cons_succ, List.set_cons_zero, List.set_cons_succ, List.map_cons, List.map_nil, List.cons_append, List.nil_append, List.append_nil, List.length_cons, List.length_nil, List.replicate, List.take, finF, if_true, if_false, ite_true, ite_false, Ent.flat, D.flat, frzAr, reduceIte, Nat.reduceAdd, Nat.reduceSub, Nat.reduceLeDiff, Bool.false_eq_true, Nat.reduceEqDiff, Nat.add_eq, Nat.add_zero, Nat.zero_add, Option.bind_some, Option.map_some, Nat.sub_self, eq_self, and_self, and_true, true_and, h1, h2, h3, truth_b, gNe_int, vb, decide_eq_false hn, Bool.not_true, Bool.not_false]
  exact ⟨_, rfl⟩
theorem isr_x (o y : D) (h : notw o = true) : ∃ ps, fn_is_ratio [.val (.tup [o, y])] = .ok (.val (.bl false)) ps := by
  obtain ⟨p1, e1⟩ := whole_n o .non .non h
  have n2 : gNe (.int ((2 : Nat) : Int)) (.int 2) = vb false := gNe_self rfl
  have hh : isTs (.tup [o, y]) ["list", "tuple"] = true := rfl
  have g0 : gIx (.tup [o, y]) (.int 0) = some (.val o) := ix_t0
  have hL : gLen [.tup [o, y]] = some (.val (.int ((2 : Nat) : Int))) := rfl
  by_cases fl : o.flat = true
  · simp only [fn_is_ratio, den_is_ratio, dC_a, dVar_a, dSlot_a, dMove_a, dLV_a, dFrz_a, dVal_a, dBin_a, dNeg_a, dTB_a, dBT_a, dTru_a, dNotT_a, dAndT_a, dOrT_a, dAndV_a, dOrV_a, dNotL_a, dIf_a, dIfF_a, dChain_a, dVs_n, dVs_c, dArs_n, dArs_c, dTup_a, dLst_a, getAll_n, getAll_c, dCB_a, dCall_a, dCall0_a, dCallR_a, dIsi_a, dSeq_a, dSkip_a, dIfS_a, dRet_a, dSet_a, dAsg_a, asN_a, asT_a, asT_l, asC_a, asNil_a, dPar_a, dPut_a, dExp_a, dApp_a, dFor_a, loopF_n, dIt_a, mkFn_a, frzE_val, frzE_mu, get_v, get_s, Res.bind_ok, Res.bind_err, Res.bind_bad, List.getElem?_cons_zero, List.getElem?_cons_succ, List.set_cons_zero, List.set_cons_succ, List.map_cons, List.map_nil, List.cons_append, List.nil_append, List.append_nil, List.length_cons, List.length_nil, List.replicate, List.take, finF, if_true, if_false, ite_true, ite_false, Ent.flat, D.flat, frzAr, reduceIte, Nat.reduceAdd, Nat.reduceSub, Nat.reduceLeDiff, Bool.false_eq_true, Nat.reduceEqDiff, Nat.add_eq, Nat.add_zero, Nat.zero_add, Option.bind_some, Option.map_some, Nat.sub_self, eq_self, and_self, and_true, true_and, ni_t, hh, hL, n2, truth_b, vb, Bool.not_true, g0, e1]
    exact ⟨_, rfl⟩
  · simp only [fn_is_ratio, den_is_ratio, dC_a, dVar_a, dSlot_a, dMove_a, dLV_a, dFrz_a, dVal_a, dBin_a, dNeg_a, dTB_a, dBT_a, dTru_a, dNotT_a, dAndT_a, dOrT_a, dAndV_a, dOrV_a, dNotL_a, dIf_a, dIfF_a, dChain_a, dVs_n, dVs_c, dArs_n, dArs_c, dTup_a, dLst_a, getAll_n, getAll_c, dCB_a, dCall_a, dCall0_a, dCallR_a, dIsi_a, dSeq_a, dSkip_a, dIfS_a, dRet_a, dSet_a, dAsg_a, asN_a, asT_a, asT_l, asC_a, asNil_a, dPar_a, dPut_a, dExp_a, dApp_a, dFor_a, loopF_n, dIt_a, mkFn_a, frzE_val, frzE_mu, get_v, get_s, Res.bind_ok, Res.bind_err, Res.bind_bad, List.getElem?_cons_zero, List.getElem?_cons_succ, List.set_cons_zero, List.set_cons_succ, List.map_cons, List.map_nil, List.cons_append, List.nil_append, List.append_nil, List.length_cons, List.length_nil, List.replicate, List.take, finF, if_true, if_false, ite_true, ite_false, Ent.flat, D.flat, frzAr, reduceIte, Nat.reduceAdd, Nat.reduceSub, Nat.reduceLeDiff, Bool.false_eq_true, Nat.reduceEqDiff, Nat.add_eq, Nat.add_zero, Nat.zero_add, Option.bind_some, Option.map_some, Nat.sub_self, eq_self, and_self, and_true, true_and, ni_t, hh, hL, n2, truth_b, vb, Bool.not_true, g0, e1]
    exact ⟨_, rfl⟩
theorem isr_y (x : Int) (o : D) (h : notw o = true) : ∃ ps, fn_is_ratio [.val (.tup [.int x, o])] = .ok (.val (.bl false)) ps := by
  obtain ⟨p0, e0⟩ := wh_nn x
  obtain ⟨p1, e1⟩ := whole_n o (.int 1) .non h
  have n2 : gNe (.int ((2 : Nat) : Int)) (.int 2) = vb false := gNe_self rfl
  have hh : isTs (.tup [.int x, o]) ["list", "tuple"] = true := rfl
  have hL : gLen [.tup [.int x, o]] = some (.val (.int ((2 : Nat) : Int))) := rfl
  simp only [fn_is_ratio, den_is_ratio, dC_a, dVar_a, dSlot_a, dMove_a, dLV_a, dFrz_a, dVal_a, dBin_a, dNeg_a, dTB_a, dBT_a, dTru_a, dNotT_a, dAndT_a, dOrT_a, dAndV_a, dOrV_a, dNotL_a, dIf_a, dIfF_a, dChain_a, dVs_n, dVs_c, dArs_n, dArs_c, dTup_a, dLst_a, getAll_n, getAll_c, dCB_a, dCall_a, dCall0_a, dCallR_a, dIsi_a, dSeq_a, dSkip_a, dIfS_a, dRet_a, dSet_a, dAsg_a, asN_a, asT_a, asT_l, asC_a, asNil_a, dPar_a, dPut_a, dExp_a, dApp_a, dFor_a, loopF_n, dIt_a, mkFn_a, frzE_val, frzE_mu, get_v, get_s, Res.bind_ok, Res.bind_err, Res.bind_bad, List.getElem?_cons_zero, List.getElem?_cons_succ, List.set_cons_zero, List.set_cons_succ, List.map_cons, List.map_nil, List.cons_append, List.nil_append, List.append_nil, List.length_cons, List.length_nil, List.replicate, List.take, finF, if_true, if_false, ite_true, ite_false, Ent.flat, D.flat, frzAr, reduceIte, Nat.reduceAdd, Nat.reduceSub, Nat.reduceLeDiff, Bool.false_eq_true, Nat.reduceEqDiff, Nat.add_eq, Nat.add_zero, Nat.zero_add, Option.bind_some, Option.map_some, Nat.sub_self, eq_self, and_self, and_true, true_and, ni_t, hh, hL, n2, truth_b, vb, Bool.not_true, ix_t0, ix_t1, e0, e1]
  exact ⟨_, rfl⟩
/-- make_ratio -/
theorem make_ev {k : Nat} (x y : Int) (h : y ≠ 0) (hk : Bd (k + 1) y) (l : k < 9000) : ∃ ps, fn_make_ratio [.val (.int x), .val (.int y)] = .ok (.val (sg x y)) ps := by
  obtain ⟨p0, e0⟩ := wh_nn x
  obtain ⟨p1, e1⟩ := wh_nn y
  obtain ⟨p2, e2⟩ := low_ev x y h hk l
  simp only [fn_make_ratio, den_make_ratio, dC_a, dVar_a, dSlot_a, dMove_a, dLV_a, dFrz_a, dVal_a, dBin_a, dNeg_a, dTB_a, dBT_a, dTru_a, dNotT_a, dAndT_a, dOrT_a, dAndV_a, dOrV_a, dNotL_a, dIf_a, dIfF_a, dChain_a, dVs_n, dVs_c, dArs_n, dArs_c, dTup_a, dLst_a, getAll_n, getAll_c, dCB_a, dCall_a, dCall0_a, dCallR_a, dIsi_a, dSeq_a, dSkip_a, dIfS_a, dRet_a, dSet_a, dAsg_a, asN_a, asT_a, asT_l, asC_a, asNil_a, dPar_a, dPut_a, dExp_a, dApp_a, dFor_a, loopF_n, dIt_a, mkFn_a, frzE_val, frzE_mu, get_v, get_s, Res.bind_ok, Res.bind_err, Res.bind_bad, List.getElem?_cons_zero, List.getElem?_cons_succ, List.set_cons_zero, List.set_cons_succ, List.map_cons, List.map_nil, List.cons_append, List.nil_append, List.append_nil, List.length_cons, List.length_nil, List.replicate, List.take, finF, if_true, if_false, ite_true, ite_false, Ent.flat, D.flat, frzAr, reduceIte, Nat.reduceAdd, Nat.reduceSub, Nat.reduceLeDiff, Bool.false_eq_true, Nat.reduceEqDiff, Nat.add_eq, Nat.add_zero, Nat.zero_add, Option.bind_some, Option.map_some, Nat.sub_self, eq_self, and_self, and_true, true_and, e0, e1, e2, truth_b, gEq_int, vb, decide_eq_false h, Bool.not_true]
  exact ⟨_, rfl⟩
theorem make_top (x y : D) (h : notw x = true) : ∃ ps, fn_make_ratio [.val x, .val y] = .err "BadRatio" ["what"] [.str "top"] ps := by
  obtain ⟨p0, e0⟩ := whole_n x .non .non h
  simp only [fn_make_ratio, den_make_ratio, dC_a, dVar_a, dSlot_a, dMove_a, dLV_a, dFrz_a, dVal_a, dBin_a, dNeg_a, dTB_a, dBT_a, dTru_a, dNotT_a, dAndT_a, dOrT_a, dAndV_a, dOrV_a, dNotL_a, dIf_a, dIfF_a, dChain_a, dVs_n, dVs_c, dArs_n, dArs_c, dTup_a, dLst_a, getAll_n, getAll_c, dCB_a, dCall_a, dCall0_a, dCallR_a, dIsi_a, dSeq_a, dSkip_a, dIfS_a, dRet_a, dSet_a, dAsg_a, asN_a, asT_a, asT_l, asC_a, asNil_a, dPar_a, dPut_a, dExp_a, dApp_a, dFor_a, loopF_n, dIt_a, mkFn_a, frzE_val, frzE_mu, get_v, get_s, Res.bind_ok, Res.bind_err, Res.bind_bad, List.getElem?_cons_zero, List.getElem?_cons_succ, List.set_cons_zero, List.set_cons_succ, List.map_cons, List.map_nil, List.cons_append, List.nil_append, List.append_nil, List.length_cons, List.length_nil, List.replicate, List.take, finF, if_true, if_false, ite_true, ite_false, Ent.flat, D.flat, frzAr, reduceIte, Nat.reduceAdd, Nat.reduceSub, Nat.reduceLeDiff, Bool.false_eq_true, Nat.reduceEqDiff, Nat.add_eq, Nat.add_zero, Nat.zero_add, Option.bind_some, Option.map_some, Nat.sub_self, eq_self, and_self, and_true, true_and, e0, truth_b, Bool.not_false, dRaise]
  exact ⟨_, rfl⟩
theorem make_bot (x : Int) (y : D) (h : notw y = true) : ∃ ps, fn_make_ratio [.val (.int x), .val y] = .err "BadRatio" ["what"] [.str "bottom"] ps := by
  obtain ⟨p0, e0⟩ := wh_nn x
  obtain ⟨p1, e1⟩ := whole_n y .non .non h
  simp only [fn_make_ratio, den_make_ratio, dC_a, dVar_a, dSlot_a, dMove_a, dLV_a, dFrz_a, dVal_a, dBin_a, dNeg_a, dTB_a, dBT_a, dTru_a, dNotT_a, dAndT_a, dOrT_a, dAndV_a, dOrV_a, dNotL_a, dIf_a, dIfF_a, dChain_a, dVs_n, dVs_c, dArs_n, dArs_c, dTup_a, dLst_a, getAll_n, getAll_c, dCB_a, dCall_a, dCall0_a, dCallR_a, dIsi_a, dSeq_a, dSkip_a, dIfS_a, dRet_a, dSet_a, dAsg_a, asN_a, asT_a, asT_l, asC_a, asNil_a, dPar_a, dPut_a, dExp_a, dApp_a, dFor_a, loopF_n, dIt_a, mkFn_a, frzE_val, frzE_mu, get_v, get_s, Res.bind_ok, Res.bind_err, Res.bind_bad, List.getElem?_cons_zero, List.getElem?_cons_succ, List.set_cons_zero, List.set_cons_succ, List.map_cons, List.map_nil, List.cons_append, List.nil_append, List.append_nil, List.length_cons, List.length_nil, List.replicate, List.take, finF, if_true, if_false, ite_true, ite_false, Ent.flat, D.flat, frzAr, reduceIte, Nat.reduceAdd, Nat.reduceSub, Nat.reduceLeDiff, Bool.false_eq_true, Nat.reduceEqDiff, Nat.add_eq, Nat.add_zero, Nat.zero_add, Option.bind_some, Option.map_some, Nat.sub_self, eq_self, and_self, and_true, true_and, e0, e1, truth_b, Bool.not_false, Bool.not_true, dRaise]
  exact ⟨_, rfl⟩
theorem make_zero (x : Int) : ∃ ps, fn_make_ratio [.val (.int x), .val (.int 0)] = .err "BadRatio" ["what"] [.str "bottom"] ps := by
  obtain ⟨p0, e0⟩ := wh_nn x
  obtain ⟨p1, e1⟩ := wh_nn 0
  have z : decide ((0 : Int) = 0) = true := rfl
  simp only [fn_make_ratio, den_make_ratio, dC_a, dVar_a, dSlot_a, dMove_a, dLV_a, dFrz_a, dVal_a, dBin_a, dNeg_a, dTB_a, dBT_a, dTru_a, dNotT_a, dAndT_a, dOrT_a, dAndV_a, dOrV_a, dNotL_a, dIf_a, dIfF_a, dChain_a, dVs_n, dVs_c, dArs_n, dArs_c, dTup_a, dLst_a, getAll_n, getAll_c, dCB_a, dCall_a, dCall0_a, dCallR_a, dIsi_a, dSeq_a, dSkip_a, dIfS_a, dRet_a, dSet_a, dAsg_a, asN_a, asT_a, asT_l, asC_a, asNil_a, dPar_a, dPut_a, dExp_a, dApp_a, dFor_a, loopF_n, dIt_a, mkFn_a, frzE_val, frzE_mu, get_v, get_s, Res.bind_ok, Res.bind_err, Res.bind_bad, List.getElem?_cons_zero, List.getElem?_cons_succ, List.set_cons_zero, List.set_cons_succ, List.map_cons, List.map_nil, List.cons_append, List.nil_append, List.append_nil, List.length_cons, List.length_nil, List.replicate, List.take, finF, if_true, if_false, ite_true, ite_false, Ent.flat, D.flat, frzAr, reduceIte, Nat.reduceAdd, Nat.reduceSub, Nat.reduceLeDiff, Bool.false_eq_true, Nat.reduceEqDiff, Nat.add_eq, Nat.add_zero, Nat.zero_add, Option.bind_some, Option.map_some, Nat.sub_self, eq_self, and_self, and_true, true_and, e0, e1, truth_b, gEq_int, vb, z, Bool.not_true, dRaise]
  exact ⟨_, rfl⟩
theorem made_ev {k : Nat} (x y : Int) (h : y ≠ 0) (hk : Bd (k + 1) y) (l : k < 9000) : ∃ ps, fn__law_made [.val (.int x), .val (.int y)] = .ok (.val (sg x y)) ps := by
  obtain ⟨ps, e⟩ := make_ev x y h hk l
  simp only [fn__law_made, den__law_made, dC_a, dVar_a, dSlot_a, dMove_a, dLV_a, dFrz_a, dVal_a, dBin_a, dNeg_a, dTB_a, dBT_a, dTru_a, dNotT_a, dAndT_a, dOrT_a, dAndV_a, dOrV_a, dNotL_a, dIf_a, dIfF_a, dChain_a, dVs_n, dVs_c, dArs_n, dArs_c, dTup_a, dLst_a, getAll_n, getAll_c, dCB_a, dCall_a, dCall0_a, dCallR_a, dIsi_a, dSeq_a, dSkip_a, dIfS_a, dRet_a, dSet_a, dAsg_a, asN_a, asT_a, asT_l, asC_a, asNil_a, dPar_a, dPut_a, dExp_a, dApp_a, dFor_a, loopF_n, dIt_a, mkFn_a, frzE_val, frzE_mu, get_v, get_s, Res.bind_ok, Res.bind_err, Res.bind_bad, List.getElem?_cons_zero, List.getElem?_cons_succ, List.set_cons_zero, List.set_cons_succ, List.map_cons, List.map_nil, List.cons_append, List.nil_append, List.append_nil, List.length_cons, List.length_nil, List.replicate, List.take, finF, if_true, if_false, ite_true, ite_false, Ent.flat, D.flat, frzAr, reduceIte, Nat.reduceAdd, Nat.reduceSub, Nat.reduceLeDiff, Bool.false_eq_true, Nat.reduceEqDiff, Nat.add_eq, Nat.add_zero, Nat.zero_add, Option.bind_some, Option.map_some, Nat.sub_self, eq_self, and_self, and_true, true_and, dTry_a, e]
  exact ⟨_, rfl⟩
theorem made_err (x y d : D) (h : ∃ ps, fn_make_ratio [.val x, .val y] = .err "BadRatio" ["what"] [d] ps) : ∃ ps, fn__law_made [.val x, .val y] = .ok (.mu [.str "BadRatio", d]) ps := by
  obtain ⟨ps, e⟩ := h
  simp only [fn__law_made, den__law_made, dC_a, dVar_a, dSlot_a, dMove_a, dLV_a, dFrz_a, dVal_a, dBin_a, dNeg_a, dTB_a, dBT_a, dTru_a, dNotT_a, dAndT_a, dOrT_a, dAndV_a, dOrV_a, dNotL_a, dIf_a, dIfF_a, dChain_a, dVs_n, dVs_c, dArs_n, dArs_c, dTup_a, dLst_a, getAll_n, getAll_c, dCB_a, dCall_a, dCall0_a, dCallR_a, dIsi_a, dSeq_a, dSkip_a, dIfS_a, dRet_a, dSet_a, dAsg_a, asN_a, asT_a, asT_l, asC_a, asNil_a, dPar_a, dPut_a, dExp_a, dApp_a, dFor_a, loopF_n, dIt_a, mkFn_a, frzE_val, frzE_mu, get_v, get_s, Res.bind_ok, Res.bind_err, Res.bind_bad, List.getElem?_cons_zero, List.getElem?_cons_succ, List.set_cons_zero, List.set_cons_succ, List.map_cons, List.map_nil, List.cons_append, List.nil_append, List.append_nil, List.length_cons, List.length_nil, List.replicate, List.take, finF, if_true, if_false, ite_true, ite_false, Ent.flat, D.flat, frzAr, reduceIte, Nat.reduceAdd, Nat.reduceSub, Nat.reduceLeDiff, Bool.false_eq_true, Nat.reduceEqDiff, Nat.add_eq, Nat.add_zero, Nat.zero_add, Option.bind_some, Option.map_some, Nat.sub_self, eq_self, and_self, and_true, true_and, dTry_a, e, runH_a, tab_bb, noX, Ent.noX, dXf_a, con_b, look_w, finX]
  exact ⟨_, rfl⟩
end Kx

set_option linter.all false
set_option maxRecDepth 100000
set_option maxHeartbeats 4000000
namespace Kx
open PySem PySem.Spec PyProof.Rows L2 Ev
theorem dCallK_a {g : Fn} {n m : Nat} {l : List Src} {dfl : List D} {fs gs : DenVs} {env : Sto} : dCallK g n m l dfl fs gs env = (fs env).bind fun ds e1 => (gs e1).bind fun zs e2 => if ds.length = n ∧ zs.length = m then (match g ((arr l ds zs dfl).map .val) with
    | .ok r _ => .ok r e2
    | .err c ns xs _ => .err c ns xs e2
    | .bad => .bad) else .bad := rfl
theorem arr_n {us ws its : List D} : arr [] us ws its = [] := rfl
theorem arr_p {us ws its : List D} {i : Nat} {l : List Src} {x : D} (h : us[i]? = some x) : arr (.p i :: l) us ws its = x :: arr l us ws its := by
  unfold arr
  rw [List.filterMap_cons, show Src.pick us ws its (.p i) = some x from h]
theorem arr_k {us ws its : List D} {i : Nat} {l : List Src} {x : D} (h : ws[i]? = some x) : arr (.k i :: l) us ws its = x :: arr l us ws its := by
  unfold arr
  rw [List.filterMap_cons, show Src.pick us ws its (.k i) = some x from h]
theorem arr_d {us ws its : List D} {i : Nat} {l : List Src} {x : D} (h : its[i]? = some x) : arr (.d i :: l) us ws its = x :: arr l us ws its := by
  unfold arr
  rw [List.filterMap_cons, show Src.pick us ws its (.d i) = some x from h]
theorem ar1 {x y z d e : D} : arr [.p 0, .k 0, .k 1] [x] [y, z] [d, e] = [x, y, z] := rfl
theorem ar2 {x y d e : D} : arr [.p 0, .d 0, .k 0] [x] [y] [d, e] = [x, d, y] := rfl
theorem ar3 {x y d : D} : arr [.p 0, .k 0] [x] [y] [d] = [x, y] := rfl
theorem isNot_tt : gIsNot (.bl true) (.bl true) = vb false := rfl
theorem wh_at (i : Int) (L H : Option Int) (b : Bool) (h : whV i L H = b) : ∃ ps, fn_is_whole [.val (.int i), .val (oD L), .val (oD H)] = .ok (.val (.bl b)) ps := by
  obtain ⟨ps, e⟩ := whole_i i L H
  exact ⟨ps, by rw [e, h]⟩
theorem gc_mul (a b s : Int) (h : Nat.gcd a.natAbs b.natAbs = 1) (hs : 2 ≤ s) : decide (gc (a * s) (b * s) = 1) = false := by
  apply decide_eq_false
  unfold gc
  rw [Int.natAbs_mul, Int.natAbs_mul, Nat.gcd_mul_right, h]
  omega
theorem six_four (s : Int) (h : 0 < s) : sg (6 * s) (-4 * s) = I2 (-3) 2 := by
  have hn : ¬ 0 < -4 * s := by omega
  rw [sg_neg hn]
  have e : gc (-(6 * s)) (-(-4 * s)) = 2 * s := by
    unfold gc
    rw [Int.natAbs_neg, Int.natAbs_neg, Int.natAbs_mul, Int.natAbs_mul, Nat.gcd_mul_right]
    have : Nat.gcd (Int.natAbs 6) (Int.natAbs (-4)) = 2 := by decide
    rw [this]
    omega
  unfold qr
  rw [e]
  have e1 : -(6 * s) / (2 * s) = -3 := by
    rw [show -(6 * s) = -3 * (2 * s) by omega]
    exact Int.mul_ediv_cancel _ (by omega)
  have e2 : -(-4 * s) / (2 * s) = 2 := by
    rw [show -(-4 * s) = 2 * (2 * s) by omega]
    exact Int.mul_ediv_cancel _ (by omega)
  rw [e1, e2]
theorem odd_ev (xs : List D) (hx : HandOk xs) {a b : Int} (h : Ra a b) : ∃ p0 zs, fn__law_odd_ones [.mu xs, .val (I2 a b)] = .ok (.val (.bl true)) (p0 :: zs) := by
  obtain ⟨v, x1, t1, h1, v0, v1⟩ := take_ev xs hx 9 (by decide) (by decide)
  obtain ⟨u, x2, t2, h2, u0, u1⟩ := take_ev x1 h1 41 (by decide) (by decide)
  obtain ⟨o, x3, t3, h3, o0, o1⟩ := take_ev x2 h2 5 (by decide) (by decide)
  have hs : 2 ≤ 2 + v := by omega
  generalize hS : 2 + v = s at hs
  have s10 : s ≤ 10 := by omega
  generalize hW : u - 20 = w
  have bs : Bd 5 s := Bd.ofR (b := 11) ⟨by omega, by omega⟩ (by decide)
  have m1 : mulOk a s = true := mulOk_of (k := 109) (m := 4) h.ba bs (by decide)
  have m2 : mulOk b s = true := mulOk_of (k := 109) (m := 4) h.bb bs (by decide)
  have m3 : mulOk 6 s = true := mulOk_of (k := 9) (m := 4) .lit bs (by decide)
  have m4 : mulOk (-4) s = true := mulOk_of (k := 9) (m := 4) .lit bs (by decide)
  obtain ⟨p1, r1⟩ := isr_t (a * s) (b * s)
  rw [gc_mul a b s h.cop hs, Bool.and_false] at r1
  obtain ⟨p2, r2⟩ := isr_t a (-b)
  rw [decide_eq_false (by have := h.pos; omega : ¬ 1 ≤ -b), Bool.false_and] at r2
  obtain ⟨p3, r3⟩ := isr_t a 0
  rw [decide_eq_false (by decide : ¬ (1 : Int) ≤ 0), Bool.false_and] at r3
  obtain ⟨p4, r4⟩ := isr_len (.tup [.int a, .int b, .int 1]) 3 rfl rfl rfl (by decide)
  obtain ⟨p5, r5⟩ := isr_n (.int a) rfl rfl
  obtain ⟨p6, r6⟩ := isr_x (.bl true) (.int 1) rfl
  obtain ⟨p7, r7⟩ := isr_y a (.bl true) rfl
  obtain ⟨p8, r8⟩ := isr_n (.str "12") rfl rfl
  obtain ⟨p9, r9⟩ := isr_n .non rfl rfl
  obtain ⟨p10, r10⟩ := isr_len (.tup [.int a]) 1 rfl rfl rfl (by decide)
  obtain ⟨p11, r11⟩ := isr_t a b
  obtain ⟨p12, r12⟩ := isr_l a b
  have cp : decide (gc a b = 1) = true := decide_eq_true (by unfold gc; rw [h.cop]; rfl)
  rw [decide_eq_true (by have := h.pos; omega : 1 ≤ b), cp, Bool.and_true] at r11 r12
  obtain ⟨p13, w1⟩ := wh_nn a
  obtain ⟨p14, w2⟩ := whole_n (.bl true) .non .non rfl
  obtain ⟨p15, w3⟩ := whole_n .non (.int 0) .non rfl
  obtain ⟨p16, w4⟩ := whole_n (.str "1") .non .non rfl
  obtain ⟨p17, w5⟩ := whole_n (.tup [.int 1]) (.int 0) (.int 5) rfl
  obtain ⟨p18, w6⟩ : ∃ ps, fn_is_whole [.val (.int w), .val (.int w), .val (.int w)] = .ok (.val (.bl true)) ps := wh_at w (some w) (some w) true (by unfold whV; simp)
  obtain ⟨p19, w7⟩ : ∃ ps, fn_is_whole [.val (.int w), .val .non, .val (.int (w - 1))] = .ok (.val (.bl false)) ps := wh_at w none (some (w - 1)) false (by unfold whV; simp; omega)
  obtain ⟨p20, w8⟩ : ∃ ps, fn_is_whole [.val (.int (w - 1)), .val (.int w), .val .non] = .ok (.val (.bl false)) ps := wh_at (w - 1) (some w) none false (by unfold whV; simp; omega)
  obtain ⟨p21, w9⟩ : ∃ ps, fn_is_whole [.val (.int (w + 1)), .val .non, .val (.int w)] = .ok (.val (.bl false)) ps := wh_at (w + 1) none (some w) false (by unfold whV; simp; omega)
  obtain ⟨p22, w10⟩ : ∃ ps, fn_is_whole [.val (.int (w + 1)), .val (.int w), .val .non] = .ok (.val (.bl true)) ps := wh_at (w + 1) (some w) none true (by unfold whV; simp; omega)
  obtain ⟨p23, k1⟩ := make_ev (k := 20) (6 * s) (-4 * s) (by omega) (Bd.ofR (k := 21) (i := 4 * s) (b := 41) ⟨by omega, by omega⟩ (by decide) |>.of_le (by omega)) (by decide)
  rw [six_four s (by omega)] at k1
  obtain ⟨q, hq, nq⟩ : ∃ q : D, gIx (.lst [.bl true, .non, .str "1", .tup [.int 1], .bl false]) (.int o) = some (.val q) ∧ notw q = true := by
    have : o = 0 ∨ o = 1 ∨ o = 2 ∨ o = 3 ∨ o = 4 := by omega
    rcases this with rfl | rfl | rfl | rfl | rfl
    · exact ⟨_, ix_l0, rfl⟩
    · exact ⟨_, ix_l1, rfl⟩
    · exact ⟨_, ix_l2, rfl⟩
    · exact ⟨_, ix_l3, rfl⟩
    · exact ⟨.bl false, congrArg (Option.map Ent.val) (Ev.atI_nat (xs := [.bl true, .non, .str "1", .tup [.int 1], .bl false]) (n := 4) (d := .bl false) rfl), rfl⟩
  obtain ⟨p24, j1⟩ := made_err q (.int 0) _ (make_top q (.int 0) nq)
  obtain ⟨p25, j2⟩ := made_err (.int a) q _ (make_bot a q nq)
  obtain ⟨p26, j3⟩ := made_err q q _ (make_top q q nq)
  obtain ⟨p27, j4⟩ := made_err (.int a) (.int 0) _ (make_zero a)
  have nt : gNe (.lst [.str "BadRatio", .str "top"]) (.lst [.str "BadRatio", .str "top"]) = vb false := gNe_self (by decide +kernel)
  have nb : gNe (.lst [.str "BadRatio", .str "bottom"]) (.lst [.str "BadRatio", .str "bottom"]) = vb false := gNe_self (by decide +kernel)
  have eb : gEq (.lst [.str "BadRatio", .str "bottom"]) (.lst [.str "BadRatio", .str "bottom"]) = vb true := gEq_self (by decide +kernel)
  simp only [fn__law_odd_ones, den__law_odd_ones, dC_a, dVar_a, dSlot_a, dMove_a, dLV_a, dFrz_a, dVal_a, dBin_a, dNeg_a, dTB_a, dBT_a, dTru_a, dNotT_a, dAndT_a, dOrT_a, dAndV_a, dOrV_a, dNotL_a, dIf_a, dIfF_a, dChain_a, dVs_n, dVs_c, dArs_n, dArs_c, dTup_a, dLst_a, getAll_n, getAll_c, dCB_a, dCall_a, dCall0_a, dCallR_a, dIsi_a, dSeq_a, dSkip_a, dIfS_a, dRet_a, dSet_a, dAsg_a, asN_a, asT_a, asT_l, asC_a, asNil_a, dPar_a, dPut_a, dExp_a, dApp_a, dFor_a, loopF_n, dIt_a, mkFn_a, frzE_val, frzE_mu, get_v, get_s, Res.bind_ok, Res.bind_err, Res.bind_bad, List.getElem?_cons_zero, List.getElem?_cons_succ, List.set_cons_zero, List.set_cons_succ, List.map_cons, List.map_nil, List.cons_append, List.nil_append, List.append_nil, List.length_cons, List.length_nil, List.replicate, List.take, finF, if_true, if_false, ite_true, ite_false, Ent.flat, D.flat, frzAr, reduceIte, Nat.reduceAdd, Nat.reduceSub, Nat.reduceLeDiff, Bool.false_eq_true, Nat.reduceEqDiff, Nat.add_eq, Nat.add_zero, Nat.zero_add, Option.bind_some, Option.map_some, Nat.sub_self, eq_self, and_self, and_true, true_and, hasS, t1, t2, t3, gAdd_i, gSub_i, hS, hW, gMul_i m1, gMul_i m2, gMul_i m3, gMul_i m4, r1, r2, r3, r4, r5, r6, r7, r8, r9, r10, r11, r12, w1, w2, w3, w4, w5, w6, w7, w8, w9, w10, dCallK_a, ar1, ar2, ar3, k1, ne_I2, hq, j1, j2, j3, j4, nt, nb, eb, isNot_tt, vb, truth_b, Bool.not_true, Bool.not_false]
  exact ⟨_, _, rfl⟩
end Kx

set_option linter.all false
set_option maxRecDepth 100000
set_option maxHeartbeats 4000000
namespace Kx
open PySem PySem.Spec PyProof.Rows L2 Ev
theorem dRng1_a {f : DenA} {env : Sto} : dRng1 f env = (f env).bind fun as e => match getAll as e with
  | some [.int j] => if -(2 ^ 62) ≤ j ∧ j < 2 ^ 62 then .ok (rngD 0 j.toNat) e else .bad
  | _ => .bad := rfl
theorem dPs_a {f : DenV} {env : Sto} : dPs f env = (f env).bind fun d e => match d with
  | .int i => .ok (some i) e
  | _ => .bad := rfl
theorem dPn_a {env : Sto} : dPn env = .ok none env := rfl
theorem dSl_a {f : DenL} {l h : DenP} {env : Sto} : dSl f l h env = (f env).bind fun a e1 => (l e1).bind fun lo e2 => (h e2).bind fun hi e3 => match a.get e3 with
  | some x => (match gSl x lo hi with
    | some r => .ok r e3
    | none => .bad)
  | none => .bad := rfl
theorem gSl_1 {xs : List D} : gSl (.lst xs) none (some 1) = some (.mu (xs.take 1)) := by
  show some (Ent.mu (Ev.cutD xs none (some 1))) = _
  congr 2
  unfold Ev.cutD
  cases xs with
  | nil => rfl
  | cons x xs =>
    show List.take (min 1 (x :: xs).length - 0) (List.drop 0 (x :: xs)) = _
    rw [List.drop_zero, List.length_cons, Nat.min_eq_left (by omega)]
theorem gAdd_l {xs ys : List D} (h : xs.length + ys.length ≤ 1000000) : gAdd (.lst xs) (.lst ys) = some (.mu (xs ++ ys)) := if_pos h
theorem el_ev (xs : List D) (hx : HandOk xs) (s0 s2 s3 s4 s5 s6 s7 : Ent) : ∃ (p : PP) (ys : List D), el_law_1 [s0, .mu xs, s2, s3, s4, s5, s6, s7] = .ok (dT p) [s0, .mu ys, s2, s3, s4, s5, s6, s7] ∧ HandOk ys ∧ RaP p := by
  obtain ⟨a, b, ys, e, h1, h2⟩ := drawn_ev xs hx
  refine ⟨(a, b), ys, ?_, h1, h2⟩
  simp only [el_law_1, dC_a, dVar_a, dSlot_a, dMove_a, dLV_a, dFrz_a, dVal_a, dBin_a, dNeg_a, dTB_a, dBT_a, dTru_a, dNotT_a, dAndT_a, dOrT_a, dAndV_a, dOrV_a, dNotL_a, dIf_a, dIfF_a, dChain_a, dVs_n, dVs_c, dArs_n, dArs_c, dTup_a, dLst_a, getAll_n, getAll_c, dCB_a, dCall_a, dCall0_a, dCallR_a, dIsi_a, dSeq_a, dSkip_a, dIfS_a, dRet_a, dSet_a, dAsg_a, asN_a, asT_a, asT_l, asC_a, asNil_a, dPar_a, dPut_a, dExp_a, dApp_a, dFor_a, loopF_n, dIt_a, mkFn_a, frzE_val, frzE_mu, get_v, get_s, Res.bind_ok, Res.bind_err, Res.bind_bad, List.getElem?_cons_zero, List.getElem?_cons_succ, List.set_cons_zero, List.set_cons_succ, List.map_cons, List.map_nil, List.cons_append, List.nil_append, List.append_nil, List.length_cons, List.length_nil, List.replicate, List.take, finF, if_true, if_false, ite_true, ite_false, Ent.flat, D.flat, frzAr, reduceIte, Nat.reduceAdd, Nat.reduceSub, Nat.reduceLeDiff, Bool.false_eq_true, Nat.reduceEqDiff, Nat.add_eq, Nat.add_zero, Nat.zero_add, Option.bind_some, Option.map_some, Nat.sub_self, eq_self, and_self, and_true, true_and, hasS, e]
theorem draw_loop : ∀ (items : List D) (acc : List PP) (xs : List D) (s0 s2 s3 s4 s5 s6 : Ent), HandOk xs → (∀ p ∈ acc, RaP p) → acc.length + items.length ≤ 1000 →
    ∃ (ps : List PP) (ys : List D), loopC [7] (asN 7) dTrue el_law_1 items (acc.map dT) [s0, .mu xs, s2, s3, s4, s5, s6, .un] = .ok (ps.map dT) [s0, .mu ys, s2, s3, s4, s5, s6, .un] ∧ HandOk ys ∧ (∀ p ∈ ps, RaP p) ∧ ps.length = acc.length + items.length
  | [], acc, xs, s0, s2, s3, s4, s5, s6, hx, ha, hl => ⟨acc, xs, rfl, hx, ha, rfl⟩
  | d :: ds, acc, xs, s0, s2, s3, s4, s5, s6, hx, ha, hl => by
    rw [List.length_cons] at hl
    obtain ⟨p, ys, e1, hy, hp⟩ := el_ev xs hx s0 s2 s3 s4 s5 s6 (.val d)
    obtain ⟨ps, zs, e2, hz, hps, hlen⟩ := draw_loop ds (acc ++ [p]) ys s0 s2 s3 s4 s5 s6 hy (fun x hx => by
      rcases List.mem_append.mp hx with q | q
      · exact ha x q
      · rw [List.mem_singleton.mp q]
        exact hp) (by rw [List.length_append, List.length_singleton]; omega)
    refine ⟨ps, zs, ?_, hz, hps, by rw [hlen, List.length_append, List.length_singleton, List.length_cons]; omega⟩
    have l1 : acc.length < 1000000 := by omega
    rw [List.map_append, List.map_cons, List.map_nil] at e2
    rw [loopC_c]
    simp only [dC_a, dVar_a, dSlot_a, dMove_a, dLV_a, dFrz_a, dVal_a, dBin_a, dNeg_a, dTB_a, dBT_a, dTru_a, dNotT_a, dAndT_a, dOrT_a, dAndV_a, dOrV_a, dNotL_a, dIf_a, dIfF_a, dChain_a, dVs_n, dVs_c, dArs_n, dArs_c, dTup_a, dLst_a, getAll_n, getAll_c, dCB_a, dCall_a, dCall0_a, dCallR_a, dIsi_a, dSeq_a, dSkip_a, dIfS_a, dRet_a, dSet_a, dAsg_a, asN_a, asT_a, asT_l, asC_a, asNil_a, dPar_a, dPut_a, dExp_a, dApp_a, dFor_a, loopF_n, dIt_a, mkFn_a, frzE_val, frzE_mu, get_v, get_s, Res.bind_ok, Res.bind_err, Res.bind_bad, List.getElem?_cons_zero, List.getElem?_cons_succ, List.set_cons_zero, List.set_cons_succ, List.map_cons, List.map_nil, List.cons_append, List.nil_append, List.append_nil, List.length_cons, List.length_nil, List.replicate, List.take, finF, if_true, if_false, ite_true, ite_false, Ent.flat, D.flat, frzAr, reduceIte, Nat.reduceAdd, Nat.reduceSub, Nat.reduceLeDiff, Bool.false_eq_true, Nat.reduceEqDiff, Nat.add_eq, Nat.add_zero, Nat.zero_add, Option.bind_some, Option.map_some, Nat.sub_self, eq_self, and_self, and_true, true_and, bindX_o, dTrue_a, e1, List.length_map, l1, wipeE]
    exact e2
theorem rng_len (n : Nat) : (rngD 0 n).length = n := by
  unfold rngD
  rw [List.length_map, List.length_range]
theorem Ra01 : Ra 0 1 := ⟨by decide, by decide, .lit, .lit⟩
theorem sg_one (a : Int) : sg a 1 = I2 a 1 := by
  rw [sg_pos (by decide)]
  have e : gc a 1 = 1 := by
    unfold gc
    rw [show Int.natAbs 1 = 1 from rfl, Nat.gcd_one_right]
    rfl
  unfold qr
  rw [e, Int.ediv_one]
  rfl
theorem law_true (ns : List Int) (h : ns.length ≤ 63) (hb : ∀ z ∈ ns, Builtin.Int.intBits z ≤ 1048576) : ∃ ps, fn_law [.val (.fl (ns.map D.int))] = .ok (.val (.bl true)) ps := by
  obtain ⟨x0, q0, e0, h0⟩ := hand_ev ns h
  obtain ⟨a, b, x1, e1, h1, ra⟩ := drawn_ev x0 h0
  obtain ⟨c, d, x2, e2, h2, rc⟩ := drawn_ev x1 h1
  obtain ⟨v, x3, e3, h3, v0, v1⟩ := take_ev x2 h2 40 (by decide) (by decide)
  generalize hS : v - 20 = s
  have bs : Bd 6 s := by
    unfold Bd
    omega
  have m1 : mulOk a s = true := mulOk_of (k := 109) (m := 5) ra.ba bs (by decide)
  have m2 : mulOk b s = true := mulOk_of (k := 109) (m := 5) ra.bb bs (by decide)
  obtain ⟨q1, k1⟩ := make_ev (k := 1) a 1 (by decide) .lit (by decide)
  rw [sg_one] at k1
  obtain ⟨q2, r1⟩ := pair_ev ra rc
  obtain ⟨q3, r2⟩ := pair_ev rc ra
  obtain ⟨q4, r3⟩ := pair_ev ra ra
  obtain ⟨q5, r4⟩ := pair_ev ra Ra01
  obtain ⟨u, x4, e4, h4, u0, u1⟩ := take_ev x3 h3 8 (by decide) (by decide)
  have ur : -(2 ^ 62) ≤ u ∧ u < 2 ^ 62 := by
    constructor <;> omega
  have fin : ∀ (due : D) (dueE : Ent), (dueE = .val due ∨ ∃ xs, due = .lst xs ∧ dueE = .mu xs) → ∃ (ps : List PP) (x5 : List D) (q6 q7 q8 : List Ent) (p0 : Ent), loopC [7] (asN 7) dTrue el_law_1 (rngD 0 u.toNat) [] [.val (.fl (ns.map D.int)), .mu x4, .val (I2 a b), .val (I2 c d), .val (.int s), dueE, .un, .un] = .ok (ps.map dT) [.val (.fl (ns.map D.int)), .mu x5, .val (I2 a b), .val (I2 c d), .val (.int s), dueE, .un, .un] ∧
      ps.length ≤ 8 ∧ fn__law_rows [.val (.lst (ps.map dT))] = .ok (.val (.bl true)) q6 ∧ fn__law_rows [.val (.lst (ps.map dT ++ (ps.map dT).take 1))] = .ok (.val (.bl true)) q7 ∧ fn__law_odd_ones [.mu x5, .val (I2 a b)] = .ok (.val (.bl true)) (p0 :: q8) := fun due dueE _ => by
    obtain ⟨ps, x5, l1, h5, hps, hlen⟩ := draw_loop (rngD 0 u.toNat) [] x4 (.val (.fl (ns.map D.int))) (.val (I2 a b)) (.val (I2 c d)) (.val (.int s)) dueE .un h4 (fun x hx => by cases hx) (by rw [rng_len]; simp only [List.length_nil]; omega)
    rw [rng_len, List.length_nil] at hlen
    obtain ⟨q6, g1⟩ := rows_ev ps hps (by omega)
    obtain ⟨q7, g2⟩ := rows_ev (ps ++ ps.take 1) (fun x hx => by
      rcases List.mem_append.mp hx with z | z
      · exact hps x z
      · exact hps x (List.mem_of_mem_take z)) (by rw [List.length_append, List.length_take]; omega)
    rw [List.map_append, List.map_take] at g2
    obtain ⟨p0, q8, g3⟩ := odd_ev x5 h5 ra
    exact ⟨ps, x5, q6, q7, q8, p0, l1, by omega, g1, g2, g3⟩
  have gNe_c : ∀ x y : Int, gNe (.tup [.int x, .int y]) (.tup [.int x, .int y]) = vb false := fun x y => ne_I2
  by_cases hs : s = 0
  · subst hs
    obtain ⟨ps, x5, q6, q7, q8, p0, l1, hl, g1, g2, g3⟩ := fin (.lst [.str "BadRatio", .str "bottom"]) (.mu [.str "BadRatio", .str "bottom"]) (.inr ⟨_, rfl, rfl⟩)
    have ll : (ps.map dT).length + ((ps.map dT).take 1).length ≤ 1000000 := by
      rw [List.length_take, List.length_map]
      omega
    obtain ⟨q9, j1⟩ : ∃ q, fn__law_made [.val (.int (a * 0)), .val (.int (b * 0))] = .ok (.mu [.str "BadRatio", .str "bottom"]) q := by
      rw [Int.mul_zero, Int.mul_zero]
      exact made_err (.int 0) (.int 0) _ (make_zero 0)
    have nb : gNe (.lst [.str "BadRatio", .str "bottom"]) (.lst [.str "BadRatio", .str "bottom"]) = vb false := gNe_self (by decide +kernel)
    have z0 : decide ((0 : Int) = 0) = true := rfl
    simp only [fn_law, den_law, dC_a, dVar_a, dSlot_a, dMove_a, dLV_a, dFrz_a, dVal_a, dBin_a, dNeg_a, dTB_a, dBT_a, dTru_a, dNotT_a, dAndT_a, dOrT_a, dAndV_a, dOrV_a, dNotL_a, dIf_a, dIfF_a, dChain_a, dVs_n, dVs_c, dArs_n, dArs_c, dTup_a, dLst_a, getAll_n, getAll_c, dCB_a, dCall_a, dCall0_a, dCallR_a, dIsi_a, dSeq_a, dSkip_a, dIfS_a, dRet_a, dSet_a, dAsg_a, asN_a, asT_a, asT_l, asC_a, asNil_a, dPar_a, dPut_a, dExp_a, dApp_a, dFor_a, loopF_n, dIt_a, mkFn_a, frzE_val, frzE_mu, get_v, get_s, Res.bind_ok, Res.bind_err, Res.bind_bad, List.getElem?_cons_zero, List.getElem?_cons_succ, List.set_cons_zero, List.set_cons_succ, List.map_cons, List.map_nil, List.cons_append, List.nil_append, List.append_nil, List.length_cons, List.length_nil, List.replicate, List.take, finF, if_true, if_false, ite_true, ite_false, Ent.flat, D.flat, frzAr, reduceIte, Nat.reduceAdd, Nat.reduceSub, Nat.reduceLeDiff, Bool.false_eq_true, Nat.reduceEqDiff, Nat.add_eq, Nat.add_zero, Nat.zero_add, Option.bind_some, Option.map_some, Nat.sub_self, eq_self, and_self, and_true, true_and, hasS, e0, e1, e2, e3, e4, hS, gNe_c, ix_t0, ix_t1, k1, ne_I2, gSub_i, gEq_int, z0, gMul_i m1, gMul_i m2, j1, nb, r1, r2, r3, r4, dLc_a, dRng1_a, ur, okOwn, List.all_cons, List.all_nil, Bool.and_true, wipeE, l1, bindX_o, restE, Option.getD_some, g1, g2, g3, dSl_a, dPn_a, dPs_a, gSl_1, gAdd_l ll, vb, truth_b, decide_true, Bool.not_true]
    exact ⟨_, rfl⟩
  · have hz : b * s ≠ 0 := Int.mul_ne_zero (by have := ra.pos; omega) hs
    have bk : Bd (119 + 1) (b * s) := (ra.bb.mul bs).mono (by decide)
    obtain ⟨ps, x5, q6, q7, q8, p0, l1, hl, g1, g2, g3⟩ := fin (sg (a * s) (b * s)) (.val (sg (a * s) (b * s))) (.inl rfl)
    have ll : (ps.map dT).length + ((ps.map dT).take 1).length ≤ 1000000 := by
      rw [List.length_take, List.length_map]
      omega
    obtain ⟨q9, j1⟩ := made_ev (a * s) (b * s) hz bk (by decide)
    obtain ⟨q10, j2⟩ := signed_ev (a * s) (b * s) hz bk (by decide)
    have z0 := decide_eq_false hs
    simp only [fn_law, den_law, dC_a, dVar_a, dSlot_a, dMove_a, dLV_a, dFrz_a, dVal_a, dBin_a, dNeg_a, dTB_a, dBT_a, dTru_a, dNotT_a, dAndT_a, dOrT_a, dAndV_a, dOrV_a, dNotL_a, dIf_a, dIfF_a, dChain_a, dVs_n, dVs_c, dArs_n, dArs_c, dTup_a, dLst_a, getAll_n, getAll_c, dCB_a, dCall_a, dCall0_a, dCallR_a, dIsi_a, dSeq_a, dSkip_a, dIfS_a, dRet_a, dSet_a, dAsg_a, asN_a, asT_a, asT_l, asC_a, asNil_a, dPar_a, dPut_a, dExp_a, dApp_a, dFor_a, loopF_n, dIt_a, mkFn_a, frzE_val, frzE_mu, get_v, get_s, Res.bind_ok, Res.bind_err, Res.bind_bad, List.getElem?_cons_zero, List.getElem?_cons_succ, List.set_cons_zero, List.set_cons_succ, List.map_cons, List.map_nil, List.cons_append, List.nil_append, List.append_nil, List.length_cons, List.length_nil, List.replicate, List.take, finF, if_true, if_false, ite_true, ite_false, Ent.flat, D.flat, frzAr, reduceIte, Nat.reduceAdd, Nat.reduceSub, Nat.reduceLeDiff, Bool.false_eq_true, Nat.reduceEqDiff, Nat.add_eq, Nat.add_zero, Nat.zero_add, Option.bind_some, Option.map_some, Nat.sub_self, eq_self, and_self, and_true, true_and, hasS, e0, e1, e2, e3, e4, hS, gNe_c, ix_t0, ix_t1, k1, ne_I2, gSub_i, gEq_int, z0, gMul_i m1, gMul_i m2, j1, j2, r1, r2, r3, r4, dLc_a, dRng1_a, ur, okOwn, List.all_cons, List.all_nil, Bool.and_true, wipeE, l1, bindX_o, restE, Option.getD_some, g1, g2, g3, dSl_a, dPn_a, dPs_a, gSl_1, gAdd_l ll, vb, truth_b, decide_true, Bool.not_true]
    exact ⟨_, rfl⟩
end Kx

set_option Elab.async false
set_option linter.all false
set_option maxRecDepth 100000
set_option maxHeartbeats 0
namespace Kx
open PySem PySem.Spec PyProof.Rows L2 Ev
abbrev R : PySem.W.OpenRow := PySem.W.OpenLaw.row PySem.Challenge.rw_tautparcel_k01_whole_ratios_in_lowest_te
abbrev hk : PySem.W.Hook := hookX 6 fa fn
def ob (s : PySem.W.SharedT) : AlX := obsXG 6 fa fn (HandSHeadRun.getT s)
theorem ob_eq (s : PySem.W.SharedT) : ob s = hk.obs s.abs := obsXG_eq (HandSHeadRun.getT_eq s)
def loose0 : List PySem.Str := ["ParcelError", "BadRatio", "ZERO", "ONE", "HALF", "is_whole", "is_ratio", "in_lowest", "make_ratio", "plus", "minus", "times", "over", "negative", "compare", "sum_of", "least_of", "greatest_of", "floor_of", "broken_of", "_law_hand", "_law_mixed", "_law_take", "_law_common", "_law_ratio", "_law_tuples", "_law_drawn", "_law_made", "_law_parted", "_law_signed"]
def loose1 : List PySem.Str := ["_law_pair", "_law_rows", "_law_odd_ones"]
def loose : List PySem.Str := loose0 ++ loose1
theorem run (w : World) : HandSHeadRun.RunEqI R (PySem.W.view R.prog [0, 37]) hk ob 6000 loose w := by
  unfold HandSHeadRun.RunEqI
  kernel_rfl
end Kx
open PySem PySem.W PySem.Calls PyProof.Rows in
theorem PySem.Challenge.cw_tautparcel_k01_whole_ratios_in_lowest_te_holds : PySem.Challenge.rw_tautparcel_k01_whole_ratios_in_lowest_te.Holds := by
  w_on; o_law
  refine HandSHeadRun.head_imp (r := OpenLaw.row PySem.Challenge.rw_tautparcel_k01_whole_ratios_in_lowest_te) (q := view (OpenLaw.row PySem.Challenge.rw_tautparcel_k01_whole_ratios_in_lowest_te).prog [0, 37]) (H := Kx.hk) (ob := Kx.ob) (M := 6000) (loose := Kx.loose) (d := HandSHeadRun.topDef (OpenLaw.row PySem.Challenge.rw_tautparcel_k01_whole_ratios_in_lowest_te).prog 37) (kwd := []) Kx.ob_eq
    Kx.run (by kernel_rfl) (by kernel_rfl) (by kernel_rfl) (by rfl) (by first | assumption | decide +kernel) (by decide +kernel) ⟨rfl, rfl, rfl, rfl, rfl, by decide +kernel⟩ ?hw ?hc
  case hw => w_witness2
  case hc =>
    refine Ev.walk_ev (l := PySem.Challenge.rw_tautparcel_k01_whole_ratios_in_lowest_te) (k := 14) (x := "_law_script") (g := Kx.fn_law) rfl (by kernel_rfl) ⟨rfl, by decide, by decide⟩ ?F Kx.law_true
    intro w mg fa h Y G hmg0
    obtain ⟨K, KX, c⟩ := Y
    have hmg : mg ("law" : PySem.Str) = some (.ref fa) := by
      have e : (HandSHeadRun.topDef (OpenLaw.row PySem.Challenge.rw_tautparcel_k01_whole_ratios_in_lowest_te).prog 37).name = ("law" : PySem.Str) := by kernel_rfl
      rw [← e]
      exact hmg0
    have T : Kx.Tz K mg := ⟨⟨h, KX, G⟩, c⟩
    have e := hmg.symm.trans (T.glo (T.c.fact 0))
    cases e
    have b := L2.FunD.bindsA (ps := ["_law_script"]) T.F_law fun _ _ _ _ _ _ us hl => match us, hl with | [_], _ => rfl
    exact ⟨K, _, KX, fun s v => b s [v] rfl, fun base _ _ => Kx.ok_law T⟩

