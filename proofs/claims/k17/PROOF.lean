import PyProof.Rows.All
import Wide.All
import OpenK.AllK
import Wide.FinOn
import KE.KStateDown
import HandS.ForMost
import HandS.ForExc
import HandS.Defaults
import HandS.Wide
import HandS.Gcd
import HandS.Style
import HandS.TupAny
import HandS.TupMul
import HandS.IsInst
import HandS.Deep
import HandS.NoneIn
import HandS.CallSlots
import HandS.ExcOwn
import HandS.TryMany
import HandS.ExcInit
import HandS.ExcField
import HandS.Flow
import HandS.EndBits
import HandS.HeadEnd
import HandS.Head0
import HandS.Head1
import HandS.Head2
import HandS.HeadHook1
import HandS.HeadHook2
import HandS.SortInts
import KE.KMathG
import KE.GoesEnum
import KE.GoesMore
import HandS.Zip
import HandS.RaiseMore
import PyProof.ReprRoads
import PyProof.ReprLen
import PyProof.StrLawsRepr
import PySem.Challenge.RW_tautparcel_k17_common_times_of_beats
import HandS.Head3
import HandS.ExcCtx
import HandS.Property
import HandS.HeadNt
set_option Elab.async false
set_option linter.all false
set_option maxRecDepth 100000
set_option maxHeartbeats 4000000
namespace Ev
open PySem PySem.Spec PyProof.Rows L2

/-! ### data, by value -/
inductive D where
  | non | bl (b : Bool) | int (i : Int) | str (s : Str) | tup (xs : List D) | lst (xs : List D) | fl (xs : List D)
  | ins (c : Str) (ns : List Str) (xs : List D)
  | fn (x : Str)

/-- what a slot holds -/
inductive Ent where
  | un | val (d : D) | mu (xs : List D) | exn (c : Str) (ns : List Str) (xs : List D)
abbrev Sto := List Ent
inductive Res (α : Type) where
  | ok (a : α) (e : Sto) | err (c : Str) (ns : List Str) (xs : List D) (e : Sto) | bad
def Res.bind {α β : Type} (r : Res α) (k : α → Sto → Res β) : Res β := match r with
  | .ok a e => k a e
  | .err c ns xs e => .err c ns xs e
  | .bad => .bad
@[simp] theorem Res.bind_ok {α β : Type} (a : α) (e : Sto) (k : α → Sto → Res β) : (Res.ok a e).bind k = k a e := rfl
@[simp] theorem Res.bind_err {α β : Type} (c : Str) (ns : List Str) (xs : List D) (e : Sto) (k : α → Sto → Res β) : (Res.err c ns xs e : Res α).bind k = .err c ns xs e := rfl
@[simp] theorem Res.bind_bad {α β : Type} (k : α → Sto → Res β) : (Res.bad : Res α).bind k = .bad := rfl

/-- where one stands: the written part, the module's names, the exception at hand (its address, its dict), the slots that others watch -/
structure Wd where
  K : PySem.W.Frag
  mg : Str → Option Value
  F : Addr × Value × Option Addr
  R : List Nat

mutual
def Rep (Γ : Wd) (B : Hp) : D → V → Prop
  | .non, v => v = .non
  | .bl b, v => v = .bl b
  | .int i, v => v = .int i
  | .str s, v => v = .str s
  | .tup xs, v => ∃ a vs, v = .ref a ∧ SqT Γ.K B a vs ∧ Reps Γ B xs vs
  | .lst xs, v => ∃ a vs, v = .ref a ∧ B a = some (.lst vs) ∧ Reps Γ B xs vs
  | .fl xs, v => ∃ a vs, v = .ref a ∧ SqL Γ.K B a vs ∧ Reps Γ B xs vs
  | .ins c ns xs, v => ∃ a dx C vs, v = .ref a ∧ Γ.mg c = some (.ref C) ∧ B a = some (.ins C dx (ns.zip vs)) ∧ ns.length = vs.length ∧ Reps Γ B xs vs
  | .fn x, v => ∃ f, v = .ref f ∧ Γ.mg x = some (.ref f)
def Reps (Γ : Wd) (B : Hp) : List D → List V → Prop
  | [], vs => vs = []
  | d :: ds, vs => ∃ v r, vs = v :: r ∧ Rep Γ B d v ∧ Reps Γ B ds r
end

theorem sqT_mono {K : PySem.W.Frag} {H H' : Hp} {a : Addr} {xs : List V} (e : Same H H') : SqT K H a xs → SqT K H' a xs :=
  Or.imp_left fun held => held.imp (e _ _) fun ⟨o, fixed⟩ => ⟨o, e _ _ fixed⟩
mutual
theorem Rep.mono {Γ : Wd} {B B' : Hp} (e : Same B B') : ∀ (d : D) (v : V), Rep Γ B d v → Rep Γ B' d v
  | .non, v, h => h
  | .bl b, v, h => h
  | .int i, v, h => h
  | .str s, v, h => h
  | .tup xs, v, h => by
    obtain ⟨a, vs, e1, e2, e3⟩ := h
    exact ⟨a, vs, e1, sqT_mono e e2, Reps.mono e xs vs e3⟩
  | .lst xs, v, h => by
    obtain ⟨a, vs, e1, e2, e3⟩ := h
    exact ⟨a, vs, e1, e _ _ e2, Reps.mono e xs vs e3⟩
  | .fl xs, v, h => by
    obtain ⟨a, vs, e1, e2, e3⟩ := h
    exact ⟨a, vs, e1, e.seq e2, Reps.mono e xs vs e3⟩
  | .ins c ns xs, v, h => by
    obtain ⟨a, dx, C, vs, e1, e2, e3, e4, e5⟩ := h
    exact ⟨a, dx, C, vs, e1, e2, e _ _ e3, e4, Reps.mono e xs vs e5⟩
  | .fn x, v, h => h
theorem Reps.mono {Γ : Wd} {B B' : Hp} (e : Same B B') : ∀ (ds : List D) (vs : List V), Reps Γ B ds vs → Reps Γ B' ds vs
  | [], vs, h => h
  | d :: ds, vs, h => by
    obtain ⟨v, r, e1, e2, e3⟩ := h
    exact ⟨v, r, e1, Rep.mono e d v e2, Reps.mono e ds r e3⟩
end
theorem Reps.length {Γ : Wd} {B : Hp} : ∀ {ds : List D} {vs : List V}, Reps Γ B ds vs → ds.length = vs.length
  | [], vs, h => by
    have h' : vs = [] := h
    rw [h']
    rfl
  | d :: ds, vs, h => by
    obtain ⟨v, r, e1, e2, e3⟩ := h
    rw [e1, List.length_cons, List.length_cons, Reps.length e3]
theorem Reps.get {Γ : Wd} {B : Hp} : ∀ {ds : List D} {vs : List V} {i : Nat} {d : D}, Reps Γ B ds vs → ds[i]? = some d → ∃ v, vs[i]? = some v ∧ Rep Γ B d v
  | [], vs, i, d, h, q => by simp at q
  | d :: ds, vs, 0, d', h, q => by
    obtain ⟨v, r, e1, e2, e3⟩ := h
    have e : d = d' := by simpa using q
    subst e
    exact ⟨v, by rw [e1]; rfl, e2⟩
  | d :: ds, vs, i + 1, d', h, q => by
    obtain ⟨v, r, e1, e2, e3⟩ := h
    obtain ⟨w, h1, h2⟩ := Reps.get (i := i) e3 (by simpa using q)
    exact ⟨w, by rw [e1]; simpa using h1, h2⟩
theorem Reps.get' {Γ : Wd} {B : Hp} : ∀ {ds : List D} {vs : List V} {i : Nat} {v : V}, Reps Γ B ds vs → vs[i]? = some v → ∃ d, ds[i]? = some d ∧ Rep Γ B d v
  | [], vs, i, d, h, q => by
    have h' : vs = [] := h
    rw [h'] at q
    simp at q
  | d :: ds, vs, 0, d', h, q => by
    obtain ⟨v, r, e1, e2, e3⟩ := h
    rw [e1] at q
    have e : v = d' := by simpa using q
    subst e
    exact ⟨d, rfl, e2⟩
  | d :: ds, vs, i + 1, d', h, q => by
    obtain ⟨v, r, e1, e2, e3⟩ := h
    rw [e1] at q
    obtain ⟨w, h1, h2⟩ := Reps.get' (i := i) e3 (by simpa using q)
    exact ⟨w, by simpa using h1, h2⟩
theorem Reps.append {Γ : Wd} {B : Hp} : ∀ {ds es : List D} {vs ws : List V}, Reps Γ B ds vs → Reps Γ B es ws → Reps Γ B (ds ++ es) (vs ++ ws)
  | [], es, vs, ws, h, k => by
    have h' : vs = [] := h
    rw [h']
    exact k
  | d :: ds, es, vs, ws, h, k => by
    obtain ⟨v, r, e1, e2, e3⟩ := h
    exact ⟨v, r ++ ws, by rw [e1]; rfl, e2, Reps.append e3 k⟩
theorem Reps.one {Γ : Wd} {B : Hp} {d : D} {v : V} (h : Rep Γ B d v) : Reps Γ B [d] [v] := ⟨v, [], rfl, h, rfl⟩
theorem Reps.set {Γ : Wd} {B : Hp} {d : D} {v : V} (h : Rep Γ B d v) : ∀ {ds : List D} {vs : List V} (i : Nat), Reps Γ B ds vs → Reps Γ B (ds.set i d) (vs.set i v)
  | [], vs, i, k => by
    have k' : vs = [] := k
    rw [k']
    rfl
  | e :: ds, vs, 0, k => by
    obtain ⟨w, r, e1, e2, e3⟩ := k
    exact ⟨v, r, by rw [e1]; rfl, h, e3⟩
  | e :: ds, vs, i + 1, k => by
    obtain ⟨w, r, e1, e2, e3⟩ := k
    exact ⟨w, r.set i v, by rw [e1]; rfl, e2, Reps.set h i e3⟩
theorem Reps.take {Γ : Wd} {B : Hp} : ∀ {ds : List D} {vs : List V} (n : Nat), Reps Γ B ds vs → Reps Γ B (ds.take n) (vs.take n)
  | ds, vs, 0, _ => by simp; rfl
  | [], vs, n + 1, k => by
    have k' : vs = [] := k
    rw [k']
    simp; rfl
  | e :: ds, vs, n + 1, k => by
    obtain ⟨w, r, e1, e2, e3⟩ := k
    exact ⟨w, r.take n, by rw [e1]; rfl, e2, Reps.take n e3⟩
theorem Reps.drop {Γ : Wd} {B : Hp} : ∀ {ds : List D} {vs : List V} (n : Nat), Reps Γ B ds vs → Reps Γ B (ds.drop n) (vs.drop n)
  | ds, vs, 0, h => h
  | [], vs, n + 1, k => by
    have k' : vs = [] := k
    rw [k']
    simp; rfl
  | e :: ds, vs, n + 1, k => by
    obtain ⟨w, r, e1, e2, e3⟩ := k
    rw [e1]
    exact Reps.drop n e3

/-! ### the state -/
def EntOk (Γ : Wd) (B H : Hp) : Ent → Option V → Prop
  | .un, _ => True
  | .val d, o => ∃ v, o = some v ∧ Rep Γ B d v
  | .mu xs, o => ∃ p vs, o = some (.ref p) ∧ B p = none ∧ H p = some (.lst vs) ∧ Reps Γ B xs vs
  | .exn c ns xs, o => ∃ dd vs, o = some (.ref Γ.F.1) ∧ (Γ.F.2.2 = some dd ∧ ∃ C, Γ.mg c = some (.ref C) ∧ Γ.F.2.1 = .ref C) ∧ H dd = some (.xd (ns.zip vs)) ∧ ns.length = vs.length ∧ Reps Γ B xs vs
def Own (env : Sto) (σ : L2.St) (p : Addr) : Prop := ∃ (i : Nat) (xs : List D), env[i]? = some (.mu xs) ∧ σ[i]? = some (some (.ref p))
structure StOk (Γ : Wd) (env : Sto) (σ : L2.St) (B H : Hp) : Prop where
  same : Same B H
  len : env.length = σ.length
  ent : ∀ (i : Nat) (e : Ent) (o : Option V), env[i]? = some e → σ[i]? = some o → EntOk Γ B H e o
  dis : ∀ (i j : Nat) (xs ys : List D) (p : Addr), env[i]? = some (.mu xs) → env[j]? = some (.mu ys) → σ[i]? = some (some (.ref p)) → σ[j]? = some (some (.ref p)) → i = j
structure Ext (Γ : Wd) (env : Sto) (σ : L2.St) (B H : Hp) (env' : Sto) (σ' : L2.St) (B' H' : Hp) : Prop where
  b : Same B B'
  t : ∀ p, H p ≠ none → H' p ≠ none
  f : ∀ p o, H p = some o → ¬ Own env σ p → H' p = some o ∧ (B p = none → B' p = none) ∧ ¬ Own env' σ' p
  r : ∀ i ∈ Γ.R, σ'[i]? = σ[i]? ∧ ∀ xs p, env[i]? = some (.mu xs) → σ[i]? = some (some (.ref p)) → (∃ ys, env'[i]? = some (.mu ys)) ∨ B' p ≠ none
section
variable {Γ : Wd} {env env' env2 : Sto} {σ σ' σ2 : L2.St} {B H B' H' B2 H2 : Hp}
theorem Ext.refl : Ext Γ env σ B H env σ B H := ⟨Same.refl _, fun _ h => h, fun p o h n => ⟨h, fun q => q, n⟩, fun i _ => ⟨rfl, fun xs p e _ => .inl ⟨xs, e⟩⟩⟩
theorem Ext.trans (a : Ext Γ env σ B H env' σ' B' H') (c : Ext Γ env' σ' B' H' env2 σ2 B2 H2) : Ext Γ env σ B H env2 σ2 B2 H2 where
  b := a.b.trans c.b
  t := fun p h => c.t p (a.t p h)
  f := fun p o h n => by
    obtain ⟨h1, h2, h3⟩ := a.f p o h n
    obtain ⟨k1, k2, k3⟩ := c.f p o h1 h3
    exact ⟨k1, fun q => k2 (h2 q), k3⟩
  r := fun i hi => by
    obtain ⟨h1, h2⟩ := a.r i hi
    obtain ⟨k1, k2⟩ := c.r i hi
    refine ⟨k1.trans h1, fun xs p e1 e2 => ?_⟩
    rcases h2 xs p e1 e2 with ⟨ys, q⟩ | q
    · exact k2 ys p q (h1.trans e2)
    · refine .inr fun z => q ?_
      cases e : B' p with
      | none => rfl
      | some o =>
        have := c.b p o e
        rw [z] at this
        cases this
theorem EntOk.up {e : Ent} {o : Option V} (sb : Same B B') (hm : ∀ xs p, e = .mu xs → o = some (.ref p) → B' p = none) (sh : Same H H') (h : EntOk Γ B H e o) : EntOk Γ B' H' e o := by
  cases e with
  | un => trivial
  | val d =>
    obtain ⟨v, e1, e2⟩ := h
    exact ⟨v, e1, Rep.mono sb d v e2⟩
  | mu xs =>
    obtain ⟨p, vs, e1, e2, e3, e4⟩ := h
    exact ⟨p, vs, e1, hm xs p rfl e1, sh _ _ e3, Reps.mono sb xs vs e4⟩
  | exn c ns xs =>
    obtain ⟨dd, vs, e1, e2, e3, e4, e5⟩ := h
    exact ⟨dd, vs, e1, e2, sh _ _ e3, e4, Reps.mono sb xs vs e5⟩
/-- the heap grew -/
theorem StOk.grow (s : StOk Γ env σ B H) (sb : Same B B') (sh : Same H H') (sbh : Same B' H') (ho : ∀ p, Own env σ p → B' p = none) : StOk Γ env σ B' H' :=
  ⟨sbh, s.len, fun i e o h1 h2 => (s.ent i e o h1 h2).up sb (fun xs p e1 e2 => ho p ⟨i, xs, by rw [h1, e1], by rw [h2, e2]⟩) sh, s.dis⟩
theorem Ext.grow (sb : Same B B') (sh : Same H H') (hn : ∀ p o, H p = some o → B p = none → B' p = none) : Ext Γ env σ B H env σ B' H' :=
  ⟨sb, fun p h z => h (sh.free z), fun p o h n => ⟨sh p o h, hn p o h, n⟩, fun i _ => ⟨rfl, fun xs p e _ => .inl ⟨xs, e⟩⟩⟩
theorem StOk.own_none (s : StOk Γ env σ B H) {p : Addr} (h : Own env σ p) : B p = none ∧ ∃ vs, H p = some (.lst vs) := by
  obtain ⟨i, xs, e1, e2⟩ := h
  obtain ⟨q, vs, h1, h2, h3, _⟩ := s.ent i _ _ e1 e2
  cases h1
  exact ⟨h2, vs, h3⟩
theorem StOk.own_tracked (s : StOk Γ env σ B H) {p : Addr} (h : Own env σ p) : H p ≠ none := by
  obtain ⟨_, vs, e⟩ := s.own_none h
  rw [e]
  exact fun z => nomatch z
theorem StOk.fresh_own (s : StOk Γ env σ B H) {p : Addr} (h : H p = none) : ¬ Own env σ p := fun z => s.own_tracked z h
theorem StOk.bfresh (s : StOk Γ env σ B H) {p : Addr} (h : H p = none) : B p = none := s.same.free h
theorem same_upd {H : Hp} {p : Addr} {o : HO} (h : H p = none) : Same H (upd H p o) := fun b x e => by
  rw [upd_ne (ne_of_none e h)]
  exact e
theorem same_upd2 {B H : Hp} {p : Addr} {o : HO} (s : Same B H) : Same (upd B p o) (upd H p o) := fun b x e => by
  by_cases hb : b = p
  · subst hb
    rw [upd_same] at e ⊢
    exact e
  · rw [upd_ne hb] at e ⊢
    exact s b x e
/-- a new thing, frozen -/
theorem StOk.new (s : StOk Γ env σ B H) {p : Addr} {o : HO} (h : H p = none) : StOk Γ env σ (upd B p o) (upd H p o) :=
  s.grow (same_upd (s.bfresh h)) (same_upd h) (same_upd2 s.same) fun q hq => by
    rw [upd_ne]
    · exact (s.own_none hq).1
    · rintro rfl
      exact s.own_tracked hq h
theorem Ext.new (s : StOk Γ env σ B H) {p : Addr} {o : HO} (h : H p = none) : Ext Γ env σ B H env σ (upd B p o) (upd H p o) :=
  Ext.grow (same_upd (s.bfresh h)) (same_upd h) fun q u hq hb => by
    rw [upd_ne (ne_of_none hq h)]
    exact hb
/-- a new thing that is not frozen -/
theorem StOk.newM (s : StOk Γ env σ B H) {p : Addr} {o : HO} (h : H p = none) : StOk Γ env σ B (upd H p o) :=
  s.grow (Same.refl _) (same_upd h) (s.same.trans (same_upd h)) fun q hq => (s.own_none hq).1
theorem Ext.newM {p : Addr} {o : HO} (h : H p = none) : Ext Γ env σ B H env σ B (upd H p o) :=
  Ext.grow (Same.refl _) (same_upd h) fun q u hq hb => hb
/-- a tracked thing is frozen -/
theorem same_frz {B H : Hp} {p : Addr} {o : HO} (s : Same B H) (h : H p = some o) : Same (upd B p o) H := fun b x e => by
  by_cases hb : b = p
  · subst hb
    rw [upd_same] at e
    rw [h]
    exact e
  · rw [upd_ne hb] at e
    exact s b x e
theorem StOk.frz (s : StOk Γ env σ B H) {p : Addr} {o : HO} (hb : B p = none) (h : H p = some o) (ho : ¬ Own env σ p) : StOk Γ env σ (upd B p o) H :=
  s.grow (same_upd hb) (Same.refl _) (same_frz s.same h) fun q hq => by
    rw [upd_ne]
    · exact (s.own_none hq).1
    · rintro rfl
      exact ho hq
/-- what a thing that is raised bears -/
def XnOk (Γ : Wd) (B H : Hp) (c : Str) (ns : List Str) (xs : List D) (cls : Value) (d : Option Addr) : Prop :=
  ∃ C dd vs, Γ.mg c = some (.ref C) ∧ cls = .ref C ∧ d = some dd ∧ H dd = some (.xd (ns.zip vs)) ∧ ns.length = vs.length ∧ Reps Γ B xs vs

/-- what is wanted behind an expression -/
def Post {α : Type} (Γ : Wd) (W : WX) (env : Sto) (σ : L2.St) (B H : Hp) (Φ : α → Sto → Hp → Hp → Prop) : Res α → Prop
  | .ok a env' => ∀ B' H', StOk Γ env' σ B' H' → Ext Γ env σ B H env' σ B' H' → Φ a env' B' H'
  | .err c ns xs env' => ∀ cls d B' H', StOk Γ env' σ B' H' → Ext Γ env σ B H env' σ B' H' → XnOk Γ B' H' c ns xs cls d → W cls d σ H'
  | .bad => False
theorem Post.bind {α β : Type} {W : WX} {Φ : β → Sto → Hp → Hp → Prop} {r : Res α} {k : α → Sto → Res β} (h : Post Γ W env σ B H Φ (r.bind k)) :
    Post Γ W env σ B H (fun a env' B' H' => Post Γ W env' σ B' H' Φ (k a env')) r := by
  cases r with
  | ok a e =>
    intro B' H' s x
    cases hk : k a e with
    | ok b e2 =>
      rw [Res.bind_ok, hk] at h
      exact fun B2 H2 s2 x2 => h B2 H2 s2 (x.trans x2)
    | err c ns xs e2 =>
      rw [Res.bind_ok, hk] at h
      exact fun cls d B2 H2 s2 x2 => h cls d B2 H2 s2 (x.trans x2)
    | bad =>
      rw [Res.bind_ok, hk] at h
      exact h.elim
  | err c ns xs e => exact h
  | bad => exact h
theorem Post.mono {α : Type} {W : WX} {Φ Ψ : α → Sto → Hp → Hp → Prop} {r : Res α} (h : Post Γ W env σ B H Φ r) (i : ∀ a env' B' H', StOk Γ env' σ B' H' → Ext Γ env σ B H env' σ B' H' → Φ a env' B' H' → Ψ a env' B' H') : Post Γ W env σ B H Ψ r := by
  cases r with
  | ok a e => exact fun B' H' s x => i a e B' H' s x (h B' H' s x)
  | err c ns xs e => exact h
  | bad => exact h
theorem Post.here {α : Type} {W : WX} {Φ : α → Sto → Hp → Hp → Prop} {a : α} (s : StOk Γ env σ B H) (h : Post Γ W env σ B H Φ (.ok a env)) : Φ a env B H := h B H s Ext.refl
end

/-! ### readings -/
abbrev DenV := Sto → Res D
abbrev DenT := Sto → Res Bool
abbrev DenF := Sto → Res Ent
def tV (Γ : Wd) (W : WX) (f : DenV) : TE := fun σ H Q => ∃ env B, StOk Γ env σ B H ∧ Post Γ W env σ B H (fun d _ B' H' => ∀ v, Rep Γ B' d v → Q v H') (f env)
def tT (Γ : Wd) (W : WX) (f : DenT) : TT := fun σ H Q => ∃ env B, StOk Γ env σ B H ∧ Post Γ W env σ B H (fun b _ _ H' => Q b H') (f env)
/-- a list that may be handed over: new, or of a slot that nobody watches -/
def FreeR (Γ : Wd) (env : Sto) (σ : L2.St) (H : Hp) (p : Addr) : Prop := H p = none ∨ ∃ (i : Nat) (xs : List D), i ∉ Γ.R ∧ env[i]? = some (.mu xs) ∧ σ[i]? = some (some (.ref p))
theorem FreeR.back {Γ : Wd} {env env1 : Sto} {σ σ1 : L2.St} {B H B1 H1 : Hp} {p : Addr} (s1 : StOk Γ env1 σ1 B1 H1) (x : Ext Γ env σ B H env1 σ1 B1 H1) (h : FreeR Γ env1 σ1 H1 p) : FreeR Γ env σ H p := by
  by_cases e : H p = none
  · exact .inl e
  · rcases h with h | ⟨i, xs, hi, e1, e2⟩
    · exact absurd h (x.t p e)
    · by_cases o : Own env σ p
      · obtain ⟨j, ys, k1, k2⟩ := o
        by_cases hj : j ∈ Γ.R
        · obtain ⟨r1, r2⟩ := x.r j hj
          rcases r2 ys p k1 k2 with ⟨zs, q⟩ | q
          · exact absurd (s1.dis i j xs zs p e1 q e2 (r1.trans k2)) (fun z => hi (z ▸ hj))
          · exact absurd (s1.own_none ⟨i, xs, e1, e2⟩).1 q
        · exact .inr ⟨j, ys, hj, k1, k2⟩
      · cases hp : H p with
        | none => exact absurd hp e
        | some u => exact absurd ⟨i, xs, e1, e2⟩ (x.f p u hp o).2.2
theorem FreeR.ne {Γ : Wd} {env : Sto} {σ : L2.St} {H : Hp} {p q : Addr} {o : HO} (h : FreeR Γ env σ H p) (hq : H q = some o) (n : ¬ Own env σ q) : q ≠ p := by
  rintro rfl
  rcases h with h | ⟨i, xs, hi, e1, e2⟩
  · rw [h] at hq; cases hq
  · exact n ⟨i, xs, e1, e2⟩
def RetOk (Γ : Wd) (P : Addr → Prop) (env' : Sto) (σ' : L2.St) (B' H' : Hp) : Ent → V → Prop
  | .val d, v => Rep Γ B' d v
  | .mu xs, v => ∃ p vs, v = .ref p ∧ P p ∧ B' p = none ∧ H' p = some (.lst vs) ∧ Reps Γ B' xs vs ∧ ¬ Own env' σ' p
  | _, _ => False
def tF (Γ : Wd) (W : WX) (f : DenF) : TE := fun σ H Q => ∃ env B, StOk Γ env σ B H ∧ Post Γ W env σ B H (fun r env' B' H' => ∀ v, RetOk Γ (FreeR Γ env σ H) env' σ B' H' r v → Q v H') (f env)
abbrev SV (X : Cx) (Γ : Wd) (W : WX) (e : Expr) (f : DenV) : Prop := PE X e (tV Γ W f)
abbrev ST (X : Cx) (Γ : Wd) (W : WX) (e : Expr) (f : DenT) : Prop := PT X e (tT Γ W f)
abbrev SF (X : Cx) (Γ : Wd) (W : WX) (e : Expr) (f : DenF) : Prop := PE X e (tF Γ W f)
section
variable {X : Cx} {e : Expr}
theorem imE {t t' : TE} (h : PE X e t) (i : ∀ σ H Q, t' σ H Q → t σ H Q) : PE X e t' := ⟨fun pins s σ H Q I q => h.run pins s σ H Q I (i σ H Q q)⟩
theorem imT {t t' : TT} (h : PT X e t) (i : ∀ σ H Q, t' σ H Q → t σ H Q) : PT X e t' := ⟨fun pins s σ H Q I q => h.run pins s σ H Q I (i σ H Q q)⟩
theorem imW {t t' : TT} (h : PW X e t) (i : ∀ σ H Q, t' σ H Q → t σ H Q) : PW X e t' := ⟨fun wh pins s σ H Q I q => h.run wh pins s σ H Q I (i σ H Q q)⟩
theorem imS {st : Stmt} {t t' : TS} (h : PS X st t) (i : ∀ Q σ H, t' Q σ H → t Q σ H) : PS X st t' := ⟨fun pins s σ H Q I q => h.run pins s σ H Q I (i Q σ H q)⟩
theorem imSs {st : List Stmt} {t t' : TS} (h : PSs X st t) (i : ∀ Q σ H, t' Q σ H → t Q σ H) : PSs X st t' := ⟨fun pins s σ H Q I q => h.run pins s σ H Q I (i Q σ H q)⟩
end
/-- a thing as data -/
def Ent.dat : Ent → Option D
  | .val d => some d
  | .mu xs => some (.lst xs)
  | _ => none
def frzE (r : Ent) (e : Sto) : Res D := match r with
  | .val d => .ok d e
  | .mu xs => .ok (.lst xs) e
  | _ => .bad
def dFrz (f : DenF) : DenV := fun env => (f env).bind frzE
def dVal (f : DenV) : DenF := fun env => (f env).bind fun d e => .ok (.val d) e
section
variable {X : Cx} {Γ : Wd} {W : WX} {e : Expr}
theorem Ext.frz {env env' : Sto} {σ σ' : L2.St} {B H B' H' : Hp} {a : Addr} {o : HO} (x : Ext Γ env σ B H env' σ' B' H') (h0 : FreeR Γ env σ H a) (h1 : B' a = none) : Ext Γ env σ B H env' σ' (upd B' a o) H' where
  b := x.b.trans (same_upd h1)
  t := x.t
  f := fun p u hp n => by
    obtain ⟨k1, k2, k3⟩ := x.f p u hp n
    exact ⟨k1, fun q => by rw [upd_ne (h0.ne hp n)]; exact k2 q, k3⟩
  r := fun i hi => by
    obtain ⟨k1, k2⟩ := x.r i hi
    refine ⟨k1, fun xs p e1 e2 => ?_⟩
    rcases k2 xs p e1 e2 with q | q
    · exact .inl q
    · refine .inr fun z => q ?_
      cases e : B' p with
      | none => rfl
      | some u =>
        have := same_upd (o := o) h1 p u e
        rw [z] at this
        cases this
/-- a fresh list goes where it may be read by all -/
theorem sFrz {f : DenF} (h : SF X Γ W e f) : SV X Γ W e (dFrz f) := imE h fun σ H Q ⟨env, B, s, p⟩ => by
  refine ⟨env, B, s, ?_⟩
  have p' : Post Γ W env σ B H (fun d _ B' H' => ∀ v, Rep Γ B' d v → Q v H') ((f env).bind frzE) := p
  cases hf : f env with
  | bad =>
    rw [hf] at p'
    exact p'
  | err c ns xs env' =>
    rw [hf] at p'
    exact p'
  | ok r env' =>
    rw [hf] at p'
    intro B' H' s' x v hv
    cases r with
    | val d => exact p' B' H' s' x v hv
    | mu xs =>
      obtain ⟨a, vs, rfl, h0, h1, h2, h3, h4⟩ := hv
      exact p' (upd B' a (.lst vs)) H' (s'.frz h1 h2 h4) (x.frz h0 h1) _ ⟨a, vs, rfl, upd_same, Reps.mono (same_upd h1) xs vs h3⟩
    | un => exact hv.elim
    | exn c ns xs => exact hv.elim
theorem sVal {f : DenV} (h : SV X Γ W e f) : SF X Γ W e (dVal f) := imE h fun σ H Q ⟨env, B, s, p⟩ =>
  ⟨env, B, s, p.bind.mono fun d env' B' H' s' x q v hv => Post.here s' q v hv⟩
end
end Ev
set_option Elab.async false
set_option linter.all false
set_option maxRecDepth 100000
set_option maxHeartbeats 4000000
namespace Ev
open PySem PySem.Spec PyProof.Rows L2

/-! ### == of data -/
mutual
def D.py : D → PyData
  | .non => .none
  | .bl b => .bool b
  | .int i => .int i
  | .str s => .str s
  | .tup xs => .tuple (pys xs)
  | .lst xs => .list (pys xs)
  | .fl xs => .list (pys xs)
  | .ins _ _ _ => .dict []
  | .fn _ => .dict []
def pys : List D → List PyData
  | [] => []
  | d :: ds => d.py :: pys ds
end
def deq (a b : D) : Bool := PyData.eqv a.py b.py
def deqs (a b : List D) : Bool := PyData.eqvAll (pys a) (pys b)
mutual
/-- no instance within, the texts sound, not deeper than n -/
def shp : Nat → D → Bool
  | _, .non => true
  | _, .bl _ => true
  | _, .int _ => true
  | _, .str s => PyData.strOk s
  | 0, .tup _ => false
  | 0, .lst _ => false
  | n + 1, .tup xs => shps n xs
  | n + 1, .lst xs => shps n xs
  | 0, .fl _ => false
  | n + 1, .fl xs => shps n xs
  | _, .ins _ _ _ => false
  | _, .fn _ => false
def shps : Nat → List D → Bool
  | _, [] => true
  | n, d :: ds => shp n d && shps n ds
end
mutual
theorem shp_ok : ∀ (n : Nat) (d : D), shp n d = true → d.py.canLay0 = true ∧ d.py.depth ≤ n
  | n, .non, _ => by simp [D.py, PyData.canLay0, PyData.depth]
  | n, .bl b, _ => by simp [D.py, PyData.canLay0, PyData.depth]
  | n, .int b, _ => by simp [D.py, PyData.canLay0, PyData.depth]
  | n, .str b, h => by
    have h' : PyData.strOk b = true := by simpa [shp] using h
    simp [D.py, PyData.canLay0, PyData.depth, h']
  | 0, .tup xs, h => by simp [shp] at h
  | 0, .lst xs, h => by simp [shp] at h
  | 0, .fl xs, h => by simp [shp] at h
  | n + 1, .tup xs, h => by
    have h' : shps n xs = true := by simpa [shp] using h
    obtain ⟨h1, h2⟩ := shps_ok n xs h'
    simp [D.py, PyData.canLay0, PyData.depth, h1, h2]
  | n + 1, .lst xs, h => by
    have h' : shps n xs = true := by simpa [shp] using h
    obtain ⟨h1, h2⟩ := shps_ok n xs h'
    simp [D.py, PyData.canLay0, PyData.depth, h1, h2]
  | n + 1, .fl xs, h => by
    have h' : shps n xs = true := by simpa [shp] using h
    obtain ⟨h1, h2⟩ := shps_ok n xs h'
    simp [D.py, PyData.canLay0, PyData.depth, h1, h2]
  | n, .ins _ _ _, h => by
    cases n <;> simp [shp] at h
  | n, .fn _, h => by
    cases n <;> simp [shp] at h
theorem shps_ok : ∀ (n : Nat) (ds : List D), shps n ds = true → PyData.canLayAll0 (pys ds) = true ∧ PyData.depthAll (pys ds) ≤ n
  | n, [], _ => by simp [pys, PyData.canLayAll0, PyData.depthAll]
  | n, d :: ds, h => by
    have h' : shp n d = true ∧ shps n ds = true := by simpa [shps] using h
    obtain ⟨h1, h2⟩ := shp_ok n d h'.1
    obtain ⟨h3, h4⟩ := shps_ok n ds h'.2
    simp only [pys, PyData.canLayAll0, PyData.depthAll, h1, h3, Bool.and_self, true_and]
    omega
end
theorem shaped_of {d : D} (h : shp 64 d = true) : SeqAt.shaped d.py = true := by
  obtain ⟨h1, h2⟩ := shp_ok 64 d h
  unfold SeqAt.shaped
  rw [h1, decide_eq_true h2]
  rfl

def D.isN : D → Bool
  | .non => true
  | _ => false
/-! ### operands that are read at their use -/
inductive Ar where
  | s (i : Nat) | v (d : D)
def ArOk (Γ : Wd) (B : Hp) (σ : L2.St) : Ar → V → Prop
  | .s i, v => σ[i]? = some (some v)
  | .v d, v => Rep Γ B d v
theorem ArOk.mono {Γ : Wd} {B B' : Hp} {σ : L2.St} (e : Same B B') {a : Ar} {v : V} (h : ArOk Γ B σ a v) : ArOk Γ B' σ a v := by
  cases a with
  | s i => exact h
  | v d => exact Rep.mono e d v h
def Ar.get : Ar → Sto → Option D
  | .v d, _ => some d
  | .s i, env => match env[i]? with
    | some (.val d) => some d
    | some (.mu xs) => some (.lst xs)
    | _ => none
/-- a thing as it stands now: its parts are frozen, itself perhaps not -/
def RepT (Γ : Wd) (B H : Hp) (d : D) (v : V) : Prop := Rep Γ B d v ∨ ∃ xs p vs, d = .lst xs ∧ v = .ref p ∧ H p = some (.lst vs) ∧ Reps Γ B xs vs
section
variable {Γ : Wd} {W : WX} {env env' : Sto} {σ : L2.St} {B H B' H' : Hp} {v : V}
theorem Ar.now (s : StOk Γ env σ B H) {a : Ar} {d : D} (h : ArOk Γ B σ a v) (g : a.get env = some d) : RepT Γ B H d v := by
  cases a with
  | v d' =>
    have e : d' = d := Option.some.inj g
    subst e
    exact .inl h
  | s i =>
    have h' : σ[i]? = some (some v) := h
    have g' : (match env[i]? with | some (.val d) => some d | some (.mu xs) => some (.lst xs) | _ => none) = some d := g
    cases e : env[i]? with
    | none => rw [e] at g'; cases g'
    | some en =>
      rw [e] at g'
      have k := s.ent i en _ e h'
      cases en with
      | val d' =>
        have e2 : d' = d := Option.some.inj g'
        subst e2
        obtain ⟨w, e3, r⟩ := k
        cases e3
        exact .inl r
      | mu xs =>
        have e2 : D.lst xs = d := Option.some.inj g'
        subst e2
        obtain ⟨p, vs, e3, _, hp, r⟩ := k
        cases e3
        exact .inr ⟨xs, p, vs, rfl, rfl, hp, r⟩
      | un => cases g'
      | exn c ns xs => cases g'
theorem RepT.tup {xs : List D} (s : Same B H) (h : RepT Γ B H (.tup xs) v) : ∃ p vs, v = .ref p ∧ SqT Γ.K H p vs ∧ Reps Γ B xs vs := by
  rcases h with ⟨a, vs, e, q, r⟩ | ⟨ys, p, vs, e1, e2, q, r⟩
  · exact ⟨a, vs, e, sqT_mono s q, r⟩
  · cases e1
theorem RepT.lst {xs : List D} (s : Same B H) (h : RepT Γ B H (.lst xs) v) : ∃ p vs, v = .ref p ∧ H p = some (.lst vs) ∧ Reps Γ B xs vs := by
  rcases h with ⟨a, vs, e, q, r⟩ | ⟨ys, p, vs, e1, e2, q, r⟩
  · exact ⟨a, vs, e, s _ _ q, r⟩
  · cases e1
    exact ⟨p, vs, e2, q, r⟩
theorem RepT.fl {xs : List D} (s : Same B H) (h : RepT Γ B H (.fl xs) v) : ∃ p vs, v = .ref p ∧ SqL Γ.K H p vs ∧ Reps Γ B xs vs := by
  rcases h with ⟨a, vs, e, q, r⟩ | ⟨ys, p, vs, e1, e2, q, r⟩
  · exact ⟨a, vs, e, s.seq q, r⟩
  · cases e1
/-- the items of a list or tuple -/
def D.its : D → Option (List D)
  | .tup xs => some xs
  | .lst xs => some xs
  | .fl xs => some xs
  | _ => none
theorem RepT.seq {d : D} {xs : List D} (s : Same B H) (h : RepT Γ B H d v) (e : d.its = some xs) : ∃ p vs, v = .ref p ∧ (SqL Γ.K H p vs ∨ SqT Γ.K H p vs) ∧ Reps Γ B xs vs := by
  cases d with
  | tup ys =>
    cases e
    obtain ⟨p, vs, h1, h2, h3⟩ := h.tup s
    exact ⟨p, vs, h1, .inr h2, h3⟩
  | lst ys =>
    cases e
    obtain ⟨p, vs, h1, h2, h3⟩ := h.lst s
    exact ⟨p, vs, h1, .inl (.inl (.inl h2)), h3⟩
  | fl ys =>
    cases e
    obtain ⟨p, vs, h1, h2, h3⟩ := h.fl s
    exact ⟨p, vs, h1, .inl h2, h3⟩
  | _ => cases e
theorem RepT.int {i : Int} (h : RepT Γ B H (.int i) v) : v = .int i := by
  rcases h with h | ⟨ys, p, vs, e1, e2, q, r⟩
  · exact h
  · cases e1
theorem RepT.bl {i : Bool} (h : RepT Γ B H (.bl i) v) : v = .bl i := by
  rcases h with h | ⟨ys, p, vs, e1, e2, q, r⟩
  · exact h
  · cases e1
theorem RepT.str {i : Str} (h : RepT Γ B H (.str i) v) : v = .str i := by
  rcases h with h | ⟨ys, p, vs, e1, e2, q, r⟩
  · exact h
  · cases e1
theorem RepT.non (h : RepT Γ B H .non v) : v = .non := by
  rcases h with h | ⟨ys, p, vs, e1, e2, q, r⟩
  · exact h
  · cases e1
theorem RepT.none_iff {d : D} (h : RepT Γ B H d v) : decide (v = .non) = d.isN := by
  cases d with
  | non => rw [h.non]; rfl
  | bl b => rw [h.bl]; rfl
  | int b => rw [h.int]; rfl
  | str b => rw [h.str]; rfl
  | tup xs =>
    rcases h with ⟨a, vs, e, q, r⟩ | ⟨ys, p, vs, e1, e2, q, r⟩
    · rw [e]; rfl
    · rw [e2]; rfl
  | lst xs =>
    rcases h with ⟨a, vs, e, q, r⟩ | ⟨ys, p, vs, e1, e2, q, r⟩
    · rw [e]; rfl
    · rw [e2]; rfl
  | fl xs =>
    rcases h with ⟨a, vs, e, q, r⟩ | ⟨ys, p, vs, e1, e2, q, r⟩
    · rw [e]; rfl
    · rw [e2]; rfl
  | ins c ns xs =>
    rcases h with ⟨a, dx, C, vs, e, q⟩ | ⟨ys, p, vs, e1, e2, q, r⟩
    · rw [e]; rfl
    · rw [e2]; rfl
  | fn x =>
    rcases h with ⟨a, e, q⟩ | ⟨ys, p, vs, e1, e2, q, r⟩
    · rw [e]; rfl
    · rw [e2]; rfl
mutual
theorem Rep.dp : ∀ (n : Nat) (d : D) (v : V), shp n d = true → Rep Γ B d v → Dp Γ.K B v d.py
  | _, .non, v, _, h => by
    have h' : v = .non := h
    rw [h']; exact .non
  | _, .bl b, v, _, h => by
    have h' : v = .bl b := h
    rw [h']; exact .bl b
  | _, .int b, v, _, h => by
    have h' : v = .int b := h
    rw [h']; exact .int b
  | _, .str b, v, _, h => by
    have h' : v = .str b := h
    rw [h']; exact .str b
  | 0, .tup xs, v, q, h => by simp [shp] at q
  | 0, .lst xs, v, q, h => by simp [shp] at q
  | 0, .fl xs, v, q, h => by simp [shp] at q
  | n + 1, .tup xs, v, q, h => by
    obtain ⟨a, vs, e, k, r⟩ := h
    rw [e]
    exact .tup k (Reps.dp n xs vs (by simpa [shp] using q) r)
  | n + 1, .lst xs, v, q, h => by
    obtain ⟨a, vs, e, k, r⟩ := h
    rw [e]
    exact .lst (.inl (.inl k)) (Reps.dp n xs vs (by simpa [shp] using q) r)
  | n + 1, .fl xs, v, q, h => by
    obtain ⟨a, vs, e, k, r⟩ := h
    rw [e]
    exact .lst k (Reps.dp n xs vs (by simpa [shp] using q) r)
  | n, .ins _ _ _, v, q, h => by
    cases n <;> simp [shp] at q
  | n, .fn _, v, q, h => by
    cases n <;> simp [shp] at q
theorem Reps.dp : ∀ (n : Nat) (ds : List D) (vs : List V), shps n ds = true → Reps Γ B ds vs → DpAll Γ.K B vs (pys ds)
  | n, [], vs, _, h => by
    have h' : vs = [] := h
    rw [h']; exact .nil
  | n, d :: ds, vs, q, h => by
    obtain ⟨v, r, e1, e2, e3⟩ := h
    have q' : shp n d = true ∧ shps n ds = true := by simpa [shps] using q
    rw [e1]
    exact .cons (Rep.dp n d v q'.1 e2) (Reps.dp n ds r q'.2 e3)
end
theorem RepT.dp {d : D} (s : Same B H) (q : shp 64 d = true) (h : RepT Γ B H d v) : Dp Γ.K H v d.py := by
  rcases h with h | ⟨xs, p, vs, rfl, rfl, hp, r⟩
  · exact Rep.dp 64 d v q (Rep.mono s d v h)
  · exact .lst (.inl (.inl hp)) (Reps.dp 63 xs vs (by simpa [shp] using q) (Reps.mono s xs vs r))
/-- what an operation may hand back -/
theorem Post.val {P0 : Addr → Prop} {Q : VK} {d : D} (s : StOk Γ env σ B H) (h : Post Γ W env σ B H (fun r env' B' H' => ∀ v, RetOk Γ P0 env' σ B' H' r v → Q v H') (.ok (.val d) env)) (r : Rep Γ B d v) : Q v H := Post.here s h v r
theorem Post.newT {P0 : Addr → Prop} {Q : VK} {xs : List D} {p : Addr} {vs : List V} (s : StOk Γ env σ B H) (h : Post Γ W env σ B H (fun r env' B' H' => ∀ v, RetOk Γ P0 env' σ B' H' r v → Q v H') (.ok (.val (.tup xs)) env)) (r : Reps Γ B xs vs) (hp : H p = none) : Q (.ref p) (upd H p (.tup vs)) :=
  h _ _ (s.new hp) (Ext.new s hp) _ ⟨p, vs, rfl, .inl (.inl upd_same), Reps.mono (same_upd (s.bfresh hp)) xs vs r⟩
theorem Post.newL {P0 : Addr → Prop} {Q : VK} {xs : List D} {p : Addr} {vs : List V} (h0 : ∀ p, H p = none → P0 p) (s : StOk Γ env σ B H) (h : Post Γ W env σ B H (fun r env' B' H' => ∀ v, RetOk Γ P0 env' σ B' H' r v → Q v H') (.ok (.mu xs) env)) (r : Reps Γ B xs vs) (hp : H p = none) : Q (.ref p) (upd H p (.lst vs)) :=
  h _ _ (s.newM hp) (Ext.newM hp) _ ⟨p, vs, rfl, h0 p hp, s.bfresh hp, upd_same, r, s.fresh_own hp⟩
theorem Ext.h0 {σ' : L2.St} (x : Ext Γ env σ B H env' σ' B' H') : ∀ p, H' p = none → H p = none := fun p h => by
  cases e : H p with
  | none => rfl
  | some o => exact absurd h (x.t p (by rw [e]; exact fun z => nomatch z))
end
abbrev DenL := Sto → Res Ar
abbrev DenA := Sto → Res (List Ar)
abbrev DenVs := Sto → Res (List D)
def ArsOk (Γ : Wd) (B : Hp) (σ : L2.St) : List Ar → List V → Prop
  | [], vs => vs = []
  | a :: as, vs => ∃ v r, vs = v :: r ∧ ArOk Γ B σ a v ∧ ArsOk Γ B σ as r
theorem ArsOk.mono {Γ : Wd} {B B' : Hp} {σ : L2.St} (e : Same B B') : ∀ {as : List Ar} {vs : List V}, ArsOk Γ B σ as vs → ArsOk Γ B' σ as vs
  | [], vs, h => h
  | a :: as, vs, h => by
    obtain ⟨v, r, e1, e2, e3⟩ := h
    exact ⟨v, r, e1, e2.mono e, ArsOk.mono e e3⟩
def tL (Γ : Wd) (W : WX) (f : DenL) : TE := fun σ H Q => ∃ env B, StOk Γ env σ B H ∧ Post Γ W env σ B H (fun a _ B' H' => ∀ v, ArOk Γ B' σ a v → Q v H') (f env)
def tAr (Γ : Wd) (W : WX) (f : DenA) : TA := fun σ H Q => ∃ env B, StOk Γ env σ B H ∧ Post Γ W env σ B H (fun a _ B' H' => ∀ v, ArsOk Γ B' σ a v → Q v H') (f env)
def tVs (Γ : Wd) (W : WX) (f : DenVs) : TA := fun σ H Q => ∃ env B, StOk Γ env σ B H ∧ Post Γ W env σ B H (fun a _ B' H' => ∀ v, Reps Γ B' a v → Q v H') (f env)
abbrev SL (X : Cx) (Γ : Wd) (W : WX) (e : Expr) (f : DenL) : Prop := PE X e (tL Γ W f)
abbrev SA (X : Cx) (Γ : Wd) (W : WX) (es : List Expr) (f : DenA) : Prop := PA X es (tAr Γ W f)
abbrev SVs (X : Cx) (Γ : Wd) (W : WX) (es : List Expr) (f : DenVs) : Prop := PA X es (tVs Γ W f)
theorem imA {X : Cx} {es : List Expr} {t t' : TA} (h : PA X es t) (i : ∀ σ H Q, t' σ H Q → t σ H Q) : PA X es t' := ⟨fun pos pins s σ H Q I q => h.run pos pins s σ H Q I (i σ H Q q)⟩

section
variable {X : Cx} {Γ : Wd} {W : WX} {e a b c : Expr} {es : List Expr} {pos : Pos}
/-! ### constants, names -/
def dC (d : D) : DenV := fun env => .ok d env
theorem sC {v : V} {d : D} (h : PE X e (tC v)) (r : ∀ B, Rep Γ B d v) : SV X Γ W e (dC d) := imE h fun σ H Q ⟨env, B, s, p⟩ => Post.here s p v (r B)
theorem sInt {i : Int} {j : Nat} : SV X Γ W (.Constant (.int i) j pos) (dC (.int i)) := sC pe_int fun _ => rfl
theorem sBl {i : Bool} {j : Nat} : SV X Γ W (.Constant (.bool i) j pos) (dC (.bl i)) := sC pe_bl fun _ => rfl
theorem sNon {j : Nat} : SV X Γ W (.Constant .none j pos) (dC .non) := sC pe_non fun _ => rfl
theorem sStr {i : Str} {j : Nat} : SV X Γ W (.Constant (.str i) j pos) (dC (.str i)) := sC pe_str fun _ => rfl
/-- a name, to be kept: a list is frozen -/
def dVar (i : Nat) : DenV := fun env => match env[i]? with
  | some (.val d) => .ok d env
  | some (.mu xs) => .ok (.lst xs) (env.set i (.val (.lst xs)))
  | _ => .bad
theorem Sto.set_get {env : Sto} {i j : Nat} {x e : Ent} (h : (env.set i x)[j]? = some e) : (i = j ∧ e = x) ∨ (i ≠ j ∧ env[j]? = some e) := by
  by_cases q : i = j
  · subst q
    by_cases k : i < env.length
    · rw [List.getElem?_set_self k] at h
      exact .inl ⟨rfl, (Option.some.inj h).symm⟩
    · rw [List.getElem?_eq_none (by rw [List.length_set]; omega)] at h
      cases h
  · rw [List.getElem?_set_ne q] at h
    exact .inr ⟨q, h⟩
theorem Own.freeze {env : Sto} {σ : L2.St} {i : Nat} {d : D} {p : Addr} (h : Own (env.set i (.val d)) σ p) : Own env σ p := by
  obtain ⟨j, xs, e1, e2⟩ := h
  rcases Sto.set_get e1 with ⟨_, q⟩ | ⟨_, q⟩
  · cases q
  · exact ⟨j, xs, q, e2⟩
/-- a list of a slot is frozen -/
theorem StOk.freeze {env : Sto} {σ : L2.St} {B H : Hp} {i : Nat} {xs : List D} {p : Addr} {vs : List V} (s : StOk Γ env σ B H) (hi : env[i]? = some (.mu xs)) (hs : σ[i]? = some (some (.ref p))) (hb : B p = none) (hp : H p = some (.lst vs)) (r : Reps Γ B xs vs) :
    StOk Γ (env.set i (.val (.lst xs))) σ (upd B p (.lst vs)) H where
  same := same_frz s.same hp
  len := by rw [List.length_set]; exact s.len
  ent := fun j e o h1 h2 => by
    rcases Sto.set_get h1 with ⟨rfl, rfl⟩ | ⟨ne, q⟩
    · rw [hs] at h2
      cases h2
      exact ⟨_, rfl, p, vs, rfl, upd_same, Reps.mono (same_upd hb) xs vs r⟩
    · refine (s.ent j e o q h2).up (same_upd hb) (fun ys q' e1 e2 => ?_) (Same.refl _)
      subst e1
      have hq : q' ≠ p := fun z => by
        subst z
        rw [e2] at h2
        exact ne (s.dis i j xs ys q' hi q hs h2)
      rw [upd_ne hq]
      exact (s.own_none ⟨j, ys, q, by rw [h2, e2]⟩).1
  dis := fun j k ys zs q h1 h2 h3 h4 => by
    rcases Sto.set_get h1 with ⟨_, z⟩ | ⟨_, q1⟩
    · cases z
    · rcases Sto.set_get h2 with ⟨_, z⟩ | ⟨_, q2⟩
      · cases z
      · exact s.dis j k ys zs q q1 q2 h3 h4
theorem Ext.freeze {env : Sto} {σ : L2.St} {B H : Hp} {i : Nat} {xs : List D} {p : Addr} {vs : List V} (s : StOk Γ env σ B H) (hi : env[i]? = some (.mu xs)) (hs : σ[i]? = some (some (.ref p))) (hb : B p = none) :
    Ext Γ env σ B H (env.set i (.val (.lst xs))) σ (upd B p (.lst vs)) H where
  b := same_upd hb
  t := fun _ h => h
  f := fun q o hq n => ⟨hq, fun z => by
    rw [upd_ne]
    · exact z
    · rintro rfl
      exact n ⟨i, xs, hi, hs⟩, fun z => n z.freeze⟩
  r := fun j hj => ⟨rfl, fun ys q e1 e2 => by
    by_cases z : i = j
    · subst z
      rw [hs] at e2
      cases e2
      exact .inr (by rw [upd_same]; exact fun z => nomatch z)
    · exact .inl ⟨ys, by rw [List.getElem?_set_ne z]; exact e1⟩⟩
theorem StOk.slot {env : Sto} {σ : L2.St} {B H : Hp} {i : Nat} {e : Ent} (s : StOk Γ env σ B H) (h : env[i]? = some e) : ∃ o, σ[i]? = some o ∧ EntOk Γ B H e o := by
  have hl : i < σ.length := by
    rw [← s.len]
    exact (List.getElem?_eq_some_iff.mp h).1
  exact ⟨σ[i], List.getElem?_eq_getElem hl, s.ent i e _ h (List.getElem?_eq_getElem hl)⟩
theorem sVar {i : Nat} (h : PE X e (tVar i)) : SV X Γ W e (dVar i) := imE h fun σ H Q ⟨env, B, s, p⟩ => by
  have p' : Post Γ W env σ B H (fun d _ B' H' => ∀ v, Rep Γ B' d v → Q v H') (match env[i]? with
    | some (.val d) => .ok d env
    | some (.mu xs) => .ok (.lst xs) (env.set i (.val (.lst xs)))
    | _ => .bad) := p
  cases hi : env[i]? with
  | none => rw [hi] at p'; exact p'.elim
  | some en =>
    rw [hi] at p'
    obtain ⟨o, ho, k⟩ := s.slot hi
    cases en with
    | val d =>
      obtain ⟨v, rfl, r⟩ := k
      exact ⟨v, ho, Post.here s p' v r⟩
    | mu xs =>
      obtain ⟨q, vs, rfl, hb, hq, r⟩ := k
      exact ⟨_, ho, p' _ _ (s.freeze hi ho hb hq r) (Ext.freeze s hi ho hb) _ ⟨q, vs, rfl, upd_same, Reps.mono (same_upd hb) xs vs r⟩⟩
    | un => exact p'.elim
    | exn c ns xs => exact p'.elim
/-- a name, to be read at its use -/
def dSlot (i : Nat) : DenL := fun env => match env[i]? with
  | some (.val d) => .ok (.v d) env
  | some (.mu xs) => .ok (.s i) env
  | _ => .bad
theorem sSlot {i : Nat} (h : PE X e (tVar i)) : SL X Γ W e (dSlot i) := imE h fun σ H Q ⟨env, B, s, p⟩ => by
  have p' : Post Γ W env σ B H (fun d _ B' H' => ∀ v, ArOk Γ B' σ d v → Q v H') (match env[i]? with
    | some (.val d) => .ok (.v d) env
    | some (.mu xs) => .ok (.s i) env
    | _ => .bad) := p
  cases hi : env[i]? with
  | none => rw [hi] at p'; exact p'.elim
  | some en =>
    rw [hi] at p'
    obtain ⟨o, ho, k⟩ := s.slot hi
    cases en with
    | val d =>
      obtain ⟨v, rfl, r⟩ := k
      exact ⟨v, ho, Post.here s p' v r⟩
    | mu xs =>
      obtain ⟨q, vs, rfl, hb, hq, r⟩ := k
      exact ⟨_, ho, Post.here s p' _ ho⟩
    | un => exact p'.elim
    | exn c ns xs => exact p'.elim
def dLV (f : DenV) : DenL := fun env => (f env).bind fun d e => .ok (.v d) e
theorem sLV {f : DenV} (h : SV X Γ W e f) : SL X Γ W e (dLV f) := imE h fun σ H Q ⟨env, B, s, p⟩ =>
  ⟨env, B, s, p.bind.mono fun d env' B' H' s' x q v hv => Post.here s' q v hv⟩
/-! ### two operands -/
def dBin (g : D → D → Option Ent) (f1 f2 : DenL) : DenF := fun env => (f1 env).bind fun a e1 => (f2 e1).bind fun b e2 => match a.get e2, b.get e2 with
  | some x, some y => (match g x y with
    | some r => .ok r e2
    | none => .bad)
  | _, _ => .bad
/-- the rule r serves g -/
def Serves (Γ : Wd) (W : WX) (r : R2) (g : D → D → Option Ent) : Prop := ∀ {x y : D} {ent : Ent} {env : Sto} {σ : L2.St} {B H : Hp} {P0 : Addr → Prop} {v w : V} {Q : VK}, g x y = some ent → StOk Γ env σ B H → RepT Γ B H x v → RepT Γ B H y w → (∀ p, H p = none → P0 p) →
  Post Γ W env σ B H (fun r env' B' H' => ∀ v, RetOk Γ P0 env' σ B' H' r v → Q v H') (.ok ent env) → r v w H Q
theorem tOp_of {r : R2} {g : D → D → Option Ent} {f1 f2 : DenL} (hg : Serves Γ W r g) {σ : L2.St} {H : Hp} {Q : VK} (h : tF Γ W (dBin g f1 f2) σ H Q) : tOp r (tL Γ W f1) (tL Γ W f2) σ H Q := by
  obtain ⟨env, B, s, p⟩ := h
  refine ⟨env, B, s, p.bind.mono fun a e1 B1 H1 s1 x1 q1 v hv => ⟨e1, B1, s1, q1.bind.mono fun b e2 B2 H2 s2 x2 q2 w hw => ?_⟩⟩
  cases ha : a.get e2 with
  | none => rw [ha] at q2; exact q2.elim
  | some x =>
    cases hb : b.get e2 with
    | none => rw [ha, hb] at q2; exact q2.elim
    | some y =>
      rw [ha, hb] at q2
      cases hr : g x y with
      | none =>
        have q3 : Post Γ W e2 σ B2 H2 (fun r env' B' H' => ∀ v, RetOk Γ (FreeR Γ env σ H) env' σ B' H' r v → Q v H') (match g x y with | some r => .ok r e2 | none => .bad) := q2
        rw [hr] at q3
        exact q3.elim
      | some ent =>
        have q3 : Post Γ W e2 σ B2 H2 (fun r env' B' H' => ∀ v, RetOk Γ (FreeR Γ env σ H) env' σ B' H' r v → Q v H') (match g x y with | some r => .ok r e2 | none => .bad) := q2
        rw [hr] at q3
        exact hg hr s2 (Ar.now s2 (hv.mono x2.b) ha) (Ar.now s2 hw hb) (fun p hp => .inl (x1.h0 p (x2.h0 p hp))) q3
theorem sBin {op : Operator} {r : R2} {g : D → D → Option Ent} {f1 f2 : DenL} (ho : OpR X (binaryOp op) r) (hg : Serves Γ W r g) (ha : SL X Γ W a f1) (hb : SL X Γ W b f2) : SF X Γ W (.BinOp a op b pos) (dBin g f1 f2) :=
  imE (pe_op ho ha hb) fun σ H Q h => tOp_of hg h
end
end Ev

set_option Elab.async false
set_option linter.all false
set_option maxRecDepth 100000
set_option maxHeartbeats 4000000
namespace Ev
open PySem PySem.Spec PyProof.Rows L2

theorem LN_le {n : Nat} (h : n ≤ 1000000) : n ≤ sizeLine := Nat.le_trans h (by decide)
theorem LN_lt {n : Nat} (h : n ≤ 1000000) : n < sizeLine := Nat.lt_of_le_of_lt h (by decide)

/-! ### arithmetic -/
def mulOk (i j : Int) : Bool := decide (i.natAbs.log2 + j.natAbs.log2 < 1000000)
def divOk (j : Int) : Bool := decide (j ≠ 0 ∧ j.natAbs.log2 < 9000)
def gAdd : D → D → Option Ent
  | .int i, .int j => some (.val (.int (i + j)))
  | .str a, .str b => if a.length + b.length ≤ 1000000 then some (.val (.str (a ++ b))) else none
  | .lst xs, .lst ys => if xs.length + ys.length ≤ 1000000 then some (.mu (xs ++ ys)) else none
  | .tup xs, .tup ys => if xs.length + ys.length ≤ 1000000 then some (.val (.tup (xs ++ ys))) else none
  | _, _ => none
def gSub : D → D → Option Ent
  | .int i, .int j => some (.val (.int (i - j)))
  | _, _ => none
def repD (k : Nat) (xs : List D) : List D := (List.replicate k xs).flatten
def gMul : D → D → Option Ent
  | .int i, .int j => if mulOk i j = true then some (.val (.int (i * j))) else none
  | .lst xs, .int k => if -(2 ^ 62) ≤ k ∧ k ≤ 2 ^ 62 ∧ xs.length * k.toNat ≤ 1000000 then some (.mu (repD k.toNat xs)) else none
  | .tup xs, .int k => if xs ≠ [] ∧ 2 ≤ k ∧ k ≤ 1000 ∧ xs.length ≤ 1000 then some (.val (.tup (repD k.toNat xs))) else none
  | _, _ => none
def gDiv : D → D → Option Ent
  | .int i, .int j => if divOk j = true then some (.val (.int (i.fdiv j))) else none
  | _, _ => none
def gMod : D → D → Option Ent
  | .int i, .int j => if j = 0 then none else some (.val (.int (i.fmod j)))
  | _, _ => none
def gPow : D → D → Option Ent
  | .int i, .int j => if 0 ≤ j ∧ j ≤ 1000000 ∧ i.natAbs < 2 ^ 64 then some (.val (.int (i ^ j.toNat))) else none
  | _, _ => none
def gShr : D → D → Option Ent
  | .int i, .int j => if 0 ≤ j then some (.val (.int (i / 2 ^ j.toNat))) else none
  | _, _ => none
def gAnd : D → D → Option Ent
  | .int i, .int j => some (.val (.int (Builtin.bitAnd i j)))
  | _, _ => none
theorem op_fdivX {X : Cx} : OpR X (binaryOp .FloorDiv) (rI (fun _ j => j ≠ 0 ∧ j.natAbs.log2 < 9000) fun i j => .int (i.fdiv j)) := opI fun _ _ _ _ _ _ _ hc q => floordiv_int hc.1 q (.inl (PyProof.noPylong_of_log2 hc.2))

section
variable {X : Cx} {Γ : Wd} {W : WX}
theorem Serves.or1 {r r' : R2} {g : D → D → Option Ent} (h : Serves Γ W r g) : Serves Γ W (fun x y H Q => r x y H Q ∨ r' x y H Q) g := fun e s h1 h2 h0 p => .inl (h e s h1 h2 h0 p)
/-- the reading of + -/
def rAddE (K : PySem.W.Frag) : R2 := fun x y H Q => ((rI0 fun i j => .int (i + j)) x y H Q ∨ (∃ i j, x = .str i ∧ y = .str j ∧ i.length + j.length ≤ sizeLine ∧ Q (.str (i ++ j)) H)) ∨ (rCat x y H Q ∨ rCatA K x y H Q)
theorem op_addE : OpR X (binaryOp .Add) (rAddE X.K) := (op_add.or op_add_str).or (op_cat.or op_catA)
theorem rep_nil {Γ : Wd} {B : Hp} {xs : List D} {vs : List V} (r : Reps Γ B xs vs) : vs = [] ↔ xs = [] := by
  have e := r.length
  constructor
  · intro h; rw [h] at e; exact List.length_eq_zero_iff.mp e
  · intro h; rw [h] at e; exact List.length_eq_zero_iff.mp e.symm
theorem sv_add : Serves Γ W (rAddE Γ.K) gAdd := by
  intro x y ent env σ B H P0 v w Q hg s hx hy h0 p
  cases x with
  | int i => cases y with
    | int j =>
      cases hg
      exact .inl (.inl ⟨i, j, hx.int, hy.int, Post.val s p rfl⟩)
    | _ => cases hg
  | str i => cases y with
    | str j =>
      have hg' : (if i.length + j.length ≤ 1000000 then some (Ent.val (.str (i ++ j))) else none) = some ent := hg
      split at hg'
      · cases hg'
        rename_i hl
        exact .inl (.inr ⟨i, j, hx.str, hy.str, LN_le hl, Post.val s p rfl⟩)
      · cases hg'
    | _ => cases hg
  | lst xs => cases y with
    | lst ys =>
      have hg' : (if xs.length + ys.length ≤ 1000000 then some (Ent.mu (xs ++ ys)) else none) = some ent := hg
      split at hg'
      · cases hg'
        rename_i hl
        obtain ⟨a, vs, e1, e2, e3⟩ := hx.lst s.same
        obtain ⟨b, ws, k1, k2, k3⟩ := hy.lst s.same
        exact .inr (.inl ⟨a, b, vs, ws, e1, k1, e2, k2, LN_le (by rw [← e3.length, ← k3.length]; exact hl), fun q hq => Post.newL h0 s p (e3.append k3) hq⟩)
      · cases hg'
    | _ => cases hg
  | tup xs => cases y with
    | tup ys =>
      have hg' : (if xs.length + ys.length ≤ 1000000 then some (Ent.val (.tup (xs ++ ys))) else none) = some ent := hg
      split at hg'
      · cases hg'
        rename_i hl
        have hx' := hx
        have hy' := hy
        obtain ⟨a, vs, e1, e2, e3⟩ := hx.tup s.same
        obtain ⟨b, ws, k1, k2, k3⟩ := hy.tup s.same
        refine .inr (.inr ⟨a, b, vs, ws, e1, k1, e2, k2, LN_le (by rw [← e3.length, ← k3.length]; exact hl), fun z => ?_, fun z1 z2 => ?_, fun _ _ q hq => Post.newT s p (e3.append k3) hq⟩)
        · have z' := (rep_nil e3).mp z
          subst z'
          rw [← k1]
          rcases hy' with r | ⟨_, _, _, c, _⟩
          · exact Post.val s p r
          · cases c
        · have z' := (rep_nil k3).mp z2
          subst z'
          rw [← e1]
          rcases hx' with r | ⟨_, _, _, c, _⟩
          · refine Post.val s p ?_
            rw [List.append_nil]
            exact r
          · cases c
      · cases hg'
    | _ => cases hg
  | _ => cases hg
theorem sv_sub : Serves Γ W (rI0 fun i j => .int (i - j)) gSub := by
  intro x y ent env σ B H P0 v w Q hg s hx hy h0 p
  cases x with
  | int i => cases y with
    | int j =>
      cases hg
      exact ⟨i, j, hx.int, hy.int, Post.val s p rfl⟩
    | _ => cases hg
  | _ => cases hg
def rMulE (K : PySem.W.Frag) : R2 := fun x y H Q => rI CMulW (fun i j => .int (i * j)) x y H Q ∨ (rRep x y H Q ∨ rRepT K x y H Q)
theorem op_mulE : OpR X (binaryOp .Mult) (rMulE X.K) := op_mulW.or (op_rep.or op_repT)
theorem Reps.repeat {Γ : Wd} {B : Hp} {xs : List D} {vs : List V} (r : Reps Γ B xs vs) : ∀ k : Nat, Reps Γ B (repD k xs) (List.replicate k vs).flatten
  | 0 => rfl
  | k + 1 => by
    show Reps Γ B (List.replicate (k + 1) xs).flatten _
    rw [List.replicate_succ, List.replicate_succ, List.flatten_cons, List.flatten_cons]
    exact r.append (Reps.repeat r k)
theorem sv_mul : Serves Γ W (rMulE Γ.K) gMul := by
  intro x y ent env σ B H P0 v w Q hg s hx hy h0 p
  cases x with
  | int i => cases y with
    | int j =>
      have hg' : (if mulOk i j = true then some (Ent.val (.int (i * j))) else none) = some ent := hg
      split at hg'
      · cases hg'
        rename_i hl
        exact .inl ⟨i, j, hx.int, hy.int, (of_decide_eq_true hl : i.natAbs.log2 + j.natAbs.log2 < 1000000), Post.val s p rfl⟩
      · cases hg'
    | _ => cases hg
  | lst xs => cases y with
    | int k =>
      have hg' : (if -(2 ^ 62) ≤ k ∧ k ≤ 2 ^ 62 ∧ xs.length * k.toNat ≤ 1000000 then some (Ent.mu (repD k.toNat xs)) else none) = some ent := hg
      split at hg'
      · cases hg'
        rename_i hl
        obtain ⟨a, vs, e1, e2, e3⟩ := hx.lst s.same
        exact .inr (.inl ⟨a, k, vs, e1, hy.int, e2, by have := hl.1; omega, by have := hl.2.1; omega, LN_le (by rw [← e3.length]; exact hl.2.2), fun q hq => Post.newL h0 s p (e3.repeat _) hq⟩)
      · cases hg'
    | _ => cases hg
  | tup xs => cases y with
    | int k =>
      have hg' : (if xs ≠ [] ∧ 2 ≤ k ∧ k ≤ 1000 ∧ xs.length ≤ 1000 then some (Ent.val (.tup (repD k.toNat xs))) else none) = some ent := hg
      split at hg'
      · cases hg'
        rename_i hl
        obtain ⟨a, vs, e1, e2, e3⟩ := hx.tup s.same
        exact .inr (.inr ⟨a, k, vs, e1, hy.int, e2, fun z => hl.1 ((rep_nil e3).mp z), hl.2.1, hl.2.2.1, by rw [← e3.length]; exact hl.2.2.2, fun q hq => Post.newT s p (e3.repeat _) hq⟩)
      · cases hg'
    | _ => cases hg
  | _ => cases hg
theorem sv_div : Serves Γ W (rI (fun _ j => j ≠ 0 ∧ j.natAbs.log2 < 9000) fun i j => .int (i.fdiv j)) gDiv := by
  intro x y ent env σ B H P0 v w Q hg s hx hy h0 p
  cases x with
  | int i => cases y with
    | int j =>
      have hg' : (if divOk j = true then some (Ent.val (.int (i.fdiv j))) else none) = some ent := hg
      split at hg'
      · cases hg'
        rename_i hl
        exact ⟨i, j, hx.int, hy.int, of_decide_eq_true hl, Post.val s p rfl⟩
      · cases hg'
    | _ => cases hg
  | _ => cases hg
theorem sv_mod : Serves Γ W (rI (fun _ j => j ≠ 0) fun i j => .int (i.fmod j)) gMod := by
  intro x y ent env σ B H P0 v w Q hg s hx hy h0 p
  cases x with
  | int i => cases y with
    | int j =>
      have hg' : (if j = 0 then none else some (Ent.val (.int (i.fmod j)))) = some ent := hg
      split at hg'
      · cases hg'
      · cases hg'
        rename_i hl
        exact ⟨i, j, hx.int, hy.int, hl, Post.val s p rfl⟩
    | _ => cases hg
  | _ => cases hg
theorem sv_pow : Serves Γ W (rI CPow fun i j => .int (i ^ j.toNat)) gPow := by
  intro x y ent env σ B H P0 v w Q hg s hx hy h0 p
  cases x with
  | int i => cases y with
    | int j =>
      have hg' : (if 0 ≤ j ∧ j ≤ 1000000 ∧ i.natAbs < 2 ^ 64 then some (Ent.val (.int (i ^ j.toNat))) else none) = some ent := hg
      split at hg'
      · cases hg'
        rename_i hl
        exact ⟨i, j, hx.int, hy.int, hl, Post.val s p rfl⟩
      · cases hg'
    | _ => cases hg
  | _ => cases hg
theorem sv_shr : Serves Γ W (rI (fun _ j => 0 ≤ j) fun i j => .int (i / 2 ^ j.toNat)) gShr := by
  intro x y ent env σ B H P0 v w Q hg s hx hy h0 p
  cases x with
  | int i => cases y with
    | int j =>
      have hg' : (if 0 ≤ j then some (Ent.val (.int (i / 2 ^ j.toNat))) else none) = some ent := hg
      split at hg'
      · cases hg'
        rename_i hl
        exact ⟨i, j, hx.int, hy.int, hl, Post.val s p rfl⟩
      · cases hg'
    | _ => cases hg
  | _ => cases hg
theorem sv_and : Serves Γ W (rI0 fun i j => .int (Builtin.bitAnd i j)) gAnd := by
  intro x y ent env σ B H P0 v w Q hg s hx hy h0 p
  cases x with
  | int i => cases y with
    | int j =>
      cases hg
      exact ⟨i, j, hx.int, hy.int, Post.val s p rfl⟩
    | _ => cases hg
  | _ => cases hg
/-! ### comparisons -/
def vb (b : Bool) : Option Ent := some (.val (.bl b))
def gEq (a b : D) : Option Ent := if shp 64 a = true ∧ shp 64 b = true then vb (deq a b) else none
def gNe (a b : D) : Option Ent := if shp 64 a = true ∧ shp 64 b = true then vb (!deq a b) else none
def gLt : D → D → Option Ent
  | .int i, .int j => vb (decide (i < j))
  | _, _ => none
def gLe : D → D → Option Ent
  | .int i, .int j => vb (decide (i ≤ j))
  | _, _ => none
def gGt : D → D → Option Ent
  | .int i, .int j => vb (decide (j < i))
  | _, _ => none
def gGe : D → D → Option Ent
  | .int i, .int j => vb (decide (j ≤ i))
  | _, _ => none
def gIs : D → D → Option Ent
  | x, .non => vb x.isN
  | .bl a, .bl b => vb (decide (a = b))
  | _, _ => none
def gIsNot : D → D → Option Ent
  | x, .non => vb (!x.isN)
  | .bl a, .bl b => vb (!decide (a = b))
  | _, _ => none
theorem sv_eq : Serves Γ W (rEqD Γ.K) gEq := by
  intro x y ent env σ B H P0 v w Q hg s hx hy h0 p
  unfold gEq at hg
  split at hg
  · cases hg
    rename_i hl
    exact ⟨_, _, hx.dp s.same hl.1, hy.dp s.same hl.2, shaped_of hl.1, shaped_of hl.2, Post.val s p rfl⟩
  · cases hg
theorem sv_ne : Serves Γ W (rNeD Γ.K) gNe := by
  intro x y ent env σ B H P0 v w Q hg s hx hy h0 p
  unfold gNe at hg
  split at hg
  · cases hg
    rename_i hl
    exact ⟨_, _, hx.dp s.same hl.1, hy.dp s.same hl.2, shaped_of hl.1, shaped_of hl.2, Post.val s p rfl⟩
  · cases hg
theorem sv_cmpI {f : Int → Int → Bool} {g : D → D → Option Ent} (h1 : ∀ i j, g (.int i) (.int j) = vb (f i j)) (h2 : ∀ x y ent, g x y = some ent → ∃ i j, x = .int i ∧ y = .int j) : Serves Γ W (rI0 fun i j => .bl (f i j)) g := by
  intro x y ent env σ B H P0 v w Q hg s hx hy h0 p
  obtain ⟨i, j, rfl, rfl⟩ := h2 x y ent hg
  rw [h1] at hg
  cases hg
  exact ⟨i, j, hx.int, hy.int, Post.val s p rfl⟩
theorem sv_lt : Serves Γ W (rI0 fun i j => .bl (decide (i < j))) gLt := sv_cmpI (fun _ _ => rfl) fun x y ent h => by
  cases x <;> cases y <;> first | exact ⟨_, _, rfl, rfl⟩ | cases h
theorem sv_le : Serves Γ W (rI0 fun i j => .bl (decide (i ≤ j))) gLe := sv_cmpI (fun _ _ => rfl) fun x y ent h => by
  cases x <;> cases y <;> first | exact ⟨_, _, rfl, rfl⟩ | cases h
theorem sv_gt : Serves Γ W (rI0 fun i j => .bl (decide (j < i))) gGt := sv_cmpI (fun _ _ => rfl) fun x y ent h => by
  cases x <;> cases y <;> first | exact ⟨_, _, rfl, rfl⟩ | cases h
theorem sv_ge : Serves Γ W (rI0 fun i j => .bl (decide (j ≤ i))) gGe := sv_cmpI (fun _ _ => rfl) fun x y ent h => by
  cases x <;> cases y <;> first | exact ⟨_, _, rfl, rfl⟩ | cases h
def rIsE : R2 := fun x y H Q => (y = .non ∧ Q (.bl (decide (x = .non))) H) ∨ rIsB x y H Q
def rIsNotE : R2 := fun x y H Q => (y = .non ∧ Q (.bl (!decide (x = .non))) H) ∨ rNotB x y H Q
theorem op_isE : OpR X (compareOp .Is) rIsE := op_isN.or op_isBl
theorem op_isNotE : OpR X (compareOp .IsNot) rIsNotE := op_notN.or op_notBl
theorem sv_is : Serves Γ W rIsE gIs := by
  intro x y ent env σ B H P0 v w Q hg s hx hy h0 p
  cases y with
  | non =>
    have hg' : vb x.isN = some ent := by
      cases x <;> exact hg
    cases hg'
    refine .inl ⟨hy.non, ?_⟩
    rw [hx.none_iff]
    exact Post.val s p rfl
  | bl b => cases x with
    | bl a =>
      cases hg
      exact .inr ⟨a, b, hx.bl, hy.bl, Post.val s p rfl⟩
    | _ => cases hg
  | _ => cases x <;> cases hg
theorem sv_isNot : Serves Γ W rIsNotE gIsNot := by
  intro x y ent env σ B H P0 v w Q hg s hx hy h0 p
  cases y with
  | non =>
    have hg' : vb (!x.isN) = some ent := by
      cases x <;> exact hg
    cases hg'
    refine .inl ⟨hy.non, ?_⟩
    rw [hx.none_iff]
    exact Post.val s p rfl
  | bl b => cases x with
    | bl a =>
      cases hg
      exact .inr ⟨a, b, hx.bl, hy.bl, Post.val s p rfl⟩
    | _ => cases hg
  | _ => cases x <;> cases hg

variable {e a b c : Expr} {pos : Pos} {f1 f2 f3 : DenL} {g g' : D → D → Option Ent} {r r' : R2}
/-- a comparison as a value -/
theorem sCmp {op : CmpOp} (ho : OpR X (compareOp op) r) (hg : Serves Γ W r g) (ha : SL X Γ W a f1) (hb : SL X Γ W b f2) (hm : behindInMarks op b = false) : SF X Γ W (.Compare a [op] [b] pos) (dBin g f1 f2) :=
  imE (pe_cmpR ho ha hb hm) fun σ H Q h => tOp_of hg h
def dTB (f : DenF) : DenT := fun env => (f env).bind fun r e => match r with
  | .val (.bl b) => .ok b e
  | _ => .bad
theorem tTB_of {f : DenF} {σ : L2.St} {H : Hp} {Q : Bool → Hp → Prop} (h : tT Γ W (dTB f) σ H Q) : tF Γ W f σ H (fun x H' => ∃ k, x = .bl k ∧ Q k H') := by
  obtain ⟨env, B, s, p⟩ := h
  refine ⟨env, B, s, p.bind.mono fun r e1 B1 H1 s1 x1 q1 v hv => ?_⟩
  cases r with
  | val d => cases d with
    | bl k => exact ⟨k, hv, Post.here s1 q1⟩
    | _ => exact q1.elim
  | _ => exact q1.elim
/-- as a test -/
theorem sCmpT {op : CmpOp} (ho : OpR X (compareOp op) r) (hg : Serves Γ W r g) (ha : SL X Γ W a f1) (hb : SL X Γ W b f2) (hm : behindInMarks op b = false) : ST X Γ W (.Compare a [op] [b] pos) (dTB (dBin g f1 f2)) :=
  imT (pt_cmpR ho ha hb hm) fun σ H Q h => tOp_of hg (tTB_of h)
/-- a op b op' c -/
def dChain (g g' : D → D → Option Ent) (f1 f2 f3 : DenL) : DenF := fun env => (f1 env).bind fun a e1 => (f2 e1).bind fun b e2 => match a.get e2, b.get e2 with
  | some x, some y => (match g x y with
    | some (.val (.bl true)) => (f3 e2).bind fun c e3 => (match b.get e3, c.get e3 with
      | some y, some z => (match g' y z with
        | some r => .ok r e3
        | none => .bad)
      | _, _ => .bad)
    | some (.val (.bl false)) => .ok (.val (.bl false)) e2
    | _ => .bad)
  | _, _ => .bad
theorem tChain_of (hg : Serves Γ W r g) (hg' : Serves Γ W r' g') {σ : L2.St} {H : Hp} {Q : VK} (h : tF Γ W (dChain g g' f1 f2 f3) σ H Q) : tChain r r' (tL Γ W f1) (tL Γ W f2) (tL Γ W f3) σ H Q := by
  obtain ⟨env, B, s, p⟩ := h
  refine ⟨env, B, s, p.bind.mono fun a e1 B1 H1 s1 x1 q1 v hv => ⟨e1, B1, s1, q1.bind.mono fun b e2 B2 H2 s2 x2 q2 w hw => ?_⟩⟩
  cases ha : a.get e2 with
  | none => rw [ha] at q2; exact q2.elim
  | some x =>
    cases hb : b.get e2 with
    | none => rw [ha, hb] at q2; exact q2.elim
    | some y =>
      rw [ha, hb] at q2
      have q3 : Post Γ W e2 σ B2 H2 (fun r env' B' H' => ∀ v, RetOk Γ (FreeR Γ env σ H) env' σ B' H' r v → Q v H') (match g x y with
        | some (.val (.bl true)) => (f3 e2).bind fun c e3 => (match b.get e3, c.get e3 with
          | some y, some z => (match g' y z with
            | some r => .ok r e3
            | none => .bad)
          | _, _ => .bad)
        | some (.val (.bl false)) => .ok (.val (.bl false)) e2
        | _ => .bad) := q2
      have h02 : ∀ p, H2 p = none → H p = none := fun p hp => x1.h0 p (x2.h0 p hp)
      cases hr : g x y with
      | none => rw [hr] at q3; exact q3.elim
      | some ent =>
        rw [hr] at q3
        refine hg (P0 := FreeR Γ env σ H) hr s2 (Ar.now s2 (hv.mono x2.b) ha) (Ar.now s2 hw hb) (fun p hp => .inl (h02 p hp)) ?_
        cases ent with
        | val d => cases d with
          | bl k =>
            intro B3 H3 s3 x3 u hu
            refine ⟨k, hu, ?_⟩
            cases k with
            | false =>
              rw [if_neg Bool.false_ne_true]
              exact q3 B3 H3 s3 x3 _ rfl
            | true =>
              rw [if_pos rfl]
              have q4 : Post Γ W e2 σ B3 H3 (fun r env' B' H' => ∀ v, RetOk Γ (FreeR Γ env σ H) env' σ B' H' r v → Q v H') ((f3 e2).bind fun c e3 => (match b.get e3, c.get e3 with
                | some y, some z => (match g' y z with
                  | some r => .ok r e3
                  | none => .bad)
                | _, _ => .bad)) := by
                have q5 : Post Γ W e2 σ B2 H2 (fun r env' B' H' => ∀ v, RetOk Γ (FreeR Γ env σ H) env' σ B' H' r v → Q v H') ((f3 e2).bind fun c e3 => (match b.get e3, c.get e3 with
                  | some y, some z => (match g' y z with
                    | some r => .ok r e3
                    | none => .bad)
                  | _, _ => .bad)) := q3
                exact (show Post Γ W e2 σ B2 H2 (fun (_ : Unit) env' B' H' => Post Γ W env' σ B' H' (fun r env' B' H' => ∀ v, RetOk Γ (FreeR Γ env σ H) env' σ B' H' r v → Q v H') ((f3 env').bind fun c e3 => (match b.get e3, c.get e3 with
                  | some y, some z => (match g' y z with
                    | some r => .ok r e3
                    | none => .bad)
                  | _, _ => .bad))) (Res.ok () e2) from (Post.bind (α := Unit) (r := .ok () e2) (k := fun _ env' => (f3 env').bind fun c e3 => (match b.get e3, c.get e3 with
                  | some y, some z => (match g' y z with
                    | some r => .ok r e3
                    | none => .bad)
                  | _, _ => .bad)) q5)) B3 H3 s3 x3
              refine ⟨e2, B3, s3, q4.bind.mono fun c' e3 B4 H4 s4 x4 q6 z hz => ?_⟩
              cases hb3 : b.get e3 with
              | none => rw [hb3] at q6; exact q6.elim
              | some y' =>
                cases hc3 : c'.get e3 with
                | none => rw [hb3, hc3] at q6; exact q6.elim
                | some z' =>
                  rw [hb3, hc3] at q6
                  have q7 : Post Γ W e3 σ B4 H4 (fun r env' B' H' => ∀ v, RetOk Γ (FreeR Γ env σ H) env' σ B' H' r v → Q v H') (match g' y' z' with | some r => .ok r e3 | none => .bad) := q6
                  cases hr' : g' y' z' with
                  | none => rw [hr'] at q7; exact q7.elim
                  | some ent' =>
                    rw [hr'] at q7
                    exact hg' hr' s4 (Ar.now s4 (hw.mono (x3.b.trans x4.b)) hb3) (Ar.now s4 hz hc3) (fun p hp => .inl (h02 p (x3.h0 p (x4.h0 p hp)))) q7
          | _ => exact q3.elim
        | _ => exact q3.elim
theorem sChain {op op' : CmpOp} (ho : OpR X (compareOp op) r) (ho' : OpR X (compareOp op') r') (hg : Serves Γ W r g) (hg' : Serves Γ W r' g') (ha : SL X Γ W a f1) (hb : SL X Γ W b f2) (hc : SL X Γ W c f3)
    (hm : lastMarks [op, op'] [b, c] = false) : SF X Γ W (.Compare a [op, op'] [b, c] pos) (dChain g g' f1 f2 f3) := imE (pe_chain ho ho' ha hb hc hm) fun σ H Q h => tChain_of hg hg' h
theorem sChainT {op op' : CmpOp} (ho : OpR X (compareOp op) r) (ho' : OpR X (compareOp op') r') (hg : Serves Γ W r g) (hg' : Serves Γ W r' g') (ha : SL X Γ W a f1) (hb : SL X Γ W b f2) (hc : SL X Γ W c f3)
    (hm : lastMarks [op, op'] [b, c] = false) : ST X Γ W (.Compare a [op, op'] [b, c] pos) (dTB (dChain g g' f1 f2 f3)) := imT (pt_chain ho ho' ha hb hc hm) fun σ H Q h => tChain_of hg hg' (tTB_of h)

/-! ### signs, truth -/
def dNeg (f : DenV) : DenV := fun env => (f env).bind fun d e => match d with
  | .int i => .ok (.int (-i)) e
  | _ => .bad
theorem sNeg {f : DenV} (h : SV X Γ W a f) : SV X Γ W (.UnaryOp .USub a pos) (dNeg f) := imE (pe_un un_neg h) fun σ H Q ⟨env, B, s, p⟩ => by
  refine ⟨env, B, s, p.bind.mono fun d e1 B1 H1 s1 x1 q1 v hv => ?_⟩
  cases d with
  | int i => exact ⟨i, hv, Post.here s1 q1 _ rfl⟩
  | _ => exact q1.elim
/-- a truth value, as a test -/
def dBT (f : DenV) : DenT := fun env => (f env).bind fun d e => match d with
  | .bl b => .ok b e
  | _ => .bad
theorem tBT_of {f : DenV} {σ : L2.St} {H : Hp} {Q : Bool → Hp → Prop} (h : tT Γ W (dBT f) σ H Q) : tV Γ W f σ H (fun x H' => ∃ k, x = .bl k ∧ Q k H') := by
  obtain ⟨env, B, s, p⟩ := h
  refine ⟨env, B, s, p.bind.mono fun r e1 B1 H1 s1 x1 q1 v hv => ?_⟩
  cases r with
  | bl k => exact ⟨k, hv, Post.here s1 q1⟩
  | _ => exact q1.elim
/-- truth of a thing -/
def truth : D → Option Bool
  | .non => some false
  | .bl b => some b
  | .int i => some (i != 0)
  | .str s => if s.length ≤ 1000000 then some ((s.length : Int) != 0) else none
  | .tup xs => some (!xs.isEmpty)
  | .lst xs => some (!xs.isEmpty)
  | .fl xs => some (!xs.isEmpty)
  | .ins _ _ _ => none
  | .fn _ => none
def dTru (f : DenL) : DenT := fun env => (f env).bind fun a e => match a.get e with
  | some d => (match truth d with
    | some b => .ok b e
    | none => .bad)
  | none => .bad
theorem isEmpty_reps {Γ : Wd} {B : Hp} {xs : List D} {vs : List V} (r : Reps Γ B xs vs) : xs.isEmpty = vs.isEmpty := by
  have e := r.length
  cases xs <;> cases vs <;> first | rfl | cases e
theorem RepT.truth {B H : Hp} {d : D} {v : V} {k : Bool} (s : Same B H) (h : RepT Γ B H d v) (e : truth d = some k) : TruV Γ.K v H k := by
  cases d with
  | non => cases e; rw [h.non]; rfl
  | bl b => cases e; rw [h.bl]; rfl
  | int b => cases e; rw [h.int]; rfl
  | str z =>
    have e' : (if z.length ≤ 1000000 then some ((z.length : Int) != 0) else none) = some k := e
    split at e'
    · cases e'
      rename_i hl
      rw [h.str]
      exact ⟨LN_le hl, rfl⟩
    · cases e'
  | tup xs =>
    cases e
    obtain ⟨p, vs, e1, e2, e3⟩ := h.tup s
    rw [e1, isEmpty_reps e3]
    exact .inr (.inl ⟨vs, e2, rfl⟩)
  | lst xs =>
    cases e
    obtain ⟨p, vs, e1, e2, e3⟩ := h.lst s
    rw [e1, isEmpty_reps e3]
    exact .inl ⟨vs, .inl (.inl e2), rfl⟩
  | fl xs =>
    cases e
    obtain ⟨p, vs, e1, e2, e3⟩ := h.fl s
    rw [e1, isEmpty_reps e3]
    exact .inl ⟨vs, e2, rfl⟩
  | ins c ns xs => cases e
  | fn x => cases e
theorem sTru (hK : X.K = Γ.K) (ha : SL X Γ W a f1) (he : ∀ whole, isTrue a X.env whole = (do let v ← whole; standAt a.pos; holding [v] (truthy v)) := by intro _; rfl) : ST X Γ W a (dTru f1) :=
  imT (pt_truth ha he) fun σ H Q ⟨env, B, s, p⟩ => by
    refine ⟨env, B, s, p.bind.mono fun d e1 B1 H1 s1 x1 q1 v hv => ?_⟩
    cases hd : d.get e1 with
    | none => rw [hd] at q1; exact q1.elim
    | some y =>
      rw [hd] at q1
      have q2 : Post Γ W e1 σ B1 H1 (fun b _ _ H' => Q b H') (match Ev.truth y with | some b => .ok b e1 | none => .bad) := q1
      cases ht : Ev.truth y with
      | none => rw [ht] at q2; exact q2.elim
      | some k =>
        rw [ht] at q2
        refine ⟨k, ?_, Post.here s1 q2⟩
        rw [hK]
        exact (Ar.now s1 hv hd).truth s1.same ht
/-! ### not, and, or, if -/
def dNotT (f : DenT) : DenT := fun env => (f env).bind fun b e => .ok (!b) e
def dAndT (f g : DenT) : DenT := fun env => (f env).bind fun b e => if b = true then g e else .ok false e
def dOrT (f g : DenT) : DenT := fun env => (f env).bind fun b e => if b = true then .ok true e else g e
variable {t1 t2 : DenT} {rest : List Expr}
theorem sNotT (h : ST X Γ W a t1) : ST X Γ W (.UnaryOp .Not a pos) (dNotT t1) := imT (pt_not h) fun σ H Q ⟨env, B, s, p⟩ =>
  ⟨env, B, s, p.bind.mono fun b e1 B1 H1 s1 x1 q1 => Post.here s1 q1⟩
abbrev SW (X : Cx) (Γ : Wd) (W : WX) (e : Expr) (f : DenT) : Prop := PW X e (tT Γ W f)
theorem sAndT1 (h : ST X Γ W a t1) : SW X Γ W (.BoolOp .And [a] pos) t1 := pw_and1 h
theorem sOrT1 (h : ST X Γ W a t1) : SW X Γ W (.BoolOp .Or [a] pos) t1 := pw_or1 h
theorem sAndT (h : ST X Γ W a t1) (k : SW X Γ W (.BoolOp .And (b :: rest) pos) t2) : SW X Γ W (.BoolOp .And (a :: b :: rest) pos) (dAndT t1 t2) := imW (pw_and h k) fun σ H Q ⟨env, B, s, p⟩ => by
  refine ⟨env, B, s, p.bind.mono fun b e1 B1 H1 s1 x1 q1 => ?_⟩
  cases b with
  | true =>
    rw [if_pos rfl] at q1 ⊢
    exact ⟨e1, B1, s1, q1⟩
  | false =>
    rw [if_neg Bool.false_ne_true] at q1 ⊢
    exact Post.here s1 q1
theorem sOrT (h : ST X Γ W a t1) (k : SW X Γ W (.BoolOp .Or (b :: rest) pos) t2) : SW X Γ W (.BoolOp .Or (a :: b :: rest) pos) (dOrT t1 t2) := imW (pw_or h k) fun σ H Q ⟨env, B, s, p⟩ => by
  refine ⟨env, B, s, p.bind.mono fun b e1 B1 H1 s1 x1 q1 => ?_⟩
  cases b with
  | true =>
    rw [if_pos rfl] at q1 ⊢
    exact Post.here s1 q1
  | false =>
    rw [if_neg Bool.false_ne_true] at q1 ⊢
    exact ⟨e1, B1, s1, q1⟩
theorem sWT (h : SW X Γ W a t1) : ST X Γ W a t1 := h.pt
/-- as values, all but the last truth values -/
def dAndV (f g : DenV) : DenV := fun env => (dBT f env).bind fun b e => if b = true then g e else .ok (.bl false) e
def dOrV (f g : DenV) : DenV := fun env => (dBT f env).bind fun b e => if b = true then .ok (.bl true) e else g e
def dNotV (f : DenV) : DenV := fun env => (dBT f env).bind fun b e => .ok (.bl (!b)) e
variable {v1 v2 : DenV} {op : BoolOp}
theorem sOneV (h : SV X Γ W a v1) : SV X Γ W (.BoolOp op [a] pos) v1 := pe_one h
theorem tBT_bind {α : Type} {f : DenV} {k : Bool → Sto → Res α} {Φ : α → Sto → Hp → Hp → Prop} {env : Sto} {σ : L2.St} {B H : Hp} (p : Post Γ W env σ B H Φ ((dBT f env).bind k)) :
    Post Γ W env σ B H (fun d e1 B1 H1 => ∀ v, Rep Γ B1 d v → ∃ c, v = .bl c ∧ Post Γ W e1 σ B1 H1 Φ (k c e1)) (f env) := by
  have p2 := p.bind
  unfold dBT at p2
  refine p2.bind.mono fun d e1 B1 H1 s1 x1 q1 v hv => ?_
  cases d with
  | bl c => exact ⟨c, hv, Post.here s1 q1⟩
  | _ => exact q1.elim
theorem sAndV (h : SV X Γ W a v1) (k : SV X Γ W (.BoolOp .And (b :: rest) pos) v2) : SV X Γ W (.BoolOp .And (a :: b :: rest) pos) (dAndV v1 v2) := imE (pe_and h k) fun σ H Q ⟨env, B, s, p⟩ => by
  refine ⟨env, B, s, (tBT_bind p).mono fun d e1 B1 H1 s1 x1 q1 v hv => ?_⟩
  obtain ⟨c, rfl, q2⟩ := q1 v hv
  refine ⟨c, rfl, ?_⟩
  cases c with
  | true =>
    rw [if_pos rfl] at q2 ⊢
    exact ⟨e1, B1, s1, q2⟩
  | false =>
    rw [if_neg Bool.false_ne_true] at q2 ⊢
    exact Post.here s1 q2 _ rfl
theorem sOrV (h : SV X Γ W a v1) (k : SV X Γ W (.BoolOp .Or (b :: rest) pos) v2) : SV X Γ W (.BoolOp .Or (a :: b :: rest) pos) (dOrV v1 v2) := imE (pe_or h k) fun σ H Q ⟨env, B, s, p⟩ => by
  refine ⟨env, B, s, (tBT_bind p).mono fun d e1 B1 H1 s1 x1 q1 v hv => ?_⟩
  obtain ⟨c, rfl, q2⟩ := q1 v hv
  refine ⟨c, rfl, ?_⟩
  cases c with
  | true =>
    rw [if_pos rfl] at q2 ⊢
    exact Post.here s1 q2 _ rfl
  | false =>
    rw [if_neg Bool.false_ne_true] at q2 ⊢
    exact ⟨e1, B1, s1, q2⟩
theorem sNotV (h : SV X Γ W a v1) : SV X Γ W (.UnaryOp .Not a pos) (dNotV v1) := imE (pe_not h) fun σ H Q ⟨env, B, s, p⟩ => by
  refine ⟨env, B, s, (tBT_bind p).mono fun d e1 B1 H1 s1 x1 q1 v hv => ?_⟩
  obtain ⟨c, rfl, q2⟩ := q1 v hv
  exact ⟨c, rfl, Post.here s1 q2 _ rfl⟩
/-- a if t else b -/
def dIf (t : DenT) (f g : DenV) : DenV := fun env => (t env).bind fun b e => if b = true then f e else g e
theorem sIf (h : ST X Γ W c t1) (ha : SV X Γ W a v1) (hb : SV X Γ W b v2) : SV X Γ W (.IfExp c a b pos) (dIf t1 v1 v2) := imE (pe_ifExp h ha hb) fun σ H Q ⟨env, B, s, p⟩ => by
  refine ⟨env, B, s, p.bind.mono fun b e1 B1 H1 s1 x1 q1 => ?_⟩
  cases b with
  | true =>
    rw [if_pos rfl] at q1 ⊢
    exact ⟨e1, B1, s1, q1⟩
  | false =>
    rw [if_neg Bool.false_ne_true] at q1 ⊢
    exact ⟨e1, B1, s1, q1⟩
def dIfF (t : DenT) (f g : DenF) : DenF := fun env => (t env).bind fun b e => if b = true then f e else g e
theorem RetOk.imp {P P' : Addr → Prop} {env' : Sto} {σ' : L2.St} {B' H' : Hp} {r : Ent} {v : V} (h : ∀ p, P p → P' p) (k : RetOk Γ P env' σ' B' H' r v) : RetOk Γ P' env' σ' B' H' r v := by
  cases r with
  | val d => exact k
  | mu xs =>
    obtain ⟨p, vs, e1, e2, e3⟩ := k
    exact ⟨p, vs, e1, h p e2, e3⟩
  | _ => exact k
theorem sIfF {u1 u2 : DenF} (h : ST X Γ W c t1) (ha : SF X Γ W a u1) (hb : SF X Γ W b u2) : SF X Γ W (.IfExp c a b pos) (dIfF t1 u1 u2) := imE (pe_ifExp h ha hb) fun σ H Q ⟨env, B, s, p⟩ => by
  refine ⟨env, B, s, p.bind.mono fun b e1 B1 H1 s1 x1 q1 => ?_⟩
  cases b with
  | true =>
    rw [if_pos rfl] at q1 ⊢
    exact ⟨e1, B1, s1, q1.mono fun r env' B' H' s' x' q v hv => q v (hv.imp fun p hp => hp.back s1 x1)⟩
  | false =>
    rw [if_neg Bool.false_ne_true] at q1 ⊢
    exact ⟨e1, B1, s1, q1.mono fun r env' B' H' s' x' q v hv => q v (hv.imp fun p hp => hp.back s1 x1)⟩
end
end Ev

set_option Elab.async false
set_option linter.all false
set_option maxRecDepth 100000
set_option maxHeartbeats 4000000
namespace Ev
open PySem PySem.Spec PyProof.Rows L2

section
variable {X : Cx} {Γ : Wd} {W : WX} {e a b c : Expr} {es : List Expr} {pos : Pos} {f1 f2 f3 : DenL} {r : R2} {g : D → D → Option Ent}
/-! ### several things -/
def dVs : List DenV → DenVs
  | [] => fun env => .ok [] env
  | f :: fs => fun env => (f env).bind fun d e => (dVs fs e).bind fun ds e2 => .ok (d :: ds) e2
theorem sVsNil : SVs X Γ W [] (dVs []) := imA pa_nil fun σ H Q ⟨env, B, s, p⟩ => Post.here s p [] rfl
theorem sVsCons {f : DenV} {fs : List DenV} (h : SV X Γ W e f) (k : SVs X Γ W es (dVs fs)) (hs : starEach (e :: es) X.env = (false, eval e X.env) :: starEach es X.env := by rfl) : SVs X Γ W (e :: es) (dVs (f :: fs)) :=
  imA (pa_cons h k hs) fun σ H Q ⟨env, B, s, p⟩ =>
    ⟨env, B, s, p.bind.mono fun d e1 B1 H1 s1 x1 q1 v hv => ⟨e1, B1, s1, q1.bind.mono fun ds e2 B2 H2 s2 x2 q2 vs hvs => Post.here s2 q2 (v :: vs) ⟨v, vs, rfl, Rep.mono x2.b d v hv, hvs⟩⟩⟩
def dArs : List DenL → DenA
  | [] => fun env => .ok [] env
  | f :: fs => fun env => (f env).bind fun d e => (dArs fs e).bind fun ds e2 => .ok (d :: ds) e2
theorem sArNil : SA X Γ W [] (dArs []) := imA pa_nil fun σ H Q ⟨env, B, s, p⟩ => Post.here s p [] rfl
theorem sArCons {f : DenL} {fs : List DenL} (h : SL X Γ W e f) (k : SA X Γ W es (dArs fs)) (hs : starEach (e :: es) X.env = (false, eval e X.env) :: starEach es X.env := by rfl) : SA X Γ W (e :: es) (dArs (f :: fs)) :=
  imA (pa_cons h k hs) fun σ H Q ⟨env, B, s, p⟩ =>
    ⟨env, B, s, p.bind.mono fun d e1 B1 H1 s1 x1 q1 v hv => ⟨e1, B1, s1, q1.bind.mono fun ds e2 B2 H2 s2 x2 q2 vs hvs => Post.here s2 q2 (v :: vs) ⟨v, vs, rfl, hv.mono x2.b, hvs⟩⟩⟩
def dTup (fs : List DenV) : DenV := fun env => (dVs fs env).bind fun ds e => if ds.length ≤ 1000000 then .ok (.tup ds) e else .bad
def dLst (fs : List DenV) : DenF := fun env => (dVs fs env).bind fun ds e => if ds.length ≤ 1000000 then .ok (.mu ds) e else .bad
theorem sTup {fs : List DenV} {k : Nat} (h : SVs X Γ W es (dVs fs)) : SV X Γ W (.Tuple es k pos) (dTup fs) := imE (pe_tup h) fun σ H Q ⟨env, B, s, p⟩ => by
  refine ⟨env, B, s, p.bind.mono fun ds e1 B1 H1 s1 x1 q1 vs hvs => ?_⟩
  split at q1
  · rename_i hl
    exact ⟨LN_le (by rw [← hvs.length]; exact hl), fun p hp => q1 _ _ (s1.new hp) (Ext.new s1 hp) _ ⟨p, vs, rfl, .inl (.inl upd_same), Reps.mono (same_upd (s1.bfresh hp)) ds vs hvs⟩⟩
  · exact q1.elim
theorem sLst {fs : List DenV} (h : SVs X Γ W es (dVs fs)) : SF X Γ W (.List es pos) (dLst fs) := imE (pe_lst h) fun σ H Q ⟨env, B, s, p⟩ => by
  refine ⟨env, B, s, p.bind.mono fun ds e1 B1 H1 s1 x1 q1 vs hvs => ?_⟩
  split at q1
  · rename_i hl
    exact ⟨LN_le (by rw [← hvs.length]; exact hl), fun p hp => q1 _ _ (s1.newM hp) (Ext.newM hp) _ ⟨p, vs, rfl, .inl (x1.h0 p hp), s1.bfresh hp, upd_same, hvs, s1.fresh_own hp⟩⟩
  · exact q1.elim
/-! ### subscripts -/
def gIx : D → D → Option Ent
  | .tup xs, .int i => (atI xs i).map .val
  | .lst xs, .int i => (atI xs i).map .val
  | .fl xs, .int i => (atI xs i).map .val
  | .str s, .int i => if s.length ≤ 1000000 then (atI s.cps.toList i).map fun c => .val (.str ⟨#[c]⟩) else none
  | _, _ => none
theorem Reps.atI {B : Hp} {xs : List D} {vs : List V} {i : Int} {d : D} (r : Reps Γ B xs vs) (h : L2.atI xs i = some d) : ∃ v, L2.atI vs i = some v ∧ Rep Γ B d v := by
  unfold L2.atI at h ⊢
  rw [← r.length]
  cases e : ixN xs.length i with
  | none => rw [e] at h; cases h
  | some j =>
    rw [e] at h
    exact r.get h
theorem sv_ix : Serves Γ W (rIx Γ.K) gIx := by
  intro x y ent env σ B H P0 v w Q hg s hx hy h0 p
  have key : ∀ (xs : List D) (i : Int), (L2.atI xs i).map Ent.val = some ent → ∀ vs, Reps Γ B xs vs → ∃ v, L2.atI vs i = some v ∧ Q v H := fun xs i hm vs r => by
    cases ha : L2.atI xs i with
    | none => rw [ha] at hm; cases hm
    | some d =>
      rw [ha] at hm
      cases hm
      obtain ⟨v, h1, h2⟩ := r.atI ha
      exact ⟨v, h1, Post.val s p h2⟩
  cases y with
  | int i =>
    cases x with
    | tup xs =>
      obtain ⟨q, vs, e1, e2, e3⟩ := hx.tup s.same
      obtain ⟨z, k1, k2⟩ := key xs i hg vs e3
      exact .inr (.inl ⟨q, vs, i, z, e1, hy.int, e2, k1, k2⟩)
    | lst xs =>
      obtain ⟨q, vs, e1, e2, e3⟩ := hx.lst s.same
      obtain ⟨z, k1, k2⟩ := key xs i hg vs e3
      exact .inl ⟨q, vs, i, z, e1, hy.int, .inl (.inl e2), k1, k2⟩
    | fl xs =>
      obtain ⟨q, vs, e1, e2, e3⟩ := hx.fl s.same
      obtain ⟨z, k1, k2⟩ := key xs i hg vs e3
      exact .inl ⟨q, vs, i, z, e1, hy.int, e2, k1, k2⟩
    | str z =>
      have hg' : (if z.length ≤ 1000000 then (L2.atI z.cps.toList i).map (fun c => Ent.val (.str ⟨#[c]⟩)) else none) = some ent := hg
      split at hg'
      · rename_i hl
        cases ha : L2.atI z.cps.toList i with
        | none => rw [ha] at hg'; cases hg'
        | some c =>
          rw [ha] at hg'
          cases hg'
          exact .inr (.inr ⟨z, i, c, hx.str, hy.int, LN_le hl, ha, Post.val s p rfl⟩)
      · cases hg'
    | _ => cases hg
  | _ => cases x <;> cases hg
theorem sIx (hK : X.K = Γ.K) (ha : SL X Γ W a f1) (hb : SL X Γ W b f2) (hs : PlainIx b := by exact fun _ _ => rfl) : SF X Γ W (.Subscript a b pos) (dBin gIx f1 f2) :=
  imE (pe_ix (ix_seq (X := X)) ha hb hs) fun σ H Q h => by
    rw [hK]
    exact tOp_of sv_ix h
/-! ### slices -/
abbrev DenP := Sto → Res (Option Int)
def dPn : DenP := fun env => .ok none env
def dPs (f : DenV) : DenP := fun env => (f env).bind fun d e => match d with
  | .int i => .ok (some i) e
  | _ => .bad
def tP (Γ : Wd) (W : WX) (f : DenP) : TO := fun σ H Q => ∃ env B, StOk Γ env σ B H ∧ Post Γ W env σ B H (fun o _ _ H' => Q o H') (f env)
abbrev SP' (X : Cx) (Γ : Wd) (W : WX) (e : Option Expr) (f : DenP) : Prop := PO X e (tP Γ W f)
theorem imO {e : Option Expr} {t t' : TO} (h : PO X e t) (i : ∀ σ H Q, t' σ H Q → t σ H Q) : PO X e t' := ⟨fun pins s σ H Q I q => h.run pins s σ H Q I (i σ H Q q)⟩
theorem sPn : SP' X Γ W none dPn := imO po_none fun σ H Q ⟨env, B, s, p⟩ => Post.here s p
theorem sPs {f : DenV} (h : SV X Γ W e f) : SP' X Γ W (some e) (dPs f) := imO (po_some h) fun σ H Q ⟨env, B, s, p⟩ => by
  refine ⟨env, B, s, p.bind.mono fun d e1 B1 H1 s1 x1 q1 v hv => ?_⟩
  cases d with
  | int i => exact ⟨i, hv, Post.here s1 q1⟩
  | _ => exact q1.elim
def cutD (xs : List D) (lo hi : Option Int) : List D := (xs.drop (HT.sIx xs.length 0 lo)).take (HT.sIx xs.length xs.length hi - HT.sIx xs.length 0 lo)
def gSl (x : D) (lo hi : Option Int) : Option Ent := match x with
  | .tup xs => some (.val (.tup (cutD xs lo hi)))
  | .lst xs => some (.mu (cutD xs lo hi))
  | .fl xs => some (.mu (cutD xs lo hi))
  | _ => none
def dSl (f : DenL) (l h : DenP) : DenF := fun env => (f env).bind fun a e1 => (l e1).bind fun lo e2 => (h e2).bind fun hi e3 => match a.get e3 with
  | some x => (match gSl x lo hi with
    | some r => .ok r e3
    | none => .bad)
  | none => .bad
theorem Reps.cut {B : Hp} {xs : List D} {vs : List V} (r : Reps Γ B xs vs) (lo hi : Option Int) : Reps Γ B (cutD xs lo hi) (cutV vs lo hi) := by
  unfold cutD cutV
  rw [← r.length]
  exact (r.drop _).take _
theorem cutD_whole {xs : List D} {lo hi : Option Int} (h : HT.sIx xs.length 0 lo = 0 ∧ HT.sIx xs.length xs.length hi = xs.length) : cutD xs lo hi = xs := by
  unfold cutD
  rw [h.1, h.2]
  simp
theorem sSl {el eh : Option Expr} {l h : DenP} {p2 : Pos} (hK : X.K = Γ.K) (ha : SL X Γ W a f1) (hl : SP' X Γ W el l) (hh : SP' X Γ W eh h) : SF X Γ W (.Subscript a (.Slice el eh none p2) pos) (dSl f1 l h) :=
  imE (pe_slice ((sl_list (X := X)).or (sl_tupA (X := X))) ha hl hh) fun σ H Q ⟨env, B, s, p⟩ => by
    refine ⟨env, B, s, p.bind.mono fun a' e1 B1 H1 s1 x1 q1 v hv => ⟨e1, B1, s1, q1.bind.mono fun lo e2 B2 H2 s2 x2 q2 => ⟨e2, B2, s2, q2.bind.mono fun hi e3 B3 H3 s3 x3 q3 => ?_⟩⟩⟩
    cases ha : a'.get e3 with
    | none => rw [ha] at q3; exact q3.elim
    | some x =>
      rw [ha] at q3
      have hx := Ar.now s3 (hv.mono (x2.b.trans x3.b)) ha
      have h0 : ∀ p, H3 p = none → FreeR Γ env σ H p := fun p hp => .inl (x1.h0 p (x2.h0 p (x3.h0 p hp)))
      cases x with
      | tup xs =>
        have q4 : Post Γ W e3 σ B3 H3 (fun r env' B' H' => ∀ v, RetOk Γ (FreeR Γ env σ H) env' σ B' H' r v → Q v H') (.ok (.val (.tup (cutD xs lo hi))) e3) := q3
        have hx' := hx
        obtain ⟨q, vs, k1, k2, k3⟩ := hx.tup s3.same
        refine .inr ⟨q, vs, k1, by rw [hK]; exact k2, fun hw => ?_, fun hw p hp => Post.newT s3 q4 (k3.cut lo hi) hp⟩
        rw [← k1]
        rw [← k3.length] at hw
        rw [cutD_whole hw] at q4
        rcases hx' with r | ⟨_, _, _, c, _⟩
        · exact Post.val s3 q4 r
        · cases c
      | lst xs =>
        have q4 : Post Γ W e3 σ B3 H3 (fun r env' B' H' => ∀ v, RetOk Γ (FreeR Γ env σ H) env' σ B' H' r v → Q v H') (.ok (.mu (cutD xs lo hi)) e3) := q3
        obtain ⟨q, vs, k1, k2, k3⟩ := hx.lst s3.same
        exact .inl ⟨q, vs, k1, .inl (.inl k2), fun p hp => Post.newL h0 s3 q4 (k3.cut lo hi) hp⟩
      | fl xs =>
        have q4 : Post Γ W e3 σ B3 H3 (fun r env' B' H' => ∀ v, RetOk Γ (FreeR Γ env σ H) env' σ B' H' r v → Q v H') (.ok (.mu (cutD xs lo hi)) e3) := q3
        obtain ⟨q, vs, k1, k2, k3⟩ := hx.fl s3.same
        exact .inl ⟨q, vs, k1, by rw [hK]; exact k2, fun p hp => Post.newL h0 s3 q4 (k3.cut lo hi) hp⟩
      | _ => exact q3.elim
/-! ### built-in functions -/
def getAll : List Ar → Sto → Option (List D)
  | [], _ => some []
  | a :: as, env => match a.get env, getAll as env with
    | some d, some ds => some (d :: ds)
    | _, _ => none
def RepTs (Γ : Wd) (B H : Hp) : List D → List V → Prop
  | [], vs => vs = []
  | d :: ds, vs => ∃ v r, vs = v :: r ∧ RepT Γ B H d v ∧ RepTs Γ B H ds r
theorem getAll_now {env : Sto} {σ : L2.St} {B H : Hp} (s : StOk Γ env σ B H) : ∀ {as : List Ar} {vs : List V} {ds : List D}, ArsOk Γ B σ as vs → getAll as env = some ds → RepTs Γ B H ds vs
  | [], vs, ds, h, g => by
    cases g
    exact h
  | a :: as, vs, ds, h, g => by
    obtain ⟨v, r, e1, e2, e3⟩ := h
    have g' : (match a.get env, getAll as env with | some d, some ds => some (d :: ds) | _, _ => none) = some ds := g
    cases ha : a.get env with
    | none => rw [ha] at g'; cases g'
    | some d =>
      cases hr : getAll as env with
      | none => rw [ha, hr] at g'; cases g'
      | some ds' =>
        rw [ha, hr] at g'
        cases g'
        exact ⟨v, r, e1, Ar.now s e2 ha, getAll_now s e3 hr⟩
def ServesN (Γ : Wd) (W : WX) (r : List V → Hp → VK → Prop) (g : List D → Option Ent) : Prop := ∀ {ds : List D} {ent : Ent} {env : Sto} {σ : L2.St} {B H : Hp} {P0 : Addr → Prop} {vs : List V} {Q : VK}, g ds = some ent → StOk Γ env σ B H → RepTs Γ B H ds vs → (∀ p, H p = none → P0 p) →
  Post Γ W env σ B H (fun r env' B' H' => ∀ v, RetOk Γ P0 env' σ B' H' r v → Q v H') (.ok ent env) → r vs H Q
def dCB (g : List D → Option Ent) (fs : DenA) : DenF := fun env => (fs env).bind fun as e => match getAll as e with
  | some ds => (match g ds with
    | some r => .ok r e
    | none => .bad)
  | none => .bad
theorem tCB_of {r : List V → Hp → VK → Prop} {g : List D → Option Ent} {fs : DenA} (hg : ServesN Γ W r g) {σ : L2.St} {H : Hp} {Q : VK} (h : tF Γ W (dCB g fs) σ H Q) : tCB r (tAr Γ W fs) σ H Q := by
  obtain ⟨env, B, s, p⟩ := h
  refine ⟨env, B, s, p.bind.mono fun as e1 B1 H1 s1 x1 q1 vs hvs => ?_⟩
  cases ha : getAll as e1 with
  | none => rw [ha] at q1; exact q1.elim
  | some ds =>
    rw [ha] at q1
    have q2 : Post Γ W e1 σ B1 H1 (fun r env' B' H' => ∀ v, RetOk Γ (FreeR Γ env σ H) env' σ B' H' r v → Q v H') (match g ds with | some r => .ok r e1 | none => .bad) := q1
    cases hr : g ds with
    | none => rw [hr] at q2; exact q2.elim
    | some ent =>
      rw [hr] at q2
      exact hg hr s1 (getAll_now s1 hvs ha) (fun p hp => .inl (x1.h0 p hp)) q2
theorem sCB {r : List V → Hp → VK → Prop} {g : List D → Option Ent} {fs : DenA} {id : String} {x : Str} {p : Pos} (hc : CallR X (.builtin id) r) (hg : ServesN Γ W r g) (gl : Gl X x) (hm : X.mg x = none) (hv : bootBuiltins x = some (.builtin id)) (ha : SA X Γ W (e :: es) fs) (hn : x ≠ "__name__" := by decide) (hdb : (x == ("__debug__" : Str)) = false := by decide)
    (he : starEach (e :: es) X.env = (false, eval e X.env) :: starEach es X.env := by rfl) (hpl : (backTo pos (starEach es X.env)).any (·.1) = false := by rfl) : SF X Γ W (.Call (.Name x p) (e :: es) [] pos) (dCB g fs) :=
  imE (pe_callB hc gl hm hv ha hn hdb he hpl) fun σ H Q h => tCB_of hg h
theorem sCT {r : List V → Hp → VK → Prop} {g : List D → Option Ent} {fs : DenA} {T : String} {x : Str} {p : Pos} (hc : CallR X (.type T) r) (hg : ServesN Γ W r g) (gl : Gl X x) (hm : X.mg x = none) (hv : bootBuiltins x = some (.type T)) (ha : SA X Γ W (e :: es) fs) (hn : x ≠ "__name__" := by decide) (hdb : (x == ("__debug__" : Str)) = false := by decide)
    (he : starEach (e :: es) X.env = (false, eval e X.env) :: starEach es X.env := by rfl) (hpl : (backTo pos (starEach es X.env)).any (·.1) = false := by rfl) : SF X Γ W (.Call (.Name x p) (e :: es) [] pos) (dCB g fs) :=
  imE (pe_callTy hc gl hm hv ha hn hdb he hpl) fun σ H Q h => tCB_of hg h
theorem sCG {r : List V → Hp → VK → Prop} {g : List D → Option Ent} {fs : DenA} {id : String} {x : Str} {p : Pos} (hc : CallR X (.builtin id) r) (hg : ServesN Γ W r g) (gl : Gl X x) (hm : X.mg x = some (.builtin id)) (ha : SA X Γ W (e :: es) fs) (hdb : (x == ("__debug__" : Str)) = false := by decide)
    (he : starEach (e :: es) X.env = (false, eval e X.env) :: starEach es X.env := by rfl) (hpl : (backTo pos (starEach es X.env)).any (·.1) = false := by rfl) : SF X Γ W (.Call (.Name x p) (e :: es) [] pos) (dCB g fs) :=
  imE (pe_callBfun hc gl hm ha hdb he hpl) fun σ H Q h => tCB_of hg h
theorem RepTs.one {B H : Hp} {d : D} {vs : List V} (h : RepTs Γ B H [d] vs) : ∃ v, vs = [v] ∧ RepT Γ B H d v := by
  obtain ⟨v, r, e1, e2, e3⟩ := h
  have e3' : r = [] := e3
  exact ⟨v, by rw [e1, e3'], e2⟩
theorem RepTs.two {B H : Hp} {d d' : D} {vs : List V} (h : RepTs Γ B H [d, d'] vs) : ∃ v w, vs = [v, w] ∧ RepT Γ B H d v ∧ RepT Γ B H d' w := by
  obtain ⟨v, r, e1, e2, e3⟩ := h
  obtain ⟨w, e4, e5⟩ := RepTs.one e3
  exact ⟨v, w, by rw [e1, e4], e2, e5⟩
def gLen : List D → Option Ent
  | [.str z] => if z.length ≤ 1000000 then some (.val (.int z.length)) else none
  | [.tup xs] => some (.val (.int xs.length))
  | [.lst xs] => some (.val (.int xs.length))
  | [.fl xs] => some (.val (.int xs.length))
  | _ => none
def rLenE (K : PySem.W.Frag) : List V → Hp → VK → Prop := fun xs H Q => (∃ p ys, xs = [.ref p] ∧ (SqL K H p ys ∨ SqT K H p ys) ∧ Q (.int ys.length) H) ∨ (∃ z : Str, xs = [.str z] ∧ z.length ≤ sizeLine ∧ Q (.int z.length) H)
theorem sv_len : ServesN Γ W (rLenE Γ.K) gLen := by
  intro ds ent env σ B H P0 vs Q hg s hx h0 p
  cases ds with
  | nil => cases hg
  | cons d r =>
    cases r with
    | cons _ _ => cases d <;> cases hg
    | nil =>
      obtain ⟨v, rfl, k⟩ := hx.one
      have key : ∀ xs, d.its = some xs → ent = .val (.int xs.length) → rLenE Γ.K [v] H Q := fun xs h1 h2 => by
        subst h2
        obtain ⟨q, ws, rfl, k2, k3⟩ := k.seq s.same h1
        refine .inl ⟨q, ws, rfl, k2, ?_⟩
        rw [← k3.length]
        exact Post.val s p rfl
      cases d with
      | str z =>
        have hg' : (if z.length ≤ 1000000 then some (Ent.val (.int z.length)) else none) = some ent := hg
        split at hg'
        · rename_i hl
          cases hg'
          rw [k.str]
          exact .inr ⟨z, rfl, LN_le hl, Post.val s p rfl⟩
        · cases hg'
      | tup xs => exact key xs rfl (Option.some.inj hg).symm
      | lst xs => exact key xs rfl (Option.some.inj hg).symm
      | fl xs => exact key xs rfl (Option.some.inj hg).symm
      | _ => cases hg
theorem call_lenE : CallR X (.builtin "len") (rLenE X.K) := (call_len_seq (X := X)).or fun pins s σ H xs us Q I r h => by
  obtain ⟨z, e, h1, q⟩ := h
  exact call_len_str pins s σ H xs us Q I r ⟨z, e, h1, q⟩
def gList : List D → Option Ent
  | [.tup xs] => some (.mu xs)
  | [.lst xs] => some (.mu xs)
  | [.fl xs] => some (.mu xs)
  | _ => none
theorem sv_list : ServesN Γ W (fun xs H Q => ∃ p ys, xs = [.ref p] ∧ (SqL Γ.K H p ys ∨ SqT Γ.K H p ys) ∧ ∀ l, H l = none → Q (.ref l) (upd H l (.lst ys))) gList := by
  intro ds ent env σ B H P0 vs Q hg s hx h0 p
  cases ds with
  | nil => cases hg
  | cons d r =>
    cases r with
    | cons _ _ => cases d <;> cases hg
    | nil =>
      obtain ⟨v, rfl, k⟩ := hx.one
      have key : ∀ xs, d.its = some xs → ent = .mu xs → ∃ p ys, [v] = [V.ref p] ∧ (SqL Γ.K H p ys ∨ SqT Γ.K H p ys) ∧ ∀ l, H l = none → Q (.ref l) (upd H l (.lst ys)) := fun xs h1 h2 => by
        subst h2
        obtain ⟨q, ws, rfl, k2, k3⟩ := k.seq s.same h1
        exact ⟨q, ws, rfl, k2, fun l hl => Post.newL h0 s p k3 hl⟩
      cases d with
      | tup xs => exact key xs rfl (Option.some.inj hg).symm
      | lst xs => exact key xs rfl (Option.some.inj hg).symm
      | fl xs => exact key xs rfl (Option.some.inj hg).symm
      | _ => cases hg
def gTuple : List D → Option Ent
  | [.tup xs] => some (.val (.tup xs))
  | [.lst xs] => some (.val (.tup xs))
  | [.fl xs] => some (.val (.tup xs))
  | _ => none
theorem sv_tuple : ServesN Γ W (fun xs H Q => ∃ p ys, xs = [.ref p] ∧ ((SqL Γ.K H p ys ∧ ∀ l, H l = none → Q (.ref l) (upd H l (.tup ys))) ∨ (SqT Γ.K H p ys ∧ Q (.ref p) H))) gTuple := by
  intro ds ent env σ B H P0 vs Q hg s hx h0 p
  cases ds with
  | nil => cases hg
  | cons d r =>
    cases r with
    | cons _ _ => cases d <;> cases hg
    | nil =>
      obtain ⟨v, rfl, k⟩ := hx.one
      cases d with
      | tup xs =>
        have h2 : ent = .val (.tup xs) := (Option.some.inj hg).symm
        subst h2
        have k' := k
        obtain ⟨q, ws, e1, e2, e3⟩ := k.tup s.same
        refine ⟨q, ws, by rw [e1], .inr ⟨e2, ?_⟩⟩
        rw [← e1]
        rcases k' with r | ⟨_, _, _, c, _⟩
        · exact Post.val s p r
        · cases c
      | lst xs =>
        have h2 : ent = .val (.tup xs) := (Option.some.inj hg).symm
        subst h2
        obtain ⟨q, ws, e1, e2, e3⟩ := k.lst s.same
        exact ⟨q, ws, by rw [e1], .inl ⟨.inl (.inl e2), fun l hl => Post.newT s p e3 hl⟩⟩
      | fl xs =>
        have h2 : ent = .val (.tup xs) := (Option.some.inj hg).symm
        subst h2
        obtain ⟨q, ws, e1, e2, e3⟩ := k.fl s.same
        exact ⟨q, ws, by rw [e1], .inl ⟨e2, fun l hl => Post.newT s p e3 hl⟩⟩
      | _ => cases hg
def gAbs : List D → Option Ent
  | [.int i] => some (.val (.int (if i < 0 then -i else i)))
  | _ => none
theorem sv_abs : ServesN Γ W (fun xs H Q => ∃ i, xs = [.int i] ∧ Q (.int (if i < 0 then -i else i)) H) gAbs := by
  intro ds ent env σ B H P0 vs Q hg s hx h0 p
  cases ds with
  | nil => cases hg
  | cons d r =>
    cases r with
    | cons _ _ => cases d <;> cases hg
    | nil =>
      obtain ⟨v, rfl, k⟩ := hx.one
      cases d with
      | int i =>
        cases hg
        exact ⟨i, by rw [k.int], Post.val s p rfl⟩
      | _ => cases hg
def gInt : List D → Option Ent
  | [.int i] => some (.val (.int i))
  | [.bl k] => some (.val (.int (if k then 1 else 0)))
  | _ => none
theorem sv_int : ServesN Γ W (fun xs H Q => (∃ i, xs = [.int i] ∧ Q (.int i) H) ∨ ∃ k, xs = [.bl k] ∧ Q (.int (if k then 1 else 0)) H) gInt := by
  intro ds ent env σ B H P0 vs Q hg s hx h0 p
  cases ds with
  | nil => cases hg
  | cons d r =>
    cases r with
    | cons _ _ => cases d <;> cases hg
    | nil =>
      obtain ⟨v, rfl, k⟩ := hx.one
      cases d with
      | int i =>
        cases hg
        exact .inl ⟨i, by rw [k.int], Post.val s p rfl⟩
      | bl i =>
        cases hg
        exact .inr ⟨i, by rw [k.bl], Post.val s p rfl⟩
      | _ => cases hg
def gGcd : List D → Option Ent
  | [.int i, .int j] => some (.val (.int ((Nat.gcd i.natAbs j.natAbs : Nat) : Int)))
  | _ => none
theorem sv_gcd : ServesN Γ W rGcd gGcd := by
  intro ds ent env σ B H P0 vs Q hg s hx h0 p
  match ds, hg, hx with
  | [.int i, .int j], hg, hx =>
    obtain ⟨v, w, rfl, k1, k2⟩ := hx.two
    cases hg
    exact ⟨i, j, by rw [k1.int, k2.int], Post.val s p rfl⟩
/-! ### isinstance -/
def tyN : D → String
  | .non => "NoneType" | .bl _ => "bool" | .int _ => "int" | .str _ => "str" | .tup _ => "tuple" | .lst _ => "list" | .fl _ => "list" | .ins _ _ _ => "" | .fn _ => ""
theorem RepT.ty {B H : Hp} {d : D} {v : V} (s : Same B H) (h : RepT Γ B H d v) (hd : tyN d ≠ "") : TyX Γ.K H v (.type (tyN d)) := by
  have hL : ∀ p vs, SqL Γ.K H p vs → TyX Γ.K H (.ref p) (.type "list") := fun p vs q => by
    rcases q with (q | ⟨o, q⟩) | ⟨o, its, n, k1, k2, _⟩
    · exact .base (.lst q)
    · exact .base (.frz q)
    · exact .kList k1 k2
  cases d with
  | non => rw [h.non]; exact .base .non
  | bl b => rw [h.bl]; exact .base (.bl b)
  | int b => rw [h.int]; exact .base (.int b)
  | str b => rw [h.str]; exact .base (.str b)
  | tup xs =>
    obtain ⟨p, vs, rfl, q, _⟩ := h.tup s
    rcases q with (q | ⟨o, q⟩) | ⟨o, its, n, k1, k2, _⟩
    · exact .base (.tup q)
    · exact .fTuple q
    · exact .kTuple k1 k2
  | lst xs =>
    obtain ⟨p, vs, rfl, q, _⟩ := h.lst s
    exact hL p vs (.inl (.inl q))
  | fl xs =>
    obtain ⟨p, vs, rfl, q, _⟩ := h.fl s
    exact hL p vs q
  | ins c ns xs => exact (hd rfl).elim
  | fn x => exact (hd rfl).elim
def isT (d : D) (c : String) : Bool := match d with
  | .bl _ => c == "bool" || c == "int"
  | .int _ => c == "int"
  | .str _ => c == "str"
  | .tup _ => c == "tuple"
  | .lst _ => c == "list"
  | .fl _ => c == "list"
  | _ => false
def okT (c : String) : Bool := c == "bool" || c == "int" || c == "str" || c == "tuple" || c == "list"
def isTN (t c : String) : Bool := if t == "bool" then c == "bool" || c == "int" else if t == "NoneType" then false else t == c
theorem kit_table : ∀ t ∈ ["NoneType", "bool", "int", "str", "tuple", "list"], ∀ c ∈ ["bool", "int", "str", "tuple", "list"], kitB t c = some (isTN t c) := by decide +kernel
theorem kit_isT {K : PySem.W.Frag} {d : D} {c : String} (hd : tyN d ≠ "") (hc : okT c = true) : PySem.W.kitOne K (.type (tyN d)) (.type c) = some (isT d c) := by
  have h : c ∈ ["bool", "int", "str", "tuple", "list"] := by
    unfold okT at hc
    simp only [Bool.or_eq_true, beq_iff_eq] at hc
    simp only [List.mem_cons, List.not_mem_nil, or_false]
    rcases hc with (((h | h) | h) | h) | h
    · exact .inl h
    · exact .inr (.inl h)
    · exact .inr (.inr (.inl h))
    · exact .inr (.inr (.inr (.inl h)))
    · exact .inr (.inr (.inr (.inr h)))
  have ht : tyN d ∈ ["NoneType", "bool", "int", "str", "tuple", "list"] := by
    cases d with
    | ins _ _ _ => exact (hd rfl).elim
    | fn _ => exact (hd rfl).elim
    | _ => simp [tyN]
  have e := kit_ty (K := K) (kit_table _ ht c h)
  rw [e]
  congr 1
  simp only [List.mem_cons, List.not_mem_nil, or_false] at h
  cases d with
  | ins _ _ _ => exact (hd rfl).elim
  | fn _ => exact (hd rfl).elim
  | _ => rcases h with rfl | rfl | rfl | rfl | rfl <;> rfl
def isTs (d : D) (cs : List String) : Bool := cs.any (isT d)
theorem kit_isTs {K : PySem.W.Frag} {d : D} (hd : tyN d ≠ "") : ∀ {cs : List String}, cs.all okT = true → PySem.W.kitAny K (.type (tyN d)) (cs.map Value.type) = some (isTs d cs)
  | [], _ => kitAny_nil
  | c :: cs, h => by
    obtain ⟨h1, h2⟩ := Bool.and_eq_true_iff.mp (show (okT c && cs.all okT) = true from h)
    refine kitAny_cons (kit_isT hd h1) (fun z => ?_) (fun z => ?_)
    · rw [kit_isTs hd h2]
      unfold isTs
      rw [List.any_cons, z, Bool.false_or]
    · unfold isTs
      rw [List.any_cons, z, Bool.true_or]
def noIns : D → Bool
  | .ins _ _ _ => false
  | .fn _ => false
  | _ => true
theorem tyN_ne {d : D} (h : noIns d = true) : tyN d ≠ "" := by
  cases d with
  | ins _ _ _ => cases h
  | fn _ => cases h
  | _ => exact (by simp [tyN])
def dIsi (cs : List String) (f : DenL) : DenV := fun env => (f env).bind fun a e => match a.get e with
  | some d => if noIns d = true then .ok (.bl (isTs d cs)) e else .bad
  | none => .bad
theorem tIsi {cs : List String} {σ : L2.St} {H : Hp} {Q : VK} (h : tV Γ W (dIsi cs f1) σ H Q) : tL Γ W f1 σ H fun v H1 => ∃ d e1 B1, StOk Γ e1 σ B1 H1 ∧ RepT Γ B1 H1 d v ∧ noIns d = true ∧ ∀ B2 H2, StOk Γ e1 σ B2 H2 → Ext Γ e1 σ B1 H1 e1 σ B2 H2 → Q (.bl (isTs d cs)) H2 := by
  obtain ⟨env, B, s, p⟩ := h
  refine ⟨env, B, s, p.bind.mono fun a e1 B1 H1 s1 x1 q1 v hv => ?_⟩
  cases ha : a.get e1 with
  | none => rw [ha] at q1; exact q1.elim
  | some d =>
    rw [ha] at q1
    have q2 : Post Γ W e1 σ B1 H1 (fun d _ B' H' => ∀ v, Rep Γ B' d v → Q v H') (if noIns d = true then .ok (.bl (isTs d cs)) e1 else .bad) := q1
    by_cases hn : noIns d = true
    · rw [if_pos hn] at q2
      exact ⟨d, e1, B1, s1, Ar.now s1 hv ha, hn, fun B2 H2 s2 x2 => q2 B2 H2 s2 x2 _ rfl⟩
    · rw [if_neg hn] at q2
      exact q2.elim
theorem sIsi {c : String} {x n : Str} {p p2 : Pos} (hK : X.K = Γ.K) (gl : Gl X x) (hm : X.mg x = none) (hv : bootBuiltins x = some (.builtin "isinstance")) (ha : SL X Γ W a f1) (hc : PE X (.Name n p2) (tC (.ty c))) (ok : okT c = true) (hn : x ≠ "__name__" := by decide) (hdb : (x == ("__debug__" : Str)) = false := by decide)
    (he : starEach [a, .Name n p2] X.env = (false, eval a X.env) :: starEach [.Name n p2] X.env := by rfl) : SV X Γ W (.Call (.Name x p) [a, .Name n p2] [] pos) (dIsi [c] f1) :=
  imE (pe_callB (call_isi (X := X)) gl hm hv (pa_cons ha (pa_cons hc pa_nil) he) hn hdb he) fun σ H Q h => by
    refine (fun {α : Prop} {β : Prop} (f : α → β) (x : α) => f x) (fun k => ?_) (tIsi h)
    obtain ⟨env, B, s, p⟩ := k
    refine ⟨env, B, s, p.mono fun a e1 B1 H1 s1 x1 q1 v hv => ?_⟩
    obtain ⟨d, e2, B2, s2, r2, nd, q2⟩ := q1 v hv
    refine ⟨v, .ty c, .type (tyN d), .type c, isT d c, rfl, .ty c, ?_, kit_isT (tyN_ne nd) ok, ?_⟩
    · rw [hK]; exact r2.ty s2.same (tyN_ne nd)
    · have z := q2 B2 H1 s2 Ext.refl
      unfold isTs at z
      rw [List.any_cons, List.any_nil, Bool.or_false] at z
      exact z
/-- names of classes -/
inductive TyNames (X : Cx) : List Expr → List String → Prop
  | nil : TyNames X [] []
  | cons {n : Str} {p : Pos} {c : String} {es : List Expr} {cs : List String} (h : PE X (.Name n p) (tC (.ty c))) (hs : starEach (.Name n p :: es) X.env = (false, eval (.Name n p) X.env) :: starEach es X.env) (r : TyNames X es cs) : TyNames X (.Name n p :: es) (c :: cs)
def tTys (cs : List String) : TA := fun _ H Q => Q (cs.map V.ty) H
theorem TyNames.pa {es : List Expr} {cs : List String} (h : TyNames X es cs) : PA X es (tTys cs) := by
  induction h with
  | nil => exact imA pa_nil fun σ H Q q => q
  | @cons n p c es cs h hs r ih => exact imA (pa_cons h ih hs) fun σ H Q q => q
theorem clsv_all : ∀ cs : List String, Paired ClsV (cs.map V.ty) (cs.map Value.type)
  | [] => .nil
  | c :: cs => .cons (.ty c) (clsv_all cs)
theorem sIsiT {cs : List String} {x : Str} {p p2 : Pos} {k : Nat} (hK : X.K = Γ.K) (gl : Gl X x) (hm : X.mg x = none) (hv : bootBuiltins x = some (.builtin "isinstance")) (ha : SL X Γ W a f1) (hc : TyNames X es cs) (ok : cs.all okT = true) (hz : cs.length ≤ 100) (hn : x ≠ "__name__" := by decide) (hdb : (x == ("__debug__" : Str)) = false := by decide)
    (he : starEach [a, .Tuple es k p2] X.env = (false, eval a X.env) :: starEach [.Tuple es k p2] X.env := by rfl) : SV X Γ W (.Call (.Name x p) [a, .Tuple es k p2] [] pos) (dIsi cs f1) :=
  imE (pe_callB (call_isiT (X := X)) gl hm hv (pa_cons ha (pa_cons (pe_tup hc.pa) pa_nil) he) hn hdb he) fun σ H Q h => by
    refine (fun {α : Prop} {β : Prop} (f : α → β) (x : α) => f x) (fun k => ?_) (tIsi h)
    obtain ⟨env, B, s, p⟩ := k
    refine ⟨env, B, s, p.mono fun a e1 B1 H1 s1 x1 q1 v hv => ⟨LN_le (by rw [List.length_map]; omega), fun t ht => ?_⟩⟩
    obtain ⟨d, e2, B2, s2, r2, nd, q2⟩ := q1 v hv
    have s3 := s2.newM (o := .tup (cs.map V.ty)) ht
    refine ⟨v, t, cs.map V.ty, .type (tyN d), cs.map Value.type, isTs d cs, rfl, upd_same, clsv_all cs, ?_, kit_isTs (tyN_ne nd) ok, q2 B2 _ s3 (Ext.newM ht)⟩
    rw [hK]
    refine RepT.ty s3.same ?_ (tyN_ne nd)
    rcases r2 with r | ⟨xs, p, vs, e1, e2, e3, e4⟩
    · exact .inl r
    · exact .inr ⟨xs, p, vs, e1, e2, same_upd ht _ _ e3, e4⟩
end
end Ev

set_option Elab.async false
set_option linter.all false
set_option maxRecDepth 100000
set_option maxHeartbeats 4000000
namespace Ev
open PySem PySem.Spec PyProof.Rows L2

/-! ### statements -/
inductive Fl where
  | nx | bk | ct | rt (r : Ent)
abbrev DenS := Sto → Res Fl
section
variable {Γ : Wd} {W : WX} {env env1 env' : Sto} {σ σ1 σ' : L2.St} {B H B1 H1 B' H' : Hp}
def PostS (Γ : Wd) (W : WX) (env : Sto) (σ : L2.St) (B H : Hp) (Dn : Ends) : Res Fl → Prop
  | .ok .nx env' => ∀ σ' B' H', StOk Γ env' σ' B' H' → Ext Γ env σ B H env' σ' B' H' → Dn.nx σ' H'
  | .ok .bk env' => ∀ σ' B' H', StOk Γ env' σ' B' H' → Ext Γ env σ B H env' σ' B' H' → Dn.bk σ' H'
  | .ok .ct env' => ∀ σ' B' H', StOk Γ env' σ' B' H' → Ext Γ env σ B H env' σ' B' H' → Dn.ct σ' H'
  | .ok (.rt r) env' => ∀ v σ' B' H', StOk Γ env' σ' B' H' → Ext Γ env σ B H env' σ' B' H' → RetOk Γ (FreeR Γ env σ H) env' σ' B' H' r v → Dn.rt v H'
  | .err c ns xs env' => ∀ cls d σ' B' H', StOk Γ env' σ' B' H' → Ext Γ env σ B H env' σ' B' H' → XnOk Γ B' H' c ns xs cls d → W cls d σ' H'
  | .bad => False
theorem PostS.fwd {Dn : Ends} {r : Res Fl} (s1 : StOk Γ env1 σ1 B1 H1) (x : Ext Γ env σ B H env1 σ1 B1 H1) (h : PostS Γ W env σ B H Dn r) : PostS Γ W env1 σ1 B1 H1 Dn r := by
  cases r with
  | ok f e =>
    cases f with
    | nx => exact fun σ' B' H' s y => h σ' B' H' s (x.trans y)
    | bk => exact fun σ' B' H' s y => h σ' B' H' s (x.trans y)
    | ct => exact fun σ' B' H' s y => h σ' B' H' s (x.trans y)
    | rt r => exact fun v σ' B' H' s y q => h v σ' B' H' s (x.trans y) (q.imp fun p hp => hp.back s1 x)
  | err c ns xs e => exact fun cls d σ' B' H' s y q => h cls d σ' B' H' s (x.trans y) q
  | bad => exact h
/-- an expression, then a statement's end -/
theorem PostS.bind {α : Type} {Dn : Ends} {r : Res α} {k : α → Sto → Res Fl} (h : PostS Γ W env σ B H Dn (r.bind k)) :
    Post Γ W env σ B H (fun a e1 B1 H1 => Ext Γ env σ B H e1 σ B1 H1 ∧ PostS Γ W env σ B H Dn (k a e1)) r := by
  cases r with
  | ok a e => exact fun B' H' s x => ⟨x, h⟩
  | err c ns xs e => exact fun cls d B' H' s x q => h cls d σ B' H' s x q
  | bad => exact h
end
def tS (Γ : Wd) (W : WX) (f : DenS) : TS := fun Dn σ H => ∃ env B, StOk Γ env σ B H ∧ PostS Γ W env σ B H Dn (f env)
abbrev SS (X : Cx) (Γ : Wd) (W : WX) (st : Stmt) (f : DenS) : Prop := PS X st (tS Γ W f)
abbrev SSs (X : Cx) (Γ : Wd) (W : WX) (st : List Stmt) (f : DenS) : Prop := PSs X st (tS Γ W f)
def dSkip : DenS := fun env => .ok .nx env
def dSeq (f g : DenS) : DenS := fun env => match f env with
  | .ok .nx e => g e
  | r => r
def dIfS (t : DenT) (f g : DenS) : DenS := fun env => (t env).bind fun b e => if b = true then f e else g e
section
variable {X : Cx} {Γ : Wd} {W : WX} {e a b c : Expr} {es : List Expr} {pos : Pos} {st : Stmt} {rest body orelse : List Stmt} {f g : DenS}
theorem sNil : SSs X Γ W [] dSkip := imSs pss_nil fun Q σ H ⟨env, B, s, p⟩ => p σ B H s Ext.refl
theorem sPass : SS X Γ W (.Pass pos) dSkip := imS ps_pass fun Q σ H ⟨env, B, s, p⟩ => p σ B H s Ext.refl
theorem sCons (h : SS X Γ W st f) (k : SSs X Γ W rest g) : SSs X Γ W (st :: rest) (dSeq f g) := imSs (pss_cons h k) fun Q σ H ⟨env, B, s, p⟩ => by
  refine ⟨env, B, s, ?_⟩
  have p' : PostS Γ W env σ B H Q (match f env with | .ok .nx e => g e | r => r) := p
  cases hf : f env with
  | ok fl e1 =>
    rw [hf] at p'
    cases fl with
    | nx => exact fun σ' B' H' s' x => ⟨e1, B', s', PostS.fwd s' x p'⟩
    | bk => exact p'
    | ct => exact p'
    | rt r => exact p'
  | err c ns xs e1 =>
    rw [hf] at p'
    exact p'
  | bad =>
    rw [hf] at p'
    exact p'
theorem sOne (h : SS X Γ W st f) : SSs X Γ W [st] f := pss_one h
def dBreak : DenS := fun env => .ok .bk env
def dCont : DenS := fun env => .ok .ct env
theorem sBreak : SS X Γ W (.Break pos) dBreak := imS ps_break fun Q σ H ⟨env, B, s, p⟩ => p σ B H s Ext.refl
theorem sCont : SS X Γ W (.Continue pos) dCont := imS ps_continue fun Q σ H ⟨env, B, s, p⟩ => p σ B H s Ext.refl
theorem sDoc {x : Str} {j : Nat} {pos' : Pos} : SS X Γ W (.Expr (.Constant (.str x) j pos) pos') dSkip := imS ps_doc fun Q σ H ⟨env, B, s, p⟩ => p σ B H s Ext.refl
theorem sIfS {t : DenT} (h : ST X Γ W c t) (ha : SSs X Γ W body f) (hb : SSs X Γ W orelse g) : SS X Γ W (.If c body orelse pos) (dIfS t f g) := imS (ps_if h ha hb) fun Q σ H ⟨env, B, s, p⟩ => by
  refine ⟨env, B, s, p.bind.mono fun b e1 B1 H1 s1 x1 q1 => ?_⟩
  obtain ⟨x, q⟩ := q1
  cases b with
  | true =>
    rw [if_pos rfl] at q ⊢
    exact ⟨e1, B1, s1, PostS.fwd s1 x q⟩
  | false =>
    rw [if_neg Bool.false_ne_true] at q ⊢
    exact ⟨e1, B1, s1, PostS.fwd s1 x q⟩
/-! ### return -/
def dRet (f : DenF) : DenS := fun env => (f env).bind fun r e => .ok (.rt r) e
def dRetN : DenS := fun env => .ok (.rt (.val .non)) env
theorem sRet {f : DenF} (h : SF X Γ W e f) : SS X Γ W (.Return (some e) pos) (dRet f) := imS (ps_ret h) fun Q σ H ⟨env, B, s, p⟩ =>
  ⟨env, B, s, p.bind.mono fun r e1 B1 H1 s1 x1 q1 v hv => q1.2 v σ B1 H1 s1 q1.1 hv⟩
theorem sRetN : SS X Γ W (.Return none pos) dRetN := imS ps_retN fun Q σ H ⟨env, B, s, p⟩ => p .non σ B H s Ext.refl rfl
/-- a local list is handed over -/
def dGive (i : Nat) : DenS := fun env => match env[i]? with
  | some (.val d) => .ok (.rt (.val d)) env
  | some (.mu xs) => .ok (.rt (.mu xs)) (env.set i .un)
  | _ => .bad
/-! ### stores -/
theorem StOk.setV {env : Sto} {σ : L2.St} {B H : Hp} {i : Nat} {d : D} {v : V} (s : StOk Γ env σ B H) (r : Rep Γ B d v) : StOk Γ (env.set i (.val d)) (σ.set i (some v)) B H where
  same := s.same
  len := by rw [List.length_set, List.length_set]; exact s.len
  ent := fun j e o h1 h2 => by
    rcases Sto.set_get h1 with ⟨rfl, rfl⟩ | ⟨ne, q⟩
    · have hl : i < σ.length := by
        have z := (List.getElem?_eq_some_iff.mp h2).1
        rw [List.length_set] at z
        exact z
      rw [List.getElem?_set_self hl] at h2
      cases h2
      exact ⟨v, rfl, r⟩
    · rw [List.getElem?_set_ne ne] at h2
      exact s.ent j e o q h2
  dis := fun j k ys zs q h1 h2 h3 h4 => by
    rcases Sto.set_get h1 with ⟨_, z⟩ | ⟨n1, q1⟩
    · cases z
    · rcases Sto.set_get h2 with ⟨_, z⟩ | ⟨n2, q2⟩
      · cases z
      · rw [List.getElem?_set_ne n1] at h3
        rw [List.getElem?_set_ne n2] at h4
        exact s.dis j k ys zs q q1 q2 h3 h4
theorem Own.setV {env : Sto} {σ : L2.St} {i : Nat} {d : D} {o : Option V} {p : Addr} (h : Own (env.set i (.val d)) (σ.set i o) p) : Own env σ p := by
  obtain ⟨j, xs, e1, e2⟩ := h
  rcases Sto.set_get e1 with ⟨_, q⟩ | ⟨n, q⟩
  · cases q
  · rw [List.getElem?_set_ne n] at e2
    exact ⟨j, xs, q, e2⟩
theorem Ext.setV {env env1 : Sto} {σ σ1 : L2.St} {B H B1 H1 : Hp} {i : Nat} {d : D} {o : Option V} (x : Ext Γ env σ B H env1 σ1 B1 H1) (hi : i ∉ Γ.R) : Ext Γ env σ B H (env1.set i (.val d)) (σ1.set i o) B1 H1 where
  b := x.b
  t := x.t
  f := fun p o h n => by
    obtain ⟨k1, k2, k3⟩ := x.f p o h n
    exact ⟨k1, k2, fun z => k3 z.setV⟩
  r := fun j hj => by
    have ne : i ≠ j := fun z => hi (z ▸ hj)
    obtain ⟨k1, k2⟩ := x.r j hj
    refine ⟨by rw [List.getElem?_set_ne ne]; exact k1, fun xs p e1 e2 => ?_⟩
    rcases k2 xs p e1 e2 with ⟨ys, q⟩ | q
    · exact .inl ⟨ys, by rw [List.getElem?_set_ne ne]; exact q⟩
    · exact .inr q
theorem StOk.setM {env : Sto} {σ : L2.St} {B H : Hp} {i : Nat} {xs : List D} {p : Addr} {vs : List V} (s : StOk Γ env σ B H) (hb : B p = none) (hp : H p = some (.lst vs)) (r : Reps Γ B xs vs) (ho : ¬ Own env σ p) : StOk Γ (env.set i (.mu xs)) (σ.set i (some (.ref p))) B H where
  same := s.same
  len := by rw [List.length_set, List.length_set]; exact s.len
  ent := fun j e o h1 h2 => by
    rcases Sto.set_get h1 with ⟨rfl, rfl⟩ | ⟨ne, q⟩
    · have hl : i < σ.length := by
        have z := (List.getElem?_eq_some_iff.mp h2).1
        rw [List.length_set] at z
        exact z
      rw [List.getElem?_set_self hl] at h2
      cases h2
      exact ⟨p, vs, rfl, hb, hp, r⟩
    · rw [List.getElem?_set_ne ne] at h2
      exact s.ent j e o q h2
  dis := fun j k ys zs q h1 h2 h3 h4 => by
    rcases Sto.set_get h1 with ⟨z1, _⟩ | ⟨n1, q1⟩
    · rcases Sto.set_get h2 with ⟨z2, _⟩ | ⟨n2, q2⟩
      · exact z1.symm.trans z2
      · subst z1
        have hl : i < σ.length := by
          have z := (List.getElem?_eq_some_iff.mp h3).1
          rw [List.length_set] at z
          exact z
        rw [List.getElem?_set_self hl] at h3
        cases h3
        rw [List.getElem?_set_ne n2] at h4
        exact absurd ⟨k, zs, q2, h4⟩ ho
    · rw [List.getElem?_set_ne n1] at h3
      rcases Sto.set_get h2 with ⟨z2, _⟩ | ⟨n2, q2⟩
      · subst z2
        have hl : i < σ.length := by
          have z := (List.getElem?_eq_some_iff.mp h4).1
          rw [List.length_set] at z
          exact z
        rw [List.getElem?_set_self hl] at h4
        cases h4
        exact absurd ⟨j, ys, q1, h3⟩ ho
      · rw [List.getElem?_set_ne n2] at h4
        exact s.dis j k ys zs q q1 q2 h3 h4
theorem Own.setM {env : Sto} {σ : L2.St} {i : Nat} {ys : List D} {p q : Addr} (h : Own (env.set i (.mu ys)) (σ.set i (some (.ref p))) q) : q = p ∨ Own env σ q := by
  obtain ⟨j, xs, e1, e2⟩ := h
  rcases Sto.set_get e1 with ⟨z, _⟩ | ⟨n, k⟩
  · subst z
    have hl : i < σ.length := by
      have z := (List.getElem?_eq_some_iff.mp e2).1
      rw [List.length_set] at z
      exact z
    rw [List.getElem?_set_self hl] at e2
    cases e2
    exact .inl rfl
  · rw [List.getElem?_set_ne n] at e2
    exact .inr ⟨j, xs, k, e2⟩
theorem Ext.setM {env env1 : Sto} {σ σ1 : L2.St} {B H B1 H1 : Hp} {i : Nat} {xs : List D} {p : Addr} (x : Ext Γ env σ B H env1 σ1 B1 H1) (h0 : FreeR Γ env σ H p) (hi : i ∉ Γ.R) : Ext Γ env σ B H (env1.set i (.mu xs)) (σ1.set i (some (.ref p))) B1 H1 where
  b := x.b
  t := x.t
  f := fun q o h n => by
    obtain ⟨k1, k2, k3⟩ := x.f q o h n
    refine ⟨k1, k2, fun z => ?_⟩
    rcases z.setM with rfl | z
    · exact h0.ne h n rfl
    · exact k3 z
  r := fun j hj => by
    have ne : i ≠ j := fun z => hi (z ▸ hj)
    obtain ⟨k1, k2⟩ := x.r j hj
    refine ⟨by rw [List.getElem?_set_ne ne]; exact k1, fun xs p e1 e2 => ?_⟩
    rcases k2 xs p e1 e2 with ⟨ys, q⟩ | q
    · exact .inl ⟨ys, by rw [List.getElem?_set_ne ne]; exact q⟩
    · exact .inr q
/-- x = e -/
def dSet (i : Nat) (f : DenF) : DenS := fun env => (f env).bind fun r e => match r with
  | .val d => .ok .nx (e.set i (.val d))
  | .mu xs => .ok .nx (e.set i (.mu xs))
  | _ => .bad
theorem tSet_of {i : Nat} {f : DenF} (hi : i ∉ Γ.R) {σ : L2.St} {H : Hp} {Q : Ends} (h : tS Γ W (dSet i f) Q σ H) : tAsg (tF Γ W f) (gName i) Q σ H := by
  obtain ⟨env, B, s, p⟩ := h
  refine ⟨env, B, s, p.bind.mono fun r e1 B1 H1 s1 x1 q1 v hv => ?_⟩
  obtain ⟨x, q⟩ := q1
  cases r with
  | val d => exact q _ _ _ (s1.setV hv) (x.setV hi)
  | mu xs =>
    obtain ⟨a, vs, rfl, h0, h1, h2, h3, h4⟩ := hv
    exact q _ _ _ (s1.setM h1 h2 h3 h4) (x.setM h0 hi)
  | un => exact q.elim
  | exn _ _ _ => exact q.elim
theorem sSet {i : Nat} {x : Str} {f : DenF} {pos' : Pos} (hi : i ∉ Γ.R) (h : SF X Γ W e f) (hN : X.N.Nodup) (hx : X.N[i]? = some x) (hl : Loc X.env.scope x) (hs : swapsWith e (some (.Name x pos')) pos.line X.env = pure false := by rfl) (hf : X.fn x = true ∨ X.env.scope.names.lookup x = some .local := by first | exact .inl rfl | exact .inr rfl | assumption) :
    SS X Γ W (.Assign [.Name x pos'] e pos) (dSet i f) := imS (ps_set hN hx hl h hs hf) fun Q σ H k => tSet_of hi k
/-! ### targets -/
abbrev Asg := D → Sto → Option Sto
def tG (Γ : Wd) (f : Asg) : TG := fun v σ H Q => ∃ env B d env', StOk Γ env σ B H ∧ Rep Γ B d v ∧ f d env = some env' ∧ ∀ σ', StOk Γ env' σ' B H → Ext Γ env σ B H env' σ' B H → Q σ' H
theorem imG {X : Cx} {e : Expr} {t t' : TG} (h : PG X e t) (i : ∀ v σ H Q, t' v σ H Q → t v σ H Q) : PG X e t' := ⟨fun pins s σ H v u Q I r q => h.run pins s σ H v u Q I r (i v σ H Q q)⟩
end
end Ev

set_option Elab.async false
set_option linter.all false
set_option maxRecDepth 100000
set_option maxHeartbeats 4000000
namespace Ev
open PySem PySem.Spec PyProof.Rows L2

section
variable {X : Cx} {Γ : Wd} {W : WX} {e a b c tg : Expr} {es : List Expr} {pos : Pos} {st : Stmt} {rest body orelse : List Stmt} {f g : DenS}
/-! ### a local list is handed over -/
def dMove (i : Nat) : DenF := fun env => match env[i]? with
  | some (.val d) => .ok (.val d) env
  | some (.mu xs) => .ok (.mu xs) (env.set i .un)
  | _ => .bad
theorem StOk.forget {env : Sto} {σ : L2.St} {B H : Hp} {i : Nat} (s : StOk Γ env σ B H) : StOk Γ (env.set i .un) σ B H where
  same := s.same
  len := by rw [List.length_set]; exact s.len
  ent := fun j e o h1 h2 => by
    rcases Sto.set_get h1 with ⟨_, rfl⟩ | ⟨ne, q⟩
    · trivial
    · exact s.ent j e o q h2
  dis := fun j k ys zs q h1 h2 h3 h4 => by
    rcases Sto.set_get h1 with ⟨_, z⟩ | ⟨n1, q1⟩
    · cases z
    · rcases Sto.set_get h2 with ⟨_, z⟩ | ⟨n2, q2⟩
      · cases z
      · exact s.dis j k ys zs q q1 q2 h3 h4
theorem Own.forget {env : Sto} {σ : L2.St} {i : Nat} {p : Addr} (h : Own (env.set i .un) σ p) : Own env σ p := by
  obtain ⟨j, xs, e1, e2⟩ := h
  rcases Sto.set_get e1 with ⟨_, q⟩ | ⟨n, q⟩
  · cases q
  · exact ⟨j, xs, q, e2⟩
theorem Ext.forget {env : Sto} {σ : L2.St} {B H : Hp} {i : Nat} (hi : i ∉ Γ.R) : Ext Γ env σ B H (env.set i .un) σ B H where
  b := Same.refl _
  t := fun _ h => h
  f := fun p o h n => ⟨h, fun z => z, fun z => n z.forget⟩
  r := fun j hj => ⟨rfl, fun xs p e1 e2 => .inl ⟨xs, by rw [List.getElem?_set_ne (show i ≠ j from fun z => hi (by rw [z]; exact hj))]; exact e1⟩⟩
theorem sMove {i : Nat} (hi : i ∉ Γ.R) (h : PE X e (tVar i)) : SF X Γ W e (dMove i) := imE h fun σ H Q ⟨env, B, s, p⟩ => by
  have p' : Post Γ W env σ B H (fun r env' B' H' => ∀ v, RetOk Γ (FreeR Γ env σ H) env' σ B' H' r v → Q v H') (match env[i]? with
    | some (.val d) => .ok (.val d) env
    | some (.mu xs) => .ok (.mu xs) (env.set i .un)
    | _ => .bad) := p
  cases hh : env[i]? with
  | none => rw [hh] at p'; exact p'.elim
  | some en =>
    rw [hh] at p'
    obtain ⟨o, ho, k⟩ := s.slot hh
    cases en with
    | val d =>
      obtain ⟨v, rfl, r⟩ := k
      exact ⟨v, ho, Post.here s p' v r⟩
    | mu xs =>
      obtain ⟨q, vs, rfl, hb, hq, r⟩ := k
      refine ⟨_, ho, p' B H s.forget (Ext.forget hi) _ ⟨q, vs, rfl, .inr ⟨i, xs, hi, hh, ho⟩, hb, hq, r, ?_⟩⟩
      rintro ⟨j, ys, e1, e2⟩
      rcases Sto.set_get e1 with ⟨_, z⟩ | ⟨n, z⟩
      · cases z
      · exact n (s.dis i j xs ys q hh z ho e2)
    | un => exact p'.elim
    | exn c ns xs => exact p'.elim
/-! ### targets -/
/-- only these slots differ -/
def Touch (own : List Nat) (σ σ' : L2.St) : Prop := σ'.length = σ.length ∧ ∀ j, j ∉ own → σ'[j]? = σ[j]?
theorem Touch.refl {own : List Nat} {σ : L2.St} : Touch own σ σ := ⟨rfl, fun _ _ => rfl⟩
theorem Touch.trans {own : List Nat} {σ σ1 σ2 : L2.St} (a : Touch own σ σ1) (c : Touch own σ1 σ2) : Touch own σ σ2 := ⟨c.1.trans a.1, fun j h => (c.2 j h).trans (a.2 j h)⟩
theorem Touch.set {own : List Nat} {σ : L2.St} {i : Nat} {o : Option V} (h : i ∈ own) : Touch own σ (σ.set i o) := ⟨List.length_set, fun j hj => List.getElem?_set_ne (show i ≠ j from fun z => hj (by rw [← z]; exact h))⟩
def tGo (Γ : Wd) (own : List Nat) (f : Asg) : TG := fun v σ H Q => ∃ env B d env', StOk Γ env σ B H ∧ Rep Γ B d v ∧ f d env = some env' ∧ ∀ σ', StOk Γ env' σ' B H → Ext Γ env σ B H env' σ' B H → Touch own σ σ' → Q σ' H
def asN (i : Nat) : Asg := fun d env => some (env.set i (.val d))
theorem gN {i : Nat} {x : Str} {own : List Nat} (ho : i ∈ own) (hi : i ∉ Γ.R) (hN : X.N.Nodup) (hx : X.N[i]? = some x) (hl : Loc X.env.scope x) (hf : X.fn x = true ∨ X.env.scope.names.lookup x = some .local := by first | exact .inl rfl | exact .inr rfl | assumption) : PG X (.Name x pos) (tGo Γ own (asN i)) :=
  imG (pg_name hN hx hl hf) fun v σ H Q ⟨env, B, d, env', s, r, e, q⟩ => by
    cases e
    exact q _ (s.setV r) (Ext.setV Ext.refl hi) (Touch.set ho)
abbrev Asgs := List D → Sto → Option Sto
def tGs (Γ : Wd) (own : List Nat) (f : Asgs) : TGs := fun vs σ H Q => ∃ env B ds env', StOk Γ env σ B H ∧ Reps Γ B ds vs ∧ f ds env = some env' ∧ ∀ σ', StOk Γ env' σ' B H → Ext Γ env σ B H env' σ' B H → Touch own σ σ' → Q σ' H
theorem imGs {X : Cx} {es : List Expr} {t t' : TGs} (h : PGs X es t) (i : ∀ v σ H Q, t' v σ H Q → t v σ H Q) : PGs X es t' := ⟨fun pins s σ H v u Q I r q => h.run pins s σ H v u Q I r (i v σ H Q q)⟩
def asNil : Asgs := fun ds env => match ds with
  | [] => some env
  | _ => none
def asCons (f : Asg) (g : Asgs) : Asgs := fun ds env => match ds with
  | [] => none
  | d :: ds => (f d env).bind (g ds)
theorem gsNil {own : List Nat} : PGs X [] (tGs Γ own asNil) := imGs pgs_nil fun v σ H Q ⟨env, B, ds, env', s, r, e, q⟩ => by
  cases ds with
  | nil => cases e; exact ⟨r, q σ s Ext.refl Touch.refl⟩
  | cons _ _ => cases e
theorem gsCons {f : Asg} {g : Asgs} {own : List Nat} (h : PG X e (tGo Γ own f)) (k : PGs X es (tGs Γ own g)) (hs : (assignEach (e :: es) X.env).map (·.2) = assign e X.env :: (assignEach es X.env).map (·.2) := by rfl) : PGs X (e :: es) (tGs Γ own (asCons f g)) := imGs (pgs_cons h k hs) fun vs σ H Q ⟨env, B, ds, env', s, r, e, q⟩ => by
  cases ds with
  | nil => cases e
  | cons d ds =>
    obtain ⟨v, r', e1, e2, e3⟩ := r
    cases hf : f d env with
    | none =>
      have e' : (f d env).bind (g ds) = some env' := e
      rw [hf] at e'; cases e'
    | some env1 =>
      have e' : (f d env).bind (g ds) = some env' := e
      rw [hf] at e'
      exact ⟨v, r', e1, env, B, d, env1, s, e2, hf, fun σ1 s1 x1 t1 => ⟨env1, B, ds, env', s1, e3, e', fun σ2 s2 x2 t2 => q σ2 s2 (x1.trans x2) (t1.trans t2)⟩⟩
def asT (n : Nat) (g : Asgs) : Asg := fun d env => match d with
  | .tup ds => if ds.length = n then g ds env else none
  | .lst ds => if ds.length = n then g ds env else none
  | _ => none
theorem PG.or {t t' : TG} (h : PG X tg t) (k : PG X tg t') : PG X tg (fun v σ H Q => t v σ H Q ∨ t' v σ H Q) := ⟨fun pins s σ H v u Q I r q => q.elim (h.run pins s σ H v u Q I r) (k.run pins s σ H v u Q I r)⟩
theorem gT {k n : Nat} {g : Asgs} {own : List Nat} (hK : X.K = Γ.K) (hc : X.calm = true) (h : PGs X es (tGs Γ own g)) (hn : (assignEach es X.env).length = n := by rfl) (hst : (assignEach es X.env).findIdx? (·.1) = none := by rfl) : PG X (.Tuple es k pos) (tGo Γ own (asT n g)) :=
  imG (PG.or (pg_tup hc h hn hst) (pg_unl hc h hn hst)) fun v σ H Q ⟨env, B, d, env', s, r, e, q⟩ => by
    cases d with
    | tup ds =>
      have e' : (if ds.length = n then g ds env else none) = some env' := e
      split at e'
      · rename_i hl
        obtain ⟨a, vs, rfl, k1, k2⟩ := r
        exact .inl ⟨a, vs, rfl, by rw [hK]; exact sqT_mono s.same k1, k2.length.symm.trans hl, env, B, ds, env', s, k2, e', q⟩
      · cases e'
    | lst ds =>
      have e' : (if ds.length = n then g ds env else none) = some env' := e
      split at e'
      · rename_i hl
        obtain ⟨a, vs, rfl, k1, k2⟩ := r
        exact .inr ⟨a, vs, rfl, .inl (.inl (s.same _ _ k1)), k2.length.symm.trans hl, env, B, ds, env', s, k2, e', q⟩
      · cases e'
    | _ => cases e
/-- a target, from a value -/
def dAsg (t : Asg) (f : DenV) : DenS := fun env => (f env).bind fun d e => match t d e with
  | some e' => .ok .nx e'
  | none => .bad
theorem sAsg {t : Asg} {f : DenV} {own : List Nat} (h : SV X Γ W e f) (hg : PG X tg (tGo Γ own t)) (hs : swapsWithSole [tg] e pos.line X.env = pure false := by rfl) (hw : swappedStores [tg] e X.env = pure none := by rfl) (h1 : (assignEach [tg] X.env).map (·.2) = [assign tg X.env] := by rfl) : SS X Γ W (.Assign [tg] e pos) (dAsg t f) :=
  imS (ps_asg h hg hs hw h1) fun Q σ H ⟨env, B, s, p⟩ => by
    refine ⟨env, B, s, p.bind.mono fun d e1 B1 H1 s1 x1 q1 v hv => ?_⟩
    obtain ⟨x, q⟩ := q1
    cases ht : t d e1 with
    | none => rw [ht] at q; exact q.elim
    | some e2 =>
      rw [ht] at q
      exact ⟨e1, B1, d, e2, s1, hv, ht, fun σ2 s2 x2 _ => q σ2 B1 H1 s2 (x.trans x2)⟩
/-- x, y = e1, e2 -/
def dPar (i j : Nat) (fs : DenVs) : DenS := fun env => (fs env).bind fun ds e => match ds with
  | [a, b] => .ok .nx ((e.set i (.val a)).set j (.val b))
  | _ => .bad
theorem sPar {i j : Nat} {x y : Str} {fs : DenVs} {px py pt : Pos} {kt k2 : Nat} {pt2 : Pos} (hi0 : i ∉ Γ.R) (hj0 : j ∉ Γ.R) (hc : X.calm = true) (hN : X.N.Nodup) (hi : X.N[i]? = some x) (hj : X.N[j]? = some y) (hij : i ≠ j)
    (hx : X.env.scope.names.lookup x = some .local) (hy : X.env.scope.names.lookup y = some .local) (ha : SVs X Γ W [a, b] fs)
    (hw : swappedStores [.Tuple [.Name x px, .Name y py] kt pt] (.Tuple [a, b] k2 pt2) X.env = pure (some [x, y]) := by rfl)
    (hs : swapsWithSole [.Tuple [.Name x px, .Name y py] kt pt] (.Tuple [a, b] k2 pt2) pos.line X.env = pure false := by rfl) :
    SS X Γ W (.Assign [.Tuple [.Name x px, .Name y py] kt pt] (.Tuple [a, b] k2 pt2) pos) (dPar i j fs) :=
  imS (ps_par hc hN hi hj hij hx hy ha hw hs) fun Q σ H ⟨env, B, s, p⟩ => by
    refine ⟨env, B, s, p.bind.mono fun ds e1 B1 H1 s1 x1 q1 vs hv => ?_⟩
    obtain ⟨x, q⟩ := q1
    match ds, q, hv with
    | [d1, d2], q, hv =>
      obtain ⟨v, r, e1', k1, w, r2, e2', k2, k3⟩ := hv
      have k3' : r2 = [] := k3
      exact ⟨v, w, by rw [e1', e2', k3'], q _ _ _ ((s1.setV k1).setV k2) ((x.setV hi0).setV hj0)⟩
/-- x op= e -/
def dAug (i : Nat) (g : D → D → Option Ent) (f : DenV) : DenS := fun env => match env[i]? with
  | some (.val d) => (f env).bind fun y e => (match g d y with
    | some (.val z) => .ok .nx (e.set i (.val z))
    | _ => .bad)
  | _ => .bad
theorem sAug {i : Nat} {x : Str} {op : Operator} {ti : TIp} {g : D → D → Option Ent} {f : DenV} {pos' : Pos} (hi : i ∉ Γ.R) (h : SV X Γ W e f) (ho : PIp X op ti) (hg : ∀ {d y z : D} {B H : Hp} {v w : V} {Q : VK}, g d y = some (.val z) → Rep Γ B d v → Rep Γ B y w → (∀ u, Rep Γ B z u → Q u H) → ti v w H Q)
    (hN : X.N.Nodup) (hx : X.N[i]? = some x) (hl : Loc X.env.scope x) (hf : X.fn x = true ∨ X.env.scope.names.lookup x = some .local := by first | exact .inl rfl | exact .inr rfl | assumption) :
    SS X Γ W (.AugAssign (.Name x pos') op e pos) (dAug i g f) := imS (ps_aug hN hx hl h ho hf) fun Q σ H ⟨env, B, s, p⟩ => by
  have p' : PostS Γ W env σ B H Q (match env[i]? with
    | some (.val d) => (f env).bind fun y e => (match g d y with
      | some (.val z) => .ok .nx (e.set i (.val z))
      | _ => .bad)
    | _ => .bad) := p
  cases hh : env[i]? with
  | none => rw [hh] at p'; exact p'.elim
  | some en =>
    rw [hh] at p'
    obtain ⟨o, ho', k⟩ := s.slot hh
    cases en with
    | val d =>
      obtain ⟨v, rfl, r⟩ := k
      refine ⟨v, ho', env, B, s, p'.bind.mono fun y e1 B1 H1 s1 x1 q1 w hw => ?_⟩
      obtain ⟨x, q⟩ := q1
      cases hgd : g d y with
      | none => rw [hgd] at q; exact q.elim
      | some en =>
        rw [hgd] at q
        cases en with
        | val z => exact hg hgd (Rep.mono x1.b d v r) hw fun u hu => q _ _ _ (s1.setV hu) (x.setV hi)
        | _ => exact q.elim
    | _ => exact p'.elim
theorem aug_add {d y z : D} {B H : Hp} {v w : V} {Q : VK} (h : gAdd d y = some (.val z)) (r : Rep Γ B d v) (k : Rep Γ B y w) (hd : ∃ i, d = .int i) (q : ∀ u, Rep Γ B z u → Q u H) : (ipI fun i j => i + j) v w H Q := by
  obtain ⟨i, rfl⟩ := hd
  cases y with
  | int j => cases h; exact ⟨i, j, r, k, q _ rfl⟩
  | _ => cases h
def gAddI : D → D → Option Ent
  | .int i, .int j => some (.val (.int (i + j)))
  | _, _ => none
theorem augI_add {d y z : D} {B H : Hp} {v w : V} {Q : VK} (h : gAddI d y = some (.val z)) (r : Rep Γ B d v) (k : Rep Γ B y w) (q : ∀ u, Rep Γ B z u → Q u H) : (ipI fun i j => i + j) v w H Q := by
  cases d with
  | int i => cases y with
    | int j => cases h; exact ⟨i, j, r, k, q _ rfl⟩
    | _ => cases h
  | _ => cases h
theorem augI_sub {d y z : D} {B H : Hp} {v w : V} {Q : VK} (h : gSub d y = some (.val z)) (r : Rep Γ B d v) (k : Rep Γ B y w) (q : ∀ u, Rep Γ B z u → Q u H) : (ipI fun i j => i - j) v w H Q := by
  cases d with
  | int i => cases y with
    | int j => cases h; exact ⟨i, j, r, k, q _ rfl⟩
    | _ => cases h
  | _ => cases h
/-! ### lists that change -/
theorem StOk.write {env : Sto} {σ : L2.St} {B H : Hp} {i : Nat} {xs ys : List D} {p : Addr} {ws : List V} (s : StOk Γ env σ B H) (hi : env[i]? = some (.mu xs)) (hs : σ[i]? = some (some (.ref p))) (r : Reps Γ B ys ws) :
    StOk Γ (env.set i (.mu ys)) σ B (upd H p (.lst ws)) where
  same := fun q o hq => by
    have hb := (s.own_none ⟨i, xs, hi, hs⟩).1
    rw [upd_ne (ne_of_none hq hb)]
    exact s.same q o hq
  len := by rw [List.length_set]; exact s.len
  ent := fun j e o h1 h2 => by
    have hb := (s.own_none ⟨i, xs, hi, hs⟩).1
    rcases Sto.set_get h1 with ⟨rfl, rfl⟩ | ⟨ne, q⟩
    · rw [hs] at h2
      cases h2
      exact ⟨p, ws, rfl, hb, upd_same, r⟩
    · have k := s.ent j e o q h2
      cases e with
      | un => trivial
      | val d => exact k
      | mu zs =>
        obtain ⟨q', vs, e1, e2, e3, e4⟩ := k
        subst e1
        refine ⟨q', vs, rfl, e2, ?_, e4⟩
        rw [upd_ne]
        · exact e3
        · rintro rfl
          exact ne (s.dis i j xs zs q' hi q hs h2)
      | exn c ns zs =>
        obtain ⟨dd, vs, e1, e2, e3, e4, e5⟩ := k
        refine ⟨dd, vs, e1, e2, ?_, e4, e5⟩
        rw [upd_ne]
        · exact e3
        · rintro rfl
          obtain ⟨_, us, z⟩ := s.own_none ⟨i, xs, hi, hs⟩
          rw [z] at e3
          cases e3
  dis := fun j k ys' zs q h1 h2 h3 h4 => by
    have m : ∀ {j : Nat} {zs : List D}, (env.set i (.mu ys))[j]? = some (.mu zs) → ∃ us, env[j]? = some (.mu us) := fun {j zs} h => by
      rcases Sto.set_get h with ⟨rfl, _⟩ | ⟨_, q⟩
      · exact ⟨_, hi⟩
      · exact ⟨_, q⟩
    obtain ⟨u1, k1⟩ := m h1
    obtain ⟨u2, k2⟩ := m h2
    exact s.dis j k u1 u2 q k1 k2 h3 h4
theorem Own.write {env : Sto} {σ : L2.St} {i : Nat} {xs ys : List D} {q : Addr} (hi : env[i]? = some (.mu xs)) (h : Own (env.set i (.mu ys)) σ q) : Own env σ q := by
  obtain ⟨j, zs, e1, e2⟩ := h
  rcases Sto.set_get e1 with ⟨rfl, _⟩ | ⟨n, k⟩
  · exact ⟨i, xs, hi, e2⟩
  · exact ⟨j, zs, k, e2⟩
theorem Ext.write {env : Sto} {σ : L2.St} {B H : Hp} {i : Nat} {xs ys : List D} {p : Addr} {ws : List V} (s : StOk Γ env σ B H) (hi : env[i]? = some (.mu xs)) (hs : σ[i]? = some (some (.ref p))) :
    Ext Γ env σ B H (env.set i (.mu ys)) σ B (upd H p (.lst ws)) where
  b := Same.refl _
  t := fun q h => by
    by_cases z : q = p
    · subst z; rw [upd_same]; exact fun z => nomatch z
    · rw [upd_ne z]; exact h
  f := fun q o h n => ⟨by
    rw [upd_ne]
    · exact h
    · rintro rfl
      exact n ⟨i, xs, hi, hs⟩, fun z => z, fun z => n (z.write hi)⟩
  r := fun j hj => ⟨rfl, fun zs q e1 e2 => by
    by_cases z : i = j
    · subst z
      exact .inl ⟨ys, List.getElem?_set_self (List.getElem?_eq_some_iff.mp e1).1⟩
    · exact .inl ⟨zs, by rw [List.getElem?_set_ne z]; exact e1⟩⟩
/-- xs[k] = e, xs in slot i -/
def dPut (i : Nat) (fk fe : DenV) : DenS := fun env => (fe env).bind fun d e1 => match e1[i]? with
  | some (.mu _) => (fk e1).bind fun k e2 => (match k, e2[i]? with
    | .int k, some (.mu xs) => (match ixN xs.length k with
      | some j => .ok .nx (e2.set i (.mu (xs.set j d)))
      | none => .bad)
    | _, _ => .bad)
  | _ => .bad
theorem sPut {i : Nat} {fk fe : DenV} {k : Expr} {tpos : Pos} (ho : PE X a (tVar i)) (hk : SV X Γ W k fk) (he : SV X Γ W e fe) (hs : swapsWithSole [.Subscript a k tpos] e pos.line X.env = pure false := by rfl) (hw : swappedStores [.Subscript a k tpos] e X.env = pure none := by rfl)
    (h1 : (assignEach [.Subscript a k tpos] X.env).map (·.2) = [assign (.Subscript a k tpos) X.env] := by rfl)
    (h2 : ∀ v, assign (.Subscript a k tpos) X.env v = (do
      let ov ← holding [v] (eval a X.env)
      let iv ← holding [v, ov] (eval k X.env)
      standAt tpos
      holding [v, ov, iv] (setItem ov iv v)
      release [v, ov, iv] []) := by intro _; rfl) :
    SS X Γ W (.Assign [.Subscript a k tpos] e pos) (dPut i fk fe) := imS (ps_asg he (pg_sub ho hk set_list h2) hs hw h1) fun Q σ H ⟨env, B, s, p⟩ => by
  refine ⟨env, B, s, p.bind.mono fun d e1 B1 H1 s1 x1 q1 v hv => ?_⟩
  obtain ⟨x, q⟩ := q1
  have q' : PostS Γ W e1 σ B1 H1 Q (match e1[i]? with
    | some (.mu _) => (fk e1).bind fun k e2 => (match k, e2[i]? with
      | .int k, some (.mu xs) => (match ixN xs.length k with
        | some j => .ok .nx (e2.set i (.mu (xs.set j d)))
        | none => .bad)
      | _, _ => .bad)
    | _ => .bad) := PostS.fwd s1 x q
  cases hh : e1[i]? with
  | none => rw [hh] at q'; exact q'.elim
  | some en =>
    rw [hh] at q'
    obtain ⟨o, ho', k0⟩ := s1.slot hh
    cases en with
    | mu xs0 =>
      obtain ⟨p0, vs0, rfl, hb, hp, r0⟩ := k0
      refine ⟨_, ho', e1, B1, s1, q'.bind.mono fun kk e2 B2 H2 s2 x2 q2 w hw => ?_⟩
      obtain ⟨x', q3⟩ := q2
      cases kk with
      | int kk =>
        cases h2 : e2[i]? with
        | none => rw [h2] at q3; exact q3.elim
        | some en2 =>
          rw [h2] at q3
          cases en2 with
          | mu xs =>
            obtain ⟨o2, ho2, k2⟩ := s2.slot h2
            obtain ⟨p2, vs, e2', hb2, hp2, r2⟩ := k2
            rw [ho'] at ho2
            cases ho2
            cases e2'
            have q4 : PostS Γ W e1 σ B1 H1 Q (match ixN xs.length kk with
              | some j => .ok .nx (e2.set i (.mu (xs.set j d)))
              | none => .bad) := q3
            cases hj : ixN xs.length kk with
            | none => rw [hj] at q4; exact q4.elim
            | some j =>
              rw [hj] at q4
              exact ⟨p0, vs, kk, j, rfl, hw, hp2, by rw [← r2.length]; exact hj, q4 _ _ _ (s2.write h2 ho' (r2.set (Rep.mono x2.b d v hv) j)) (x'.trans (Ext.write s2 h2 ho'))⟩
          | _ => exact q3.elim
      | _ => exact q3.elim
    | _ => exact q'.elim
/-! ### expressions as statements -/
def dExp (f : DenV) : DenS := fun env => (f env).bind fun _ e => .ok .nx e
theorem sExp {f : DenV} (h : SV X Γ W e f) (hs : swapsWith e none pos.line X.env = pure false := by rfl) : SS X Γ W (.Expr e pos) (dExp f) := imS (ps_expr h hs) fun Q σ H ⟨env, B, s, p⟩ =>
  ⟨env, B, s, p.bind.mono fun d e1 B1 H1 s1 x1 q1 v hv => q1.2 σ B1 H1 s1 q1.1⟩
/-- xs.append(e) -/
def dApp (i : Nat) (f : DenV) : DenV := fun env => match env[i]? with
  | some (.mu _) => (f env).bind fun d e => (match e[i]? with
    | some (.mu xs) => if xs.length < 1000000 then .ok .non (e.set i (.mu (xs ++ [d]))) else .bad
    | _ => .bad)
  | _ => .bad
theorem sApp {i : Nat} {f : DenV} {p1 cpos : Pos} (hK : X.K = Γ.K) (ho : PE X a (tVar i)) (h : SV X Γ W e f) (hbase : attributeBase a "append" X.env (eval a X.env) = eval a X.env := by rfl)
    (hfew : ((backTo cpos (starEach [e] X.env)).all (fun x => !x.1) && (backToKw cpos (keywordEach [] X.env)).all (fun x => x.1.isSome)
      && decide (([e] : List Expr).length + ([] : List Keyword).length + (if ([] : List Keyword).isEmpty then 0 else 1) < 30)) = true := by rfl)
    (hline : (p1.endLine == cpos.line) = true := by rfl) (hs : starEach [e] X.env = (false, eval e X.env) :: starEach [] X.env := by rfl) (hplain : (backTo cpos (starEach [] X.env)).any (·.1) = false := by rfl) :
    SV X Γ W (.Call (.Attribute a "append" p1) [e] [] cpos) (dApp i f) :=
  imE (pe_bm PySem.F.plainAttrs_list PySem.F.slot_list_append PySem.F.type_list_append mt_append ho (pa_cons h pa_nil hs) hbase hfew hline hs hplain) fun σ H Q ⟨env, B, s, p⟩ => by
    have p' : Post Γ W env σ B H (fun d _ B' H' => ∀ v, Rep Γ B' d v → Q v H') (match env[i]? with
      | some (.mu _) => (f env).bind fun d e => (match e[i]? with
        | some (.mu xs) => if xs.length < 1000000 then .ok .non (e.set i (.mu (xs ++ [d]))) else .bad
        | _ => .bad)
      | _ => .bad) := p
    cases hh : env[i]? with
    | none => rw [hh] at p'; exact p'.elim
    | some en =>
      rw [hh] at p'
      obtain ⟨o, ho', k0⟩ := s.slot hh
      cases en with
      | mu xs0 =>
        obtain ⟨p0, vs0, rfl, hb, hp, r0⟩ := k0
        refine ⟨.ref p0, ho', .inl ⟨rfl, vs0, .inl (.inl hp)⟩, env, B, s, p'.bind.mono fun d e1 B1 H1 s1 x1 q1 v hv => ?_⟩
        cases h2 : e1[i]? with
        | none => rw [h2] at q1; exact q1.elim
        | some en2 =>
          rw [h2] at q1
          cases en2 with
          | mu xs =>
            obtain ⟨o2, ho2, k2⟩ := s1.slot h2
            obtain ⟨p2, vs, e2', hb2, hp2, r2⟩ := k2
            rw [ho'] at ho2
            cases ho2
            cases e2'
            have q4 : Post Γ W e1 σ B1 H1 (fun d _ B' H' => ∀ v, Rep Γ B' d v → Q v H') (if xs.length < 1000000 then .ok .non (e1.set i (.mu (xs ++ [d]))) else .bad) := q1
            split at q4
            · rename_i hl
              exact ⟨p0, vs, v, rfl, rfl, hp2, LN_lt (by rw [← r2.length]; omega), q4 _ _ (s1.write h2 ho' (r2.append (Reps.one hv))) (Ext.write s1 h2 ho') _ rfl⟩
            · exact q4.elim
          | _ => exact q1.elim
      | _ => exact p'.elim
/-! ### what is walked -/
structure Grow (B H B' H' : Hp) : Prop where
  b : Same B B'
  h : Same H H'
  s : Same B' H'
  n : ∀ p o, H p = some o → B p = none → B' p = none
theorem Grow.refl {B H : Hp} (s : Same B H) : Grow B H B H := ⟨Same.refl _, Same.refl _, s, fun _ _ _ h => h⟩
theorem StOk.growG {env : Sto} {σ : L2.St} {B H B' H' : Hp} (s : StOk Γ env σ B H) (g : Grow B H B' H') : StOk Γ env σ B' H' :=
  s.grow g.b g.h g.s fun p hp => by
    obtain ⟨h1, vs, h2⟩ := s.own_none hp
    exact g.n p _ h2 h1
theorem Ext.growG {env : Sto} {σ : L2.St} {B H B' H' : Hp} (g : Grow B H B' H') : Ext Γ env σ B H env σ B' H' := Ext.grow g.b g.h g.n
def Walks (Γ : Wd) (J : It) (items : List D) (B : Hp) : Prop := ∀ (i : Nat) (B2 H2 : Hp), Same B B2 → Same B2 H2 →
  (∀ d, items[i]? = some d → J.go i H2 ∧ ∀ x H3, J.yld i H2 x H3 → ∃ B3, Grow B2 H2 B3 H3 ∧ Rep Γ B3 d x) ∧ (items.length ≤ i → J.stop i H2)
theorem Walks.mono {J : It} {items : List D} {B B' : Hp} (h : Walks Γ J items B) (s : Same B B') : Walks Γ J items B' := fun i B2 H2 k1 k2 => h i B2 H2 (s.trans k1) k2
abbrev DenI := Sto → Res (List D)
def tI (Γ : Wd) (W : WX) (f : DenI) : TI := fun σ H R => ∃ env B, StOk Γ env σ B H ∧ Post Γ W env σ B H (fun items _ B' H' => ∀ J, Walks Γ J items B' → R J H') (f env)
abbrev SI (X : Cx) (Γ : Wd) (W : WX) (tg iter : Expr) (f : DenI) : Prop := PI X tg iter (tI Γ W f)
theorem imI {X : Cx} {tg e : Expr} {t t' : TI} (h : PI X tg e t) (i : ∀ σ H Q, t' σ H Q → t σ H Q) : PI X tg e t' := ⟨fun pins s σ H Q I q => h.run pins s σ H Q I (i σ H Q q)⟩
/-- a list or a tuple -/
def iSeq (K : PySem.W.Frag) (tl : TE) : TI := fun σ H R => tl σ H fun x H1 => ∃ a, x = .ref a ∧ (((∃ xs, SqL K H1 a xs) ∧ R (Itl K a) H1) ∨ ((∃ xs, SqT K H1 a xs) ∧ R (Itt K a) H1))
/-- one object, just made -/
theorem one_own {X : Cx} {pins : List (Addr × Obj)} {σ : L2.St} {H : Hp} {s : Shared} (I : Inv X pins σ H s) : ∀ b ∈ [s.heap.objs.size], FpOk X pins H b :=
  List.forall_mem_cons.mpr ⟨I.fpOk (Nat.le_refl _) (I.hok.fresh (Nat.le_refl _)), nofun⟩
theorem starts_list {X : Cx} {pins : List (Addr × Obj)} {σ : L2.St} {H : Hp} {s : Shared} {tg : Expr} {R : It → Hp → Prop} {E : Value → Shared → Prop} {a : Addr} {xs : List V} (I : Inv X pins σ H s) (sq : SqL X.K H a xs) (q : R (Itl X.K a) H) :
    wpAny (model X.prog X.w) X.A (pyIter (.ref a)) (PIE X pins σ tg R) E s :=
  have ⟨_, _, at_, _⟩ := I.list sq
  wpAny_pyIter_list at_.isList ⟨_, _, _, _, H, rfl, I.kept (t' := s.toks) fun _ _ => Heap.get?_push_of_some _, turn_list a _, ⟨_, Heap.get?_push_size _ rfl, rfl, rfl⟩, one_own I, q⟩
theorem starts_tup {X : Cx} {pins : List (Addr × Obj)} {σ : L2.St} {H : Hp} {s : Shared} {tg : Expr} {R : It → Hp → Prop} {E : Value → Shared → Prop} {a : Addr} {xs : List V} (I : Inv X pins σ H s) (sq : SqT X.K H a xs) (q : R (Itt X.K a) H) :
    wpAny (model X.prog X.w) X.A (pyIter (.ref a)) (PIE X pins σ tg R) E s :=
  have ⟨its, _, (at_ : s.heap.IsTuple a its.toArray), _⟩ := I.tuple sq
  wpAny_pyIter_tuple at_ ⟨_, _, _, _, H, rfl, I.kept (t' := s.toks) fun _ _ => Heap.get?_push_of_some _, turn_tuple a _, ⟨_, Heap.get?_push_size _ rfl, rfl, rfl⟩, one_own I, q⟩
theorem pi_seq {l : Expr} {tl : TE} (hl : PE X l tl) : PI X tg l (iSeq X.K tl) := by
  constructor
  intro pins s σ H R I goal
  refine thn (hl.run pins s σ H _ I goal) ?_
  rintro _ s1 ⟨_, G, J, rel, a, rfl, q⟩
  cases rel
  exact q.elim (fun ⟨⟨_, sq⟩, r⟩ => starts_list J sq r) fun ⟨⟨_, sq⟩, r⟩ => starts_tup J sq r
def dIt (f : DenV) : DenI := fun env => (f env).bind fun d e => match d.its with
  | some xs => .ok xs e
  | none => .bad
theorem walks_list {a : Addr} {items : List D} {B : Hp} {vs : List V} (h : SqL Γ.K B a vs) (r : Reps Γ B items vs) : Walks Γ (Itl Γ.K a) items B := fun i B2 H2 k1 k2 => by
  have hq : SqL Γ.K H2 a vs := k2.seq (k1.seq h)
  refine ⟨fun d hd => ?_, fun hl => ⟨vs, hq, by rw [← r.length]; exact hl⟩⟩
  obtain ⟨v, hv, rv⟩ := r.get hd
  refine ⟨⟨vs, v, hq, hv⟩, fun x H3 y => ?_⟩
  obtain ⟨e, y⟩ := y
  subst e
  have e2 : v = x := Option.some.inj (hv.symm.trans (y vs hq))
  subst e2
  exact ⟨B2, Grow.refl k2, Rep.mono k1 d v rv⟩
theorem walks_tup {a : Addr} {items : List D} {B : Hp} {vs : List V} (h : SqT Γ.K B a vs) (r : Reps Γ B items vs) : Walks Γ (Itt Γ.K a) items B := fun i B2 H2 k1 k2 => by
  have hq : SqT Γ.K H2 a vs := sqT_mono k2 (sqT_mono k1 h)
  refine ⟨fun d hd => ?_, fun hl => ⟨vs, hq, by rw [← r.length]; exact hl⟩⟩
  obtain ⟨v, hv, rv⟩ := r.get hd
  refine ⟨⟨vs, v, hq, hv⟩, fun x H3 y => ?_⟩
  obtain ⟨e, y⟩ := y
  subst e
  have e2 : v = x := Option.some.inj (hv.symm.trans (y vs hq))
  subst e2
  exact ⟨B2, Grow.refl k2, Rep.mono k1 d v rv⟩
theorem sIt {f : DenV} (hK : X.K = Γ.K) (h : SV X Γ W e f) : SI X Γ W tg e (dIt f) := imI (pi_seq h) fun σ H R ⟨env, B, s, p⟩ => by
  refine ⟨env, B, s, p.bind.mono fun d e1 B1 H1 s1 x1 q1 v hv => ?_⟩
  cases d with
  | tup xs =>
    obtain ⟨a, vs, rfl, k1, k2⟩ := hv
    exact ⟨a, rfl, .inr ⟨⟨vs, by rw [hK]; exact sqT_mono s1.same k1⟩, by rw [hK]; exact Post.here s1 q1 _ (walks_tup k1 k2)⟩⟩
  | lst xs =>
    obtain ⟨a, vs, rfl, k1, k2⟩ := hv
    exact ⟨a, rfl, .inl ⟨⟨vs, .inl (.inl (s1.same _ _ k1))⟩, by rw [hK]; exact Post.here s1 q1 _ (walks_list (.inl (.inl k1)) k2)⟩⟩
  | fl xs =>
    obtain ⟨a, vs, rfl, k1, k2⟩ := hv
    exact ⟨a, rfl, .inl ⟨⟨vs, by rw [hK]; exact s1.same.seq k1⟩, by rw [hK]; exact Post.here s1 q1 _ (walks_list k1 k2)⟩⟩
  | _ => exact q1.elim
/-- lo, lo + 1, .. -/
def rngD (lo : Int) (n : Nat) : List D := (List.range n).map fun i => .int (lo + (i : Nat))
theorem walks_rng {lo : Int} {n : Nat} {B : Hp} : Walks Γ (Itr lo n) (rngD lo n) B := fun i B2 H2 k1 k2 => by
  unfold rngD
  refine ⟨fun d hd => ?_, fun hl => by rw [List.length_map, List.length_range] at hl; exact hl⟩
  rw [List.getElem?_map] at hd
  cases hr : (List.range n)[i]? with
  | none => rw [hr] at hd; cases hd
  | some j =>
    rw [hr] at hd
    cases hd
    have hi := List.getElem?_eq_some_iff.mp hr
    obtain ⟨h1, h2⟩ := hi
    rw [List.length_range] at h1
    rw [List.getElem_range] at h2
    subst h2
    exact ⟨h1, fun x H3 y => ⟨B2, by rw [y.1]; exact Grow.refl k2, y.2⟩⟩
def dRng1 (f : DenA) : DenI := fun env => (f env).bind fun as e => match getAll as e with
  | some [.int j] => if -(2 ^ 62) ≤ j ∧ j < 2 ^ 62 then .ok (rngD 0 j.toNat) e else .bad
  | _ => .bad
theorem sRng1 {f : DenA} {p : Pos} (hg : Gl X "range") (hm : X.mg "range" = none) (ha : SA X Γ W [a] f) (hs : starEach [a] X.env = [(false, eval a X.env)] := by rfl) : SI X Γ W tg (.Call (.Name "range" p) [a] [] pos) (dRng1 f) :=
  imI (pi_range1 hg hm ha hs) fun σ H R ⟨env, B, s, p⟩ => by
    refine ⟨env, B, s, p.bind.mono fun as e1 B1 H1 s1 x1 q1 vs hv => ?_⟩
    cases hh : getAll as e1 with
    | none => rw [hh] at q1; exact q1.elim
    | some ds =>
      rw [hh] at q1
      have r := getAll_now s1 hv hh
      match ds, q1, r with
      | [.int j], q1, r =>
        obtain ⟨v, rfl, k⟩ := r.one
        have q2 : Post Γ W e1 σ B1 H1 (fun items _ B' H' => ∀ J, Walks Γ J items B' → R J H') (if -(2 ^ 62) ≤ j ∧ j < 2 ^ 62 then .ok (rngD 0 j.toNat) e1 else .bad) := q1
        split at q2
        · rename_i hl
          exact ⟨j, by rw [k.int], hl.1, hl.2, Post.here s1 q2 _ walks_rng⟩
        · exact q2.elim
def dRng2 (f : DenA) : DenI := fun env => (f env).bind fun as e => match getAll as e with
  | some [.int i, .int j] => if (-(2 ^ 62) ≤ i ∧ i < 2 ^ 62) ∧ (-(2 ^ 62) ≤ j ∧ j < 2 ^ 62) then .ok (rngD i (j - i).toNat) e else .bad
  | _ => .bad
theorem sRng2 {f : DenA} {p : Pos} (hg : Gl X "range") (hm : X.mg "range" = none) (ha : SA X Γ W [a, b] f) (hs : starEach [a, b] X.env = [(false, eval a X.env), (false, eval b X.env)] := by rfl) (hs2 : starEach [b] X.env = [(false, eval b X.env)] := by rfl) : SI X Γ W tg (.Call (.Name "range" p) [a, b] [] pos) (dRng2 f) :=
  imI (pi_range2 hg hm ha hs hs2) fun σ H R ⟨env, B, s, p⟩ => by
    refine ⟨env, B, s, p.bind.mono fun as e1 B1 H1 s1 x1 q1 vs hv => ?_⟩
    cases hh : getAll as e1 with
    | none => rw [hh] at q1; exact q1.elim
    | some ds =>
      rw [hh] at q1
      have r := getAll_now s1 hv hh
      match ds, q1, r with
      | [.int i, .int j], q1, r =>
        obtain ⟨v, w, rfl, k, k'⟩ := r.two
        have q2 : Post Γ W e1 σ B1 H1 (fun items _ B' H' => ∀ J, Walks Γ J items B' → R J H') (if (-(2 ^ 62) ≤ i ∧ i < 2 ^ 62) ∧ (-(2 ^ 62) ≤ j ∧ j < 2 ^ 62) then .ok (rngD i (j - i).toNat) e1 else .bad) := q1
        split at q2
        · rename_i hl
          exact ⟨i, j, by rw [k.int, k'.int], ⟨hl.1.1, hl.1.2, hl.2.1, hl.2.2⟩, Post.here s1 q2 _ walks_rng⟩
        · exact q2.elim
/-! ### for -/
def loopF (t : Asg) (body : DenS) : List D → DenS
  | [] => fun env => .ok .nx env
  | d :: ds => fun env => match t d env with
    | none => .bad
    | some e1 => (match body e1 with
      | .ok .nx e2 => loopF t body ds e2
      | .ok .ct e2 => loopF t body ds e2
      | .ok .bk e2 => .ok .nx e2
      | r => r)
def dFor (t : Asg) (it : DenI) (body : DenS) : DenS := fun env => (it env).bind fun items e => loopF t body items e
theorem sFor {t : Asg} {it : DenI} {own : List Nat} (hp : PassesOwn (model X.prog X.w) X.A X.env X.xe) (hc : X.calm = true) (hi : SI X Γ W tg e it) (hg : PG X tg (tGo Γ own t)) (hb : SSs X Γ W body f) (hs : ∀ x, foldedSetIterable e X.env x = pure x := by intro _; rfl) : SS X Γ W (.For tg e body [] pos) (dFor t it f) :=
  imS (ps_for hp hc hi hg hb hs) fun Q σ H ⟨env, B, s, p⟩ => by
    refine ⟨env, B, s, p.bind.mono fun items e1 B1 H1 s1 x1 q1 J hJ => ?_⟩
    obtain ⟨x, q⟩ := q1
    have q0 : PostS Γ W e1 σ B1 H1 Q (loopF t f items e1) := PostS.fwd s1 x q
    refine ⟨fun i m σ2 H2 => m = items.length - i ∧ i ≤ items.length ∧ ∃ e2 B2, StOk Γ e2 σ2 B2 H2 ∧ Same B1 B2 ∧ PostS Γ W e2 σ2 B2 H2 Q (loopF t f (items.drop i) e2),
      ⟨items.length, by simp, Nat.zero_le _, e1, B1, s1, Same.refl _, q0⟩, ?_⟩
    rintro i m σ2 H2 ⟨rfl, hi, e2, B2, s2, sb, q2⟩
    have hw := hJ i B2 H2 sb s2.same
    by_cases hlt : i < items.length
    · obtain ⟨hgo, hyld⟩ := hw.1 items[i] (List.getElem?_eq_getElem hlt)
      refine .inr ⟨hgo, fun σ3 H3 => ∃ e3 B3, StOk Γ e3 σ3 B3 H3 ∧ Same B1 B3 ∧ PostS Γ W e3 σ3 B3 H3 Q (loopF t f (items.drop (i + 1)) e3), fun σ3 H3 ⟨e3, B3, s3, sb3, q3⟩ => ⟨items.length - (i + 1), by omega, rfl, hlt, e3, B3, s3, sb3, q3⟩, fun v H3 hy => ?_⟩
      obtain ⟨B3, gr, rv⟩ := hyld v H3 hy
      have s3 := s2.growG gr
      have q3 := PostS.fwd s3 (Ext.growG gr) q2
      rw [List.drop_eq_getElem_cons hlt] at q3
      have q4 : PostS Γ W e2 σ2 B3 H3 Q (match t items[i] e2 with
        | none => .bad
        | some e1 => (match f e1 with
          | .ok .nx e2 => loopF t f (items.drop (i + 1)) e2
          | .ok .ct e2 => loopF t f (items.drop (i + 1)) e2
          | .ok .bk e2 => .ok .nx e2
          | r => r)) := q3
      cases ht : t items[i] e2 with
      | none => rw [ht] at q4; exact q4.elim
      | some e3 =>
        rw [ht] at q4
        refine ⟨e2, B3, items[i], e3, s3, rv, ht, fun σ4 s4 x4 _ => ⟨e3, B3, s4, ?_⟩⟩
        have q5 : PostS Γ W e3 σ4 B3 H3 Q (match f e3 with
          | .ok .nx e2 => loopF t f (items.drop (i + 1)) e2
          | .ok .ct e2 => loopF t f (items.drop (i + 1)) e2
          | .ok .bk e2 => .ok .nx e2
          | r => r) := PostS.fwd s4 x4 q4
        have sb4 : Same B1 B3 := sb.trans gr.b
        cases hf : f e3 with
        | bad => rw [hf] at q5; exact q5.elim
        | err c ns xs e4 => rw [hf] at q5; exact q5
        | ok fl e4 =>
          rw [hf] at q5
          cases fl with
          | nx => exact fun σ5 B5 H5 s5 x5 => ⟨e4, B5, s5, sb4.trans x5.b, PostS.fwd s5 x5 q5⟩
          | ct => exact fun σ5 B5 H5 s5 x5 => ⟨e4, B5, s5, sb4.trans x5.b, PostS.fwd s5 x5 q5⟩
          | bk => exact q5
          | rt r => exact q5
    · have e : i = items.length := by omega
      subst e
      rw [List.drop_length] at q2
      exact .inl ⟨hw.2 (Nat.le_refl _), q2 _ _ _ s2 Ext.refl⟩
/-! ### while -/
def iterW (c : DenT) (body : DenS) : Nat → Sto → Option (Res Fl)
  | 0, _ => none
  | n + 1, env => match c env with
    | .bad => some .bad
    | .err k ns xs e => some (.err k ns xs e)
    | .ok false e => some (.ok .nx e)
    | .ok true e => (match body e with
      | .ok .nx e2 => iterW c body n e2
      | .ok .ct e2 => iterW c body n e2
      | .ok .bk e2 => some (.ok .nx e2)
      | r => some r)
open Classical in
noncomputable def dWhile (c : DenT) (body : DenS) : DenS := fun env => if h : ∃ n r, iterW c body n env = some r then h.choose_spec.choose else .bad
theorem iterW_mono {c : DenT} {body : DenS} : ∀ {n : Nat} {env : Sto} {r : Res Fl}, iterW c body n env = some r → ∀ k, iterW c body (n + k) env = some r
  | 0, env, r, h, k => by cases h
  | n + 1, env, r, h, k => by
    rw [show n + 1 + k = (n + k) + 1 by omega]
    unfold iterW at h ⊢
    cases hc : c env with
    | bad => rw [hc] at h; exact h
    | err _ _ _ _ => rw [hc] at h; exact h
    | ok b e =>
      rw [hc] at h
      cases b with
      | false => exact h
      | true =>
        have h' : (match body e with
          | .ok .nx e2 => iterW c body n e2
          | .ok .ct e2 => iterW c body n e2
          | .ok .bk e2 => some (.ok .nx e2)
          | r => some r) = some r := h
        show (match body e with
          | .ok .nx e2 => iterW c body (n + k) e2
          | .ok .ct e2 => iterW c body (n + k) e2
          | .ok .bk e2 => some (.ok .nx e2)
          | r => some r) = some r
        cases hb : body e with
        | bad => rw [hb] at h'; exact h'
        | err _ _ _ _ => rw [hb] at h'; exact h'
        | ok fl e2 =>
          rw [hb] at h'
          cases fl with
          | nx => exact iterW_mono h' k
          | ct => exact iterW_mono h' k
          | bk => exact h'
          | rt r => exact h'
theorem iterW_one {c : DenT} {body : DenS} {n m : Nat} {env : Sto} {r q : Res Fl} (h : iterW c body n env = some r) (k : iterW c body m env = some q) : r = q := by
  have h1 := iterW_mono h m
  have k1 := iterW_mono k n
  rw [Nat.add_comm] at k1
  rw [h1] at k1
  exact Option.some.inj k1
theorem dWhile_of {c : DenT} {body : DenS} {n : Nat} {env : Sto} {r : Res Fl} (h : iterW c body n env = some r) : dWhile c body env = r := by
  have hx : ∃ n r, iterW c body n env = some r := ⟨n, r, h⟩
  unfold dWhile
  rw [dif_pos hx]
  exact iterW_one hx.choose_spec.choose_spec h
/-- one turn -/
theorem iterW_turn {c : DenT} {body : DenS} {env e e2 : Sto} (hc : c env = .ok true e) (hb : body e = .ok .nx e2 ∨ body e = .ok .ct e2) (n : Nat) : iterW c body (n + 1) env = iterW c body n e2 := by
  rcases hb with hb | hb
  · unfold iterW
    rw [hc]
    simp only
    rw [hb]
    cases n <;> rfl
  · unfold iterW
    rw [hc]
    simp only
    rw [hb]
    cases n <;> rfl
theorem dWhile_turn {c : DenT} {body : DenS} {env e e2 : Sto} (hc : c env = .ok true e) (hb : body e = .ok .nx e2 ∨ body e = .ok .ct e2) : dWhile c body env = dWhile c body e2 := by
  by_cases h : ∃ n r, iterW c body n e2 = some r
  · obtain ⟨n, r, h⟩ := h
    rw [dWhile_of h]
    exact dWhile_of (n := n + 1) ((iterW_turn hc hb n).trans h)
  · have h2 : ¬ ∃ n r, iterW c body n env = some r := by
      rintro ⟨n, r, k⟩
      cases n with
      | zero => cases k
      | succ n => exact h ⟨n, r, (iterW_turn hc hb n).symm.trans k⟩
    unfold dWhile
    rw [dif_neg h, dif_neg h2]
theorem dWhile_end {c : DenT} {body : DenS} {env e : Sto} (hc : c env = .ok false e) : dWhile c body env = .ok .nx e := dWhile_of (n := 1) (by unfold iterW; rw [hc])
theorem sWhile {t : DenT} (hp : PassesOwn (model X.prog X.w) X.A X.env X.xe) (hc : ST X Γ W c t) (hb : SSs X Γ W body f) : SS X Γ W (.While c body [] pos) (dWhile t f) := imS (ps_while hp hc hb) fun Q σ H ⟨env, B, s, p⟩ => by
  have p' : PostS Γ W env σ B H Q (dWhile t f env) := p
  have hx : ∃ n r, iterW t f n env = some r := by
    by_cases h : ∃ n r, iterW t f n env = some r
    · exact h
    · unfold dWhile at p'
      rw [dif_neg h] at p'
      exact p'.elim
  obtain ⟨n, r, hn⟩ := hx
  rw [dWhile_of hn] at p'
  refine ⟨fun m σ2 H2 => ∃ e2 B2 r2, StOk Γ e2 σ2 B2 H2 ∧ iterW t f m e2 = some r2 ∧ PostS Γ W e2 σ2 B2 H2 Q r2, ⟨n, env, B, r, s, hn, p'⟩, ?_⟩
  rintro m σ2 H2 ⟨e2, B2, r2, s2, hi, q2⟩
  cases m with
  | zero => cases hi
  | succ m =>
    have hi' : (match t e2 with
      | .bad => some .bad
      | .err k ns xs e => some (.err k ns xs e)
      | .ok false e => some (.ok .nx e)
      | .ok true e => (match f e with
        | .ok .nx e2 => iterW t f m e2
        | .ok .ct e2 => iterW t f m e2
        | .ok .bk e2 => some (.ok .nx e2)
        | r => some r)) = some r2 := hi
    refine ⟨e2, B2, s2, ?_⟩
    cases ht : t e2 with
    | bad => rw [ht] at hi'; cases hi'; exact q2.elim
    | err k ns xs e3 => rw [ht] at hi'; cases hi'; exact fun cls d B3 H3 s3 x3 z => q2 cls d σ2 B3 H3 s3 x3 z
    | ok b e3 =>
      rw [ht] at hi'
      intro B3 H3 s3 x3
      cases b with
      | false =>
        cases hi'
        rw [if_neg Bool.false_ne_true]
        exact q2 _ _ _ s3 x3
      | true =>
        rw [if_pos rfl]
        have hi2 : (match f e3 with
          | .ok .nx e2 => iterW t f m e2
          | .ok .ct e2 => iterW t f m e2
          | .ok .bk e2 => some (.ok .nx e2)
          | r => some r) = some r2 := hi'
        refine ⟨fun σ4 H4 => ∃ e4 B4, StOk Γ e4 σ4 B4 H4 ∧ iterW t f m e4 = some r2 ∧ PostS Γ W e4 σ4 B4 H4 Q r2, fun σ4 H4 ⟨e4, B4, s4, h4, q4⟩ => ⟨m, Nat.lt_succ_self m, e4, B4, r2, s4, h4, q4⟩, e3, B3, s3, ?_⟩
        have q3 := PostS.fwd s3 x3 q2
        cases hf : f e3 with
        | bad => rw [hf] at hi2; cases hi2; exact q3.elim
        | err c ns xs e4 => rw [hf] at hi2; cases hi2; exact q3
        | ok fl e4 =>
          rw [hf] at hi2
          cases fl with
          | nx => exact fun σ5 B5 H5 s5 x5 => ⟨e4, B5, s5, hi2, PostS.fwd s5 x5 q3⟩
          | ct => exact fun σ5 B5 H5 s5 x5 => ⟨e4, B5, s5, hi2, PostS.fwd s5 x5 q3⟩
          | bk => cases hi2; exact q3
          | rt r => cases hi2; exact q3
end
end Ev
set_option Elab.async false
set_option linter.all false
set_option maxRecDepth 100000
set_option maxHeartbeats 4000000
namespace Ev
open PySem PySem.Spec PyProof.Rows L2
/-! ### room, and no display of a container under way: what repr of a list or tuple wants to know -/
structure RoomG (k : Nat) (A : Around) : Prop where
  room : Room k A
  gd : A.guards = some []
theorem RoomG.mono {j k : Nat} {A : Around} (r : RoomG k A) (h : j ≤ k) : RoomG j A := ⟨r.room.mono h, r.gd⟩
theorem RoomG.units {k : Nat} {A : Around} (r : RoomG k A) : A.units + 64 < cLine := r.room.units
theorem RoomG.deeper {k : Nat} {A : Around} (r : RoomG (k + 1) A) (env : Env) : RoomG k (A.deeper env) := ⟨r.room.deeper env, r.gd⟩
theorem RoomG.make {k : Nat} {A : Around} (r : RoomG (k + 1) A) (C : Addr) (us : List Value) (kw : List (Str × Value)) : RoomG k (A.under (.builtin "type.__call__" ⟨.ref C :: us, kw⟩)) := ⟨r.room.make C us kw, by
  have z : (Code.builtin "type.__call__" ⟨.ref C :: us, kw⟩).guards = [] := by
    unfold Code.guards
    rw [if_neg]
    intro q
    revert q
    show ¬ (guardIds.contains "type.__call__" = true)
    decide +kernel
  show pushGuards (Code.builtin "type.__call__" ⟨.ref C :: us, kw⟩).guards A.guards = some []
  rw [z]
  exact r.gd⟩
/-- what a def promises where nothing of that kind is under way -/
structure FnOkG (P : Program) (w : World) (K : PySem.W.Frag) (mg : Str → Option Value) (base : Heap) (CX : CXT) (k : Nat) (f : Addr) (fd : FuncData) (ps : List Str) (sp : Sp) : Prop where
  len : ∀ vs H Q E, sp vs H Q E → vs.length = ps.length
  run : ∀ (A : Around) (callers : List Env) (s : Shared) (H : Hp) (as : Args) (us : List Value) (vs : List V) (Q : VK) (E : XK), RoomG k A → Env0 P w K mg base A callers s H → BindsTo s fd as (ps.zip us) → Vals vs us → sp vs H Q E →
    codeAny (model P w) A (.call (.ref f) as) (CR CX callers P w H s Q E) s
section
variable {P : Program} {w : World} {K : PySem.W.Frag} {mg : Str → Option Value} {base : Heap} {CX : CXT} {k : Nat} {f : Addr} {fd : FuncData} {ps : List Str} {sp : Sp}
theorem FnOkG.mono {j : Nat} (F : FnOkG P w K mg base CX j f fd ps sp) (h : j ≤ k) : FnOkG P w K mg base CX k f fd ps sp := ⟨F.len, fun A o s H as us vs Q E r => F.run A o s H as us vs Q E (r.mono h)⟩
theorem _root_.L2.FnOk.toG (F : FnOk P w K mg base CX k f fd ps sp) : FnOkG P w K mg base CX k f fd ps sp := ⟨F.len, fun A o s H as us vs Q E r => F.run A o s H as us vs Q E r.room⟩
/-- a def by its body -/
theorem okG {x qual : Str} {params : Arguments} {body : List Stmt} {scope : Scope} {dvs : List V} {kws : List (Str × V)} {N : List Str} (F : FunD K x qual params body scope dvs kws f fd) (S : FnScope N ps scope) (hlen : ∀ vs H Q E, sp vs H Q E → vs.length = ps.length)
    (hb : ∀ (cdv : Value) (A : Around) (callers : List Env) (s : Shared) (H : Hp) (vs : List V) (Q : VK) (E : XK), RoomG k (A.deeper (envOfC qual scope s.heap.objs.size f cdv)) → sp vs H Q E →
      ∃ t, PSs (cxOf CX P w K mg base N qual scope f cdv A callers s H E) body t ∧ t { nx := fun _ H' => Q .non H', rt := Q } (L2.start N vs) H) : FnOkG P w K mg base CX (k + 1) f fd ps sp := by
  obtain ⟨oc, od, dV, kV, doc, pm, an, cdv, ct, osl, rfl, atF, code, _, _⟩ := F.ex
  constructor
  · exact hlen
  intro A callers s H as us vs Q E room e0 bnd rel pro
  have stays : ∀ b o, base.get? b = some o → s.heap.get? b = some o := fun b o q => (e0.bs b o q).1
  have kin := e0.mod.kin.keeps stays
  have kinds : ∀ y ∈ ps.zip us, scope.names.lookup y.1 = some .local ∨ (scope.names.lookup y.1 = some .cell ∧ ((cellsFrom (s.heap.objs.size + 1) scope.names []).lookup y.1).isSome = true) := by
    rintro ⟨nm, _⟩ mem
    refine (S.par nm (List.of_mem_zip mem).1).imp id fun c => ⟨c, ?_⟩
    exact PySem.W.cellsFrom_some _ _ _ (.inl c)
  refine codeAny_call_function room.room.depth (kin _ _ atF) rfl S.co S.gen rfl (PySem.W.codeRec_of kin code) (bnd _ _ _ _ (wpAny_newFunctionEnv_cells S.kind kinds fun en en_eq s1 inC => ?_))
  cases en_eq
  refine ⟨(e0.mod.nolimit.keeps stays).keeps inC.toInCall.keep, codeAny_func ?_⟩
  obtain ⟨t, bodyOk, goal⟩ := hb cdv A callers s H vs Q E (room.deeper _) pro
  have entry := inv_start (CX := CX) (E := E) S room.room.hd e0 (hlen _ _ _ _ pro) rel inC
  refine wpAny_mono (bodyOk.run [] s1 (L2.start N vs) H _ entry goal) (fun fl s2 fin => ?_) fun _ _ z => z
  cases fl with
  | next =>
    obtain ⟨σ2, H2, J, q⟩ := fin
    exact ⟨.non, H2, J.os, J.bare, J.base, J.hok, rfl, q⟩
  | ret u =>
    obtain ⟨v, σ2, H2, J, rl, q⟩ := fin
    exact ⟨v, H2, J.os, J.bare, J.base, J.hok, rl, q⟩
  | brk =>
    obtain ⟨_, _, _, q⟩ := fin
    exact q.elim
  | cont =>
    obtain ⟨_, _, _, q⟩ := fin
    exact q.elim
end
section
variable {X : Cx} {CX : CXT} {k : Nat} {f : Addr} {fd : FuncData} {ps : List Str} {sp : Sp} {dvs : List V} {ds : List Value} {E : L2.St → XK} {x : Str} {p pos : Pos} {e : Expr} {es : List Expr} {t : TA}
theorem run_fnSG {pins : List (Addr × Obj)} {σ : L2.St} {H : Hp} {s : Shared} {Q : VK} {us : List Value} {vs : List V} (F : FnOkG X.prog X.w X.K X.mg X.base CX k f fd ps sp) (hr : RoomG k X.A) (hb : Binds X.K fd ps ds) (hd : Vals dvs ds) (hx : PassesAt CX X σ (E σ))
    (I : Inv X pins σ H s) (r : Vals vs us) (h : sp (vs ++ dvs) H Q (E σ)) : wpAny (model X.prog X.w) X.A (call (.ref f) us) (EP X pins σ Q) X.xe s := by
  have all := r.append hd
  have nl : (us ++ ds).length = ps.length := all.length.symm.trans (F.len _ _ _ _ h)
  refine wpAny_call (codeAny_mono (F.run X.A X.stack s H ⟨us, []⟩ (us ++ ds) (vs ++ dvs) Q (E σ) hr I.env0 (hb s us I.kIn nl) all h) fun res s2 fin => ?_)
  cases res with
  | ok fl =>
    cases fl with
    | ret u => exact I.after fin
    | next => exact fin.elim
    | brk => exact fin.elim
    | cont => exact fin.elim
  | error err => exact hx pins H s err s2 I fin
theorem pe_callSG (F : FnOkG X.prog X.w X.K X.mg X.base CX k f fd ps sp) (hr : RoomG k X.A) (hg : Gl X x) (hm : X.mg x = some (.ref f)) (hk : PySem.W.keepIn X.K (.ref f) = true) (hb : Binds X.K fd ps ds) (hd : Vals dvs ds) (hx : ∀ σ, PassesAt CX X σ (E σ))
    (ha : PA X (e :: es) t) (hdb : (x == ("__debug__" : Str)) = false := by decide) (he : starEach (e :: es) X.env = (false, eval e X.env) :: starEach es X.env := by rfl) (hpl : (backTo pos (starEach es X.env)).any (·.1) = false := by rfl) :
    PE X (.Call (.Name x p) (e :: es) [] pos) (tCallSD sp dvs E t) :=
  ⟨fun pins s σ H Q I h => wpAny_Call_Name_kw (ld_glob I hg hm (PySem.W.callWith_K (h₀ := X.base) I.ok.mod.kin hk (thn (ha.run pos pins s σ H _ I h) fun us s1 ⟨vs, H1, I1, rl, q⟩ => ⟨I1.kIn, run_fnSG F hr hb hd (hx σ) I1 rl q⟩) he hpl) hdb)⟩
end
end Ev

set_option Elab.async false
set_option linter.all false
set_option maxRecDepth 100000
set_option maxHeartbeats 4000000
namespace Ev
open PySem PySem.Spec PyProof.Rows L2
/-! ### the law is called at the top, where nothing is under way -/
section
variable {P : Program} {w : World} {K : PySem.W.Frag} {mg mb : Str → Option Value} {CX : CXT} {k : Nat} {fa a : Addr} {fd : FuncData} {x : Str} {sp : Sp} {st : Shared} {us : List Value} {ns : List Int}
/-- over an abstract heap that tracks nothing but the script -/
theorem top_callG {H : Hp} (KX : K.In st.heap) (gMain : st.heap.Ns mainGlobals mg) (gBlt : st.heap.Ns builtinsNs mb) (boot : ∀ x : Str, x ≠ "__name__" → mb x = bootBuiltins x) (lim : st.heap.NoLimit) (gens0 : st.gens = #[])
    (ha : st.heap.get? a = some { cls := .type "list", data := .seq us.toArray }) (room : RoomG k callerA) (F : ∀ base : Heap, K.In base → base.Ns mainGlobals mg → FnOkG P w K mg base CX k fa fd [x] sp) (bnd : ∀ (s : Shared) (u : Value), BindsTo s fd ⟨[u], []⟩ [(x, u)])
    (only : Only H) (hok : HOk P w H st.heap) (isA : ∀ b, H b ≠ none → b = a) (notK : H a ≠ none → K.lookup a = none)
    (pro : sp [.ref a] H (fun v _ => v = .bl true) fun _ _ _ => False) (noExc : ∀ e s', CX [] H st (fun _ _ _ => False) e s' → False) :
    codeAny (model P w) callerA (.call (.ref fa) ⟨[.ref a], []⟩) (fun r s' => r = .ok (.ret (.bool true)) ∧ OldK st.heap s'.heap ∧ s'.os = st.os ∧ AllBare s'.gens) st := by
  have unseen : ∀ {b : Addr} {o : Obj}, st.heap.get? b = some o → b ≠ a → H b = none := fun {b o} _ ne => by
    cases q : H b with
    | none => rfl
    | some u => exact absurd (isA b (by rw [q]; exact fun z => nomatch z)) ne
  have nsHid : ∀ {b : Addr} {m : Str → Option Value}, st.heap.Ns b m → (hidT st.heap H).Ns b m := fun {b m} ⟨o, es, ep, g, d, r⟩ => by
    refine ⟨o, es, ep, hidT_get g (unseen g ?_), d, r⟩
    rintro rfl
    rw [ha] at g
    cases g
    cases (show Data.seq us.toArray _ = Data.dict es ep from d)
  have kHid : K.In (hidT st.heap H) := fun b o g => by
    refine hidT_get (KX b o g) ?_
    cases q : H b with
    | none => rfl
    | some u =>
      have nb : H b ≠ none := by rw [q]; exact fun z => nomatch z
      have eb := isA b nb
      subst eb
      rw [notK nb] at g
      cases g
  obtain ⟨mc, lim1, lim2⟩ := lim
  have md : Mod K mg (hidT st.heap H) := ⟨kHid, nsHid gMain, ⟨mb, nsHid gBlt, boot⟩, mc, nsHid lim1, lim2⟩
  have en : Env0 P w K mg (hidT st.heap H) callerA [] st H := {
    frames := rfl
    mod := md
    bs := fun b o g => of_hidT g
    bsz := Nat.le_of_eq (hidT_size _ _)
    funs := trivial
    frf := fun b hb => by cases hb
    hok := hok
    bare := .of_eq gens0 }
  have go := (F _ kHid (nsHid gMain)).run callerA [] st H ⟨[.ref a], []⟩ [.ref a] [.ref a] _ _ room en (bnd st (.ref a)) (.cons rfl .nil) pro
  refine codeAny_mono go fun res s' fin => ?_
  rcases res with e | fl
  · exact (noExc e s' fin).elim
  · cases fl with
    | ret u =>
      obtain ⟨v, H', os, bare, un, hok', rl, rfl⟩ := fin
      obtain rfl : u = Value.bool true := rl
      refine ⟨rfl, OldK.of_keep fun b o g => ?_, os, bare⟩
      cases q : H b with
      | none => exact un.keep b o g q (fun z => by cases z) (by simp)
      | some u =>
        rcases only b with z | ⟨ob, xs, z⟩
        · rw [z] at q; cases q
        · have g1 := (hok b _ z).1
          have g2 := (hok' b _ (un.frzs b ob _ z)).1
          rw [g1] at g
          cases g
          exact g2
    | next => exact fin.elim
    | brk => exact fin.elim
    | cont => exact fin.elim
theorem law_callG (KX : K.In st.heap) (gMain : st.heap.Ns mainGlobals mg) (gBlt : st.heap.Ns builtinsNs mb) (boot : ∀ x : Str, x ≠ "__name__" → mb x = bootBuiltins x) (lim : st.heap.NoLimit) (gens0 : st.gens = #[])
    (ha : st.heap.get? a = some { cls := .type "list", data := .seq us.toArray }) (hi : IntsAre us ns) (hl : ns.length ≤ sizeLine) (room : RoomG k callerA) (F : ∀ base : Heap, K.In base → base.Ns mainGlobals mg → FnOkG P w K mg base CX k fa fd [x] sp) (bnd : ∀ (s : Shared) (u : Value), BindsTo s fd ⟨[u], []⟩ [(x, u)])
    (pro : ∀ H : Hp, Only H → SqL K H a (ns.map V.int) → sp [.ref a] H (fun v _ => v = .bl true) fun _ _ _ => False) (noExc : ∀ H e s', CX [] H st (fun _ _ _ => False) e s' → False) :
    codeAny (model P w) callerA (.call (.ref fa) ⟨[.ref a], []⟩) (fun r s' => r = .ok (.ret (.bool true)) ∧ OldK st.heap s'.heap ∧ s'.os = st.os ∧ AllBare s'.gens) st := by
  have rel := vals_ints hi
  have ln := hi.length
  cases written : K.lookup a with
  | some o =>
    have o2 := KX a o written
    rw [ha] at o2
    cases o2
    have on : Only (fun _ => none) := fun _ => .inl rfl
    exact top_callG KX gMain gBlt boot lim gens0 ha room F bnd on (fun b u z => by cases (show (none : Option HO) = some u from z)) (fun b z => absurd rfl z) (fun z => absurd rfl z) (pro _ on (.inr ⟨_, us.toArray, _, written, rfl, rfl, rfl, by rw [List.size_toArray, ln]; exact hl, by simpa using rel⟩)) (noExc _)
  | none =>
    let ho : HO := .frz { cls := .type "list", data := .seq us.toArray } (.lst (ns.map V.int))
    let H : Hp := fun b => if b = a then some ho else none
    have at_ : H a = some ho := if_pos rfl
    have off : ∀ {b : Addr}, b ≠ a → H b = none := fun h => if_neg h
    have on : Only H := fun b => by
      by_cases q : b = a
      · subst q
        exact .inr ⟨_, _, at_⟩
      · exact .inl (off q)
    refine top_callG KX gMain gBlt boot lim gens0 ha room F bnd on (fun b u z => ?_) (fun b z => ?_) (fun _ => written) (pro _ on (.inl (.inr ⟨_, at_⟩))) (noExc _)
    · by_cases q : b = a
      · subst q
        rw [at_] at z
        cases z
        exact ⟨ha, by rw [List.length_map]; exact hl, us, _, rel, ha⟩
      · rw [off q] at z
        cases z
    · by_cases q : b = a
      · exact q
      · exact absurd (off q) z
end
end Ev

set_option Elab.async false
set_option linter.all false
set_option maxRecDepth 100000
set_option maxHeartbeats 4000000
namespace Ev
open PySem PySem.Spec PyProof.Rows L2

mutual
theorem Rep.ctx {Γ Γ' : Wd} {B : Hp} (hK : Γ.K = Γ'.K) (hm : Γ.mg = Γ'.mg) : ∀ (d : D) (v : V), Rep Γ B d v → Rep Γ' B d v
  | .non, v, h => h
  | .bl b, v, h => h
  | .int i, v, h => h
  | .str s, v, h => h
  | .tup xs, v, h => by
    obtain ⟨a, vs, e1, e2, e3⟩ := h
    exact ⟨a, vs, e1, by rw [← hK]; exact e2, Reps.ctx hK hm xs vs e3⟩
  | .lst xs, v, h => by
    obtain ⟨a, vs, e1, e2, e3⟩ := h
    exact ⟨a, vs, e1, e2, Reps.ctx hK hm xs vs e3⟩
  | .fl xs, v, h => by
    obtain ⟨a, vs, e1, e2, e3⟩ := h
    exact ⟨a, vs, e1, by rw [← hK]; exact e2, Reps.ctx hK hm xs vs e3⟩
  | .ins c ns xs, v, h => by
    obtain ⟨a, dx, C, vs, e1, e2, e3, e4, e5⟩ := h
    exact ⟨a, dx, C, vs, e1, by rw [← hm]; exact e2, e3, e4, Reps.ctx hK hm xs vs e5⟩
  | .fn x, v, h => by
    obtain ⟨f, e1, e2⟩ := h
    exact ⟨f, e1, by rw [← hm]; exact e2⟩
theorem Reps.ctx {Γ Γ' : Wd} {B : Hp} (hK : Γ.K = Γ'.K) (hm : Γ.mg = Γ'.mg) : ∀ (ds : List D) (vs : List V), Reps Γ B ds vs → Reps Γ' B ds vs
  | [], vs, h => h
  | d :: ds, vs, h => by
    obtain ⟨v, r, e1, e2, e3⟩ := h
    exact ⟨v, r, e1, Rep.ctx hK hm d v e2, Reps.ctx hK hm ds r e3⟩
end
theorem XnOk.ctx {Γ Γ' : Wd} {B H : Hp} {c : Str} {ns : List Str} {xs : List D} {cls : Value} {d : Option Addr} (hK : Γ.K = Γ'.K) (hm : Γ.mg = Γ'.mg) (h : XnOk Γ B H c ns xs cls d) : XnOk Γ' B H c ns xs cls d := by
  obtain ⟨C, dd, vs, e1, e2, e3, e4, e5, e6⟩ := h
  exact ⟨C, dd, vs, by rw [← hm]; exact e1, e2, e3, e4, e5, Reps.ctx hK hm xs vs e6⟩

/-! ### functions -/
inductive FR where
  | ok (r : Ent) (ps : List Ent) | err (c : Str) (ns : List Str) (xs : List D) (ps : List Ent) | bad
abbrev Fn := List Ent → FR
def finF (np : Nat) : Res Fl → FR
  | .ok .nx e => .ok (.val .non) (e.take np)
  | .ok (.rt r) e => .ok r (e.take np)
  | .err c ks xs e => .err c ks xs (e.take np)
  | _ => .bad
def mkFn (np ns : Nat) (body : DenS) : Fn := fun args => if args.length = np then finF np (body (args ++ List.replicate (ns - np) .un)) else .bad
theorem mkFn_len {np ns : Nat} {body : DenS} (args : List Ent) (h : args.length ≠ np) : mkFn np ns body args = .bad := if_neg h
/-- what a call leaves -/
structure FExt (Γ : Wd) (args : Sto) (vs : List V) (B H : Hp) (ps : Sto) (B' H' : Hp) : Prop where
  b : Same B B'
  s : Same B' H'
  t : ∀ p, H p ≠ none → H' p ≠ none
  f : ∀ p o, H p = some o → ¬ Own args (vs.map some) p → H' p = some o ∧ (B p = none → B' p = none)
  r : ∀ i ∈ Γ.R, ∀ xs p, args[i]? = some (.mu xs) → vs[i]? = some (.ref p) → ∃ e, ps[i]? = some e ∧ EntOk Γ B' H' e (some (.ref p)) ∧ ((∃ ys, e = .mu ys) ∨ B' p ≠ none)
def RetF (Γ : Wd) (H B' H' : Hp) : Ent → V → Prop
  | .val d, v => Rep Γ B' d v
  | .mu xs, v => ∃ p vs, v = .ref p ∧ H p = none ∧ B' p = none ∧ H' p = some (.lst vs) ∧ Reps Γ B' xs vs
  | _, _ => False
def PostF (Γ : Wd) (args : Sto) (vs : List V) (B H : Hp) (Q : VK) (E : XK) : FR → Prop
  | .ok r ps => ∀ v B' H', FExt Γ args vs B H ps B' H' → RetF Γ H B' H' r v → Q v H'
  | .err c ns xs ps => ∀ cls d B' H', FExt Γ args vs B H ps B' H' → XnOk Γ B' H' c ns xs cls d → E cls d H'
  | .bad => False
/-- the context of a def's body -/
abbrev wdOf (K : PySem.W.Frag) (mg : Str → Option Value) (R : List Nat) : Wd := ⟨K, mg, (0, .none, none), R⟩
def spOf (K : PySem.W.Frag) (mg : Str → Option Value) (R : List Nat) (np : Nat) (g : Fn) : Sp := fun vs H Q E => ∃ B args, args.length = np ∧ StOk (wdOf K mg R) args (vs.map some) B H ∧ (∀ (i : Nat) xs, args[i]? = some (.mu xs) → i ∈ R) ∧ PostF (wdOf K mg R) args vs B H Q E (g args)
theorem spOf_len {K : PySem.W.Frag} {mg : Str → Option Value} {R : List Nat} {np : Nat} {g : Fn} (vs : List V) (H : Hp) (Q : VK) (E : XK) (h : spOf K mg R np g vs H Q E) : vs.length = np := by
  obtain ⟨B, args, h1, h2, _⟩ := h
  have := h2.len
  rw [List.length_map] at this
  omega
section
variable {P : Program} {w : World} {K : PySem.W.Frag} {mg : Str → Option Value} {base : Heap}
/-- a def's body serves its function -/
theorem fn_body {R : List Nat} {np : Nat} {f : DenS} {N : List Str} {vs : List V} {H : Hp} {Q : VK} {E : XK} (h : spOf K mg R np (mkFn np N.length f) vs H Q E) :
    tS (wdOf K mg R) (fun cls d _ H => E cls d H) f { nx := fun _ H' => Q .non H', rt := Q } (L2.start N vs) H := by
  obtain ⟨B, args, hl, s, hm, p⟩ := h
  have hv := spOf_len vs H Q E ⟨B, args, hl, s, hm, p⟩
  have hs : L2.start N vs = vs.map some ++ List.replicate (N.length - np) none := by
    unfold L2.start
    rw [hv]
  have lenA : args.length = (vs.map some).length := s.len
  have lenR : (List.replicate (N.length - np) Ent.un).length = (List.replicate (N.length - np) (none : Option V)).length := by simp
  have getL : ∀ {i : Nat} {e : Ent}, (args ++ List.replicate (N.length - np) Ent.un)[i]? = some e → args[i]? = some e ∨ e = .un := fun {i e} q => by
    rw [List.getElem?_append] at q
    split at q
    · exact .inl q
    · rw [List.getElem?_replicate] at q
      split at q
      · exact .inr (Option.some.inj q).symm
      · cases q
  have getS : ∀ {i : Nat} {e : Ent}, args[i]? = some e → (vs.map some ++ List.replicate (N.length - np) none)[i]? = (vs.map some)[i]? := fun {i e} q => by
    have : i < (vs.map some).length := by rw [← lenA]; exact (List.getElem?_eq_some_iff.mp q).1
    rw [List.getElem?_append_left this]
  have ownE : ∀ {p : Addr}, Own (args ++ List.replicate (N.length - np) Ent.un) (vs.map some ++ List.replicate (N.length - np) none) p → Own args (vs.map some) p := fun {p} ⟨i, xs, e1, e2⟩ => by
    rcases getL e1 with q | q
    · rw [getS q] at e2
      exact ⟨i, xs, q, e2⟩
    · cases q
  have s0 : StOk (wdOf K mg R) (args ++ List.replicate (N.length - np) Ent.un) (L2.start N vs) B H := by
    rw [hs]
    refine ⟨s.same, by rw [List.length_append, List.length_append, lenA, lenR], fun i e o h1 h2 => ?_, fun i j xs ys p h1 h2 h3 h4 => ?_⟩
    · rcases getL h1 with q | q
      · rw [getS q] at h2
        exact s.ent i e o q h2
      · subst q; trivial
    · rcases getL h1 with q | q
      · rcases getL h2 with q' | q'
        · rw [getS q] at h3
          rw [getS q'] at h4
          exact s.dis i j xs ys p q q' h3 h4
        · cases q'
      · cases q
  refine ⟨_, B, s0, ?_⟩
  have fext : ∀ {e σ' B' H'}, StOk (wdOf K mg R) e σ' B' H' → Ext (wdOf K mg R) (args ++ List.replicate (N.length - np) Ent.un) (L2.start N vs) B H e σ' B' H' → FExt (wdOf K mg R) args vs B H (e.take np) B' H' := fun {e σ' B' H'} s' x => by
    refine ⟨x.b, s'.same, x.t, fun p o hp hn => ?_, fun i hi xs p e1 e2 => ?_⟩
    · obtain ⟨k1, k2, _⟩ := x.f p o hp (by rw [hs]; exact fun z => hn (ownE z))
      exact ⟨k1, k2⟩
    · obtain ⟨r1, r2⟩ := x.r i hi
      have hil : i < args.length := (List.getElem?_eq_some_iff.mp e1).1
      have e1' : (args ++ List.replicate (N.length - np) Ent.un)[i]? = some (.mu xs) := by rw [List.getElem?_append_left hil]; exact e1
      have e2' : (L2.start N vs)[i]? = some (some (.ref p)) := by
        rw [hs, getS e1, List.getElem?_map, e2]
        rfl
      have e3 : σ'[i]? = some (some (.ref p)) := r1.trans e2'
      have hl3 : i < e.length := by rw [s'.len]; exact (List.getElem?_eq_some_iff.mp e3).1
      refine ⟨e[i], by rw [List.getElem?_take_of_lt (by omega)]; exact List.getElem?_eq_getElem hl3, s'.ent i _ _ (List.getElem?_eq_getElem hl3) e3, ?_⟩
      rcases r2 xs p e1' e2' with ⟨ys, q⟩ | q
      · rw [List.getElem?_eq_getElem hl3] at q
        exact .inl ⟨ys, Option.some.inj q⟩
      · exact .inr q
  have free : ∀ {p : Addr}, FreeR (wdOf K mg R) (args ++ List.replicate (N.length - np) Ent.un) (L2.start N vs) H p → H p = none := fun {p} q => by
    rcases q with q | ⟨i, xs, hi, e1, e2⟩
    · exact q
    · rcases getL e1 with q | q
      · exact absurd (hm i xs q) hi
      · cases q
  have p' : PostF (wdOf K mg R) args vs B H Q E (finF np (f (args ++ List.replicate (N.length - np) Ent.un))) := by
    unfold mkFn at p
    rw [if_pos hl] at p
    exact p
  cases hf : f (args ++ List.replicate (N.length - np) Ent.un) with
  | bad => rw [hf] at p'; exact p'.elim
  | err c ks xs e =>
    rw [hf] at p'
    exact fun cls d σ' B' H' s' x q => p' cls d B' H' (fext s' x) q
  | ok fl e =>
    rw [hf] at p'
    cases fl with
    | nx => exact fun σ' B' H' s' x => p' .non B' H' (fext s' x) rfl
    | bk => exact p'.elim
    | ct => exact p'.elim
    | rt r =>
      refine fun v σ' B' H' s' x q => p' v B' H' (fext s' x) ?_
      cases r with
      | val d => exact q
      | mu xs =>
        obtain ⟨a, us, e1, e2, e3, e4, e5, _⟩ := q
        exact ⟨a, us, e1, free e2, e3, e4, e5⟩
      | un => exact q.elim
      | exn _ _ _ => exact q.elim
theorem fn_ok {x qual : Str} {params : Arguments} {body : List Stmt} {scope : Scope} {dvs : List V} {kws : List (Str × V)} {a : Addr} {fd : FuncData} {N ps : List Str} {k np : Nat} {R : List Nat} {f : DenS} (F : FunD K x qual params body scope dvs kws a fd) (S : FnScope N ps scope) (hn : ps.length = np)
    (hbody : ∀ (cdv : Value) (A : Around) (outer : List Env) (s : Shared) (H : Hp) (E : XK), RoomG k (A.deeper (envOfC qual scope s.heap.objs.size a cdv)) →
      SSs (cxOf (L2.CX P w) P w K mg base N qual scope a cdv A outer s H E) (wdOf K mg R) (fun cls d _ H => E cls d H) body f) : FnOkG P w K mg base (L2.CX P w) (k + 1) a fd ps (spOf K mg R np (mkFn np N.length f)) :=
  okG F S (fun vs H Q E h => (spOf_len vs H Q E h).trans hn.symm) fun cdv A outer s H vs Q E hr h => ⟨_, hbody cdv A outer s H E hr, fn_body h⟩
end

theorem Reps.toC {Γ : Wd} {R : List Nat} {B : Hp} {ds : List D} {vs : List V} (h : Reps Γ B ds vs) : Reps (wdOf Γ.K Γ.mg R) B ds vs := Reps.ctx (Γ := Γ) (Γ' := wdOf Γ.K Γ.mg R) rfl rfl ds vs h
theorem Reps.ofC {Γ : Wd} {R : List Nat} {B : Hp} {ds : List D} {vs : List V} (h : Reps (wdOf Γ.K Γ.mg R) B ds vs) : Reps Γ B ds vs := Reps.ctx (Γ := wdOf Γ.K Γ.mg R) (Γ' := Γ) rfl rfl ds vs h
theorem Rep.ofC {Γ : Wd} {R : List Nat} {B : Hp} {d : D} {v : V} (h : Rep (wdOf Γ.K Γ.mg R) B d v) : Rep Γ B d v := Rep.ctx (Γ := wdOf Γ.K Γ.mg R) (Γ' := Γ) rfl rfl d v h
theorem Rep.toC {Γ : Wd} {R : List Nat} {B : Hp} {d : D} {v : V} (h : Rep Γ B d v) : Rep (wdOf Γ.K Γ.mg R) B d v := Rep.ctx (Γ := Γ) (Γ' := wdOf Γ.K Γ.mg R) rfl rfl d v h
theorem XnOk.ofC {Γ : Wd} {R : List Nat} {B H : Hp} {c : Str} {ns : List Str} {xs : List D} {cls : Value} {d : Option Addr} (h : XnOk (wdOf Γ.K Γ.mg R) B H c ns xs cls d) : XnOk Γ B H c ns xs cls d := XnOk.ctx (Γ := wdOf Γ.K Γ.mg R) (Γ' := Γ) rfl rfl h
/-! ### calls -/
def frzS (env : Sto) (j : Nat) : Sto := match env[j]? with
  | some (.mu xs) => env.set j (.val (.lst xs))
  | _ => env
def frzAr : List Ar → Sto → Sto
  | [], env => env
  | .v _ :: as, env => frzAr as env
  | .s j :: as, env => frzAr as (frzS env j)
theorem frzS_get {env : Sto} {j : Nat} (a : Ar) : a.get (frzS env j) = a.get env := by
  unfold frzS
  cases h : env[j]? with
  | none => rfl
  | some en =>
    cases en with
    | mu xs =>
      cases a with
      | v d => rfl
      | s k =>
        show (match (env.set j (.val (.lst xs)))[k]? with | some (.val d) => some d | some (.mu xs) => some (.lst xs) | _ => none) = (match env[k]? with | some (.val d) => some d | some (.mu xs) => some (.lst xs) | _ => none)
        by_cases e : j = k
        · subst e
          rw [List.getElem?_set_self (List.getElem?_eq_some_iff.mp h).1, h]
        · rw [List.getElem?_set_ne e]
    | _ => rfl
theorem frzS_all {env : Sto} {j : Nat} : ∀ as : List Ar, getAll as (frzS env j) = getAll as env
  | [] => rfl
  | a :: as => by
    show (match a.get (frzS env j), getAll as (frzS env j) with | some d, some ds => some (d :: ds) | _, _ => none) = _
    rw [frzS_get, frzS_all as]
    rfl
section
variable {Γ : Wd}
theorem frzS_ok {env : Sto} {σ : L2.St} {B H : Hp} {j : Nat} (s : StOk Γ env σ B H) : ∃ B1, StOk Γ (frzS env j) σ B1 H ∧ Ext Γ env σ B H (frzS env j) σ B1 H ∧ ∀ d v, σ[j]? = some (some v) → (Ar.s j).get env = some d → Rep Γ B1 d v := by
  unfold frzS
  cases h : env[j]? with
  | none =>
    refine ⟨B, s, Ext.refl, fun d v _ g => ?_⟩
    have g' : (match env[j]? with | some (.val d) => some d | some (.mu xs) => some (.lst xs) | _ => none) = some d := g
    rw [h] at g'; cases g'
  | some en =>
    obtain ⟨o, ho, k⟩ := s.slot h
    cases en with
    | mu xs =>
      obtain ⟨q, vs, rfl, hb, hq, r⟩ := k
      refine ⟨upd B q (.lst vs), s.freeze h ho hb hq r, Ext.freeze s h ho hb, fun d v hv g => ?_⟩
      have g' : (match env[j]? with | some (.val d) => some d | some (.mu xs) => some (.lst xs) | _ => none) = some d := g
      rw [h] at g'; cases g'
      rw [ho] at hv; cases hv
      exact ⟨q, vs, rfl, upd_same, Reps.mono (same_upd hb) xs vs r⟩
    | val d =>
      refine ⟨B, s, Ext.refl, fun d' v hv g => ?_⟩
      have g' : (match env[j]? with | some (.val d) => some d | some (.mu xs) => some (.lst xs) | _ => none) = some d' := g
      rw [h] at g'; cases g'
      obtain ⟨u, rfl, r⟩ := k
      rw [ho] at hv; cases hv
      exact r
    | un =>
      refine ⟨B, s, Ext.refl, fun d v _ g => ?_⟩
      have g' : (match env[j]? with | some (.val d) => some d | some (.mu xs) => some (.lst xs) | _ => none) = some d := g
      rw [h] at g'; cases g'
    | exn _ _ _ =>
      refine ⟨B, s, Ext.refl, fun d v _ g => ?_⟩
      have g' : (match env[j]? with | some (.val d) => some d | some (.mu xs) => some (.lst xs) | _ => none) = some d := g
      rw [h] at g'; cases g'
theorem frzAr_ok {σ : L2.St} {H : Hp} : ∀ {as : List Ar} {env : Sto} {B : Hp} {vs : List V} {ds : List D}, StOk Γ env σ B H → ArsOk Γ B σ as vs → getAll as env = some ds →
    ∃ B1, StOk Γ (frzAr as env) σ B1 H ∧ Ext Γ env σ B H (frzAr as env) σ B1 H ∧ Reps Γ B1 ds vs
  | [], env, B, vs, ds, s, h, g => by
    cases g
    exact ⟨B, s, Ext.refl, h⟩
  | a :: as, env, B, vs, ds, s, h, g => by
    obtain ⟨v, r, rfl, e2, e3⟩ := h
    have g' : (match a.get env, getAll as env with | some d, some ds => some (d :: ds) | _, _ => none) = some ds := g
    cases ha : a.get env with
    | none => rw [ha] at g'; cases g'
    | some d =>
      cases hr : getAll as env with
      | none => rw [ha, hr] at g'; cases g'
      | some ds' =>
        rw [ha, hr] at g'
        cases g'
        cases a with
        | v d0 =>
          obtain ⟨B1, s1, x1, k1⟩ := frzAr_ok s e3 hr
          have e : d0 = d := Option.some.inj ha
          subst e
          exact ⟨B1, s1, x1, v, r, rfl, Rep.mono x1.b _ _ e2, k1⟩
        | s j =>
          obtain ⟨B1, s1, x1, k1⟩ := frzS_ok (j := j) s
          obtain ⟨B2, s2, x2, k2⟩ := frzAr_ok s1 (ArsOk.mono x1.b e3) ((frzS_all as).trans hr)
          exact ⟨B2, s2, x1.trans x2, v, r, rfl, Rep.mono x2.b _ _ (k1 d v e2 ha), k2⟩
end
/-- nothing of it stands at an address -/
def D.flat : D → Bool
  | .non => true
  | .bl _ => true
  | .int _ => true
  | .str _ => true
  | _ => false
def Ent.flat : Ent → Bool
  | .val d => d.flat
  | _ => false
theorem flat_rep {Γ : Wd} {B B' : Hp} {d : D} {v : V} (h : d.flat = true) (r : Rep Γ B d v) : Rep Γ B' d v := by
  cases d with
  | tup _ => cases h
  | lst _ => cases h
  | fl _ => cases h
  | ins _ _ _ => cases h
  | fn _ => cases h
  | _ => exact r
/-- a call, everything by value -/
def dCall (g : Fn) (dfl : List D) (fs : DenA) : DenF := fun env => (fs env).bind fun as e => match getAll as e with
  | some ds => (match g ((ds ++ dfl).map .val) with
    | .ok r _ => if r.flat = true then .ok r e else .ok r (frzAr as e)
    | .err c ns xs _ => .err c ns xs (frzAr as e)
    | .bad => .bad)
  | none => .bad
section
variable {X : Cx} {Γ : Wd} {W : WX} {e : Expr} {es : List Expr} {pos p : Pos} {x : Str} {f : Addr} {fd : FuncData} {ps : List Str} {k np : Nat} {R : List Nat} {g : Fn} {ds : List Value} {dvs : List V} {dfl : List D} {fs : DenA}
theorem args_ok {σ : L2.St} {B H : Hp} {ds : List D} {vs : List V} (s : Same B H) (r : Reps (wdOf Γ.K Γ.mg R) B ds vs) : StOk (wdOf Γ.K Γ.mg R) (ds.map .val) (vs.map some) B H where
  same := s
  len := by rw [List.length_map, List.length_map, r.length]
  ent := fun i e o h1 h2 => by
    rw [List.getElem?_map] at h1 h2
    cases hd : ds[i]? with
    | none => rw [hd] at h1; cases h1
    | some d =>
      rw [hd] at h1
      cases h1
      obtain ⟨v, hv, rv⟩ := r.get hd
      rw [hv] at h2
      cases h2
      exact ⟨v, rfl, rv⟩
  dis := fun i j xs ys p h1 => by
    rw [List.getElem?_map] at h1
    cases hd : ds[i]? with
    | none => rw [hd] at h1; cases h1
    | some d => rw [hd] at h1; cases h1
theorem no_own {ds : List D} {σ : L2.St} {p : Addr} : ¬ Own (ds.map .val) σ p := by
  rintro ⟨i, xs, h1, _⟩
  rw [List.getElem?_map] at h1
  cases hd : ds[i]? with
  | none => rw [hd] at h1; cases h1
  | some d => rw [hd] at h1; cases h1
/-- the reading of such a call -/
theorem tCall_of (hK : X.K = Γ.K) (hm : X.mg = Γ.mg) (hdf : ∀ B, Reps Γ B dfl dvs) (ga : ∀ args, args.length ≠ np → g args = .bad) {σ : L2.St} {H : Hp} {Q : VK} (h : tF Γ W (dCall g dfl fs) σ H Q) : tCallSD (spOf X.K X.mg R np g) dvs (WE W) (tAr Γ W fs) σ H Q := by
  obtain ⟨env, B, s, p⟩ := h
  have p' : Post Γ W env σ B H (fun r env' B' H' => ∀ v, RetOk Γ (FreeR Γ env σ H) env' σ B' H' r v → Q v H') ((fs env).bind fun as e => match getAll as e with
    | some ds => (match g ((ds ++ dfl).map .val) with
      | .ok r _ => if r.flat = true then .ok r e else .ok r (frzAr as e)
      | .err c ns xs _ => .err c ns xs (frzAr as e)
      | .bad => .bad)
    | none => .bad) := p
  refine ⟨env, B, s, ?_⟩
  cases hfs : fs env with
  | bad => rw [hfs] at p'; exact p'
  | err c ns xs e1 => rw [hfs] at p'; exact p'
  | ok as e1 =>
    have p2 := p'
    rw [hfs] at p2
    have q0 := Post.bind p2
    intro B1 H1 s1 x1 vs hvs
    have q1 : Post Γ W e1 σ B1 H1 (fun r env' B' H' => ∀ v, RetOk Γ (FreeR Γ env σ H) env' σ B' H' r v → Q v H') (match getAll as e1 with
      | some ds => (match g ((ds ++ dfl).map .val) with
        | .ok r _ => if r.flat = true then .ok r e1 else .ok r (frzAr as e1)
        | .err c ns xs _ => .err c ns xs (frzAr as e1)
        | .bad => .bad)
      | none => .bad) := q0 B1 H1 s1 x1
    cases ha : getAll as e1 with
    | none => rw [ha] at q1; exact q1.elim
    | some ds =>
      rw [ha] at q1
      obtain ⟨B2, s2, x2, r2⟩ := frzAr_ok s1 hvs ha
      have rc : Reps (wdOf Γ.K Γ.mg R) B2 (ds ++ dfl) (vs ++ dvs) := (r2.append (hdf B2)).toC
      have q2 : Post Γ W e1 σ B1 H1 (fun r env' B' H' => ∀ v, RetOk Γ (FreeR Γ env σ H) env' σ B' H' r v → Q v H') (match g ((ds ++ dfl).map .val) with
          | .ok r _ => if r.flat = true then .ok r e1 else .ok r (frzAr as e1)
          | .err c ns xs _ => .err c ns xs (frzAr as e1)
          | .bad => .bad) := q1
      have nlen : ((ds ++ dfl).map Ent.val).length = np := by
        by_cases hz : ((ds ++ dfl).map Ent.val).length = np
        · exact hz
        · rw [ga _ hz] at q2
          exact q2.elim
      rw [hK, hm]
      refine ⟨B2, (ds ++ dfl).map .val, nlen, args_ok (σ := σ) s2.same rc, fun i xs hi => ?_, ?_⟩
      · exfalso
        rw [List.getElem?_map] at hi
        cases hd : (ds ++ dfl)[i]? with
        | none => rw [hd] at hi; cases hi
        | some d => rw [hd] at hi; cases hi
      · skip
        have own_up : ∀ {B' H' : Hp} {pz : Sto}, FExt (wdOf Γ.K Γ.mg R) ((ds ++ dfl).map .val) (vs ++ dvs) B2 H1 pz B' H' → Grow B2 H1 B' H' := fun {B' H' pz} fx =>
          ⟨fx.b, fun p o hp => (fx.f p o hp no_own).1, fx.s, fun p o hp => (fx.f p o hp no_own).2⟩
        cases hg : g ((ds ++ dfl).map .val) with
        | bad => rw [hg] at q2; exact q2.elim
        | err c ns xs pz =>
          rw [hg] at q2
          intro cls d B' H' fx xn
          have gr := own_up fx
          exact q2 cls d B' H' (s2.growG gr) (x2.trans (Ext.growG gr)) xn.ofC
        | ok r pz =>
          rw [hg] at q2
          intro v B' H' fx rv
          have gr := own_up fx
          by_cases hfl : r.flat = true
          · have q3 : Post Γ W e1 σ B1 H1 (fun r env' B' H' => ∀ v, RetOk Γ (FreeR Γ env σ H) env' σ B' H' r v → Q v H') (.ok r e1) := by
              rw [← if_pos (c := r.flat = true) (t := Res.ok r e1) (e := Res.ok r (frzAr as e1)) hfl]
              exact q2
            have gr1 : Grow B1 H1 B1 H' := ⟨Same.refl _, gr.h, s1.same.trans gr.h, fun _ _ _ z => z⟩
            refine q3 B1 H' (s1.growG gr1) (Ext.growG gr1) v ?_
            cases r with
            | val d => exact flat_rep hfl (Rep.ofC rv)
            | _ => cases hfl
          · have q3 : Post Γ W e1 σ B1 H1 (fun r env' B' H' => ∀ v, RetOk Γ (FreeR Γ env σ H) env' σ B' H' r v → Q v H') (.ok r (frzAr as e1)) := by
              rw [← if_neg (c := r.flat = true) (t := Res.ok r e1) (e := Res.ok r (frzAr as e1)) hfl]
              exact q2
            refine q3 B' H' (s2.growG gr) (x2.trans (Ext.growG gr)) v ?_
            cases r with
            | val d => exact Rep.ofC rv
            | mu xs =>
              obtain ⟨a, us, e1', e2', e3', e4', e5'⟩ := rv
              exact ⟨a, us, e1', .inl (x1.h0 a e2'), e3', e4', Reps.ofC e5', fun z => s2.own_tracked z e2'⟩
            | un => exact rv.elim
            | exn _ _ _ => exact rv.elim
theorem sCall (hK : X.K = Γ.K) (hm' : X.mg = Γ.mg) (F : FnOkG X.prog X.w X.K X.mg X.base (L2.CX X.prog X.w) k f fd ps (spOf X.K X.mg R np g)) (hr : RoomG k X.A) (gl : Gl X x) (hm : X.mg x = some (.ref f)) (hk : PySem.W.keepIn X.K (.ref f) = true) (hb : Binds X.K fd ps ds) (hd : Vals dvs ds) (hdf : ∀ B, Reps Γ B dfl dvs) (tk : Takes X W)
    (ha : SA X Γ W (e :: es) fs) (ga : ∀ args, args.length ≠ np → g args = .bad)
    (hdb : (x == ("__debug__" : Str)) = false := by decide) (he : starEach (e :: es) X.env = (false, eval e X.env) :: starEach es X.env := by rfl) (hpl : (backTo pos (starEach es X.env)).any (·.1) = false := by rfl) :
    SF X Γ W (.Call (.Name x p) (e :: es) [] pos) (dCall g dfl fs) := imE (pe_callSG F hr gl hm hk hb hd (fun σ => passAt tk σ) ha hdb he hpl) fun σ H Q h => tCall_of hK hm' hdf ga h
theorem EntOk.ofC {B H : Hp} {en : Ent} {o : Option V} (h : EntOk (wdOf Γ.K Γ.mg R) B H en o) : EntOk Γ B H en o := by
  cases en with
  | un => trivial
  | val d =>
    obtain ⟨v, e1, r⟩ := h
    exact ⟨v, e1, Rep.ofC r⟩
  | mu xs =>
    obtain ⟨q, vs, e1, e2, e3, r⟩ := h
    exact ⟨q, vs, e1, e2, e3, Reps.ofC r⟩
  | exn c ns xs =>
    obtain ⟨dd, vs, e1, ⟨e2, _⟩, _⟩ := h
    cases e2
/-- no argument -/
def dCall0 (g : Fn) (dfl : List D) : DenF := fun env => match g (dfl.map .val) with
  | .ok r _ => .ok r env
  | .err c ns xs _ => .err c ns xs env
  | .bad => .bad
theorem pe_call0SD {E : L2.St → XK} {sp : Sp} {CX : CXT} (F : FnOkG X.prog X.w X.K X.mg X.base CX k f fd ps sp) (hr : RoomG k X.A) (hg : Gl X x) (hm : X.mg x = some (.ref f)) (hk : PySem.W.keepIn X.K (.ref f) = true) (hb : Binds X.K fd ps ds) (hd : Vals dvs ds) (hx : ∀ σ, PassesAt CX X σ (E σ))
    (hdb : (x == ("__debug__" : Str)) = false := by decide) : PE X (.Call (.Name x p) [] [] pos) (tCallSD sp dvs E tNil) := by
  refine ⟨fun pins s σ H Q I h => ?_⟩
  refine wpAny_Call_Name_kw (ld_glob I hg hm ?_ hdb)
  exact PySem.W.callWith_K0 I.kIn hk (run_fnSG (us := []) F hr hb hd (hx σ) I .nil h)
theorem sCall0 (hK : X.K = Γ.K) (hm' : X.mg = Γ.mg) (F : FnOkG X.prog X.w X.K X.mg X.base (L2.CX X.prog X.w) k f fd ps (spOf X.K X.mg R np g)) (hr : RoomG k X.A) (gl : Gl X x) (hm : X.mg x = some (.ref f)) (hk : PySem.W.keepIn X.K (.ref f) = true) (hb : Binds X.K fd ps ds) (hd : Vals dvs ds) (hdf : ∀ B, Reps Γ B dfl dvs) (tk : Takes X W)
    (ga : ∀ args, args.length ≠ np → g args = .bad) (hdb : (x == ("__debug__" : Str)) = false := by decide) :
    SF X Γ W (.Call (.Name x p) [] [] pos) (dCall0 g dfl) := imE (pe_call0SD F hr gl hm hk hb hd (fun σ => passAt tk σ) hdb) fun σ H Q ⟨env, B, s, pp⟩ => by
  have p' : Post Γ W env σ B H (fun r env' B' H' => ∀ v, RetOk Γ (FreeR Γ env σ H) env' σ B' H' r v → Q v H') (match g (dfl.map .val) with
    | .ok r _ => .ok r env
    | .err c ns xs _ => .err c ns xs env
    | .bad => .bad) := pp
  have nlen : (dfl.map Ent.val).length = np := by
    by_cases hz : (dfl.map Ent.val).length = np
    · exact hz
    · rw [ga _ hz] at p'
      exact p'.elim
  show spOf X.K X.mg R np g ([] ++ dvs) H Q (WE W σ)
  rw [hK, hm']
  refine ⟨B, dfl.map .val, nlen, args_ok (σ := σ) s.same (hdf B).toC, fun i xs hi => ?_, ?_⟩
  · exfalso
    rw [List.getElem?_map] at hi
    cases hd : dfl[i]? with
    | none => rw [hd] at hi; cases hi
    | some d => rw [hd] at hi; cases hi
  · have own_up : ∀ {B' H' : Hp} {pz : Sto}, FExt (wdOf Γ.K Γ.mg R) (dfl.map .val) ([] ++ dvs) B H pz B' H' → Grow B H B' H' := fun {B' H' pz} fx =>
      ⟨fx.b, fun p o hp => (fx.f p o hp no_own).1, fx.s, fun p o hp => (fx.f p o hp no_own).2⟩
    cases hg : g (dfl.map .val) with
    | bad => rw [hg] at p'; exact p'.elim
    | err c ns xs pz =>
      rw [hg] at p'
      intro cls d B' H' fx xn
      have gr := own_up fx
      exact p' cls d B' H' (s.growG gr) (Ext.growG gr) xn.ofC
    | ok r pz =>
      rw [hg] at p'
      intro v B' H' fx rv
      have gr := own_up fx
      refine p' B' H' (s.growG gr) (Ext.growG gr) v ?_
      cases r with
      | val d => exact Rep.ofC rv
      | mu xs =>
        obtain ⟨a, us, e1', e2', e3', e4', e5'⟩ := rv
        exact ⟨a, us, e1', .inl e2', e3', e4', Reps.ofC e5', fun z => s.own_tracked z e2'⟩
      | un => exact rv.elim
      | exn _ _ _ => exact rv.elim
/-- the first argument by its slot: what the def does to it is seen -/
def hasS (j : Nat) : List Ar → Bool
  | [] => false
  | .v _ :: as => hasS j as
  | .s i :: as => i == j || hasS j as
def dCallR (g : Fn) (j : Nat) (dfl : List D) (fs : DenA) : DenF := fun env => match env[j]? with
  | some (.mu _) => (fs env).bind fun as e => (match e[j]?, getAll as e, hasS j as with
    | some (.mu xs), some ds, false => (match g (.mu xs :: (ds ++ dfl).map .val) with
      | .ok r (p0 :: _) => .ok r ((frzAr as e).set j p0)
      | .err c ns ys (p0 :: _) => .err c ns ys ((frzAr as e).set j p0)
      | _ => .bad)
    | _, _, _ => .bad)
  | some (.val d) => (fs env).bind fun as e => (match getAll as e with
    | some ds => (match g (.val d :: (ds ++ dfl).map .val) with
      | .ok r _ => .ok r (frzAr as e)
      | .err c ns ys _ => .err c ns ys (frzAr as e)
      | _ => .bad)
    | none => .bad)
  | _ => .bad
theorem frzAr_not {j : Nat} : ∀ {as : List Ar} {e : Sto}, hasS j as = false → (frzAr as e)[j]? = e[j]?
  | [], e, _ => rfl
  | .v _ :: as, e, h => frzAr_not (as := as) h
  | .s i :: as, e, h => by
    have h' : (i == j || hasS j as) = false := h
    obtain ⟨h1, h2⟩ := Bool.or_eq_false_iff.mp h'
    have ne : i ≠ j := fun z => by rw [z] at h1; simp at h1
    show (frzAr as (frzS e i))[j]? = e[j]?
    rw [frzAr_not (as := as) h2]
    unfold frzS
    cases he : e[i]? with
    | none => rfl
    | some en =>
      cases en with
      | mu xs => exact List.getElem?_set_ne ne
      | _ => rfl
theorem args_okR {σ : L2.St} {B H : Hp} {ds : List D} {vs : List V} {xs : List D} {q : Addr} {us : List V} (s : Same B H) (hb : B q = none) (hq : H q = some (.lst us)) (rx : Reps (wdOf Γ.K Γ.mg R) B xs us) (r : Reps (wdOf Γ.K Γ.mg R) B ds vs) :
    StOk (wdOf Γ.K Γ.mg R) (.mu xs :: ds.map .val) ((V.ref q :: vs).map some) B H where
  same := s
  len := by simp [r.length]
  ent := fun i e o h1 h2 => by
    cases i with
    | zero =>
      cases h1
      cases h2
      exact ⟨q, us, rfl, hb, hq, rx⟩
    | succ i =>
      have h1' : (ds.map Ent.val)[i]? = some e := by simpa using h1
      have h2' : (vs.map some)[i]? = some o := by simpa using h2
      exact (args_ok (Γ := Γ) (R := R) (σ := σ) s r).ent i e o h1' h2'
  dis := fun i j ys zs p h1 h2 h3 h4 => by
    have no : ∀ {i : Nat} {ys : List D}, (Ent.mu xs :: ds.map Ent.val)[i + 1]? = some (.mu ys) → False := fun {i ys} h => by
      have h' : (ds.map Ent.val)[i]? = some (.mu ys) := by simpa using h
      rw [List.getElem?_map] at h'
      cases hd : ds[i]? with
      | none => rw [hd] at h'; cases h'
      | some d => rw [hd] at h'; cases h'
    cases i with
    | zero => cases j with
      | zero => rfl
      | succ j => exact (no h2).elim
    | succ i => exact (no h1).elim
theorem own_R {ds : List D} {vs : List V} {xs : List D} {q p : Addr} (h : Own (.mu xs :: ds.map .val) ((V.ref q :: vs).map some) p) : p = q := by
  obtain ⟨i, ys, h1, h2⟩ := h
  cases i with
  | zero => cases h2; rfl
  | succ i =>
    have h' : (ds.map Ent.val)[i]? = some (.mu ys) := by simpa using h1
    rw [List.getElem?_map] at h'
    cases hd : ds[i]? with
    | none => rw [hd] at h'; cases h'
    | some d => rw [hd] at h'; cases h'
/-- behind such a call -/
theorem afterR {e : Sto} {σ : L2.St} {B1 H1 B' H' : Hp} {j : Nat} {xs : List D} {q : Addr} {ds : List D} {vs : List V} {p0 : Ent} {rest : List Ent} (s : StOk Γ e σ B1 H1) (hj : e[j]? = some (.mu xs)) (hs : σ[j]? = some (some (.ref q)))
    (fx : FExt (wdOf Γ.K Γ.mg [0]) (.mu xs :: ds.map .val) (.ref q :: vs) B1 H1 (p0 :: rest) B' H') : StOk Γ (e.set j p0) σ B' H' ∧ Ext Γ e σ B1 H1 (e.set j p0) σ B' H' ∧ ∀ p, Own (e.set j p0) σ p → H1 p ≠ none := by
  obtain ⟨pe, hp0, k0, k1⟩ := fx.r 0 (List.mem_singleton.mpr rfl) xs q rfl rfl
  have ep : p0 = pe := Option.some.inj hp0
  subst ep
  have k0 : EntOk Γ B' H' p0 (some (.ref q)) := k0.ofC
  obtain ⟨hb, us, hq⟩ := s.own_none ⟨j, xs, hj, hs⟩
  have fr : ∀ p o, H1 p = some o → p ≠ q → H' p = some o ∧ (B1 p = none → B' p = none) := fun p o hp n => fx.f p o hp fun z => n (own_R z)
  have own2 : ∀ p, Own (e.set j p0) σ p → Own e σ p := fun p ⟨i, ys, h1, h2⟩ => by
    rcases Sto.set_get h1 with ⟨rfl, _⟩ | ⟨n, z⟩
    · exact ⟨j, xs, hj, by rw [hs] at h2 ⊢; exact h2⟩
    · exact ⟨i, ys, z, h2⟩
  refine ⟨⟨fx.s, by rw [List.length_set]; exact s.len, fun i en o h1 h2 => ?_, fun i l ys zs p h1 h2 h3 h4 => ?_⟩, ⟨fx.b, fx.t, fun p o hp n => ?_, fun i hi => ⟨rfl, fun ys p h1 h2 => ?_⟩⟩, fun p hp => s.own_tracked (own2 p hp)⟩
  · rcases Sto.set_get h1 with ⟨rfl, rfl⟩ | ⟨n, z⟩
    · rw [hs] at h2; cases h2
      exact k0
    · have kk := s.ent i en o z h2
      cases en with
      | un => trivial
      | val d =>
        obtain ⟨v, e1, r⟩ := kk
        exact ⟨v, e1, Rep.mono fx.b d v r⟩
      | mu ys =>
        obtain ⟨a, ws, e1, e2, e3, r⟩ := kk
        subst e1
        have na : a ≠ q := fun z2 => by
          subst z2
          exact n (s.dis j i xs ys a hj z hs h2)
        obtain ⟨f1, f2⟩ := fr a _ e3 na
        exact ⟨a, ws, rfl, f2 e2, f1, Reps.mono fx.b ys ws r⟩
      | exn c ns ys =>
        obtain ⟨dd, ws, e1, e2, e3, e4, e5⟩ := kk
        have na : dd ≠ q := fun z2 => by
          subst z2
          rw [hq] at e3
          cases e3
        exact ⟨dd, ws, e1, e2, (fr dd _ e3 na).1, e4, Reps.mono fx.b ys ws e5⟩
  · have m : ∀ {i : Nat} {zs : List D}, (e.set j p0)[i]? = some (.mu zs) → ∃ us, e[i]? = some (.mu us) := fun {i zs} h => by
      rcases Sto.set_get h with ⟨rfl, _⟩ | ⟨_, z⟩
      · exact ⟨xs, hj⟩
      · exact ⟨_, z⟩
    obtain ⟨u1, m1⟩ := m h1
    obtain ⟨u2, m2⟩ := m h2
    exact s.dis i l u1 u2 p m1 m2 h3 h4
  · have np : p ≠ q := fun z => n (z ▸ ⟨j, xs, hj, hs⟩)
    obtain ⟨f1, f2⟩ := fr p o hp np
    exact ⟨f1, f2, fun z => n (own2 p z)⟩
  · by_cases z : j = i
    · subst z
      rw [hs] at h2
      cases h2
      rcases k1 with ⟨zs, k⟩ | k
      · subst k
        exact .inl ⟨zs, List.getElem?_set_self (List.getElem?_eq_some_iff.mp h1).1⟩
      · exact .inr k
    · exact .inl ⟨ys, by rw [List.getElem?_set_ne z]; exact h1⟩
theorem sCallR {e0 : Expr} {j : Nat} (hK : X.K = Γ.K) (hm' : X.mg = Γ.mg) (F : FnOkG X.prog X.w X.K X.mg X.base (L2.CX X.prog X.w) k f fd ps (spOf X.K X.mg [0] np g)) (hr : RoomG k X.A) (gl : Gl X x) (hm : X.mg x = some (.ref f)) (hk : PySem.W.keepIn X.K (.ref f) = true) (hb : Binds X.K fd ps ds) (hd : Vals dvs ds) (hdf : ∀ B, Reps Γ B dfl dvs) (tk : Takes X W)
    (h0 : PE X e0 (tVar j)) (ha : SA X Γ W es fs) (ga : ∀ args, args.length ≠ np → g args = .bad)
    (hdb : (x == ("__debug__" : Str)) = false := by decide) (he : starEach (e0 :: es) X.env = (false, eval e0 X.env) :: starEach es X.env := by rfl) (hpl : (backTo pos (starEach es X.env)).any (·.1) = false := by rfl) :
    SF X Γ W (.Call (.Name x p) (e0 :: es) [] pos) (dCallR g j dfl fs) := imE (pe_callSG F hr gl hm hk hb hd (fun σ => passAt tk σ) (pa_cons h0 ha he) hdb he hpl) fun σ H Q ⟨env, B, s, pp⟩ => by
  have p' : Post Γ W env σ B H (fun r env' B' H' => ∀ v, RetOk Γ (FreeR Γ env σ H) env' σ B' H' r v → Q v H') (match env[j]? with
    | some (.mu _) => (fs env).bind fun as e => (match e[j]?, getAll as e, hasS j as with
      | some (.mu xs), some ds, false => (match g (.mu xs :: (ds ++ dfl).map .val) with
        | .ok r (p0 :: _) => .ok r ((frzAr as e).set j p0)
        | .err c ns ys (p0 :: _) => .err c ns ys ((frzAr as e).set j p0)
        | _ => .bad)
      | _, _, _ => .bad)
    | some (.val d) => (fs env).bind fun as e => (match getAll as e with
      | some ds => (match g (.val d :: (ds ++ dfl).map .val) with
        | .ok r _ => .ok r (frzAr as e)
        | .err c ns ys _ => .err c ns ys (frzAr as e)
        | _ => .bad)
      | none => .bad)
    | _ => .bad) := pp
  cases hh : env[j]? with
  | none => rw [hh] at p'; exact p'.elim
  | some en =>
    rw [hh] at p'
    obtain ⟨o, ho, kk⟩ := s.slot hh
    cases en with
    | un => exact p'.elim
    | exn _ _ _ => exact p'.elim
    | mu xs0 =>
      obtain ⟨q, us0, rfl, hb0, hq0, r0⟩ := kk
      refine ⟨_, ho, env, B, s, p'.bind.mono fun as e1 B1 H1 s1 x1 q1 vs hvs => ?_⟩
      cases hj : e1[j]? with
      | none => rw [hj] at q1; exact q1.elim
      | some en1 =>
        cases en1 with
        | un => rw [hj] at q1; exact q1.elim
        | val _ => rw [hj] at q1; exact q1.elim
        | exn _ _ _ => rw [hj] at q1; exact q1.elim
        | mu xs =>
          cases hga : getAll as e1 with
          | none => rw [hj, hga] at q1; exact q1.elim
          | some ds' =>
            cases hhs : hasS j as with
            | true => rw [hj, hga, hhs] at q1; exact q1.elim
            | false =>
              rw [hj, hga, hhs] at q1
              have q2 : Post Γ W e1 σ B1 H1 (fun r env' B' H' => ∀ v, RetOk Γ (FreeR Γ env σ H) env' σ B' H' r v → Q v H') (match g (.mu xs :: (ds' ++ dfl).map .val) with
                | .ok r (p0 :: _) => .ok r ((frzAr as e1).set j p0)
                | .err c ns ys (p0 :: _) => .err c ns ys ((frzAr as e1).set j p0)
                | _ => .bad) := q1
              obtain ⟨B2, s2, x2, r2⟩ := frzAr_ok s1 hvs hga
              have hj2 : (frzAr as e1)[j]? = some (.mu xs) := (frzAr_not hhs).trans hj
              obtain ⟨o2, ho2, kk2⟩ := s2.slot hj2
              rw [ho] at ho2
              cases ho2
              obtain ⟨q', us, e1', hb2, hq2, rx⟩ := kk2
              cases e1'
              have nlen : (Ent.mu xs :: (ds' ++ dfl).map Ent.val).length = np := by
                by_cases hz : (Ent.mu xs :: (ds' ++ dfl).map Ent.val).length = np
                · exact hz
                · rw [ga _ hz] at q2
                  exact q2.elim
              show spOf X.K X.mg [0] np g (V.ref q :: vs ++ dvs) H1 Q (WE W σ)
              rw [hK, hm']
              refine ⟨B2, .mu xs :: (ds' ++ dfl).map .val, nlen, args_okR (σ := σ) s2.same hb2 hq2 rx.toC (r2.append (hdf B2)).toC, fun i ys hi => ?_, ?_⟩
              · cases i with
                | zero => exact List.mem_singleton.mpr rfl
                | succ i =>
                  exfalso
                  have hi' : ((ds' ++ dfl).map Ent.val)[i]? = some (.mu ys) := by simpa using hi
                  rw [List.getElem?_map] at hi'
                  cases hd : (ds' ++ dfl)[i]? with
                  | none => rw [hd] at hi'; cases hi'
                  | some d => rw [hd] at hi'; cases hi'
              · cases hg : g (.mu xs :: (ds' ++ dfl).map .val) with
                | bad => rw [hg] at q2; exact q2.elim
                | err c ns ys pz =>
                  rw [hg] at q2
                  cases pz with
                  | nil => exact q2.elim
                  | cons p0 pr =>
                    intro cls d B' H' fx xn
                    obtain ⟨s3, x3, _⟩ := afterR s2 hj2 ho fx
                    exact q2 cls d B' H' s3 (x2.trans x3) xn.ofC
                | ok r pz =>
                  rw [hg] at q2
                  cases pz with
                  | nil => exact q2.elim
                  | cons p0 pr =>
                    intro v B' H' fx rv
                    obtain ⟨s3, x3, t3⟩ := afterR s2 hj2 ho fx
                    refine q2 B' H' s3 (x2.trans x3) v ?_
                    cases r with
                    | val d => exact Rep.ofC rv
                    | mu zs =>
                      obtain ⟨a, ws, e1', e2', e3', e4', e5'⟩ := rv
                      exact ⟨a, ws, e1', .inl (x1.h0 a e2'), e3', e4', Reps.ofC e5', fun z => t3 a z e2'⟩
                    | un => exact rv.elim
                    | exn _ _ _ => exact rv.elim
    | val d0 =>
      obtain ⟨v0, rfl, rv0⟩ := kk
      refine ⟨v0, ho, env, B, s, p'.bind.mono fun as e1 B1 H1 s1 x1 q1 vs hvs => ?_⟩
      cases hga : getAll as e1 with
      | none => rw [hga] at q1; exact q1.elim
      | some ds' =>
        rw [hga] at q1
        have q2 : Post Γ W e1 σ B1 H1 (fun r env' B' H' => ∀ v, RetOk Γ (FreeR Γ env σ H) env' σ B' H' r v → Q v H') (match g (.val d0 :: (ds' ++ dfl).map .val) with
          | .ok r _ => .ok r (frzAr as e1)
          | .err c ns ys _ => .err c ns ys (frzAr as e1)
          | _ => .bad) := q1
        obtain ⟨B2, s2, x2, r2⟩ := frzAr_ok s1 hvs hga
        have nlen : (Ent.val d0 :: (ds' ++ dfl).map Ent.val).length = np := by
          by_cases hz : (Ent.val d0 :: (ds' ++ dfl).map Ent.val).length = np
          · exact hz
          · rw [ga _ hz] at q2
            exact q2.elim
        show spOf X.K X.mg [0] np g (v0 :: vs ++ dvs) H1 Q (WE W σ)
        rw [hK, hm']
        have rc : Reps (wdOf Γ.K Γ.mg [0]) B2 (d0 :: (ds' ++ dfl)) (v0 :: (vs ++ dvs)) := ⟨v0, vs ++ dvs, rfl, Rep.toC (Rep.mono (x1.b.trans x2.b) d0 v0 rv0), (r2.append (hdf B2)).toC⟩
        refine ⟨B2, (d0 :: (ds' ++ dfl)).map .val, nlen, args_ok (σ := σ) s2.same rc, fun i ys hi => ?_, ?_⟩
        · exfalso
          rw [List.getElem?_map] at hi
          cases hd : (d0 :: (ds' ++ dfl))[i]? with
          | none => rw [hd] at hi; cases hi
          | some d => rw [hd] at hi; cases hi
        · have own_up : ∀ {B' H' : Hp} {pz : Sto}, FExt (wdOf Γ.K Γ.mg [0]) ((d0 :: (ds' ++ dfl)).map .val) (v0 :: vs ++ dvs) B2 H1 pz B' H' → Grow B2 H1 B' H' := fun {B' H' pz} fx =>
            ⟨fx.b, fun p o hp => (fx.f p o hp no_own).1, fx.s, fun p o hp => (fx.f p o hp no_own).2⟩
          show PostF _ _ _ _ _ _ _ (g (.val d0 :: (ds' ++ dfl).map .val))
          cases hg : g (.val d0 :: (ds' ++ dfl).map .val) with
          | bad => rw [hg] at q2; exact q2.elim
          | err c ns ys pz =>
            rw [hg] at q2
            intro cls d B' H' fx xn
            have gr := own_up fx
            exact q2 cls d B' H' (s2.growG gr) (x2.trans (Ext.growG gr)) xn.ofC
          | ok r pz =>
            rw [hg] at q2
            intro v B' H' fx rv
            have gr := own_up fx
            refine q2 B' H' (s2.growG gr) (x2.trans (Ext.growG gr)) v ?_
            cases r with
            | val d => exact Rep.ofC rv
            | mu zs =>
              obtain ⟨a, ws, e1', e2', e3', e4', e5'⟩ := rv
              exact ⟨a, ws, e1', .inl (x1.h0 a e2'), e3', e4', Reps.ofC e5', fun z => s2.own_tracked z e2'⟩
            | un => exact rv.elim
            | exn _ _ _ => exact rv.elim
end
end Ev

set_option Elab.async false
set_option linter.all false
set_option maxRecDepth 100000
set_option maxHeartbeats 4000000
namespace Ev
open PySem PySem.Spec PyProof.Rows L2

/-! ### an exception class with a plain __init__ -/
/-- what __init__(self, y, ..) with self.f = y, .. leaves -/
def spInit (C : Addr) (ns : List Str) : Sp := fun vs H Q _ => ∃ a ys, vs = .ref a :: ys ∧ ys.length = ns.length ∧ H a = some (exo a C none) ∧
  ∀ dx H2, H dx = none → dx ≠ a → H2 a = some (exo a C (some dx)) → H2 dx = some (exd dx (ns.zip ys).reverse) → (∀ b, b ≠ a → b ≠ dx → H2 b = H b) → Q .non H2
section
variable {P : Program} {w : World} {K : PySem.W.Frag} {mg : Str → Option Value} {base : Heap}
theorem init1 {x qual f s1 y1 : Str} {params : Arguments} {scope : Scope} {dvs : List V} {kws : List (Str × V)} {a C : Addr} {fd : FuncData} {p1 p2 p3 p4 : Pos} (F : FunD K x qual params [.Assign [.Attribute (.Name s1 p1) f p2] (.Name y1 p3) p4] scope dvs kws a fd) (S : FnScope [s1, y1] [s1, y1] scope)
    (T : OexC K C) (hf : PySem.W.findIn K (.ref C) f = some none) (hs1 : Vis scope s1 := by first | exact Or.inl rfl | exact Or.inr (Or.inl rfl)) (hy1 : Vis scope y1 := by first | exact Or.inl rfl | exact Or.inr (Or.inl rfl))
    (d1 : (s1 == ("__debug__" : Str)) = false := by decide) (d2 : (s1 == ("__classdict__" : Str)) = false := by decide) (d3 : (y1 == ("__debug__" : Str)) = false := by decide) (d4 : (y1 == ("__classdict__" : Str)) = false := by decide) :
    FnOk P w K mg base CX0 1 a fd [s1, y1] (spInit C [f]) := by
  refine F.ok S (fun vs H Q E h => ?_) (fun cdv A outer s H vs Q E hr h => ?_)
  · obtain ⟨e, ys, rfl, h1, _⟩ := h
    simp at h1
    simp [h1]
  · obtain ⟨e, ys, rfl, h1, h2, h3⟩ := h
    match ys, h1 with
    | [y], _ =>
      refine ⟨_, pss_one (ps_ost (pe_var (i := 0) rfl hs1 d1 d2) (pe_var (i := 1) rfl hy1 d3 d4)), ?_⟩
      refine ⟨y, rfl, .ref e, rfl, e, C, rfl, T, hf, .inl ⟨h2, fun dx hd hn => ?_⟩⟩
      refine h3 dx _ hd hn upd_same ?_ (fun b hb hb2 => ?_)
      · rw [upd_ne hn, upd_same]
        rfl
      · rw [upd_ne hb, upd_ne hb2]
theorem init2 {x qual f f2 s1 y1 y2 : Str} {params : Arguments} {scope : Scope} {dvs : List V} {kws : List (Str × V)} {a C : Addr} {fd : FuncData} {p1 p2 p3 p4 q1 q2 q3 q4 : Pos} (F : FunD K x qual params [.Assign [.Attribute (.Name s1 p1) f p2] (.Name y1 p3) p4, .Assign [.Attribute (.Name s1 q1) f2 q2] (.Name y2 q3) q4] scope dvs kws a fd) (S : FnScope [s1, y1, y2] [s1, y1, y2] scope)
    (T : OexC K C) (hf : PySem.W.findIn K (.ref C) f = some none) (hf2 : PySem.W.findIn K (.ref C) f2 = some none) (hs1 : Vis scope s1 := by first | exact Or.inl rfl | exact Or.inr (Or.inl rfl)) (hy1 : Vis scope y1 := by first | exact Or.inl rfl | exact Or.inr (Or.inl rfl)) (hy2 : Vis scope y2 := by first | exact Or.inl rfl | exact Or.inr (Or.inl rfl))
    (d1 : (s1 == ("__debug__" : Str)) = false := by decide) (d2 : (s1 == ("__classdict__" : Str)) = false := by decide) (d3 : (y1 == ("__debug__" : Str)) = false := by decide) (d4 : (y1 == ("__classdict__" : Str)) = false := by decide) (d5 : (y2 == ("__debug__" : Str)) = false := by decide) (d6 : (y2 == ("__classdict__" : Str)) = false := by decide) :
    FnOk P w K mg base CX0 1 a fd [s1, y1, y2] (spInit C [f, f2]) := by
  refine F.ok S (fun vs H Q E h => ?_) (fun cdv A outer s H vs Q E hr h => ?_)
  · obtain ⟨e, ys, rfl, h1, _⟩ := h
    simp at h1
    simp [h1]
  · obtain ⟨e, ys, rfl, h1, h2, h3⟩ := h
    match ys, h1 with
    | [y, z], _ =>
      refine ⟨_, pss_cons (ps_ost (pe_var (i := 0) rfl hs1 d1 d2) (pe_var (i := 1) rfl hy1 d3 d4)) (pss_one (ps_ost (pe_var (i := 0) rfl hs1 d1 d2) (pe_var (i := 2) rfl hy2 d5 d6))), ?_⟩
      refine ⟨y, rfl, .ref e, rfl, e, C, rfl, T, hf, .inl ⟨h2, fun dx hd hn => ?_⟩⟩
      refine ⟨z, rfl, .ref e, rfl, e, C, rfl, T, hf2, .inr ⟨dx, [(f, y)], upd_same, by rw [upd_ne hn, upd_same], by simp, ?_⟩⟩
      refine h3 dx _ hd hn (by rw [upd_ne (Ne.symm hn), upd_same]) upd_same (fun b hb hb2 => ?_)
      rw [upd_ne hb2, upd_ne hb, upd_ne hb2]
end
section
variable {X : Cx} {Γ : Wd} {W : WX} {e : Expr} {es : List Expr} {pos p : Pos} {x : Str}
/-- raise C(e, ..) -/
def dRaise (c : Str) (ns : List Str) (fs : List DenV) : DenS := fun env => (dVs fs env).bind fun ds e => if ds.length = ns.length then .err c ns.reverse ds.reverse e else .bad
theorem zip_rev {α β : Type} : ∀ (xs : List α) (ys : List β), xs.length = ys.length → (xs.zip ys).reverse = xs.reverse.zip ys.reverse
  | [], [], _ => rfl
  | [], _ :: _, h => by cases h
  | _ :: _, [], h => by cases h
  | x :: xs, y :: ys, h => by
    have h' : xs.length = ys.length := Nat.succ.inj h
    rw [List.zip_cons_cons, List.reverse_cons, List.reverse_cons, List.reverse_cons, zip_rev xs ys h', List.zip_append (by rw [List.length_reverse, List.length_reverse, h'])]
    rfl
theorem Reps.reverse {B : Hp} : ∀ {ds : List D} {vs : List V}, Reps Γ B ds vs → Reps Γ B ds.reverse vs.reverse
  | [], vs, h => by
    have h' : vs = [] := h
    rw [h']
    rfl
  | d :: ds, vs, h => by
    obtain ⟨v, r, rfl, e2, e3⟩ := h
    rw [List.reverse_cons, List.reverse_cons]
    exact (Reps.reverse e3).append (Reps.one e2)
theorem sRaise {C fI : Addr} {k : Nat} {fd : FuncData} {ps : List Str} {ns : List Str} {fs : List DenV} {p9 : Pos} (hc : X.calm = true) (tk : Takes X W) (T : OexC X.K C) (iC : PySem.W.findIn X.K (.ref C) "__init__" = some (some (.ref fI))) (tI : PySem.W.typeIn X.K (.ref fI) = some (.type "function"))
    (F1 : FnOk X.prog X.w X.K X.mg X.base CX0 k fI fd ps (spInit C ns)) (hr : RoomG (k + 1) X.A) (hb : Binds X.K fd ps []) (hg : Gl X x) (hm : X.mg x = some (.ref C)) (hm' : X.mg = Γ.mg) (ha : SVs X Γ W (e :: es) (dVs fs)) (hz : ns.length ≤ 100)
    (hdb : (x == ("__debug__" : Str)) = false := by decide) (he : starEach (e :: es) X.env = (false, eval e X.env) :: starEach es X.env := by rfl) (hpl : (backTo p (starEach es X.env)).any (·.1) = false := by rfl) :
    SS X Γ W (.Raise (some (.Call (.Name x pos) (e :: es) [] p)) none p9) (dRaise x ns fs) :=
  imS (ps_raise hc tk (pmk_oex T iC tI F1 hr.room hb .nil pass0 hg hm ha hdb he hpl)) fun Q σ H ⟨env, B, s, pp⟩ => by
    refine ⟨env, B, s, pp.bind.mono fun ds e1 B1 H1 s1 x1 q1 vs hvs => ?_⟩
    obtain ⟨x', q⟩ := q1
    split at q
    · rename_i hl
      have hlv : vs.length = ns.length := hvs.length.symm.trans hl
      refine ⟨by omega, fun a ha0 => ?_⟩
      refine ⟨a, vs, by rw [List.append_nil], hlv, upd_same, fun dx H2 hd hn k1 k2 k3 => ⟨rfl, dx, _, k1, k2, ?_, ?_⟩⟩
      · rw [upd_ne hn] at hd
        exact hd
      · rw [upd_ne hn] at hd
        have same : ∀ b o, H1 b = some o → upd (del H2 a) dx (.xd (ns.zip vs).reverse) b = some o := fun b o hb => by
          have nb : b ≠ dx := ne_of_none hb hd
          have na : b ≠ a := ne_of_none hb ha0
          rw [upd_ne nb, del_ne na, k3 b na nb, upd_ne na]
          exact hb
        have gr : Grow B1 H1 B1 (upd (del H2 a) dx (.xd (ns.zip vs).reverse)) := ⟨Same.refl _, same, s1.same.trans same, fun _ _ _ z => z⟩
        refine q (.ref C) (some dx) σ B1 _ (s1.growG gr) (x'.trans (Ext.growG gr)) ⟨C, dx, vs.reverse, by rw [← hm']; exact hm, rfl, rfl, ?_, by rw [List.length_reverse, List.length_reverse, hlv], hvs.reverse⟩
        rw [upd_same, zip_rev ns vs hlv.symm]
    · exact q.elim
end

/-! ### try -/
/-! A clause may bind a name (its slot) or not; one rule for both. -/
/-- the ends of a suite whose name goes behind it -/
def less (D : Ends) : Option Nat → Ends
  | none => D
  | some i => { nx := fun τ G => D.nx (τ.set i none) G, rt := D.rt, bk := fun τ G => D.bk (τ.set i none) G, ct := fun τ G => D.ct (τ.set i none) G }
/-- the clause's name is bound -/
def bound (τ : L2.St) (a : Addr) : Option Nat → L2.St
  | none => τ
  | some i => τ.set i (some (.ref a))
abbrev Clause := Value × Option Nat × (Addr → Value → Option Addr → TS)
/-- what is asked of an exception that reaches these clauses -/
def wMix (K : PySem.W.Frag) (Wout : WX) (D : Ends) : List Clause → WX
  | [] => Wout
  | (c, o, ts) :: rest => fun cls d τ G => ∃ b, PySem.W.exmOne K cls c = some b ∧ (b = true → ∀ a, G a = none → ts a cls d (less D o) (bound τ a o) G) ∧ (b = false → wMix K Wout D rest cls d τ G)
/-- a clause's name and its slot -/
def Slotted (X : Cx) : Option Str → Option Nat → Prop
  | none, none => True
  | some n, some i => X.N[i]? = some n ∧ X.env.kindOf n = some .local
  | _, _ => False
/-- a clause's suite is served -/
def Suited (X : Cx) (suite : List Stmt) (ts : Addr → Value → Option Addr → TS) : Prop :=
  ∀ (a : Addr) (oe : Obj) (cls : Value) (d : Option Addr) (pn : List (Addr × Obj)), Zc cls d oe → (∃ vs, oe.data = .fields vs) → PSs (X.suite a ((a, oe) :: pn)) suite (ts a cls d)
inductive HdsM (X : Cx) : List ExceptHandler → List Clause → Prop
  | nil : HdsM X [] []
  | put {x : Str} {c : Value} {o : Option Nat} {nm : Option Str} {ts : Addr → Value → Option Addr → TS} {st : Stmt} {sts : List Stmt} {q1 q2 : Pos} {hds : List ExceptHandler} {cl : List Clause} (sl : Slotted X nm o) (hc : Names X x c) (hsu : Suited X (st :: sts) ts) (r : HdsM X hds cl) :
      HdsM X (.ExceptHandler (some (.Name x q1)) nm (st :: sts) q2 :: hds) ((c, o, ts) :: cl)
/-- an exception that X's frame has caught -/
def Caught (X : Cx) (pins : List (Addr × Obj)) (τ : L2.St) (G : Hp) (a : Addr) (cls : Value) (d : Option Addr) (u : Shared) : Prop :=
  ∃ (B : Heap) (sI : Shared), Inv X pins τ G sI ∧ (∀ b o, sI.heap.get? b = some o → b ∉ frs X.stack → B.get? b = some o) ∧ sI.heap.UpToSlots u.heap ∧ HandSPX.FlyingZ B X.stack a (Zc cls d) u.heap ∧ G a = none ∧ u.os = sI.os ∧ AllBare u.gens
section
variable {X : Cx} {pins : List (Addr × Obj)} {τ : L2.St} {G : Hp} {a : Addr} {cls : Value} {d : Option Addr} {u : Shared} {D : Ends}
/-- the context of a suite holds there -/
theorem Caught.see (k : Caught X pins τ G a cls d u) (hs : X.stack = X.env :: X.outer) (hf : X.env.frame = some X.env.locals) : ∃ oe, Zc cls d oe ∧ (∃ vs, oe.data = .fields vs) ∧ u.heap.get? a = some oe ∧ Inv (X.suite a ((a, oe) :: (X.pn ++ pins))) [] τ G u := by
  obtain ⟨B, sI, base, nb, up, fly, na, os, ag⟩ := k
  obtain ⟨oe, vs, at_, z, dat⟩ := fly.there
  have out : a ∉ frs X.stack := fun inS => by
    obtain ⟨_, o2, e2, noD⟩ := fly.2.2.1.mem inS
    rw [at_] at e2
    cases e2
    exact noD _ dat
  have split : ∀ {e : Env}, e ∈ X.stack → e.frame = some a → False := fun {e} he hfr => out (List.mem_filterMap.mpr ⟨e, he, hfr⟩)
  refine ⟨oe, z, ⟨vs, dat⟩, at_, (base.landed nb fly.1 up os ag).suite at_ dat na (fun eq => ?_) (fun inF => ?_)⟩
  · exact split (e := X.env) (by rw [hs]; exact .head _) (by rw [hf, eq])
  · obtain ⟨e, he, hfr⟩ := List.mem_filterMap.mp inF
    exact split (e := e) (by rw [hs]; exact .tail _ he) hfr
/-- its flight is set anew -/
theorem Caught.again {M : Model} {A : Around} {E : Value → Shared → Prop} {Q : Unit → Shared → Prop} (k : Caught X pins τ G a cls d u) (h : ∀ u', Caught X pins τ G a cls d u' → Q () u') : wpAny M A (setFlight (.ref a) none) Q E u := by
  obtain ⟨B, sI, base, nb, up, fly, na, os, ag⟩ := k
  exact HandSPX.lands_againZ fly fun h' fly' up' => h { u with heap := h' } ⟨B, sI, base, nb, up.trans up', fly', na, os, ag⟩
/-- no clause is left: it flies on -/
theorem Caught.away {Wout : WX} (k : Caught X pins τ G a cls d u) (hf : X.env.frame = some X.env.locals) (tk : Takes X Wout) (w : Wout cls d τ G) : wpAny (model X.prog X.w) X.A (handleBy (.ref a) X.env []) (SP X pins D) X.xe u := by
  obtain ⟨B, sI, base, nb, up, fly, na, os, ag⟩ := k
  have flies : wpAny (model X.prog X.w) X.A (setFlight (.ref a) X.env.frame) (fun _ u2 => wpAny (model X.prog X.w) X.A (throw (.ref a) : Sem Flow) (SP X pins D) X.xe u2) X.xe u := by
    rw [hf]
    exact HandSPX.setFlight_upZ fly fun h' held up' => wpAny_throw (tk _ _ ⟨a, B, sI, pins, τ, G, cls, d, rfl, base, nb, up.trans up', .inr (.inr held), na, os, ag, w⟩)
  obtain ⟨_, _, _, oe, vs, T, _, _, at_, _, dat, trace, _⟩ := fly
  apply wpAny_handleBy_nil
  unfold PySem.passOn
  apply wpAny_bind (wpAny_field at_ dat trace _)
  rw [if_neg (show ¬ ((Value.ref T == Value.none) = true) from by simp)]
  first
    | exact wpAny_bind flies
    | exact wpAny_bind (wpAny_pure (wpAny_bind flies))
/-- what a suite leaves is the frame's -/
theorem outOf {q : Addr × Obj} {f : Flow} (ok : X.Ok) (h : SP (X.suite a (q :: (X.pn ++ pins))) [] D f u) : SP X pins D f u := by
  cases f
  case ret => obtain ⟨v, τ', G', J, w⟩ := h; exact ⟨v, τ', G', J.unsuite ok, w⟩
  all_goals (obtain ⟨τ', G', J, w⟩ := h; exact ⟨τ', G', J.unsuite ok, w⟩)
/-- and its name goes -/
theorem outOfN {q : Addr × Obj} {f : Flow} {i : Nat} {n : Str} {p : Pos} (ok : X.Ok) (hN : X.N.Nodup) (hi : X.N[i]? = some n) (hl : X.env.kindOf n = some .local) (h : SP (X.suite a (q :: (X.pn ++ pins))) [] (less D (some i)) f u) :
    wpAny (model X.prog X.w) X.A (do bindName X.env n .none; unbindBehindTheSuite X.env n p) (fun _ u3 => SP X pins D f u3) X.xe u := by
  cases f
  case ret => obtain ⟨v, τ', G', J, w⟩ := h; exact gone_ok (J.unsuite ok) hN hi hl fun u3 J3 => ⟨v, _, G', J3, w⟩
  all_goals (obtain ⟨τ', G', J, w⟩ := h; exact gone_ok (J.unsuite ok) hN hi hl fun u3 J3 => ⟨_, G', J3, w⟩)
/-- the clauses, one after the other -/
theorem Caught.walk {Wout : WX} (hs : X.stack = X.env :: X.outer) (hf : X.env.frame = some X.env.locals) (hN : X.N.Nodup) (ok : X.Ok) (tk : Takes X Wout) (k : Caught X pins τ G a cls d u) {hds : List ExceptHandler} {cl : List Clause} (r : HdsM X hds cl) :
    wMix X.K Wout D cl cls d τ G → wpAny (model X.prog X.w) X.A (handleBy (.ref a) X.env hds) (SP X pins D) X.xe u := by
  induction r with
  | nil => exact k.away hf tk
  | @put x c o nm ts st sts q1 q2 hds cl sl hc hsu r ih =>
    rintro ⟨b, is_, yes, no⟩
    obtain ⟨oe, z, _, at_, S⟩ := k.see hs hf
    have na : G a = none := let ⟨_, _, _, _, _, _, q, _⟩ := k; q
    have matched : PySem.W.Looks (model X.prog X.w) u.heap (excMatches (.ref a) c) b := PySem.W.exm_one S.kIn (fun A Q E w keep q => wpAny_typeOf_ref (keep _ _ at_) (by rw [z.1]; exact q)) is_
    refine wpAny_handleBy_cons (codeAny_handlers_test ?_) (fun q => by cases q)
    have clause : ∀ {Q : Value → Shared → Prop} {E : Value → Shared → Prop}, Q c u → wpAny (model X.prog X.w) (X.A.mark (some (.ref a))) (eval (.Name x q1) X.env) Q E u := fun {Q E} q => by
      obtain ⟨glo, ndb, inMain | ⟨notMain, inBlt, noName⟩⟩ := hc
      · exact ld_glob (X := X.suite a ((a, oe) :: (X.pn ++ pins))) S glo inMain q ndb
      · exact ld_blt (X := X.suite a ((a, oe) :: (X.pn ++ pins))) S glo notMain inBlt q noName ndb
    refine clause (matched.here ?_)
    cases b
    · exact ih (no rfl)
    · match nm, o, sl with
      | none, none, _ =>
        exact codeAny_handlers_suite (k.again fun u2 k2 => by
          obtain ⟨oe2, z2, dat2, _, S2⟩ := k2.see hs hf
          exact wpAny_mono ((hsu a oe2 cls d _ z2 dat2).run [] u2 τ G _ S2 (yes rfl a na)) (fun f u3 => outOf ok) fun _ _ bad => bad.elim)
      | some n, some i, ⟨hi, hl⟩ =>
        exact codeAny_handlers_suite_as (k.again fun u2 k2 => by
          obtain ⟨oe2, z2, dat2, _, S2⟩ := k2.see hs hf
          exact store_ok (X := X.suite a ((a, oe2) :: (X.pn ++ pins))) (v := .ref a) S2 hN hi (.inl hl) rfl (fun u3 S3 => wpAny_mono ((hsu a oe2 cls d _ z2 dat2).run [] u3 _ G _ S3 (yes rfl a na)) (fun f u4 => outOfN ok hN hi hl) fun _ _ bad => bad.elim) (.inr hl))
end
section
variable {X : Cx} {body : List Stmt} {h₀ : ExceptHandler} {hds : List ExceptHandler} {cl : List Clause} {pos : Pos} {tb : WX → TS} {Wout : WX}
/-- try: body, then the clauses -/
theorem ps_try_mix (hs : X.stack = X.env :: X.outer) (hf : X.env.frame = some X.env.locals) (hN : X.N.Nodup) (tk : Takes X Wout)
    (hb : ∀ (W : WX) (pn : List (Addr × Obj)) (xe : Value → Shared → Prop), Takes (X.tr pn xe) W → PassesOwn (model X.prog X.w) X.A X.env xe → PSs (X.tr pn xe) body (tb W))
    (hh : HdsM X (h₀ :: hds) cl) : PS X (.Try body (h₀ :: hds) [] [] pos) (fun D τ G => tb (wMix X.K Wout D cl) D τ G) := by
  constructor
  intro pins s τ0 G0 D I goal
  have frames : X.A.frames = some (X.env :: X.outer) := by rw [← hs]; exact I.ok.frames
  let look : Value → Shared → Prop := fun e u => wpAny (model X.prog X.w) X.A (noteFrame e X.env) (fun _ u2 => wpAny (model X.prog X.w) X.A (setFlight e none) (fun _ u3 => wpAny (model X.prog X.w) X.A (handleBy e X.env (h₀ :: hds)) (SP X pins D) X.xe u3) X.xe u2) X.xe u
  have caught : Takes (X.tr (X.pn ++ pins) look) (wMix X.K Wout D cl) := by
    rintro _ u ⟨a, B, sI, pn', τ, G, cls, d, rfl, J, nb, up, sky, na, os, ag, w⟩
    have sky2 : Sky B (X.env :: X.outer) a (Zc cls d) X.env.locals u.heap := by rw [← hs]; exact sky
    refine Sky.land Zc.steady frames hf sky2 fun h' fly up' => ?_
    rw [← hs] at fly
    exact Caught.walk hs hf hN I.ok tk (u := { u with heap := h' }) ⟨B, sI, J.ofTry I.ok, nb, up.trans up', fly, na, os, ag⟩ hh w
  refine wpAny_Try_except (wpAny_mono ((hb _ _ look caught PassesOwn.looking).run [] s τ0 G0 D (I.toTry _) goal) (fun f u h => ?_) fun _ _ h => h)
  cases f
  case next => obtain ⟨τ', G', J, w⟩ := h; exact wpAny_execs_nil ⟨τ', G', J.ofTry I.ok, w⟩
  case ret => obtain ⟨v, τ', G', J, w⟩ := h; exact ⟨v, τ', G', J.ofTry I.ok, w⟩
  all_goals (obtain ⟨τ', G', J, w⟩ := h; exact ⟨τ', G', J.ofTry I.ok, w⟩)
end

def Ent.noX : Ent → Ent
  | .exn _ _ _ => .un
  | e => e
def noX (e : Sto) : Sto := e.map Ent.noX
/-- is the first class under the second (none: not told) -/
abbrev XTab := Str → Str → Option Bool
def finX (o : Option Nat) (r : Res Fl) : Res Fl := match r with
  | .ok f e => .ok f (match o with
    | some i => (noX e).set i .un
    | none => noX e)
  | _ => .bad
def runH (T : XTab) (c : Str) (ns : List Str) (xs : List D) (e : Sto) : List (Str × Option Nat × DenS) → Res Fl
  | [] => .err c ns xs e
  | (h, o, suite) :: r => match T c h with
    | some true => finX o (suite (match o with
      | some i => (noX e).set i (.exn c ns xs)
      | none => noX e))
    | some false => runH T c ns xs e r
    | none => .bad
def dTry (T : XTab) (body : DenS) (hs : List (Str × Option Nat × DenS)) : DenS := fun env => match body env with
  | .err c ns xs e => runH T c ns xs e hs
  | r => r
section
variable {X : Cx} {Γ : Wd} {W : WX} {e : Expr} {pos : Pos}
theorem noX_get {env : Sto} {i : Nat} {en : Ent} (h : (noX env)[i]? = some en) : ∃ e0, env[i]? = some e0 ∧ en = e0.noX := by
  unfold noX at h
  rw [List.getElem?_map] at h
  cases hd : env[i]? with
  | none => rw [hd] at h; cases h
  | some e0 => rw [hd] at h; exact ⟨e0, rfl, (Option.some.inj h).symm⟩
theorem noX_mu {env : Sto} {i : Nat} {xs : List D} : (noX env)[i]? = some (.mu xs) ↔ env[i]? = some (.mu xs) := by
  constructor
  · intro h
    obtain ⟨e0, h1, h2⟩ := noX_get h
    cases e0 with
    | mu ys => cases h2; exact h1
    | _ => cases h2
  · intro h
    unfold noX
    rw [List.getElem?_map, h]
    rfl
theorem noX_own {env : Sto} {σ : L2.St} {q : Addr} : Own (noX env) σ q ↔ Own env σ q := by
  constructor
  · rintro ⟨i, xs, h1, h2⟩
    exact ⟨i, xs, noX_mu.mp h1, h2⟩
  · rintro ⟨i, xs, h1, h2⟩
    exact ⟨i, xs, noX_mu.mpr h1, h2⟩
/-- the exception at hand is forgotten, or another is at hand -/
theorem StOk.noX {Γ Γ' : Wd} {env : Sto} {σ : L2.St} {B H : Hp} (hK : Γ.K = Γ'.K) (hm : Γ.mg = Γ'.mg) (s : StOk Γ env σ B H) : StOk Γ' (Ev.noX env) σ B H where
  same := s.same
  len := by unfold Ev.noX; rw [List.length_map]; exact s.len
  ent := fun i en o h1 h2 => by
    obtain ⟨e0, k1, rfl⟩ := noX_get h1
    have k := s.ent i e0 o k1 h2
    cases e0 with
    | un => trivial
    | val d =>
      obtain ⟨v, e1, r⟩ := k
      exact ⟨v, e1, Rep.ctx hK hm d v r⟩
    | mu xs =>
      obtain ⟨q, vs, e1, e2, e3, r⟩ := k
      exact ⟨q, vs, e1, e2, e3, Reps.ctx hK hm xs vs r⟩
    | exn c ns xs => trivial
  dis := fun i j xs ys q h1 h2 h3 h4 => s.dis i j xs ys q (noX_mu.mp h1) (noX_mu.mp h2) h3 h4
theorem Ext.noX {Γ Γ' : Wd} {env env' : Sto} {σ σ' : L2.St} {B H B' H' : Hp} (hR : Γ.R = Γ'.R) (x : Ext Γ env σ B H env' σ' B' H') : Ext Γ' env σ B H (Ev.noX env') σ' B' H' where
  b := x.b
  t := x.t
  f := fun q o h n => by
    obtain ⟨k1, k2, k3⟩ := x.f q o h n
    exact ⟨k1, k2, fun z => k3 (noX_own.mp z)⟩
  r := fun i hi => by
    obtain ⟨k1, k2⟩ := x.r i (by rw [hR]; exact hi)
    refine ⟨k1, fun xs q h1 h2 => ?_⟩
    rcases k2 xs q h1 h2 with ⟨ys, z⟩ | z
    · exact .inl ⟨ys, noX_mu.mpr z⟩
    · exact .inr z
theorem Ext.noXl {Γ Γ' : Wd} {env env' : Sto} {σ σ' : L2.St} {B H B' H' : Hp} (hR : Γ.R = Γ'.R) (x : Ext Γ (Ev.noX env) σ B H env' σ' B' H') : Ext Γ' env σ B H env' σ' B' H' where
  b := x.b
  t := x.t
  f := fun q o h n => x.f q o h fun z => n (noX_own.mp z)
  r := fun i hi => by
    obtain ⟨k1, k2⟩ := x.r i (by rw [hR]; exact hi)
    exact ⟨k1, fun xs q h1 h2 => k2 xs q (noX_mu.mpr h1) h2⟩
/-- a slot is set to what is no list of its own -/
theorem StOk.setN {env : Sto} {σ : L2.St} {B H : Hp} {i : Nat} {en : Ent} {o : Option V} (s : StOk Γ env σ B H) (hn : ∀ xs, en ≠ .mu xs) (k : EntOk Γ B H en o) : StOk Γ (env.set i en) (σ.set i o) B H where
  same := s.same
  len := by rw [List.length_set, List.length_set]; exact s.len
  ent := fun j e o' h1 h2 => by
    rcases Sto.set_get h1 with ⟨rfl, rfl⟩ | ⟨ne, q⟩
    · have hl : i < σ.length := by
        have z := (List.getElem?_eq_some_iff.mp h2).1
        rw [List.length_set] at z
        exact z
      rw [List.getElem?_set_self hl] at h2
      cases h2
      exact k
    · rw [List.getElem?_set_ne ne] at h2
      exact s.ent j e o' q h2
  dis := fun j k ys zs q h1 h2 h3 h4 => by
    rcases Sto.set_get h1 with ⟨_, z⟩ | ⟨n1, q1⟩
    · exact absurd z.symm (hn ys)
    · rcases Sto.set_get h2 with ⟨_, z⟩ | ⟨n2, q2⟩
      · exact absurd z.symm (hn zs)
      · rw [List.getElem?_set_ne n1] at h3
        rw [List.getElem?_set_ne n2] at h4
        exact s.dis j k ys zs q q1 q2 h3 h4
theorem Ext.setN {env env1 : Sto} {σ σ1 : L2.St} {B H B1 H1 : Hp} {i : Nat} {en : Ent} {o : Option V} (x : Ext Γ env σ B H env1 σ1 B1 H1) (hn : ∀ xs, en ≠ .mu xs) (hi : i ∉ Γ.R) : Ext Γ env σ B H (env1.set i en) (σ1.set i o) B1 H1 where
  b := x.b
  t := x.t
  f := fun p u h n => by
    obtain ⟨k1, k2, k3⟩ := x.f p u h n
    refine ⟨k1, k2, fun z => k3 ?_⟩
    obtain ⟨j, xs, e1, e2⟩ := z
    rcases Sto.set_get e1 with ⟨_, q⟩ | ⟨nn, q⟩
    · exact absurd q.symm (hn xs)
    · rw [List.getElem?_set_ne nn] at e2
      exact ⟨j, xs, q, e2⟩
  r := fun j hj => by
    have ne : i ≠ j := fun z => hi (z ▸ hj)
    obtain ⟨k1, k2⟩ := x.r j hj
    refine ⟨by rw [List.getElem?_set_ne ne]; exact k1, fun xs p e1 e2 => ?_⟩
    rcases k2 xs p e1 e2 with ⟨ys, q⟩ | q
    · exact .inl ⟨ys, by rw [List.getElem?_set_ne ne]; exact q⟩
    · exact .inr q
/-- with an exception at hand -/
abbrev Wd.at_ (Γ : Wd) (a : Addr) (cls : Value) (d : Option Addr) : Wd := { Γ with F := (a, cls, d) }
abbrev W0 : WX := fun _ _ _ _ => False
/-- the clauses -/
inductive Hds (X : Cx) (Γ : Wd) (T : XTab) : List ExceptHandler → List (Str × Option Nat × DenS) → Prop
  | nil : Hds X Γ T [] []
  | cons {h : Str} {Ch : Addr} {g : DenS} {b₀ : Stmt} {suite : List Stmt} {np pos' : Pos} {hds : List ExceptHandler} {l : List (Str × Option Nat × DenS)} (hc : Names X h (.ref Ch)) (hT : ∀ cn C b, T cn h = some b → X.mg cn = some (.ref C) → PySem.W.exmOne X.K (.ref C) (.ref Ch) = some b)
      (hsu : ∀ (a : Addr) (oe : Obj) (cls : Value) (d : Option Addr) (pn : List (Addr × Obj)), Zc cls d oe → (∃ vs, oe.data = .fields vs) → SSs (X.suite a ((a, oe) :: pn)) (Γ.at_ a cls d) W0 (b₀ :: suite) g) (r : Hds X Γ T hds l) :
      Hds X Γ T (.ExceptHandler (some (.Name h np)) none (b₀ :: suite) pos' :: hds) ((h, none, g) :: l)
  | consN {h n : Str} {i : Nat} {Ch : Addr} {g : DenS} {b₀ : Stmt} {suite : List Stmt} {np pos' : Pos} {hds : List ExceptHandler} {l : List (Str × Option Nat × DenS)} (hiR : i ∉ Γ.R) (hi : X.N[i]? = some n) (hln : X.env.kindOf n = some .local) (hc : Names X h (.ref Ch)) (hT : ∀ cn C b, T cn h = some b → X.mg cn = some (.ref C) → PySem.W.exmOne X.K (.ref C) (.ref Ch) = some b)
      (hsu : ∀ (a : Addr) (oe : Obj) (cls : Value) (d : Option Addr) (pn : List (Addr × Obj)), Zc cls d oe → (∃ vs, oe.data = .fields vs) → SSs (X.suite a ((a, oe) :: pn)) (Γ.at_ a cls d) W0 (b₀ :: suite) g) (r : Hds X Γ T hds l) :
      Hds X Γ T (.ExceptHandler (some (.Name h np)) (some n) (b₀ :: suite) pos' :: hds) ((h, some i, g) :: l)
theorem RetOk.noX {P : Addr → Prop} {a : Addr} {cls : Value} {d : Option Addr} {env' : Sto} {σ' : L2.St} {B' H' : Hp} {r : Ent} {v : V} (h : RetOk (Γ.at_ a cls d) P env' σ' B' H' r v) {env2 : Sto} {σ2 : L2.St} (ho : ∀ q, Own env2 σ2 q → Own env' σ' q) : RetOk Γ P env2 σ2 B' H' r v := by
  cases r with
  | val d => exact Rep.ctx (Γ := Γ.at_ a cls _) (Γ' := Γ) rfl rfl d v h
  | mu xs =>
    obtain ⟨p, vs, e1, e2, e3, e4, e5, e6⟩ := h
    exact ⟨p, vs, e1, e2, e3, e4, Reps.ctx (Γ := Γ.at_ a cls d) (Γ' := Γ) rfl rfl xs vs e5, fun z => e6 (ho p z)⟩
  | un => exact h.elim
  | exn _ _ _ => exact h.elim
theorem freeR_noX {a : Addr} {cls : Value} {d : Option Addr} {env : Sto} {σ : L2.St} {H : Hp} {p : Addr} (h : FreeR (Γ.at_ a cls d) (noX env) σ H p) : FreeR Γ env σ H p := by
  rcases h with h | ⟨i, xs, h1, h2, h3⟩
  · exact .inl h
  · exact .inr ⟨i, xs, h1, noX_mu.mp h2, h3⟩
theorem sTry {T : XTab} {body : List Stmt} {h₀ : ExceptHandler} {hds : List ExceptHandler} {l : List (Str × Option Nat × DenS)} {f : DenS} (hK : X.K = Γ.K) (hm : X.mg = Γ.mg) (hs : X.stack = X.env :: X.outer) (hf : X.env.frame = some X.env.locals) (hN : X.N.Nodup) (tk : Takes X W)
    (hb : ∀ (W' : WX) (pn : List (Addr × Obj)) (xe : Value → Shared → Prop), Takes (X.tr pn xe) W' → PassesOwn (model X.prog X.w) X.A X.env xe → SSs (X.tr pn xe) Γ W' body f)
    (hh : Hds X Γ T (h₀ :: hds) l) : SS X Γ W (.Try body (h₀ :: hds) [] [] pos) (dTry T f l) := by
  obtain ⟨l2, h2, hw⟩ : ∃ l2, HdsM X (h₀ :: hds) l2 ∧ ∀ (Dn : Ends) (env : Sto) (σ : L2.St) (B H : Hp) (c : Str) (ns : List Str) (xs : List D) (cls : Value) (d : Option Addr), StOk Γ env σ B H → XnOk Γ B H c ns xs cls d →
      PostS Γ W env σ B H Dn (runH T c ns xs env l) → wMix X.K W Dn l2 cls d σ H := by
    clear hb
    generalize h₀ :: hds = hd0 at hh ⊢
    induction hh with
    | nil => exact ⟨[], .nil, fun Dn env σ B H c ns xs cls d s xn p => p cls d σ B H s Ext.refl xn⟩
    | @cons h Ch g b₀ suite np pos' hds l hc hT hsu r ih =>
      obtain ⟨l2, i1, i2⟩ := ih
      refine ⟨(.ref Ch, none, fun a cls d => tS (Γ.at_ a cls d) W0 g) :: l2, (.put (nm := none) (o := none) trivial hc hsu i1), fun Dn env σ B H c ns xs cls d s xn p => ?_⟩
      have p' : PostS Γ W env σ B H Dn (match T c h with
        | some true => finX none (g (noX env))
        | some false => runH T c ns xs env l
        | none => .bad) := p
      have xn' := xn
      obtain ⟨C, dd, vs, e1, rfl, rfl, e4, e5, e6⟩ := xn
      cases hTc : T c h with
      | none => rw [hTc] at p'; exact p'.elim
      | some b =>
        rw [hTc] at p'
        refine ⟨b, hT c C b hTc (by rw [hm]; exact e1), fun hbt a ha => ?_, fun hbf => ?_⟩
        · subst hbt
          have p2 : PostS Γ W env σ B H Dn (finX none (g (noX env))) := p'
          have s2 : StOk (Γ.at_ a (.ref C) (some dd)) (noX env) σ B H := StOk.noX (Γ := Γ) (Γ' := Γ.at_ a (.ref C) (some dd)) rfl rfl s
          refine ⟨noX env, B, s2, ?_⟩
          cases hg : g (noX env) with
          | bad => rw [hg] at p2; exact p2.elim
          | err _ _ _ _ => rw [hg] at p2; exact p2.elim
          | ok fl e' =>
            rw [hg] at p2
            have back : ∀ {σ' B' H'}, StOk (Γ.at_ a (.ref C) (some dd)) e' σ' B' H' → Ext (Γ.at_ a (.ref C) (some dd)) (noX env) σ B H e' σ' B' H' → StOk Γ (noX e') σ' B' H' ∧ Ext Γ env σ B H (noX e') σ' B' H' := fun {σ' B' H'} s' x' =>
              ⟨StOk.noX (Γ := Γ.at_ a (.ref C) (some dd)) (Γ' := Γ) rfl rfl s', Ext.noXl (Γ := Γ.at_ a (.ref C) (some dd)) rfl (Ext.noX (Γ' := Γ.at_ a (.ref C) (some dd)) rfl x')⟩
            cases fl with
            | nx => exact fun σ' B' H' s' x' => p2 σ' B' H' (back s' x').1 (back s' x').2
            | bk => exact fun σ' B' H' s' x' => p2 σ' B' H' (back s' x').1 (back s' x').2
            | ct => exact fun σ' B' H' s' x' => p2 σ' B' H' (back s' x').1 (back s' x').2
            | rt rr => exact fun v σ' B' H' s' x' hr => p2 v σ' B' H' (back s' x').1 (back s' x').2 ((hr.noX (fun q z => noX_own.mp z)).imp fun p hp => freeR_noX hp)
        · subst hbf
          exact i2 Dn env σ B H c ns xs _ _ s xn' p'
    | @consN h n i Ch g b₀ suite np pos' hds l hiR hi hln hc hT hsu r ih =>
      obtain ⟨l2, i1, i2⟩ := ih
      refine ⟨(.ref Ch, some i, fun a cls d => tS (Γ.at_ a cls d) W0 g) :: l2, (.put (nm := some n) (o := some i) ⟨hi, hln⟩ hc hsu i1), fun Dn env σ B H c ns xs cls d s xn p => ?_⟩
      have p' : PostS Γ W env σ B H Dn (match T c h with
        | some true => finX (some i) (g ((noX env).set i (.exn c ns xs)))
        | some false => runH T c ns xs env l
        | none => .bad) := p
      have xn' := xn
      obtain ⟨C, dd, vs, e1, rfl, rfl, e4, e5, e6⟩ := xn
      cases hTc : T c h with
      | none => rw [hTc] at p'; exact p'.elim
      | some b =>
        rw [hTc] at p'
        refine ⟨b, hT c C b hTc (by rw [hm]; exact e1), fun hbt a ha => ?_, fun hbf => ?_⟩
        · subst hbt
          have p2 : PostS Γ W env σ B H Dn (finX (some i) (g ((noX env).set i (.exn c ns xs)))) := p'
          have s2 : StOk (Γ.at_ a (.ref C) (some dd)) (noX env) σ B H := StOk.noX (Γ := Γ) (Γ' := Γ.at_ a (.ref C) (some dd)) rfl rfl s
          have nm : ∀ ys, Ent.exn c ns xs ≠ .mu ys := fun ys z => by cases z
          have nu : ∀ ys, Ent.un ≠ .mu ys := fun ys z => by cases z
          have s3 : StOk (Γ.at_ a (.ref C) (some dd)) ((noX env).set i (.exn c ns xs)) (σ.set i (some (.ref a))) B H := s2.setN nm ⟨dd, vs, rfl, ⟨rfl, C, e1, rfl⟩, e4, e5, Reps.ctx (Γ := Γ) (Γ' := Γ.at_ a (.ref C) (some dd)) rfl rfl xs vs e6⟩
          have x3 : Ext (Γ.at_ a (.ref C) (some dd)) (noX env) σ B H ((noX env).set i (.exn c ns xs)) (σ.set i (some (.ref a))) B H := Ext.setN Ext.refl nm hiR
          refine ⟨_, B, s3, ?_⟩
          cases hg : g ((noX env).set i (.exn c ns xs)) with
          | bad => rw [hg] at p2; exact p2.elim
          | err _ _ _ _ => rw [hg] at p2; exact p2.elim
          | ok fl e' =>
            rw [hg] at p2
            have back : ∀ {σ' B' H'}, StOk (Γ.at_ a (.ref C) (some dd)) e' σ' B' H' → Ext (Γ.at_ a (.ref C) (some dd)) ((noX env).set i (.exn c ns xs)) (σ.set i (some (.ref a))) B H e' σ' B' H' → StOk Γ (noX e') σ' B' H' ∧ Ext Γ env σ B H (noX e') σ' B' H' := fun {σ' B' H'} s' x' =>
              ⟨StOk.noX (Γ := Γ.at_ a (.ref C) (some dd)) (Γ' := Γ) rfl rfl s', Ext.noXl (Γ := Γ.at_ a (.ref C) (some dd)) rfl (Ext.noX (Γ' := Γ.at_ a (.ref C) (some dd)) rfl (x3.trans x'))⟩
            have back2 : ∀ {σ' B' H'}, StOk (Γ.at_ a (.ref C) (some dd)) e' σ' B' H' → Ext (Γ.at_ a (.ref C) (some dd)) ((noX env).set i (.exn c ns xs)) (σ.set i (some (.ref a))) B H e' σ' B' H' → StOk Γ ((noX e').set i .un) (σ'.set i none) B' H' ∧ Ext Γ env σ B H ((noX e').set i .un) (σ'.set i none) B' H' := fun {σ' B' H'} s' x' =>
              ⟨(back s' x').1.setN nu trivial, (back s' x').2.setN nu hiR⟩
            cases fl with
            | nx => exact fun σ' B' H' s' x' => p2 _ B' H' (back2 s' x').1 (back2 s' x').2
            | bk => exact fun σ' B' H' s' x' => p2 _ B' H' (back2 s' x').1 (back2 s' x').2
            | ct => exact fun σ' B' H' s' x' => p2 _ B' H' (back2 s' x').1 (back2 s' x').2
            | rt rr =>
              refine fun v σ' B' H' s' x' hr => p2 v _ B' H' (back2 s' x').1 (back2 s' x').2 ((hr.noX (fun q z => ?_)).imp fun p hp => freeR_noX (hp.back s3 x3))
              obtain ⟨j, ys, z1, z2⟩ := z
              rcases Sto.set_get z1 with ⟨_, z⟩ | ⟨nn, z⟩
              · cases z
              · rw [List.getElem?_set_ne nn] at z2
                exact ⟨j, ys, noX_mu.mp z, z2⟩
        · subst hbf
          exact i2 Dn env σ B H c ns xs _ _ s xn' p'
  refine imS (ps_try_mix (tb := fun W' => tS Γ W' f) hs hf hN tk hb h2) fun Q σ H ⟨env, B, s, p⟩ => ⟨env, B, s, ?_⟩
  have p' : PostS Γ W env σ B H Q (match f env with
    | .err c ns xs e => runH T c ns xs e l
    | r => r) := p
  cases hfe : f env with
  | bad => rw [hfe] at p'; exact p'
  | ok fl e' =>
    rw [hfe] at p'
    cases fl <;> exact p'
  | err c ns xs e' =>
    rw [hfe] at p'
    exact fun cls d σ' B' H' s' x' xn => hw Q e' σ' B' H' c ns xs cls d s' xn (PostS.fwd s' x' p')
/-- the exception's field -/
def dXf (cs : List Str) (i : Nat) (n : Str) : DenV := fun env => match env[i]? with
  | some (.exn c ns xs) => if cs.contains c = true then (match (ns.zip xs).lookup n with
    | some d => .ok d env
    | none => .bad) else .bad
  | _ => .bad
theorem zip_lookup {B : Hp} {n : Str} : ∀ {ns : List Str} {xs : List D} {vs : List V} {d : D}, Reps Γ B xs vs → (ns.zip xs).lookup n = some d → ∃ v, (ns.zip vs).lookup n = some v ∧ Rep Γ B d v
  | [], xs, vs, d, r, h => by cases h
  | m :: ns, [], vs, d, r, h => by cases h
  | m :: ns, x :: xs, vs, d, r, h => by
    obtain ⟨v, r', rfl, e2, e3⟩ := r
    rw [List.zip_cons_cons, List.lookup_cons] at h ⊢
    cases hmn : (n == m) with
    | true =>
      rw [hmn] at h
      cases h
      exact ⟨v, rfl, e2⟩
    | false =>
      rw [hmn] at h
      exact zip_lookup e3 h
theorem sXf {cs : List Str} {a : Addr} {oe : Obj} {cls : Value} {d : Option Addr} {pn : List (Addr × Obj)} {i : Nat} {n : Str} (hm : X.mg = Γ.mg) (hX : ∀ c ∈ cs, ∀ C, X.mg c = some (.ref C) → XfC X.K C ∧ PySem.W.findIn X.K (.ref C) n = some none)
    (hz : Zc cls d oe) (hf : ∃ vs, oe.data = .fields vs) (he : PE (X.suite a ((a, oe) :: pn)) e (tVar i)) (hb : attributeBase e n X.env (eval e X.env) = eval e X.env := by rfl) :
    SV (X.suite a ((a, oe) :: pn)) (Γ.at_ a cls d) W (.Attribute e n pos) (dXf cs i n) := by
  refine ⟨fun pins s σ H Q I h => ?_⟩
  obtain ⟨env, B, st, p⟩ := h
  have p' : Post (Γ.at_ a cls d) W env σ B H (fun x _ B' H' => ∀ v, Rep (Γ.at_ a cls d) B' x v → Q v H') (match env[i]? with
    | some (.exn c ns xs) => if cs.contains c = true then (match (ns.zip xs).lookup n with
      | some d => .ok d env
      | none => .bad) else .bad
    | _ => .bad) := p
  cases hi : env[i]? with
  | none => rw [hi] at p'; exact p'.elim
  | some en =>
    rw [hi] at p'
    cases en with
    | exn c ns xs =>
      obtain ⟨o, ho, k⟩ := st.slot hi
      obtain ⟨dd, vs, rfl, ⟨e2, C, e3, e4⟩, e5, e6, e7⟩ := k
      have p2 : Post (Γ.at_ a cls d) W env σ B H (fun x _ B' H' => ∀ v, Rep (Γ.at_ a cls d) B' x v → Q v H') (if cs.contains c = true then (match (ns.zip xs).lookup n with
        | some d => .ok d env
        | none => .bad) else .bad) := p'
      by_cases hc : cs.contains c = true
      · rw [if_pos hc] at p2
        obtain ⟨hT, hno⟩ := hX c (List.contains_iff_mem.mp hc) C (by rw [hm]; exact e3)
        cases hl : (ns.zip xs).lookup n with
        | none => rw [hl] at p2; exact p2.elim
        | some x =>
          rw [hl] at p2
          obtain ⟨v, l1, l2⟩ := zip_lookup e7 hl
          exact (pe_xf hT hno hz hf he hb).run pins s σ H Q I ⟨.ref a, ho, rfl, e4, dd, _, v, e2, e5, l1, Post.here st p2 v l2⟩
      · rw [if_neg hc] at p2
        exact p2.elim
    | _ => exact p'.elim
end
end Ev
set_option Elab.async false
set_option linter.all false
set_option maxRecDepth 100000
set_option maxHeartbeats 4000000
namespace Ev
open PySem PySem.Spec PyProof.Rows L2

/-! ### comprehensions -/
def wipeE (e : Sto) : List Nat → Sto
  | [] => e
  | v :: vs => (wipeE e vs).set v .un
def restE (e0 e1 : Sto) : List Nat → Sto
  | [] => e1
  | v :: vs => (restE e0 e1 vs).set v ((e0[v]?).getD .un)
def okOwn (e : Sto) (own : List Nat) : Bool := own.all fun v => match e[v]? with
  | some .un => true
  | some (.val _) => true
  | _ => false
/-- what raises is not told -/
def Res.bindX {α β : Type} (r : Res α) (k : α → Sto → Res β) : Res β := match r with
  | .ok a e => k a e
  | _ => .bad
def loopC (own : List Nat) (t : Asg) (cond : DenT) (elt : DenV) : List D → List D → Sto → Res (List D)
  | [], acc, e => .ok acc e
  | d :: ds, acc, e => match t d e with
    | none => .bad
    | some e1 => (cond e1).bindX fun b e2 => if b = true then (elt e2).bindX fun y e3 => (if acc.length < 1000000 then loopC own t cond elt ds (acc ++ [y]) (wipeE e3 own) else .bad) else loopC own t cond elt ds acc (wipeE e2 own)
def dLc (own : List Nat) (t : Asg) (it : DenI) (cond : DenT) (elt : DenV) : DenF := fun env => (it env).bind fun items e => if okOwn e own = true then (loopC own t cond elt items [] (wipeE e own)).bindX fun acc e' => .ok (.mu acc) (restE e e' own) else .bad
def dTrue : DenT := fun env => .ok true env
theorem wipeE_get {e : Sto} {i : Nat} {en : Ent} : ∀ {vs : List Nat}, (wipeE e vs)[i]? = some en → (i ∈ vs ∧ en = .un) ∨ (i ∉ vs ∧ e[i]? = some en)
  | [], h => .inr ⟨by simp, h⟩
  | v :: vs, h => by
    rcases Sto.set_get h with ⟨rfl, rfl⟩ | ⟨ne, q⟩
    · exact .inl ⟨by simp, rfl⟩
    · rcases wipeE_get q with ⟨h1, h2⟩ | ⟨h1, h2⟩
      · exact .inl ⟨List.mem_cons_of_mem _ h1, h2⟩
      · exact .inr ⟨fun z => (List.mem_cons.mp z).elim (fun z => ne z.symm) h1, h2⟩
theorem wipeE_out {e : Sto} {i : Nat} : ∀ {vs : List Nat}, i ∉ vs → (wipeE e vs)[i]? = e[i]?
  | [], _ => rfl
  | v :: vs, h => by
    have h' : i ≠ v ∧ i ∉ vs := by simpa using h
    show ((wipeE e vs).set v .un)[i]? = _
    rw [List.getElem?_set_ne (Ne.symm h'.1)]
    exact wipeE_out h'.2
theorem wipeE_len {e : Sto} : ∀ {vs : List Nat}, (wipeE e vs).length = e.length
  | [] => rfl
  | v :: vs => by
    show ((wipeE e vs).set v .un).length = _
    rw [List.length_set]
    exact wipeE_len
theorem wipe_out' {σ : L2.St} {i : Nat} : ∀ {vs : List Nat}, i ∉ vs → (wipe σ vs)[i]? = σ[i]?
  | [], _ => rfl
  | v :: vs, h => by
    have h' : i ≠ v ∧ i ∉ vs := by simpa using h
    show ((wipe σ vs).set v none)[i]? = _
    rw [List.getElem?_set_ne (Ne.symm h'.1)]
    exact wipe_out' h'.2
theorem restE_out {e0 e1 : Sto} {i : Nat} : ∀ {vs : List Nat}, i ∉ vs → (restE e0 e1 vs)[i]? = e1[i]?
  | [], _ => rfl
  | v :: vs, h => by
    have h' : i ≠ v ∧ i ∉ vs := by simpa using h
    show ((restE e0 e1 vs).set v _)[i]? = _
    rw [List.getElem?_set_ne (Ne.symm h'.1)]
    exact restE_out h'.2
theorem restE_len {e0 e1 : Sto} : ∀ {vs : List Nat}, (restE e0 e1 vs).length = e1.length
  | [] => rfl
  | v :: vs => by
    show ((restE e0 e1 vs).set v _).length = _
    rw [List.length_set]
    exact restE_len
theorem restE_in {e0 e1 : Sto} {i : Nat} {en : Ent} : ∀ {vs : List Nat}, i ∈ vs → (restE e0 e1 vs)[i]? = some en → en = (e0[i]?).getD .un
  | v :: vs, h, q => by
    rcases Sto.set_get q with ⟨rfl, rfl⟩ | ⟨ne, q⟩
    · rfl
    · rcases List.mem_cons.mp h with h | h
      · exact absurd h.symm ne
      · exact restE_in h q
section
variable {X : Cx} {Γ : Wd} {W : WX}
theorem StOk.wipe {env : Sto} {σ : L2.St} {B H : Hp} (s : StOk Γ env σ B H) : ∀ vs : List Nat, StOk Γ (wipeE env vs) (L2.wipe σ vs) B H
  | [] => s
  | v :: vs => (StOk.wipe s vs).setN (fun _ z => by cases z) trivial
theorem Ext.wipe {env env1 : Sto} {σ σ1 : L2.St} {B H B1 H1 : Hp} (x : Ext Γ env σ B H env1 σ1 B1 H1) : ∀ {vs : List Nat}, (∀ v ∈ vs, v ∉ Γ.R) → Ext Γ env σ B H (wipeE env1 vs) (L2.wipe σ1 vs) B1 H1
  | [], _ => x
  | v :: vs, h => (Ext.wipe x fun u hu => h u (List.mem_cons_of_mem _ hu)).setN (fun _ z => by cases z) (h v (List.mem_cons_self ..))
theorem own_wipe {env : Sto} {σ : L2.St} {vs : List Nat} {p : Addr} (h : Own (wipeE env vs) (L2.wipe σ vs) p) : Own env σ p := by
  obtain ⟨i, xs, h1, h2⟩ := h
  rcases wipeE_get h1 with ⟨_, z⟩ | ⟨hn, z⟩
  · cases z
  · rw [wipe_out' hn] at h2
    exact ⟨i, xs, z, h2⟩
theorem StOk.updD {env : Sto} {σ : L2.St} {B H : Hp} {p : Addr} {vs : List V} {o : HO} (s : StOk Γ env σ B H) (hb : B p = none) (hp : H p = some (.lst vs)) (ho : ¬ Own env σ p) : StOk Γ env σ B (upd H p o) where
  same := fun q u hq => by
    rw [upd_ne (ne_of_none hq hb)]
    exact s.same q u hq
  len := s.len
  ent := fun i en u h1 h2 => by
    have k := s.ent i en u h1 h2
    cases en with
    | un => trivial
    | val d => exact k
    | mu xs =>
      obtain ⟨q, ws, e1, e2, e3, e4⟩ := k
      subst e1
      refine ⟨q, ws, rfl, e2, ?_, e4⟩
      rw [upd_ne]
      · exact e3
      · rintro rfl
        exact ho ⟨i, xs, h1, h2⟩
    | exn c ns xs =>
      obtain ⟨dd, ws, e1, e2, e3, e4, e5⟩ := k
      refine ⟨dd, ws, e1, e2, ?_, e4, e5⟩
      rw [upd_ne]
      · exact e3
      · rintro rfl
        rw [hp] at e3
        cases e3
  dis := s.dis
theorem Ext.updD {env env1 : Sto} {σ σ1 : L2.St} {B H B1 H1 : Hp} {p : Addr} {o : HO} (x : Ext Γ env σ B H env1 σ1 B1 H1) (h0 : H p = none) : Ext Γ env σ B H env1 σ1 B1 (upd H1 p o) where
  b := x.b
  t := fun q h => by
    by_cases z : q = p
    · subst z; exact absurd h0 h
    · rw [upd_ne z]; exact x.t q h
  f := fun q u h n => by
    obtain ⟨k1, k2, k3⟩ := x.f q u h n
    refine ⟨?_, k2, k3⟩
    rw [upd_ne (ne_of_none h h0)]
    exact k1
  r := x.r
theorem StOk.rest {e e' : Sto} {σ : L2.St} {B H B' H' : Hp} {own : List Nat} (s : StOk Γ e σ B H) (hok : okOwn e own = true) (s' : StOk Γ e' (L2.wipe σ own) B' H') (sb : Same B B') : StOk Γ (restE e e' own) σ B' H' where
  same := s'.same
  len := by rw [restE_len, s'.len, wipe_length]
  ent := fun i en o h1 h2 => by
    by_cases hi : i ∈ own
    · have e1 := restE_in hi h1
      have hc := List.all_eq_true.mp hok i hi
      cases he : e[i]? with
      | none => rw [he] at hc; cases hc
      | some en0 =>
        rw [he] at hc e1
        have k := s.ent i en0 o he h2
        cases en0 with
        | un => subst e1; trivial
        | val d =>
          subst e1
          obtain ⟨v, e3, r⟩ := k
          exact ⟨v, e3, Rep.mono sb d v r⟩
        | mu _ => cases hc
        | exn _ _ _ => cases hc
    · rw [restE_out hi] at h1
      exact s'.ent i en o h1 (by rw [wipe_out' hi]; exact h2)
  dis := fun i j xs ys p h1 h2 h3 h4 => by
    have out : ∀ {i : Nat} {xs : List D}, (restE e e' own)[i]? = some (.mu xs) → i ∉ own := fun {i xs} h hi => by
      have e1 := restE_in hi h
      have hc := List.all_eq_true.mp hok i hi
      cases he : e[i]? with
      | none => rw [he] at hc; cases hc
      | some en0 =>
        rw [he] at hc e1
        have e1' : Ent.mu xs = en0 := e1
        subst e1'
        cases hc
    have oi := out h1
    have oj := out h2
    rw [restE_out oi] at h1
    rw [restE_out oj] at h2
    exact s'.dis i j xs ys p h1 h2 (by rw [wipe_out' oi]; exact h3) (by rw [wipe_out' oj]; exact h4)
theorem own_rest {e e' : Sto} {σ : L2.St} {own : List Nat} {p : Addr} (hok : okOwn e own = true) (h : Own (restE e e' own) σ p) : Own e' (L2.wipe σ own) p := by
  obtain ⟨i, xs, h1, h2⟩ := h
  by_cases hi : i ∈ own
  · exfalso
    have e1 := restE_in hi h1
    have hc := List.all_eq_true.mp hok i hi
    cases he : e[i]? with
    | none => rw [he] at hc; cases hc
    | some en0 =>
      rw [he] at hc e1
      have e1' : Ent.mu xs = en0 := e1
      subst e1'
      cases hc
  · rw [restE_out hi] at h1
    exact ⟨i, xs, h1, by rw [wipe_out' hi]; exact h2⟩
theorem Ext.rest {e e' : Sto} {σ : L2.St} {B H B' H' : Hp} {own : List Nat} (hok : okOwn e own = true) (hR : ∀ v ∈ own, v ∉ Γ.R) (x : Ext Γ (wipeE e own) (L2.wipe σ own) B H e' (L2.wipe σ own) B' H') : Ext Γ e σ B H (restE e e' own) σ B' H' where
  b := x.b
  t := x.t
  f := fun p o h n => by
    obtain ⟨k1, k2, k3⟩ := x.f p o h fun z => n (own_wipe z)
    exact ⟨k1, k2, fun z => k3 (own_rest hok z)⟩
  r := fun i hi => by
    have no : i ∉ own := fun z => hR i z hi
    obtain ⟨k1, k2⟩ := x.r i hi
    refine ⟨rfl, fun xs p h1 h2 => ?_⟩
    rcases k2 xs p (by rw [wipeE_out no]; exact h1) (by rw [wipe_out' no]; exact h2) with ⟨ys, q⟩ | q
    · exact .inl ⟨ys, by rw [restE_out no]; exact q⟩
    · exact .inr q
variable {e elt tg iter : Expr} {ifs : List Expr} {scope : Scope} {own : List (Str × Nat)} {pos : Pos} {t : Asg} {it : DenI} {cond : DenT} {f : DenV}
theorem bindX_ok {α β : Type} {r : Res α} {k : α → Sto → Res β} {b : β} {e : Sto} (h : r.bindX k = .ok b e) : ∃ a e1, r = .ok a e1 ∧ k a e1 = .ok b e := by
  cases r with
  | ok a e1 => exact ⟨a, e1, rfl, h⟩
  | err _ _ _ _ => cases h
  | bad => cases h
theorem touch_wipe {vs : List Nat} {σ σ' : L2.St} (h : Touch vs σ σ') : L2.wipe σ' vs = L2.wipe σ vs := by
  have g1 : ∀ (σ : L2.St) (vs : List Nat) (i : Nat), i ∈ vs → i < σ.length → (L2.wipe σ vs)[i]? = some none := by
    intro σ vs i
    induction vs with
    | nil => intro h; simp at h
    | cons v vs ih =>
      intro h hl
      show ((L2.wipe σ vs).set v none)[i]? = some none
      by_cases e : v = i
      · subst e
        rw [List.getElem?_set_self (by rw [wipe_length]; exact hl)]
      · rw [List.getElem?_set_ne e]
        exact ih ((List.mem_cons.mp h).resolve_left fun z => e z.symm) hl
  refine List.ext_getElem? fun i => ?_
  by_cases hi : i ∈ vs
  · by_cases hl : i < σ.length
    · rw [g1 σ' vs i hi (by rw [h.1]; exact hl), g1 σ vs i hi hl]
    · rw [List.getElem?_eq_none (by rw [wipe_length, h.1]; omega), List.getElem?_eq_none (by rw [wipe_length]; omega)]
  · rw [wipe_out' hi, wipe_out' hi]
    exact h.2 i hi
theorem touch_of_wipe {vs : List Nat} {σ : L2.St} : Touch vs (L2.wipe σ vs) σ := ⟨(wipe_length σ vs).symm, fun j hj => (wipe_out' hj).symm⟩
theorem wipe_wipe {vs : List Nat} {σ : L2.St} : L2.wipe (L2.wipe σ vs) vs = L2.wipe σ vs := (touch_wipe (touch_of_wipe (σ := σ) (vs := vs))).symm
theorem tLc_of (hR : ∀ v ∈ own.map (·.2), v ∉ Γ.R) {σ : L2.St} {H : Hp} {Q : VK} (h : tF Γ W (dLc (own.map (·.2)) t it cond f) σ H Q) : tLc (tI Γ W it) (tGo Γ (own.map (·.2)) t) (tT Γ W0 cond) (tV Γ W0 f) (own.map (·.2)) σ H Q := by
  obtain ⟨env, B, s, p⟩ := h
  generalize own.map (·.2) = vs at hR p ⊢
  refine ⟨env, B, s, p.bind.mono fun items e B1 H1 s1 x1 q1 J hJ L hL => ?_⟩
  by_cases hok : okOwn e vs = true
  · rw [if_pos hok] at q1
    have s1w := s1.wipe vs
    -- the end
    have fin : ∀ (acc : List D) (e' : Sto), loopC vs t cond f items [] (wipeE e vs) = .ok acc e' → ∀ B' H' accV, StOk Γ e' (L2.wipe σ vs) B' H' → Ext Γ (wipeE e vs) (L2.wipe σ vs) B1 H1 e' (L2.wipe σ vs) B' H' → H' L = some (.lst accV) → B' L = none → ¬ Own e' (L2.wipe σ vs) L → Reps Γ B' acc accV → Q (.ref L) H' := by
      intro acc e' hl B' H' accV s' x' hd hb ho r
      rw [hl] at q1
      have q2 : Post Γ W e σ B1 H1 (fun r env' B' H' => ∀ v, RetOk Γ (FreeR Γ env σ H) env' σ B' H' r v → Q v H') (.ok (.mu acc) (restE e e' vs)) := q1
      exact q2 B' H' (s1.rest hok s' x'.b) (Ext.rest hok hR x') _ ⟨L, accV, rfl, .inl (x1.h0 L hL), hb, hd, r, fun z => ho (own_rest hok z)⟩
    obtain ⟨acc, e', hl⟩ : ∃ acc e', loopC vs t cond f items [] (wipeE e vs) = .ok acc e' := by
      cases hl : loopC vs t cond f items [] (wipeE e vs) with
      | ok acc e' => exact ⟨acc, e', rfl⟩
      | err _ _ _ _ => rw [hl] at q1; exact q1.elim
      | bad => rw [hl] at q1; exact q1.elim
    refine ⟨fun i m H2 => m = items.length - i ∧ i ≤ items.length ∧ ∃ ec B2 accD accV, StOk Γ ec (L2.wipe σ vs) B2 H2 ∧ Ext Γ (wipeE e vs) (L2.wipe σ vs) B1 H1 ec (L2.wipe σ vs) B2 H2 ∧ H2 L = some (.lst accV) ∧ B2 L = none ∧ ¬ Own ec (L2.wipe σ vs) L ∧ Reps Γ B2 accD accV ∧
      loopC vs t cond f (items.drop i) accD ec = .ok acc e', ⟨items.length, by simp, Nat.zero_le _, wipeE e vs, B1, [], [], s1w.newM hL, Ext.newM hL, upd_same, s1.bfresh hL, s1w.fresh_own hL, rfl, hl⟩, ?_⟩
    rintro i m H2 ⟨rfl, hi, ec, B2, accD, accV, s2, x2, hd2, hb2, ho2, r2, hl2⟩
    have hw := hJ i B2 H2 x2.b s2.same
    by_cases hlt : i < items.length
    · obtain ⟨hgo, hyld⟩ := hw.1 items[i] (List.getElem?_eq_getElem hlt)
      rw [List.drop_eq_getElem_cons hlt] at hl2
      refine .inr ⟨hgo, fun H3 => ∃ ec B3 accD accV, StOk Γ ec (L2.wipe σ vs) B3 H3 ∧ Ext Γ (wipeE e vs) (L2.wipe σ vs) B1 H1 ec (L2.wipe σ vs) B3 H3 ∧ H3 L = some (.lst accV) ∧ B3 L = none ∧ ¬ Own ec (L2.wipe σ vs) L ∧ Reps Γ B3 accD accV ∧
        loopC vs t cond f (items.drop (i + 1)) accD ec = .ok acc e', fun H3 ⟨ec, B3, a1, a2, k⟩ => ⟨items.length - (i + 1), by omega, rfl, hlt, ec, B3, a1, a2, k⟩, fun v H3 hy => ?_⟩
      obtain ⟨B3, gr, rv⟩ := hyld v H3 hy
      have s3 := s2.growG gr
      have x3 := x2.trans (Ext.growG (Γ := Γ) gr)
      have hd3 := gr.h L _ hd2
      have hb3 := gr.n L _ hd2 hb2
      have r3 := Reps.mono gr.b _ _ r2
      have hl3 : (match t items[i] ec with
        | none => Res.bad
        | some e1 => (cond e1).bindX fun b e2 => if b = true then (f e2).bindX fun y e3 => (if accD.length < 1000000 then loopC vs t cond f (items.drop (i + 1)) (accD ++ [y]) (wipeE e3 vs) else .bad) else loopC vs t cond f (items.drop (i + 1)) accD (wipeE e2 vs)) = .ok acc e' := hl2
      cases ht : t items[i] ec with
      | none => rw [ht] at hl3; cases hl3
      | some e1 =>
        rw [ht] at hl3
        refine ⟨ec, B3, items[i], e1, s3, rv, ht, fun σ4 s4 x4 t4 => ?_⟩
        obtain ⟨b, e2, hc, hl4⟩ := bindX_ok hl3
        have hws : L2.wipe σ4 vs = L2.wipe σ vs := (touch_wipe t4).trans wipe_wipe
        refine ⟨hws.trans (by rfl), e1, B3, s4, ?_⟩
        rw [hc]
        intro B5 H5 s5 x5
        have x45 := x4.trans x5
        have x35 := x3.trans x45
        obtain ⟨f1, f2, f3⟩ := x45.f L _ hd3 ho2
        cases b with
        | false =>
          have hl5 : loopC vs t cond f (items.drop (i + 1)) accD (wipeE e2 vs) = .ok acc e' := by
            rw [← if_neg (c := false = true) (t := (f e2).bindX fun y e3 => (if accD.length < 1000000 then loopC vs t cond f (items.drop (i + 1)) (accD ++ [y]) (wipeE e3 vs) else .bad)) (e := loopC vs t cond f (items.drop (i + 1)) accD (wipeE e2 vs)) Bool.false_ne_true]
            exact hl4
          have s5w := s5.wipe vs
          have x5w := Ext.wipe x35 hR
          rw [hws] at s5w x5w
          refine (fun (hh : _) => iteF hh) ⟨wipeE e2 vs, B5, accD, accV, s5w, x5w, f1, f2 hb3, fun z => f3 (own_wipe (by rw [hws]; exact z)), Reps.mono x45.b _ _ r3, hl5⟩
        | true =>
          have hl4' : ((f e2).bindX fun y e3 => (if accD.length < 1000000 then loopC vs t cond f (items.drop (i + 1)) (accD ++ [y]) (wipeE e3 vs) else .bad)) = .ok acc e' := by
            rw [← if_pos (c := true = true) (t := (f e2).bindX fun y e3 => (if accD.length < 1000000 then loopC vs t cond f (items.drop (i + 1)) (accD ++ [y]) (wipeE e3 vs) else .bad)) (e := loopC vs t cond f (items.drop (i + 1)) accD (wipeE e2 vs)) rfl]
            exact hl4
          obtain ⟨y, e3, hf, hl5⟩ := bindX_ok hl4'
          refine (fun (hh : _) => iteT hh) ⟨e2, B5, s5, ?_⟩
          rw [hf]
          intro B6 H6 s6 x6 yv hyv
          have x46 := x45.trans x6
          have x36 := x3.trans x46
          obtain ⟨g1, g2, g3⟩ := x46.f L _ hd3 ho2
          have gb := g2 hb3
          by_cases hlen : accD.length < 1000000
          · rw [if_pos hlen] at hl5
            have s6w := s6.wipe vs
            have x6w := Ext.wipe x36 hR
            rw [hws] at s6w x6w
            have now : ¬ Own (wipeE e3 vs) (L2.wipe σ vs) L := fun z => g3 (own_wipe (by rw [hws]; exact z))
            exact ⟨accV, g1, LN_lt (by rw [← r3.length]; omega), wipeE e3 vs, B6, accD ++ [y], accV ++ [yv], s6w.updD gb g1 now, x6w.updD hL, upd_same, gb, now, (Reps.mono x46.b _ _ r3).append (Reps.one hyv), hl5⟩
          · rw [if_neg hlen] at hl5
            cases hl5
    · have ee : i = items.length := by omega
      subst ee
      rw [List.drop_length] at hl2
      have hl2' : Res.ok accD ec = .ok acc e' := hl2
      cases hl2'
      exact .inl ⟨hw.2 (Nat.le_refl _), fin _ _ hl B2 H2 accV s2 x2 hd2 hb2 ho2 r2⟩
  · rw [if_neg hok] at q1
    exact q1.elim
theorem imTs {X : Cx} {es : List Expr} {t t' : TT} (h : PTs X es t) (i : ∀ σ H Q, t' σ H Q → t σ H Q) : PTs X es t' := ⟨fun pins s σ H Q I q => h.run pins s σ H Q I (i σ H Q q)⟩
abbrev STs (X : Cx) (Γ : Wd) (W : WX) (es : List Expr) (f : DenT) : Prop := PTs X es (tT Γ W f)
theorem sTs0 : STs X Γ W [] dTrue := imTs pts_nil fun σ H Q ⟨env, B, s, p⟩ => Post.here s p
theorem sTs1 {c : Expr} {g : DenT} (h : ST X Γ W c g) : STs X Γ W [c] g := pts_one h
theorem sLc (hR : ∀ v ∈ own.map (·.2), v ∉ Γ.R) (hc : X.calm = true) (hN : X.N.Nodup) (hi : SI X Γ W tg iter it) (ok : BlkOk X.N X.env.scope scope own)
    (hg : ∀ (s : Shared) (H : Hp) (C : Addr) (cl : List (Str × Addr)) (fp : List Addr), PG (X.blk s H scope (compEnvC scope cl C X.env) fp) tg (tGo Γ (own.map (·.2)) t)) (ht : ∀ (s : Shared) (H : Hp) (C : Addr) (cl : List (Str × Addr)) (fp : List Addr), STs (X.blk s H scope (compEnvC scope cl C X.env) fp) Γ W0 ifs cond)
    (he : ∀ (s : Shared) (H : Hp) (C : Addr) (cl : List (Str × Addr)) (fp : List Addr), SV (X.blk s H scope (compEnvC scope cl C X.env) fp) Γ W0 elt f) (hs : ∀ x, foldedSetIterable iter X.env x = pure x := by intro _; rfl) :
    SF X Γ W (.ListComp elt [⟨tg, iter, ifs, 0⟩] scope pos) (dLc (own.map (·.2)) t it cond f) := imE (pe_lc hc hN hi ok hg ht he hs) fun σ H Q h => tLc_of hR h
theorem sSetLc {i : Nat} {y : Str} {py spos : Pos} (hiR : i ∉ Γ.R) (hR : ∀ v ∈ own.map (·.2), v ∉ Γ.R) (hc : X.calm = true) (hN : X.N.Nodup) (hy : X.N[i]? = some y) (hyl : X.env.scope.names.lookup y = some .local)
    (hsw : swapsWith (.ListComp elt [⟨tg, iter, ifs, 0⟩] scope pos) (some (.Name y py)) spos.line X.env = pure true) (hi : SI X Γ W tg iter it) (ok : BlkOk X.N X.env.scope scope own)
    (hg : ∀ (s : Shared) (H : Hp) (C : Addr) (cl : List (Str × Addr)) (fp : List Addr), PG (X.blk s H scope (compEnvC scope cl C X.env) fp) tg (tGo Γ (own.map (·.2)) t)) (ht : ∀ (s : Shared) (H : Hp) (C : Addr) (cl : List (Str × Addr)) (fp : List Addr), STs (X.blk s H scope (compEnvC scope cl C X.env) fp) Γ W0 ifs cond)
    (he : ∀ (s : Shared) (H : Hp) (C : Addr) (cl : List (Str × Addr)) (fp : List Addr), SV (X.blk s H scope (compEnvC scope cl C X.env) fp) Γ W0 elt f) (hs : ∀ x, foldedSetIterable iter X.env x = pure x := by intro _; rfl) :
    SS X Γ W (.Assign [.Name y py] (.ListComp elt [⟨tg, iter, ifs, 0⟩] scope pos) spos) (dSet i (dLc (own.map (·.2)) t it cond f)) :=
  imS (ps_setLc hc hN hy hyl hsw hi ok hg ht he hs) fun Q σ H h => (tSet_of hiR h : tAsg (tF Γ W (dLc (own.map (·.2)) t it cond f)) (gName i) Q σ H) |> fun k => tLc_of hR k
end
end Ev

set_option Elab.async false
set_option linter.all false
set_option maxRecDepth 100000
set_option maxHeartbeats 4000000
namespace Ev
open PySem PySem.Spec PyProof.Rows L2

/-! ### what the head tells -/
/-- an own exception class over ValueError: its object's shape .. -/
def oexS (K : PySem.W.Frag) (C : Addr) : Bool := match K.lookup C with
  | some ⟨.type "type", _, .cls cd, sl⟩ => (match cd.mro, sl.toList with
    | .ref C' :: bm, [_, _, _, _, some (.builtin n), _] => decide (C' = C ∧ n = "ValueError.__new__" ∧ cd.hasDel = false ∧ cd.hasDict = true ∧ HandSPX.refsVE bm = true)
    | _, _ => false)
  | _ => false
/-- .. and how it answers -/
def oexB (K : PySem.W.Frag) (C : Addr) : Bool := oexS K C && decide (PySem.W.findIn K (.ref C) "__setattr__" = some (some (.builtin "object.__setattr__")) ∧ PySem.W.subIn K (.ref C) (.type "BaseException") = some true ∧ PySem.W.typeIn K (.ref C) = some (.type "type") ∧ PySem.W.keepIn K (.ref C) = true)
theorem oexB_ok {K : PySem.W.Frag} {C : Addr} (h : oexB K C = true) : OexC K C := by
  simp only [oexB, Bool.and_eq_true, decide_eq_true_eq] at h
  obtain ⟨shape, sa, sub, ty, keep⟩ := h
  refine { cls := ?_, sa := sa, exC := sub, tyC := ty, kC := keep }
  unfold oexS at shape
  split at shape <;> try cases shape
  rename_i od cd slots there
  split at shape <;> try cases shape
  rename_i C' bm s0 s1 s2 s3 n s5 mro sl
  have ⟨q1, q2, q3, q4, q5⟩ := of_decide_eq_true shape
  subst q1 q2
  have es : slots = #[s0, s1, s2, s3, some (.builtin "ValueError.__new__"), s5] := Array.toList_inj.mp sl
  cases cd
  dsimp only at mro q3 q4
  subst mro q3 q4 es
  exact ⟨_, _, _, _, bm, _, _, _, _, _, s0, s1, s2, s3, s5, there, q5⟩
/-! ### data that stand at a module's name -/
/-- the items of a sequence of the written part (bare: its own dict is none) -/
def heldSeq (K : PySem.W.Frag) (c : String) (bare : Bool) (a : Addr) : Option (Array Value) := match K.lookup a with
  | some ⟨.type c', od, .seq its _, _⟩ => if c' = c ∧ its.size ≤ sizeLine ∧ (bare = true → od = none) then some its else none
  | _ => none
theorem heldSeq_ok {K : PySem.W.Frag} {c : String} {bare : Bool} {a : Addr} {its : Array Value} (h : heldSeq K c bare a = some its) : ∃ od n sl, K.lookup a = some ⟨.type c, od, .seq its n, sl⟩ ∧ its.size ≤ sizeLine ∧ (bare = true → od = none) := by
  unfold heldSeq at h
  split at h
  · rename_i c' od its' n sl there
    split at h
    · rename_i k
      obtain ⟨rfl, few, no⟩ := k
      cases h
      exact ⟨od, n, sl, there, few, no⟩
    · cases h
  · cases h
mutual
def datB (K : PySem.W.Frag) : D → Value → Bool
  | .non, .none => true
  | .bl b, .bool c => decide (b = c)
  | .int i, .int j _ => decide (i = j)
  | .str s, .str t _ => decide (s = t)
  | .tup ds, .ref a => (match heldSeq K "tuple" false a with
    | some its => datsB K ds its.toList
    | none => false)
  | .fl ds, .ref a => (match heldSeq K "list" true a with
    | some its => datsB K ds its.toList
    | none => false)
  | _, _ => false
def datsB (K : PySem.W.Frag) : List D → List Value → Bool
  | [], [] => true
  | d :: ds, v :: vs => datB K d v && datsB K ds vs
  | _, _ => false
end
/-- u is d, wherever one stands -/
abbrev Stands (K : PySem.W.Frag) (d : D) (u : Value) : Prop := ∃ v, RelV v u ∧ ∀ (Γ : Wd) (B : Hp), Γ.K = K → Rep Γ B d v
mutual
theorem datB_ok {K : PySem.W.Frag} (d : D) (u : Value) (h : datB K d u = true) : Stands K d u := by
  match d, u, h with
  | .non, .none, _ => exact ⟨.non, rfl, fun _ _ _ => rfl⟩
  | .bl b, .bool c, h => exact ⟨.bl b, congrArg Value.bool (of_decide_eq_true h).symm, fun _ _ _ => rfl⟩
  | .int i, .int j t, h => exact ⟨.int i, ⟨t, by rw [of_decide_eq_true (show decide (i = j) = true from h)]⟩, fun _ _ _ => rfl⟩
  | .str i, .str j t, h => exact ⟨.str i, ⟨t, by rw [of_decide_eq_true (show decide (i = j) = true from h)]⟩, fun _ _ _ => rfl⟩
  | .tup ds, .ref a, h =>
    have h' : (match heldSeq K "tuple" false a with | some its => datsB K ds its.toList | none => false) = true := h
    cases e : heldSeq K "tuple" false a with
    | none => rw [e] at h'; cases h'
    | some its =>
      rw [e] at h'
      obtain ⟨od, n, sl, there, few, _⟩ := heldSeq_ok e
      obtain ⟨vs, rel, reps⟩ := datsB_ok ds its.toList h'
      exact ⟨.ref a, rfl, fun Γ B eK => ⟨a, vs, rfl, .inr ⟨_, its, n, by rw [eK]; exact there, rfl, rfl, few, rel⟩, reps Γ B eK⟩⟩
  | .fl ds, .ref a, h =>
    have h' : (match heldSeq K "list" true a with | some its => datsB K ds its.toList | none => false) = true := h
    cases e : heldSeq K "list" true a with
    | none => rw [e] at h'; cases h'
    | some its =>
      rw [e] at h'
      obtain ⟨od, n, sl, there, few, no⟩ := heldSeq_ok e
      obtain ⟨vs, rel, reps⟩ := datsB_ok ds its.toList h'
      exact ⟨.ref a, rfl, fun Γ B eK => ⟨a, vs, rfl, .inr ⟨_, its, n, by rw [eK]; exact there, rfl, no rfl, rfl, few, rel⟩, reps Γ B eK⟩⟩
theorem datsB_ok {K : PySem.W.Frag} (ds : List D) (us : List Value) (h : datsB K ds us = true) : ∃ vs, Vals vs us ∧ ∀ (Γ : Wd) (B : Hp), Γ.K = K → Reps Γ B ds vs := by
  match ds, us, h with
  | [], [], _ => exact ⟨[], .nil, fun _ _ _ => rfl⟩
  | d :: ds, u :: us, h =>
    have ⟨one, more⟩ := (Bool.and_eq_true ..).mp (show (datB K d u && datsB K ds us) = true from h)
    obtain ⟨v, r1, r2⟩ := datB_ok d u one
    obtain ⟨vs, r3, r4⟩ := datsB_ok ds us more
    exact ⟨v :: vs, .cons r1 r3, fun Γ B e => ⟨v, vs, rfl, r2 Γ B e, r4 Γ B e⟩⟩
end
/-- a test of what stands at a name of the module -/
def onMain (K : PySem.W.Frag) (x : Str) (p : Value → Bool) : Bool := match PySem.W.nsIn K mainGlobals x with
  | some (some v) => p v
  | _ => false
theorem onMain_ok {K : PySem.W.Frag} {h : Heap} {mg : Str → Option Value} (X : K.In h) (G : h.Ns mainGlobals mg) {x : Str} {p : Value → Bool} (c : onMain K x p = true) : ∃ v, mg x = some v ∧ p v = true := by
  unfold onMain at c
  split at c
  · rename_i v e
    exact ⟨v, PySem.W.mg_of X G e, c⟩
  · cases c
/-- facts by names -/
inductive Fx where
  | glo (x : Str) | free (x : Str) | fun_ (x : Str) (id : String) | oex (x : Str) | ini (x : Str) | nof (x f : Str) | xf (x : Str) | exm (x y : Str) (b : Bool) | tab (x : Str) (vs : List He.Dv) | int (x : Str) (i : Int) | dat (x : Str) (d : D)
  | fa (f : He.Fa) | cl (x : Str) | isc (x : Str) (l : List (Str × Bool)) | isb (x : Str) | bin (x m : Str) (id : String) | prop (x m : Str)
/-- the getter of a property -/
def gAd (K : PySem.W.Frag) (x m : Str) : Addr := match PySem.W.recIn K (He.ma K (He.ga K x) m) "property" with
  | some (.ref g :: _) => g
  | _ => 0
def tyNames : List String := ["NoneType", "bool", "int", "str", "tuple", "list"]
def Fx.ok (K : PySem.W.Frag) : Fx → Bool
  | .glo x => He.eqO (PySem.W.nsIn K mainGlobals x) (some (some (.ref (He.ga K x))))
  | .free x => He.eqO (PySem.W.nsIn K mainGlobals x) (some none)
  | .fun_ x id => He.eqO (PySem.W.nsIn K mainGlobals x) (some (some (.builtin id)))
  | .oex x => oexB K (He.ga K x)
  | .ini x => He.eqO (PySem.W.findIn K (.ref (He.ga K x)) "__init__") (some (some (.ref (He.ma K (He.ga K x) "__init__")))) && decide (PySem.W.typeIn K (.ref (He.ma K (He.ga K x) "__init__")) = some (.type "function"))
  | .nof x f => He.eqO (PySem.W.findIn K (.ref (He.ga K x)) f) (some none)
  | .xf x => xfB K (He.ga K x)
  | .exm x y b => decide (PySem.W.exmOne K (.ref (He.ga K x)) (.ref (He.ga K y)) = some b)
  | .tab x vs => He.tupB K x vs
  | .int x i => onMain K x fun v => match v with
    | .int j _ => decide (j = i)
    | _ => false
  | .dat x d => onMain K x (datB K d)
  | .fa f => f.ok K
  | .cl x => (He.Fa.cls x).ok K && (He.eqO (PySem.W.findIn K (.ref (He.ga K x)) "__class__") (some (some (.builtin "object.__class__"))) && (He.eqO (PySem.W.specialIn K (.builtin "object.__class__") "__get__") (some (some (.builtin "getset_descriptor.__get__"))) && (decide (PySem.W.takesIn K (.builtin "object.__class__") = some true) && decide (PySem.W.mroIn K (He.ga K x) (.type "object") = some true))))
  | .isc x l => (tyNames.all fun t => decide (PySem.W.kitOne K (.type t) (.ref (He.ga K x)) = some false)) && l.all fun p => decide (PySem.W.kitOne K (.ref (He.ga K p.1)) (.ref (He.ga K x)) = some p.2)
  | .isb x => tyNames.all fun t => decide (PySem.W.kitOne K (.ref (He.ga K x)) (.type t) = some false)
  | .bin x m id => He.eqO (PySem.W.findIn K (.ref (He.ga K x)) m) (some (some (.builtin id)))
  | .prop x m => He.eqO (PySem.W.findIn K (.ref (He.ga K x)) m) (some (some (.ref (He.ma K (He.ga K x) m)))) && (He.eqO (PySem.W.specialIn K (.ref (He.ma K (He.ga K x) m)) "__get__") (some (some (.builtin "property.__get__"))) && (decide (PySem.W.takesIn K (.ref (He.ma K (He.ga K x) m)) = some true) && (match PySem.W.recIn K (He.ma K (He.ga K x) m) "property" with
    | some (.ref _ :: _) => true
    | _ => false)))
/-- where a def stands: a global's name, a class's method, a property's getter ("@" ahead of its name) -/
def adOf (K : PySem.W.Frag) (d : He.DefD) : Addr := match d.at_, d.qual with
  | (x, some m), _ => if m == d.name then He.ma K (He.ga K x) m else gAd K x d.name
  | (x, none), _ => He.ga K x
/-- a def of the head, at its address -/
def toA (d : He.DefD) : He5.DefA := ⟨fun K => adOf K d, d.name, d.qual, d.params, d.body, d.scope, d.dfl, d.kwd⟩
abbrev AlX : Type := Bool × List He.FnW
def obsX (fa : List Fx) (fn : List He.DefD) (K : PySem.W.Frag) : AlX := ((fa.all fun f => f.ok K) && fn.all fun d => (toA d).ok K, fn.map fun d => He5.fnA K (adOf K d))
def valX (fn : List He.DefD) : AlX := (true, fn.map He.DefD.val)
def SaysX (fa : List Fx) (fn : List He.DefD) (K : PySem.W.Frag) : Prop := obsX fa fn K = valX fn
/-! the addresses that are seen, level by level, each once (a mask of bits says which) -/
def frN {α : Type} (n : Nat) (k : Nat → α) : α := match n with
  | 0 => k 0
  | m + 1 => k (m + 1)
def visB {β : Type} : List Addr → Nat → List Addr → (Nat → List Addr → β) → β
  | [], mask, acc, k => k mask acc
  | a :: r, mask, acc, k => frN a fun a => match Nat.land (Nat.shiftRight mask a) 1 with
    | 0 => frN (Nat.lor mask (Nat.shiftLeft 1 a)) fun mask => visB r mask (a :: acc) k
    | _ + 1 => visB r mask acc k
def levB {β : Type} (g : Addr → Option Obj) : List Addr → Nat → List Addr → (Nat → List Addr → β) → β
  | [], mask, acc, k => k mask acc
  | a :: r, mask, acc, k => match g a with
    | some o => visB (He.refsD o) mask acc fun mask acc => levB g r mask acc k
    | none => levB g r mask acc k
def bfsB (g : Addr → Option Obj) : Nat → List Addr → Nat → List Addr
  | 0, _, _ => []
  | n + 1, fr, mask => levB g fr mask [] fun mask nx => nx ++ bfsB g n nx mask
def asB (g : Addr → Option Obj) (n : Nat) : List Addr := mainGlobals :: bfsB g n [mainGlobals] (Nat.shiftLeft 1 mainGlobals)
def obsXG (n : Nat) (fa : List Fx) (fn : List He.DefD) (g : Addr → Option Obj) : AlX := obsX fa fn (He.frG g (asB g n))
def hookX (n : Nat) (fa : List Fx) (fn : List He.DefD) : PySem.W.Hook :=
  { α := AlX, val := fun _ => valX fn, obs := fun s => obsXG n fa fn s.heap.get?, says := fun _ h => ∃ K : PySem.W.Frag, K.In h ∧ SaysX fa fn K, of := fun _ _ seen => Exists.intro _ (And.intro He.frG_in seen), keeps := fun _ _ _ said k => said.imp fun _ both => ⟨PySem.W.Frag.In.keeps both.1 k, both.2⟩ }
theorem obsXG_eq {n : Nat} {fa : List Fx} {fn : List He.DefD} {g : Addr → Option Obj} {s : Shared} (h : ∀ a, g a = s.heap.get? a) : obsXG n fa fn g = (hookX n fa fn).obs s := congrArg (obsXG n fa fn) (funext h)
section
variable {fa : List Fx} {fn : List He.DefD} {K : PySem.W.Frag}
/-- all that is said, each by itself -/
theorem SaysX.each (c : SaysX fa fn K) : (∀ f ∈ fa, f.ok K = true) ∧ ∀ d ∈ fn, (toA d).ok K = true ∧ He5.fnA K (adOf K d) = d.val := by
  have ⟨tests, texts⟩ := (Prod.mk.injEq ..).mp (show ((fa.all fun f => f.ok K) && fn.all fun d => (toA d).ok K, fn.map fun d => He5.fnA K (adOf K d)) = (true, fn.map He.DefD.val) from c)
  have ⟨t1, t2⟩ := (Bool.and_eq_true ..).mp tests
  exact ⟨List.all_eq_true.mp t1, fun d hd => ⟨List.all_eq_true.mp t2 d hd, List.map_inj_left.mp texts d hd⟩⟩
theorem SaysX.fact (c : SaysX fa fn K) (i : Nat) {f : Fx} (h : fa[i]? = some f := by rfl) : f.ok K = true := c.each.1 f (List.mem_of_getElem? h)
/-- the function object at an address -/
def fdOf (K : PySem.W.Frag) (a : Addr) : FuncData := match K.lookup a with
  | some ⟨_, _, .func fd, _⟩ => fd
  | _ => PySem.W.fnOf "" "" ⟨[], [], none, [], [], none, []⟩ [] ⟨.function, [], false, false, []⟩ .none .none .none .none none .none .none
theorem SaysX.defA (c : SaysX fa fn K) (i : Nat) {d : He.DefD} (h : fn[i]? = some d) {a : Addr} (ha : adOf K d = a) : FunD K d.name d.qual d.params d.body d.scope (d.dvs K) (d.kws K) a (fdOf K a) := by
  have ⟨fits, text⟩ := c.each.2 d (List.mem_of_getElem? h)
  obtain ⟨fd, F⟩ := He5.DefA.funD (d := toA d) text fits
  replace F : FunD K d.name d.qual d.params d.body d.scope (d.dvs K) (d.kws K) (adOf K d) fd := F
  rw [ha] at F
  have is_ : fdOf K a = fd := by
    unfold fdOf
    obtain ⟨_, _, _, _, _, _, _, _, _, _, _, there, _⟩ := F.ex
    rw [there]
  rw [is_]
  exact F
theorem SaysX.def_ (c : SaysX fa fn K) (i : Nat) {d : He.DefD} (h : fn[i]? = some d := by rfl) (ha : adOf K d = He.fAd K d.at_ := by rfl) : FunD K d.name d.qual d.params d.body d.scope (d.dvs K) (d.kws K) (He.fAd K d.at_) (fdOf K (He.fAd K d.at_)) := c.defA i h ha
variable {h : Heap} {mg : Str → Option Value}
theorem fx_glo (X : K.In h) (G : h.Ns mainGlobals mg) {x : Str} (c : (Fx.glo x).ok K = true) : mg x = some (.ref (He.ga K x)) := PySem.W.mg_of X G (He.eqO_ok c)
theorem fx_free (X : K.In h) (G : h.Ns mainGlobals mg) {x : Str} (c : (Fx.free x).ok K = true) : mg x = none := PySem.W.mg_none_of X G (He.eqO_ok c)
theorem fx_fun (X : K.In h) (G : h.Ns mainGlobals mg) {x : Str} {id : String} (c : (Fx.fun_ x id).ok K = true) : mg x = some (.builtin id) := PySem.W.mg_of X G (He.eqO_ok c)
theorem fx_int (X : K.In h) (G : h.Ns mainGlobals mg) {x : Str} {i : Int} (c : (Fx.int x i).ok K = true) : ∃ t, mg x = some (.int i t) := by
  obtain ⟨v, at_, is_⟩ := onMain_ok X G c
  cases v <;> try cases is_
  exact ⟨_, by rw [at_, of_decide_eq_true is_]⟩
theorem fx_dat (X : K.In h) (G : h.Ns mainGlobals mg) {x : Str} {d : D} (c : (Fx.dat x d).ok K = true) : ∃ v u, mg x = some u ∧ RelV v u ∧ ∀ (Γ : Wd) (B : Hp), Γ.K = K → Rep Γ B d v := by
  obtain ⟨u, at_, is_⟩ := onMain_ok X G c
  obtain ⟨v, rel, rep⟩ := datB_ok d u is_
  exact ⟨v, u, at_, rel, rep⟩
theorem fx_oex {x : Str} (c : (Fx.oex x).ok K = true) : OexC K (He.ga K x) := oexB_ok c
theorem fx_ini {x : Str} (c : (Fx.ini x).ok K = true) : PySem.W.findIn K (.ref (He.ga K x)) "__init__" = some (some (.ref (He.ma K (He.ga K x) "__init__"))) ∧ PySem.W.typeIn K (.ref (He.ma K (He.ga K x) "__init__")) = some (.type "function") := by
  obtain ⟨c1, c2⟩ := Bool.and_eq_true_iff.mp c
  exact ⟨He.eqO_ok c1, of_decide_eq_true c2⟩
theorem fx_nof {x f : Str} (c : (Fx.nof x f).ok K = true) : PySem.W.findIn K (.ref (He.ga K x)) f = some none := He.eqO_ok c
theorem fx_xf {x : Str} (c : (Fx.xf x).ok K = true) : XfC K (He.ga K x) := xfB_ok c
theorem fx_exm {x y : Str} {b : Bool} (c : (Fx.exm x y b).ok K = true) : PySem.W.exmOne K (.ref (He.ga K x)) (.ref (He.ga K y)) = some b := of_decide_eq_true c
theorem fx_fa {f : He.Fa} (c : (Fx.fa f).ok K = true) : f.ok K = true := c
/-- an own class, and what its instances' __class__ is found to be -/
structure ClF (K : PySem.W.Frag) (C : Addr) : Prop where
  cl : Cls K C
  cls : PySem.W.findIn K (.ref C) "__class__" = some (some (.builtin "object.__class__")) ∧ PySem.W.specialIn K (.builtin "object.__class__") "__get__" = some (some (.builtin "getset_descriptor.__get__")) ∧ PySem.W.takesIn K (.builtin "object.__class__") = some true
  obj : PySem.W.mroIn K C (.type "object") = some true
theorem fx_cl {x : Str} (c : (Fx.cl x).ok K = true) : ClF K (He.ga K x) := by
  simp only [Fx.ok, Bool.and_eq_true, decide_eq_true_eq] at c
  exact ⟨He.cls_ok c.1, ⟨He.eqO_ok c.2.1, He.eqO_ok c.2.2.1, c.2.2.2.1⟩, c.2.2.2.2⟩
theorem fx_isc {x : Str} {l : List (Str × Bool)} (c : (Fx.isc x l).ok K = true) : (∀ t ∈ tyNames, PySem.W.kitOne K (.type t) (.ref (He.ga K x)) = some false) ∧ ∀ p ∈ l, PySem.W.kitOne K (.ref (He.ga K p.1)) (.ref (He.ga K x)) = some p.2 := by
  obtain ⟨c1, c2⟩ := Bool.and_eq_true_iff.mp c
  exact ⟨fun t ht => of_decide_eq_true (List.all_eq_true.mp c1 t ht), fun p hp => of_decide_eq_true (List.all_eq_true.mp c2 p hp)⟩
theorem fx_isb {x : Str} (c : (Fx.isb x).ok K = true) : ∀ t ∈ tyNames, PySem.W.kitOne K (.ref (He.ga K x)) (.type t) = some false := fun t ht => of_decide_eq_true (List.all_eq_true.mp c t ht)
theorem fx_prop {x m : Str} (c : (Fx.prop x m).ok K = true) : PropOf K (He.ga K x) m (He.ma K (He.ga K x) m) (gAd K x m) := by
  simp only [Fx.ok, Bool.and_eq_true, decide_eq_true_eq] at c
  refine ⟨He.eqO_ok c.1, He.eqO_ok c.2.1, c.2.2.1, ?_⟩
  have last := c.2.2.2
  unfold gAd
  split at last
  · rename_i g rest e
    rw [e]
    exact ⟨rest, rfl⟩
  · cases last
theorem fx_bin {x m : Str} {id : String} (c : (Fx.bin x m id).ok K = true) : PySem.W.findIn K (.ref (He.ga K x)) m = some (some (.builtin id)) := He.eqO_ok c
theorem fx_tab {x : Str} {vs : List He.Dv} (c : (Fx.tab x vs).ok K = true) (H : Hp) : SqT K H (He.ga K x) (vs.map (He.Dv.v K)) := He.tupB_ok c H
end
/-! ### a table of classes -/
def xtab (l : List (Str × Str × Bool)) : XTab := fun c h => (l.find? fun t => t.1 == c && t.2.1 == h).map (·.2.2)
theorem xtab_mem {l : List (Str × Str × Bool)} {c h : Str} {b : Bool} (e : xtab l c h = some b) : (c, h, b) ∈ l := by
  unfold xtab at e
  cases hf : l.find? (fun t => t.1 == c && t.2.1 == h) with
  | none => rw [hf] at e; cases e
  | some t =>
    rw [hf] at e
    have h1 := List.find?_some hf
    have h2 := List.mem_of_find?_eq_some hf
    simp only [Bool.and_eq_true, beq_iff_eq] at h1
    obtain ⟨c', h', b'⟩ := t
    simp only [Option.map_some, Option.some.injEq] at e
    obtain ⟨rfl, rfl⟩ := h1
    subst e
    exact h2

/-! ### the law -/
theorem reps_ints {Γ : Wd} {B : Hp} : ∀ ns : List Int, Reps Γ B (ns.map D.int) (ns.map V.int)
  | [] => rfl
  | n :: ns => ⟨.int n, ns.map V.int, rfl, rfl, reps_ints ns⟩
theorem walk_ev {l : PySem.W.OpenLaw} {k : Nat} {q : Program} {loose : List Str} {XP : (Str → Option Value) → Heap → Prop} {YP : World → Heap → Prop} {d : DefRec} {x : Str} {g : Fn}
    (hn : l.most = some 63) (hdf : d.params.defaults = []) (hr : RoomG k callerA)
    (F : ∀ (w : World) (mg : Str → Option Value) (fa : Addr) (h : Heap), YP w h → h.Ns mainGlobals mg → mg d.name = some (.ref fa) →
      ∃ (K : PySem.W.Frag) (fd : FuncData), K.In h ∧ (∀ (s : Shared) (u : Value), BindsTo s fd ⟨[u], []⟩ [(x, u)]) ∧
        ∀ base : Heap, K.In base → base.Ns mainGlobals mg → FnOkG l.prog w K mg base (L2.CX l.prog w) k fa fd [x] (spOf K mg [] 1 g))
    (hlaw : ∀ ns : List Int, ns.length ≤ 63 → (∀ z ∈ ns, Builtin.Int.intBits z ≤ 1048576) → ∃ ps, g [.val (.fl (ns.map D.int))] = .ok (.val (.bl true)) ps) :
    PySem.W.WalkO q loose XP YP l.row.toRowW d [] (fun f vs => PySem.call f vs) := by
  refine Att.attach_callB hn hdf fun w s₀ s₁ mg mb fa o pm cd doc a vs ns G Y ho hd hcd hmg hobj hints hlen hbits hg => ?_
  obtain ⟨K, fd, KX, hb, hF⟩ := F w mg fa _ Y G.T.g hmg
  refine law_callG KX G.T.g G.T.b G.T.builtins G.T.nolimit hg hobj hints (Nat.le_trans hlen (by decide)) hr hF hb (fun H hO hS => ?_) fun H e s' h => ?_
  · obtain ⟨ps, hps⟩ := hlaw ns hlen hbits
    refine ⟨H, [.val (.fl (ns.map D.int))], rfl, args_ok (Γ := wdOf K mg []) (ds := [.fl (ns.map D.int)]) (σ := []) (Same.refl _) (Reps.one ⟨a, _, rfl, hS, reps_ints ns⟩), fun i xs hi => ?_, ?_⟩
    · cases i with
      | zero => cases hi
      | succ i => cases hi
    · rw [hps]
      exact fun v B' H' _ r => r
  · obtain ⟨_, _, _, _, _, _, _, _, _, _, _, _, z⟩ := h
    exact z
end Ev

set_option Elab.async false
set_option linter.all false
set_option maxRecDepth 100000
set_option maxHeartbeats 4000000
namespace Ev
open PySem PySem.Spec PyProof.Rows L2

theorem bt_len : bootBuiltins "len" = some (.builtin "len") := by decide +kernel
theorem bt_abs : bootBuiltins "abs" = some (.builtin "abs") := by decide +kernel
theorem bt_isinstance : bootBuiltins "isinstance" = some (.builtin "isinstance") := by decide +kernel
theorem bt_list : bootBuiltins "list" = some (.type "list") := by decide +kernel
theorem bt_tuple : bootBuiltins "tuple" = some (.type "tuple") := by decide +kernel
theorem bt_int : bootBuiltins "int" = some (.type "int") := by decide +kernel
theorem bt_bool : bootBuiltins "bool" = some (.type "bool") := by decide +kernel
theorem bt_str : bootBuiltins "str" = some (.type "str") := by decide +kernel
theorem nR {R : List Nat} {i : Nat} (h : R.contains i = false) : i ∉ R := fun z => by
  rw [List.contains_iff_mem.mpr z] at h
  cases h
theorem nRs {R vs : List Nat} (h : vs.all (fun v => !R.contains v) = true) : ∀ v ∈ vs, v ∉ R := fun v hv => nR (by
  have := List.all_eq_true.mp h v hv
  simpa using this)
theorem xfOne {K : PySem.W.Frag} {mg : Str → Option Value} {c n : Str} {C : Addr} (g : mg c = some (.ref C)) (x : XfC K C) (nf : PySem.W.findIn K (.ref C) n = some none) : ∀ c' ∈ [c], ∀ C', mg c' = some (.ref C') → XfC K C' ∧ PySem.W.findIn K (.ref C') n = some none := fun c' hc C' m => by
  have e : c' = c := by simpa using hc
  subst e
  rw [g] at m
  cases m
  exact ⟨x, nf⟩
section
variable {X : Cx} {Γ : Wd} {W : WX} {e a b c : Expr} {es : List Expr} {pos : Pos} {f1 : DenL}
def dNotL (f : DenL) : DenV := fun env => (dTru f env).bind fun b e => .ok (.bl (!b)) e
theorem sNotL (hK : X.K = Γ.K) (ha : SL X Γ W a f1) : SV X Γ W (.UnaryOp .Not a pos) (dNotL f1) := imE (pe_notT ha) fun σ H Q ⟨env, B, s, p⟩ => by
  unfold dNotL dTru at p
  have p2 := p.bind
  refine ⟨env, B, s, p2.bind.mono fun d e1 B1 H1 s1 x1 q1 v hv => ?_⟩
  cases hd : d.get e1 with
  | none => rw [hd] at q1; exact q1.elim
  | some y =>
    rw [hd] at q1
    have q2 : Post Γ W e1 σ B1 H1 (fun b e1 B1 H1 => Post Γ W e1 σ B1 H1 (fun d _ B' H' => ∀ v, Rep Γ B' d v → Q v H') (.ok (.bl (!b)) e1)) (match truth y with | some b => .ok b e1 | none => .bad) := q1
    cases ht : truth y with
    | none => rw [ht] at q2; exact q2.elim
    | some k =>
      rw [ht] at q2
      refine ⟨k, ?_, Post.here s1 (Post.here s1 q2) _ rfl⟩
      rw [hK]
      exact (Ar.now s1 hv hd).truth s1.same ht
end
/-! ### recursion -/
theorem FnOkG.never {P : Program} {w : World} {K : PySem.W.Frag} {mg : Str → Option Value} {base : Heap} {CX : CXT} {k np : Nat} {R : List Nat} {f : Addr} {fd : FuncData} {ps : List Str} : FnOkG P w K mg base CX k f fd ps (spOf K mg R np fun _ => .bad) :=
  ⟨fun vs H Q E ⟨_, _, _, _, _, z⟩ => z.elim, fun A outer s H args us vs Q E _ _ _ _ ⟨_, _, _, _, _, z⟩ => z.elim⟩
def recFn (np ns : Nat) (den : Fn → DenS) : Nat → Fn
  | 0 => fun _ => .bad
  | n + 1 => mkFn np ns (den (recFn np ns den n))
theorem recFn_len {np ns : Nat} {den : Fn → DenS} : ∀ (n : Nat) (args : List Ent), args.length ≠ np → recFn np ns den n args = .bad
  | 0, _, _ => rfl
  | n + 1, args, h => mkFn_len args h
end Ev

set_option Elab.async false
set_option linter.all false
set_option maxRecDepth 100000
set_option maxHeartbeats 4000000
namespace Ev
open PySem PySem.Spec PyProof.Rows L2
/-! ### a global number -/
theorem sGI {X : Cx} {Γ : Wd} {W : WX} {x : Str} {i : Int} {pos : Pos} (hm : ∃ t, X.mg x = some (.int i t)) (hg : Gl X x) (hd : (x == ("__debug__" : Str)) = false := by decide) : SV X Γ W (.Name x pos) (dC (.int i)) :=
  let ⟨t, h⟩ := hm
  sC (pe_glob (v := .int i) hg h ⟨t, rfl⟩ hd) fun _ => rfl

/-! ### keyword arguments: where each parameter's value comes from -/
inductive Src where
  | p (i : Nat) | k (i : Nat) | d (i : Nat)
def Src.pick {α : Type} (us ws its : List α) : Src → Option α
  | .p i => us[i]?
  | .k i => ws[i]?
  | .d i => its[i]?
def arr {α : Type} (l : List Src) (us ws its : List α) : List α := l.filterMap (Src.pick us ws its)
theorem paired_at {R : V → Value → Prop} : ∀ {xs : List V} {us : List Value}, Paired R xs us → ∀ i : Nat, (xs[i]? = none ∧ us[i]? = none) ∨ ∃ x u, xs[i]? = some x ∧ us[i]? = some u ∧ R x u
  | _, _, .nil, i => .inl ⟨by simp, by simp⟩
  | _, _, .cons h r, 0 => .inr ⟨_, _, rfl, rfl, h⟩
  | _, _, .cons h r, i + 1 => by
    rcases paired_at r i with ⟨a, c⟩ | ⟨x, u, a, c, e⟩
    · exact .inl ⟨by simpa using a, by simpa using c⟩
    · exact .inr ⟨x, u, by simpa using a, by simpa using c, e⟩
theorem pick_rel {vs zs dv : List V} {us ws its : List Value} (r1 : Vals vs us) (r2 : Vals zs ws) (r3 : Vals dv its) (q : Src) : (q.pick vs zs dv = none ∧ q.pick us ws its = none) ∨ ∃ x u, q.pick vs zs dv = some x ∧ q.pick us ws its = some u ∧ RelV x u := by
  cases q with
  | p i => exact paired_at r1 i
  | k i => exact paired_at r2 i
  | d i => exact paired_at r3 i
theorem arr_vals {vs zs dv : List V} {us ws its : List Value} (r1 : Vals vs us) (r2 : Vals zs ws) (r3 : Vals dv its) : ∀ l : List Src, Vals (arr l vs zs dv) (arr l us ws its)
  | [] => .nil
  | q :: l => by
    have ih := arr_vals r1 r2 r3 l
    unfold arr at ih ⊢
    rw [List.filterMap_cons, List.filterMap_cons]
    rcases pick_rel r1 r2 r3 q with ⟨a, c⟩ | ⟨x, u, a, c, e⟩
    · rw [a, c]
      exact ih
    · rw [a, c]
      exact .cons e ih
theorem reps_at {Γ : Wd} {B : Hp} : ∀ {ds : List D} {vs : List V}, Reps Γ B ds vs → ∀ i : Nat, (ds[i]? = none ∧ vs[i]? = none) ∨ ∃ d v, ds[i]? = some d ∧ vs[i]? = some v ∧ Rep Γ B d v
  | [], vs, h, i => by
    have h' : vs = [] := h
    rw [h']
    exact .inl ⟨by simp, by simp⟩
  | d :: ds, vs, h, i => by
    obtain ⟨v, r, e1, e2, e3⟩ := h
    rw [e1]
    cases i with
    | zero => exact .inr ⟨d, v, rfl, rfl, e2⟩
    | succ i =>
      rcases reps_at e3 i with ⟨a, c⟩ | ⟨x, u, a, c, e⟩
      · exact .inl ⟨by simpa using a, by simpa using c⟩
      · exact .inr ⟨x, u, by simpa using a, by simpa using c, e⟩
theorem arr_reps {Γ : Wd} {B : Hp} {ds zs dl : List D} {vs ws dv : List V} (r1 : Reps Γ B ds vs) (r2 : Reps Γ B zs ws) (r3 : Reps Γ B dl dv) : ∀ l : List Src, Reps Γ B (arr l ds zs dl) (arr l vs ws dv)
  | [] => rfl
  | q :: l => by
    have ih := arr_reps r1 r2 r3 l
    have pq : (q.pick ds zs dl = none ∧ q.pick vs ws dv = none) ∨ ∃ x u, q.pick ds zs dl = some x ∧ q.pick vs ws dv = some u ∧ Rep Γ B x u := by
      cases q with
      | p i => exact reps_at r1 i
      | k i => exact reps_at r2 i
      | d i => exact reps_at r3 i
    unfold arr at ih ⊢
    rw [List.filterMap_cons, List.filterMap_cons]
    rcases pq with ⟨a, c⟩ | ⟨x, u, a, c, e⟩
    · rw [a, c]
      exact ih
    · rw [a, c]
      exact ⟨u, _, rfl, e, ih⟩
section
variable {K : PySem.W.Frag} {x qual : Str} {params : Arguments} {body : List Stmt} {scope : Scope} {dvs : List V} {kws : List (Str × V)} {f : Addr} {fd : FuncData} {ps : List Str}
/-- keywords, with defaults that fill up -/
theorem kb1 (F : FunD K x qual params body scope dvs kws f fd) (n : Nat) (ks : List Str) (l : List Src) (hd : dvs ≠ [])
    (h : ∀ (T : Addr) (kV doc pm : Value) (an : Option Addr) (cdv ct : Value) (us its ws : List Value), us.length = n → its.length = dvs.length → ws.length = ks.length →
      ∃ k, bindArgs (PySem.W.fnOf x qual params body scope (.ref T) kV doc pm an cdv ct) ⟨us, ks.zip ws⟩ = seqItems? (.ref T) >>= k ∧ k (some its.toArray) = pure (ps.zip (arr l us ws its))) :
    ∃ its : List Value, KBn K fd ps n ks (fun us ws => arr l us ws its) (fun vs zs => arr l vs zs dvs) := by
  obtain ⟨oc, od, dV, kV, doc, pm, an, cdv, ct, osl, rfl, lk, hcd, hD, hK⟩ := F.ex
  rcases hD with ⟨e, _⟩ | ⟨_, T, o, its, m, rfl, lT, oT, rT⟩
  · exact absurd e hd
  · refine ⟨its, ⟨fun s us ws X l1 l2 => ?_, fun r1 r2 => arr_vals r1 r2 rT l⟩⟩
    obtain ⟨k, e1, e2⟩ := h T kV doc pm an cdv ct us its ws l1 rT.length.symm l2
    refine BindsTo.of_looks fun M => ?_
    rw [e1]
    exact looks_items X lT oT (.of_pure e2)
/-- keywords, no defaults -/
theorem kb0 (F : FunD K x qual params body scope [] kws f fd) (n : Nat) (ks : List Str) (l : List Src)
    (h : ∀ (kV doc pm : Value) (an : Option Addr) (cdv ct : Value) (us ws : List Value), us.length = n → ws.length = ks.length →
      bindArgs (PySem.W.fnOf x qual params body scope .none kV doc pm an cdv ct) ⟨us, ks.zip ws⟩ = pure (ps.zip (arr l us ws []))) :
    ∃ its : List Value, KBn K fd ps n ks (fun us ws => arr l us ws its) (fun vs zs => arr l vs zs []) := by
  obtain ⟨oc, od, dV, kV, doc, pm, an, cdv, ct, osl, rfl, lk, hcd, hD, hK⟩ := F.ex
  rcases hD with ⟨_, rfl⟩ | ⟨e, _⟩
  · exact ⟨[], ⟨fun s us ws X l1 l2 => .of_eq (h kV doc pm an cdv ct us ws l1 l2), fun r1 r2 => arr_vals r1 r2 .nil l⟩⟩
  · exact absurd rfl e
end
section
variable {X : Cx} {Γ : Wd} {W : WX} {e : Expr} {es : List Expr} {kws : List Keyword} {pos p : Pos} {x : Str} {f : Addr} {fd : FuncData} {ps ks : List Str} {k np n : Nat} {R : List Nat} {g : Fn} {dvs : List V} {dfl : List D} {fs gs : DenVs} {l : List Src} {its : List Value}
abbrev SK (X : Cx) (Γ : Wd) (W : WX) (kws : List Keyword) (f : DenVs) : Prop := PK X kws (tVs Γ W f)
theorem imK {kws : List Keyword} {t t' : TA} (h : PK X kws t) (i : ∀ σ H Q, t' σ H Q → t σ H Q) : PK X kws t' := ⟨fun pos pins s σ H Q I q => h.run pos pins s σ H Q I (i σ H Q q)⟩
theorem sKNil : SK X Γ W [] (dVs []) := imK pk_nil fun σ H Q ⟨env, B, s, p⟩ => Post.here s p [] rfl
theorem sKCons {f : DenV} {fs : List DenV} {nm : Option Str} {kpos : Pos} (h : SV X Γ W e f) (r : SK X Γ W kws (dVs fs)) : SK X Γ W (⟨nm, e, kpos⟩ :: kws) (dVs (f :: fs)) :=
  imK (pk_cons h r) fun σ H Q ⟨env, B, s, p⟩ =>
    ⟨env, B, s, p.bind.mono fun d e1 B1 H1 s1 x1 q1 v hv => ⟨e1, B1, s1, q1.bind.mono fun ds e2 B2 H2 s2 x2 q2 vs hvs => Post.here s2 q2 (v :: vs) ⟨v, vs, rfl, Rep.mono x2.b d v hv, hvs⟩⟩⟩
theorem run_fnNS {pins : List (Addr × Obj)} {σ : L2.St} {H : Hp} {s : Shared} {Q : VK} {us ws : List Value} {vs zs : List V} {gg : List Value → List Value → List Value} {gV : List V → List V → List V} {CX : CXT} {sp : Sp} {E : XK} (F : FnOkG X.prog X.w X.K X.mg X.base CX k f fd ps sp) (hr : RoomG k X.A) (hb : KBn X.K fd ps n ks gg gV) (hx : PassesAt CX X σ E)
    (I : Inv X pins σ H s) (r : Vals vs us) (rz : Vals zs ws) (l1 : vs.length = n) (l2 : zs.length = ks.length) (h : sp (gV vs zs) H Q E) : wpAny (model X.prog X.w) X.A (call (.ref f) us (ks.zip ws)) (EP X pins σ Q) X.xe s := by
  have r2 := hb.rel r rz
  have b := hb.to s us ws I.kIn (r.length.symm.trans l1) (rz.length.symm.trans l2)
  refine wpAny_call (codeAny_mono (F.run X.A X.stack s H ⟨us, ks.zip ws⟩ (gg us ws) (gV vs zs) Q E hr I.env0 b r2 h) fun r s' hq => ?_)
  cases r with
  | ok fl =>
    cases fl with
    | ret u => exact I.after hq
    | next => exact False.elim hq
    | brk => exact False.elim hq
    | cont => exact False.elim hq
  | error e => exact hx pins H s e s' I hq
def tCallKS (n m : Nat) (sp : Sp) (gV : List V → List V → List V) (E : L2.St → XK) (t tk : TA) : TE := fun σ H Q => t σ H fun vs H1 => tk σ H1 fun zs H2 => vs.length = n ∧ zs.length = m ∧ sp (gV vs zs) H2 Q (E σ)
theorem pe_callKS {CX : CXT} {sp : Sp} {E : L2.St → XK} {t tk : TA} {gg : List Value → List Value → List Value} {gV : List V → List V → List V} (F : FnOkG X.prog X.w X.K X.mg X.base CX k f fd ps sp) (hr : RoomG k X.A) (hg : Gl X x) (hm : X.mg x = some (.ref f)) (hk : PySem.W.keepIn X.K (.ref f) = true) (hb : KBn X.K fd ps n ks gg gV) (hx : ∀ σ, PassesAt CX X σ (E σ))
    (ha : PA X (e :: es) t) (hkw : PK X kws tk) (hall : (backToKw pos (keywordEach kws X.env)).all (·.1.isSome) = true) (hks : (backToKw pos (keywordEach kws X.env)).filterMap (·.1) = ks)
    (hdb : (x == ("__debug__" : Str)) = false) (he : starEach (e :: es) X.env = (false, eval e X.env) :: starEach es X.env)
    (hpl : ((backTo pos (starEach (e :: es) X.env)).any (·.1) || (backToKw pos (keywordEach kws X.env)).any (·.1.isNone)) = false) :
    PE X (.Call (.Name x p) (e :: es) kws pos) (tCallKS n ks.length sp gV E t tk) := by
  refine ⟨fun pins s σ H Q I h => wpAny_Call_Name_kw (ld_glob I hg hm ?_ hdb)⟩
  refine PySem.W.callWith_KW (h₀ := X.base) I.ok.mod.kin hk hall (thn (ha.run pos pins s σ H _ I h) fun us s1 ⟨vs, H1, I1, r, q⟩ => ?_) hpl he
  refine thn (hkw.run pos pins s1 σ H1 _ I1 q) fun ws s2 ⟨zs, H2, I2, rz, l1, l2, q2⟩ => ⟨I2.kIn, ?_⟩
  subst hks
  exact run_fnNS F hr hb (hx σ) I2 r rz l1 l2 q2
/-- a call with keywords -/
def dCallK (g : Fn) (n m : Nat) (l : List Src) (dfl : List D) (fs gs : DenVs) : DenF := fun env => (fs env).bind fun ds e1 => (gs e1).bind fun zs e2 => if ds.length = n ∧ zs.length = m then (match g ((arr l ds zs dfl).map .val) with
    | .ok r _ => .ok r e2
    | .err c ns xs _ => .err c ns xs e2
    | .bad => .bad) else .bad
theorem sCallK (l : List Src) (hK : X.K = Γ.K) (hm' : X.mg = Γ.mg) (F : FnOkG X.prog X.w X.K X.mg X.base (L2.CX X.prog X.w) k f fd ps (spOf X.K X.mg R np g)) (hr : RoomG k X.A) (gl : Gl X x) (hm : X.mg x = some (.ref f)) (hk : PySem.W.keepIn X.K (.ref f) = true)
    (hb : KBn X.K fd ps n ks (fun us ws => arr l us ws its) (fun vs zs => arr l vs zs dvs)) (hdf : ∀ B, Reps Γ B dfl dvs) (tk : Takes X W) (ha : SVs X Γ W (e :: es) fs) (hkw : SK X Γ W kws gs) (ga : ∀ args, args.length ≠ np → g args = .bad)
    (hall : (backToKw pos (keywordEach kws X.env)).all (·.1.isSome) = true := by rfl) (hks : (backToKw pos (keywordEach kws X.env)).filterMap (·.1) = ks := by rfl)
    (hdb : (x == ("__debug__" : Str)) = false := by decide) (he : starEach (e :: es) X.env = (false, eval e X.env) :: starEach es X.env := by rfl)
    (hpl : ((backTo pos (starEach (e :: es) X.env)).any (·.1) || (backToKw pos (keywordEach kws X.env)).any (·.1.isNone)) = false := by rfl) :
    SF X Γ W (.Call (.Name x p) (e :: es) kws pos) (dCallK g n ks.length l dfl fs gs) := imE (pe_callKS F hr gl hm hk hb (fun σ => passAt tk σ) ha hkw hall hks hdb he hpl) fun σ H Q ⟨env, B, s, pp⟩ => by
  refine ⟨env, B, s, pp.bind.mono fun ds e1 B1 H1 s1 x1 q1 vs hvs => ⟨e1, B1, s1, q1.bind.mono fun zs e2 B2 H2 s2 x2 q2 ws hws => ?_⟩⟩
  have rv : Reps Γ B2 ds vs := Reps.mono x2.b ds vs hvs
  by_cases hl : ds.length = n ∧ zs.length = ks.length
  · rw [if_pos hl] at q2
    refine ⟨rv.length.symm.trans hl.1, hws.length.symm.trans hl.2, ?_⟩
    have rc : Reps (wdOf Γ.K Γ.mg R) B2 (arr l ds zs dfl) (arr l vs ws dvs) := (arr_reps rv hws (hdf B2) l).toC
    have nlen : ((arr l ds zs dfl).map Ent.val).length = np := by
      by_cases hz : ((arr l ds zs dfl).map Ent.val).length = np
      · exact hz
      · rw [ga _ hz] at q2
        exact q2.elim
    rw [hK, hm']
    refine ⟨B2, (arr l ds zs dfl).map .val, nlen, args_ok (σ := σ) s2.same rc, fun i xs hi => ?_, ?_⟩
    · exfalso
      rw [List.getElem?_map] at hi
      cases hd : (arr l ds zs dfl)[i]? with
      | none => rw [hd] at hi; cases hi
      | some d => rw [hd] at hi; cases hi
    · have own_up : ∀ {B' H' : Hp} {pz : Sto}, FExt (wdOf Γ.K Γ.mg R) ((arr l ds zs dfl).map .val) (arr l vs ws dvs) B2 H2 pz B' H' → Grow B2 H2 B' H' := fun {B' H' pz} fx =>
        ⟨fx.b, fun p o hp => (fx.f p o hp no_own).1, fx.s, fun p o hp => (fx.f p o hp no_own).2⟩
      cases hg : g ((arr l ds zs dfl).map .val) with
      | bad => rw [hg] at q2; exact q2.elim
      | err c ns xs pz =>
        rw [hg] at q2
        intro cls d B' H' fx xn
        exact q2 cls d B' H' (s2.growG (own_up fx)) (Ext.growG (own_up fx)) xn.ofC
      | ok r pz =>
        rw [hg] at q2
        intro v B' H' fx rv
        refine q2 B' H' (s2.growG (own_up fx)) (Ext.growG (own_up fx)) v ?_
        cases r with
        | val d => exact Rep.ofC rv
        | mu xs =>
          obtain ⟨a, us, e1', e2', e3', e4', e5'⟩ := rv
          exact ⟨a, us, e1', .inl (x1.h0 a (x2.h0 a e2')), e3', e4', Reps.ofC e5', fun z => s2.own_tracked z e2'⟩
        | un => exact rv.elim
        | exn _ _ _ => exact rv.elim
  · rw [if_neg hl] at q2
    exact q2.elim
end
end Ev

set_option Elab.async false
set_option linter.all false
set_option maxRecDepth 100000
set_option maxHeartbeats 4000000
namespace Ev
open PySem PySem.Spec PyProof.Rows L2
/-! ### lists of ints, of truth values -/
def intsOf : List D → Option (List Int)
  | [] => some []
  | .int i :: ds => (intsOf ds).map (i :: ·)
  | _ :: _ => none
theorem intsOf_eq : ∀ {ds : List D} {ns : List Int}, intsOf ds = some ns → ds = ns.map D.int
  | [], ns, h => by cases h; rfl
  | d :: ds, ns, h => by
    cases d with
    | int i =>
      unfold intsOf at h
      cases e : intsOf ds with
      | none => rw [e] at h; cases h
      | some ms =>
        rw [e] at h
        cases h
        rw [intsOf_eq e]
        rfl
    | _ => cases h
theorem intsOf_map : ∀ ns : List Int, intsOf (ns.map D.int) = some ns
  | [] => rfl
  | n :: ns => by
    rw [List.map_cons]
    unfold intsOf
    rw [intsOf_map ns]
    rfl
def blsOf : List D → Option (List Bool)
  | [] => some []
  | .bl i :: ds => (blsOf ds).map (i :: ·)
  | _ :: _ => none
theorem blsOf_eq : ∀ {ds : List D} {ns : List Bool}, blsOf ds = some ns → ds = ns.map D.bl
  | [], ns, h => by cases h; rfl
  | d :: ds, ns, h => by
    cases d with
    | bl i =>
      unfold blsOf at h
      cases e : blsOf ds with
      | none => rw [e] at h; cases h
      | some ms =>
        rw [e] at h
        cases h
        rw [blsOf_eq e]
        rfl
    | _ => cases h
section
variable {X : Cx} {Γ : Wd} {W : WX}
theorem reps_ints' {B : Hp} : ∀ {ns : List Int} {vs : List V}, Reps Γ B (ns.map D.int) vs → vs = ns.map V.int
  | [], vs, h => h
  | n :: ns, vs, h => by
    obtain ⟨v, r, e1, e2, e3⟩ := h
    have e2' : v = .int n := e2
    rw [e1, e2', reps_ints' e3]
    rfl
theorem reps_bls' {B : Hp} : ∀ {ns : List Bool} {vs : List V}, Reps Γ B (ns.map D.bl) vs → vs = ns.map V.bl
  | [], vs, h => h
  | n :: ns, vs, h => by
    obtain ⟨v, r, e1, e2, e3⟩ := h
    have e2' : v = .bl n := e2
    rw [e1, e2', reps_bls' e3]
    rfl
/-- a list, frozen or not, or from outside -/
def lstOf : D → Option (List D)
  | .lst xs => some xs
  | .fl xs => some xs
  | _ => none
theorem RepT.list {B H : Hp} {d : D} {v : V} {xs : List D} (s : Same B H) (h : RepT Γ B H d v) (e : lstOf d = some xs) : ∃ p vs, v = .ref p ∧ SqL Γ.K H p vs ∧ Reps Γ B xs vs := by
  cases d with
  | lst ys =>
    cases e
    obtain ⟨p, vs, e1, e2, e3⟩ := RepT.lst s h
    exact ⟨p, vs, e1, SqL.of e2, e3⟩
  | fl ys =>
    cases e
    exact RepT.fl s h
  | _ => cases e
def gSum : List D → Option Ent
  | [d] => (lstOf d).bind fun xs => (intsOf xs).map fun ns => .val (.int ns.sum)
  | _ => none
theorem ints_in {B H : Hp} {d : D} {v : V} {xs : List D} {ns : List Int} (s : Same B H) (h : RepT Γ B H d v) (e : lstOf d = some xs) (e2 : intsOf xs = some ns) : ∃ p, v = .ref p ∧ SqL Γ.K H p (ns.map V.int) := by
  obtain ⟨p, vs, e1, q, r⟩ := h.list s e
  rw [intsOf_eq e2] at r
  rw [reps_ints' r] at q
  exact ⟨p, e1, q⟩
theorem bls_in {B H : Hp} {d : D} {v : V} {xs : List D} {ns : List Bool} (s : Same B H) (h : RepT Γ B H d v) (e : lstOf d = some xs) (e2 : blsOf xs = some ns) : ∃ p, v = .ref p ∧ SqL Γ.K H p (ns.map V.bl) := by
  obtain ⟨p, vs, e1, q, r⟩ := h.list s e
  rw [blsOf_eq e2] at r
  rw [reps_bls' r] at q
  exact ⟨p, e1, q⟩
theorem sv_sum : ServesN Γ W (rSum Γ.K) gSum := by
  intro ds ent env σ B H P0 vs Q hg s r h0 q
  match ds, hg, r with
  | [d], hg, r =>
    obtain ⟨v, rfl, rv⟩ := r.one
    unfold gSum at hg
    cases e : lstOf d with
    | none => simp [e] at hg
    | some xs =>
      cases e2 : intsOf xs with
      | none => simp [e, e2] at hg
      | some ns =>
        simp only [e, e2, Option.bind_some, Option.map_some, Option.some.injEq] at hg
        subst hg
        obtain ⟨p, rfl, hq⟩ := ints_in s.same rv e e2
        exact ⟨p, ns, rfl, hq, Post.val s q rfl⟩
  | [], hg, _ => cases hg
  | _ :: _ :: _, hg, _ => cases hg
def gAny : List D → Option Ent
  | [d] => (lstOf d).bind fun xs => (blsOf xs).map fun ns => .val (.bl (ns.any id))
  | _ => none
def gAll : List D → Option Ent
  | [d] => (lstOf d).bind fun xs => (blsOf xs).map fun ns => .val (.bl (ns.all id))
  | _ => none
theorem sv_any : ServesN Γ W (rAny Γ.K) gAny := by
  intro ds ent env σ B H P0 vs Q hg s r h0 q
  match ds, hg, r with
  | [d], hg, r =>
    obtain ⟨v, rfl, rv⟩ := r.one
    unfold gAny at hg
    cases e : lstOf d with
    | none => simp [e] at hg
    | some xs =>
      cases e2 : blsOf xs with
      | none => simp [e, e2] at hg
      | some ns =>
        simp only [e, e2, Option.bind_some, Option.map_some, Option.some.injEq] at hg
        subst hg
        obtain ⟨p, rfl, hq⟩ := bls_in s.same rv e e2
        exact ⟨p, ns, rfl, hq, Post.val s q rfl⟩
  | [], hg, _ => cases hg
  | _ :: _ :: _, hg, _ => cases hg
theorem sv_all : ServesN Γ W (rAll Γ.K) gAll := by
  intro ds ent env σ B H P0 vs Q hg s r h0 q
  match ds, hg, r with
  | [d], hg, r =>
    obtain ⟨v, rfl, rv⟩ := r.one
    unfold gAll at hg
    cases e : lstOf d with
    | none => simp [e] at hg
    | some xs =>
      cases e2 : blsOf xs with
      | none => simp [e, e2] at hg
      | some ns =>
        simp only [e, e2, Option.bind_some, Option.map_some, Option.some.injEq] at hg
        subst hg
        obtain ⟨p, rfl, hq⟩ := bls_in s.same rv e e2
        exact ⟨p, ns, rfl, hq, Post.val s q rfl⟩
  | [], hg, _ => cases hg
  | _ :: _ :: _, hg, _ => cases hg
/-! ### sorted ints -/
def ins1 (x : Int) : List Int → List Int
  | [] => [x]
  | y :: ys => if x ≤ y then x :: y :: ys else y :: ins1 x ys
def srt : List Int → List Int
  | [] => []
  | x :: xs => ins1 x (srt xs)
theorem ins1_perm (x : Int) : ∀ ys : List Int, (ins1 x ys).Perm (x :: ys)
  | [] => List.Perm.refl _
  | y :: ys => by
    unfold ins1
    split
    · exact List.Perm.refl _
    · exact ((ins1_perm x ys).cons y).trans (List.Perm.swap x y ys)
theorem srt_perm : ∀ xs : List Int, (srt xs).Perm xs
  | [] => List.Perm.refl _
  | x :: xs => (ins1_perm x (srt xs)).trans ((srt_perm xs).cons x)
theorem ins1_sorted (x : Int) : ∀ ys : List Int, ys.Pairwise (· ≤ ·) → (ins1 x ys).Pairwise (· ≤ ·)
  | [], _ => List.pairwise_singleton _ _
  | y :: ys, h => by
    have h' := List.pairwise_cons.mp h
    unfold ins1
    split
    · rename_i hx
      refine List.pairwise_cons.mpr ⟨fun z hz => ?_, h⟩
      rcases List.mem_cons.mp hz with rfl | hz
      · exact hx
      · exact Int.le_trans hx (h'.1 z hz)
    · rename_i hx
      refine List.pairwise_cons.mpr ⟨fun z hz => ?_, ins1_sorted x ys h'.2⟩
      rcases List.mem_cons.mp ((ins1_perm x ys).mem_iff.mp hz) with rfl | hz
      · omega
      · exact h'.1 z hz
theorem srt_sorted : ∀ xs : List Int, (srt xs).Pairwise (· ≤ ·)
  | [] => List.Pairwise.nil
  | x :: xs => ins1_sorted x _ (srt_sorted xs)
theorem sorted_one : ∀ {xs ys : List Int}, xs.Perm ys → xs.Pairwise (· ≤ ·) → ys.Pairwise (· ≤ ·) → xs = ys
  | [], ys, p, _, _ => (List.Perm.nil_eq p)
  | x :: xs, [], p, _, _ => absurd p.length_eq (by simp)
  | x :: xs, y :: ys, p, h, k => by
    have h' := List.pairwise_cons.mp h
    have k' := List.pairwise_cons.mp k
    have a : x ≤ y := by
      rcases List.mem_cons.mp (p.mem_iff.mpr (List.mem_cons_self (a := y) (l := ys))) with e | e
      · omega
      · exact h'.1 y e
    have b : y ≤ x := by
      rcases List.mem_cons.mp (p.mem_iff.mp (List.mem_cons_self (a := x) (l := xs))) with e | e
      · omega
      · exact k'.1 x e
    have e : x = y := by omega
    subst e
    rw [sorted_one (List.Perm.cons_inv p) h'.2 k'.2]
def gSorted : List D → Option Ent
  | [d] => (lstOf d).bind fun xs => (intsOf xs).map fun ns => .mu ((srt ns).map .int)
  | _ => none
theorem sv_sorted : ServesN Γ W (rSortedI Γ.K) gSorted := by
  intro ds ent env σ B H P0 vs Q hg s r h0 q
  match ds, hg, r with
  | [d], hg, r =>
    obtain ⟨v, rfl, rv⟩ := r.one
    unfold gSorted at hg
    cases e : lstOf d with
    | none => simp [e] at hg
    | some xs =>
      cases e2 : intsOf xs with
      | none => simp [e, e2] at hg
      | some ns =>
        simp only [e, e2, Option.bind_some, Option.map_some, Option.some.injEq] at hg
        subst hg
        obtain ⟨p, rfl, hq⟩ := ints_in s.same rv e e2
        refine ⟨p, ns, rfl, hq, fun ns' l hp hs hl => ?_⟩
        rw [sorted_one (hp.trans (srt_perm ns).symm) hs (srt_sorted ns)]
        exact Post.newL h0 s q (reps_ints _) hl
  | [], hg, _ => cases hg
  | _ :: _ :: _, hg, _ => cases hg
/-! ### min, max -/
def gMin2 : List D → Option Ent
  | [.int i, .int j] => some (.val (.int (if j < i then j else i)))
  | _ => none
def gMax2 : List D → Option Ent
  | [.int i, .int j] => some (.val (.int (if j > i then j else i)))
  | _ => none
theorem sv_min2 : ServesN Γ W (fun xs H Q => ∃ i j, xs = [.int i, .int j] ∧ Q (.int (if j < i then j else i)) H) gMin2 := by
  intro ds ent env σ B H P0 vs Q hg s r h0 q
  match ds, hg, r with
  | [.int i, .int j], hg, r =>
    obtain ⟨v, w, rfl, rv, rw'⟩ := r.two
    cases hg
    rw [rv.int, rw'.int]
    exact ⟨i, j, rfl, Post.val s q rfl⟩
theorem sv_max2 : ServesN Γ W (fun xs H Q => ∃ i j, xs = [.int i, .int j] ∧ Q (.int (if j > i then j else i)) H) gMax2 := by
  intro ds ent env σ B H P0 vs Q hg s r h0 q
  match ds, hg, r with
  | [.int i, .int j], hg, r =>
    obtain ⟨v, w, rfl, rv, rw'⟩ := r.two
    cases hg
    rw [rv.int, rw'.int]
    exact ⟨i, j, rfl, Post.val s q rfl⟩
def minL : Int → List Int → Int
  | m, [] => m
  | m, x :: xs => minL (if x < m then x else m) xs
def maxL : Int → List Int → Int
  | m, [] => m
  | m, x :: xs => maxL (if m < x then x else m) xs
theorem minL_mem : ∀ (xs : List Int) (m : Int), minL m xs ∈ m :: xs
  | [], m => List.mem_cons_self ..
  | x :: xs, m => by
    unfold minL
    rcases List.mem_cons.mp (minL_mem xs (if x < m then x else m)) with e | e
    · rw [e]
      split
      · exact List.mem_cons_of_mem _ (List.mem_cons_self ..)
      · exact List.mem_cons_self ..
    · exact List.mem_cons_of_mem _ (List.mem_cons_of_mem _ e)
theorem minL_le : ∀ (xs : List Int) (m : Int), ∀ y ∈ m :: xs, minL m xs ≤ y
  | [], m, y, h => by
    rw [List.mem_singleton.mp h]
    exact Int.le_refl _
  | x :: xs, m, y, h => by
    unfold minL
    have ih := minL_le xs (if x < m then x else m)
    have i0 := ih _ (List.mem_cons_self ..)
    rcases List.mem_cons.mp h with rfl | h
    · split at i0 <;> split <;> omega
    · rcases List.mem_cons.mp h with rfl | h
      · split at i0 <;> split <;> omega
      · exact ih y (List.mem_cons_of_mem _ h)
theorem maxL_mem : ∀ (xs : List Int) (m : Int), maxL m xs ∈ m :: xs
  | [], m => List.mem_cons_self ..
  | x :: xs, m => by
    unfold maxL
    rcases List.mem_cons.mp (maxL_mem xs (if m < x then x else m)) with e | e
    · rw [e]
      split
      · exact List.mem_cons_of_mem _ (List.mem_cons_self ..)
      · exact List.mem_cons_self ..
    · exact List.mem_cons_of_mem _ (List.mem_cons_of_mem _ e)
theorem maxL_le : ∀ (xs : List Int) (m : Int), ∀ y ∈ m :: xs, y ≤ maxL m xs
  | [], m, y, h => by
    rw [List.mem_singleton.mp h]
    exact Int.le_refl _
  | x :: xs, m, y, h => by
    unfold maxL
    have ih := maxL_le xs (if m < x then x else m)
    have i0 := ih _ (List.mem_cons_self ..)
    rcases List.mem_cons.mp h with rfl | h
    · split at i0 <;> split <;> omega
    · rcases List.mem_cons.mp h with rfl | h
      · split at i0 <;> split <;> omega
      · exact ih y (List.mem_cons_of_mem _ h)
def gMinL : List D → Option Ent
  | [d] => (lstOf d).bind fun xs => (intsOf xs).bind fun ns => match ns with
    | [] => none
    | m :: ms => some (.val (.int (minL m ms)))
  | _ => none
def gMaxL : List D → Option Ent
  | [d] => (lstOf d).bind fun xs => (intsOf xs).bind fun ns => match ns with
    | [] => none
    | m :: ms => some (.val (.int (maxL m ms)))
  | _ => none
theorem sv_minL : ServesN Γ W (rMin Γ.K) gMinL := by
  intro ds ent env σ B H P0 vs Q hg s r h0 q
  match ds, hg, r with
  | [d], hg, r =>
    obtain ⟨v, rfl, rv⟩ := r.one
    unfold gMinL at hg
    cases e : lstOf d with
    | none => simp [e] at hg
    | some xs =>
      cases e2 : intsOf xs with
      | none => simp [e, e2] at hg
      | some ns =>
        cases ns with
        | nil => simp [e, e2] at hg
        | cons m ms =>
          simp only [e, e2, Option.bind_some, Option.some.injEq] at hg
          subst hg
          obtain ⟨p, rfl, hq⟩ := ints_in s.same rv e e2
          refine ⟨p, m :: ms, rfl, hq, Nat.succ_pos _, fun z hz hle => ?_⟩
          have e3 : z = minL m ms := by
            have a := minL_le ms m z hz
            have b := hle _ (minL_mem ms m)
            omega
          rw [e3]
          exact Post.val s q rfl
  | [], hg, _ => cases hg
  | _ :: _ :: _, hg, _ => cases hg
theorem sv_maxL : ServesN Γ W (rMax Γ.K) gMaxL := by
  intro ds ent env σ B H P0 vs Q hg s r h0 q
  match ds, hg, r with
  | [d], hg, r =>
    obtain ⟨v, rfl, rv⟩ := r.one
    unfold gMaxL at hg
    cases e : lstOf d with
    | none => simp [e] at hg
    | some xs =>
      cases e2 : intsOf xs with
      | none => simp [e, e2] at hg
      | some ns =>
        cases ns with
        | nil => simp [e, e2] at hg
        | cons m ms =>
          simp only [e, e2, Option.bind_some, Option.some.injEq] at hg
          subst hg
          obtain ⟨p, rfl, hq⟩ := ints_in s.same rv e e2
          refine ⟨p, m :: ms, rfl, hq, Nat.succ_pos _, fun z hz hle => ?_⟩
          have e3 : z = maxL m ms := by
            have a := maxL_le ms m z hz
            have b := hle _ (maxL_mem ms m)
            omega
          rw [e3]
          exact Post.val s q rfl
  | [], hg, _ => cases hg
  | _ :: _ :: _, hg, _ => cases hg
/-! ### lcm -/
def gLcm : List D → Option Ent
  | [.int i, .int j] => if i.natAbs.log2 < 6000 ∧ j.natAbs.log2 < 6000 then some (.val (.int ((Nat.lcm i.natAbs j.natAbs : Nat) : Int))) else none
  | _ => none
end
theorem bt_sum : bootBuiltins "sum" = some (.builtin "sum") := by decide +kernel
theorem bt_any : bootBuiltins "any" = some (.builtin "any") := by decide +kernel
theorem bt_all : bootBuiltins "all" = some (.builtin "all") := by decide +kernel
theorem bt_sorted : bootBuiltins "sorted" = some (.builtin "sorted") := by decide +kernel
theorem bt_min : bootBuiltins "min" = some (.builtin "min") := by decide +kernel
theorem bt_max : bootBuiltins "max" = some (.builtin "max") := by decide +kernel
end Ev

set_option Elab.async false
set_option linter.all false
set_option maxRecDepth 100000
set_option maxHeartbeats 4000000
namespace Ev
open PySem PySem.Spec PyProof.Rows L2
/-! ### lcm -/
def rLcm : List V → Hp → VK → Prop := fun vs H Q => ∃ a b : Int, vs = [.int a, .int b] ∧ a.natAbs.log2 < 6000 ∧ b.natAbs.log2 < 6000 ∧ Q (.int ((Nat.lcm a.natAbs b.natAbs : Nat) : Int)) H
theorem log_max {a b n : Nat} (h : a.log2 < n) (k : b.log2 < n) : (max a b).log2 < n := by
  rcases Nat.le_total a b with q | q
  · rw [Nat.max_eq_right q]
    exact k
  · rw [Nat.max_eq_left q]
    exact h
theorem cr_lcm {X : Cx} : CallR X (.builtin "math.lcm") rLcm := by
  intro pins s σ H vs us Q I r h
  obtain ⟨a, b, rfl, ha, hb, q⟩ := h
  obtain ⟨t, u, rfl⟩ := Vals.int2 r
  have e : (Nat.lcm 1 a.natAbs).lcm b.natAbs = Nat.lcm a.natAbs b.natAbs := by rw [Nat.lcm_one_left]
  have h1 : (max 1 a.natAbs).log2 < 6000 := log_max (by decide) ha
  have h2 := log_max ha hb
  have hz : ((((Nat.lcm 1 a.natAbs).lcm b.natAbs : Nat) : Int)).natAbs.log2 < bitsLine := by
    rw [e, Int.natAbs_natCast]
    have le : Nat.lcm a.natAbs b.natAbs ≤ a.natAbs * b.natAbs := Nat.div_le_self _ _
    have la : a.natAbs < 2 ^ 6000 := by
      by_cases z : a.natAbs = 0
      · rw [z]
        exact Nat.two_pow_pos _
      · exact (Nat.log2_lt z).mp ha
    have lb : b.natAbs < 2 ^ 6000 := by
      by_cases z : b.natAbs = 0
      · rw [z]
        exact Nat.two_pow_pos _
      · exact (Nat.log2_lt z).mp hb
    have lt : Nat.lcm a.natAbs b.natAbs < 2 ^ 12000 := by
      refine Nat.lt_of_le_of_lt le ?_
      rw [show (12000 : Nat) = 6000 + 6000 from rfl, Nat.pow_add]
      exact Nat.mul_lt_mul'' la lb
    refine Nat.lt_of_lt_of_le ?_ (show 12000 ≤ bitsLine by decide)
    by_cases z : Nat.lcm a.natAbs b.natAbs = 0
    · rw [z]
      decide
    · exact (Nat.log2_lt z).mpr lt
  have g := PySem.W.mg_run_lcm a t b u (by omega) (by omega) hz
  rw [e] at g
  exact call_function_meets PySem.W.MGF.kind_lcm PySem.W.MGF.plain_lcm PySem.W.MGF.entry_lcm (PySem.W.MGF.args_lcm _ _) g.meets ⟨.int _, H, I.tok _, ⟨_, rfl⟩, q⟩
section
variable {X : Cx} {Γ : Wd} {W : WX}
theorem sv_lcm : ServesN Γ W rLcm gLcm := by
  intro ds ent env σ B H P0 vs Q hg s r h0 q
  match ds, hg, r with
  | [.int i, .int j], hg, r =>
    obtain ⟨v, w, rfl, rv, rw'⟩ := r.two
    have hg' : (if i.natAbs.log2 < 6000 ∧ j.natAbs.log2 < 6000 then some (Ent.val (.int ((Nat.lcm i.natAbs j.natAbs : Nat) : Int))) else none) = some ent := hg
    by_cases c : i.natAbs.log2 < 6000 ∧ j.natAbs.log2 < 6000
    · rw [if_pos c] at hg'
      cases hg'
      rw [rv.int, rw'.int]
      exact ⟨i, j, rfl, c.1, c.2, Post.val s q rfl⟩
    · rw [if_neg c] at hg'
      cases hg'
/-! ### x in xs -/
def inD (x : D) (ys : List D) : Bool := ys.any fun z => deq z x
def gIn : D → D → Option Ent
  | x, .lst ys => if shp 64 x = true ∧ shp 64 (.lst ys) = true then vb (inD x ys) else none
  | x, .fl ys => if shp 64 x = true ∧ shp 64 (.fl ys) = true then vb (inD x ys) else none
  | x, .tup ys => if shp 64 x = true ∧ shp 64 (.tup ys) = true then vb (inD x ys) else none
  | _, _ => none
def gNotIn : D → D → Option Ent
  | x, .lst ys => if shp 64 x = true ∧ shp 64 (.lst ys) = true then vb (!inD x ys) else none
  | x, .fl ys => if shp 64 x = true ∧ shp 64 (.fl ys) = true then vb (!inD x ys) else none
  | x, .tup ys => if shp 64 x = true ∧ shp 64 (.tup ys) = true then vb (!inD x ys) else none
  | _, _ => none
/-- the same of a tuple of data -/
def rInTD (K : PySem.W.Frag) (neg : Bool) : R2 := fun x y H Q => ∃ d ds, (Dp K H x d ∧ SeqAt.shaped d = true) ∧ (Dp K H y (.tuple ds) ∧ SeqAt.shaped (.tuple ds) = true) ∧ Q (.bl (if neg then !(ds.any fun z => PyData.eqv z d) else ds.any fun z => PyData.eqv z d)) H
theorem op_inTD (hu : X.A.units + 65 < cLine) : OpR X (compareOp .In) (rInTD X.K false) := fun pins s σ H x y v u Q I rx ry ⟨d, ds, ⟨hd, sd⟩, ⟨he, se⟩, q⟩ => by
  obtain ⟨_, r1⟩ := Dp.reads I d x v hd rx
  obtain ⟨_, r2⟩ := Dp.reads I (.tuple ds) y u he ry
  refine SeqAt.in_tuple_reads r2 r1 ?_ ?_ ?_ ⟨.bl _, H, I, rfl, q⟩
  · exact SeqAt.canLay_of_shaped se
  · exact SeqAt.canLay_of_shaped sd
  · exact room_in_shaped sd hu
theorem op_notInTD (hu : X.A.units + 65 < cLine) : OpR X (compareOp .NotIn) (rInTD X.K true) := fun pins s σ H x y v u Q I rx ry ⟨d, ds, ⟨hd, sd⟩, ⟨he, se⟩, q⟩ => by
  obtain ⟨_, r1⟩ := Dp.reads I d x v hd rx
  obtain ⟨_, r2⟩ := Dp.reads I (.tuple ds) y u he ry
  refine SeqAt.notIn_tuple_reads r2 r1 ?_ ?_ ?_ ⟨.bl _, H, I, rfl, q⟩
  · exact SeqAt.canLay_of_shaped se
  · exact SeqAt.canLay_of_shaped sd
  · exact room_in_shaped sd hu
def rInE (K : PySem.W.Frag) : R2 := fun x y H Q => rInD K x y H Q ∨ rInTD K false x y H Q
def rNotInE (K : PySem.W.Frag) : R2 := fun x y H Q => rNotInD K x y H Q ∨ rInTD K true x y H Q
theorem room65 {k : Nat} {A : Around} (r : RoomG k A) : A.units + 65 < cLine := by have := r.room.un; omega
theorem op_inE (hu : X.A.units + 65 < cLine) : OpR X (compareOp .In) (rInE X.K) := (op_inD hu).or (op_inTD hu)
theorem op_notInE (hu : X.A.units + 65 < cLine) : OpR X (compareOp .NotIn) (rNotInE X.K) := (op_notInD hu).or (op_notInTD hu)
theorem any_pys {f : PyData → Bool} : ∀ ys : List D, ys.any (fun z => f z.py) = (pys ys).any f
  | [] => rfl
  | y :: ys => by
    unfold pys
    rw [List.any_cons, List.any_cons, any_pys ys]
theorem sv_in : Serves Γ W (rInE Γ.K) gIn := by
  intro x y ent env σ B H P0 v w Q hg s rx ry h0 q
  have key : ∀ (ys : List D), shp 64 x = true → shp 64 y = true → vb (inD x ys) = some ent → (y.py = .list (pys ys) ∨ y.py = .tuple (pys ys)) → rInE Γ.K v w H Q := fun ys c1 c2 e hy => by
    cases e
    have dx := rx.dp s.same c1
    have dy := ry.dp s.same c2
    have sx := shaped_of c1
    have sy := shaped_of c2
    have qq : Q (.bl ((pys ys).any fun z => PyData.eqv z x.py)) H := by
      have e2 : inD x ys = (pys ys).any fun z => PyData.eqv z x.py := any_pys (f := fun z => PyData.eqv z x.py) ys
      rw [← e2]
      exact Post.val s q rfl
    rcases hy with hy | hy
    · rw [hy] at dy sy
      exact .inl ⟨_, _, dx, dy, sx, sy, qq⟩
    · rw [hy] at dy sy
      exact .inr ⟨_, _, ⟨dx, sx⟩, ⟨dy, sy⟩, qq⟩
  cases y with
  | lst ys =>
    change (if shp 64 x = true ∧ shp 64 (.lst ys) = true then vb (inD x ys) else none) = some ent at hg
    by_cases c : shp 64 x = true ∧ shp 64 (.lst ys) = true
    · rw [if_pos c] at hg
      exact key ys c.1 c.2 hg (.inl rfl)
    · rw [if_neg c] at hg
      cases hg
  | fl ys =>
    change (if shp 64 x = true ∧ shp 64 (.fl ys) = true then vb (inD x ys) else none) = some ent at hg
    by_cases c : shp 64 x = true ∧ shp 64 (.fl ys) = true
    · rw [if_pos c] at hg
      exact key ys c.1 c.2 hg (.inl rfl)
    · rw [if_neg c] at hg
      cases hg
  | tup ys =>
    change (if shp 64 x = true ∧ shp 64 (.tup ys) = true then vb (inD x ys) else none) = some ent at hg
    by_cases c : shp 64 x = true ∧ shp 64 (.tup ys) = true
    · rw [if_pos c] at hg
      exact key ys c.1 c.2 hg (.inr rfl)
    · rw [if_neg c] at hg
      cases hg
  | _ => cases hg
theorem sv_notIn : Serves Γ W (rNotInE Γ.K) gNotIn := by
  intro x y ent env σ B H P0 v w Q hg s rx ry h0 q
  have key : ∀ (ys : List D), shp 64 x = true → shp 64 y = true → vb (!inD x ys) = some ent → (y.py = .list (pys ys) ∨ y.py = .tuple (pys ys)) → rNotInE Γ.K v w H Q := fun ys c1 c2 e hy => by
    cases e
    have dx := rx.dp s.same c1
    have dy := ry.dp s.same c2
    have sx := shaped_of c1
    have sy := shaped_of c2
    have qq : Q (.bl (!(pys ys).any fun z => PyData.eqv z x.py)) H := by
      have e2 : inD x ys = (pys ys).any fun z => PyData.eqv z x.py := any_pys (f := fun z => PyData.eqv z x.py) ys
      rw [← e2]
      exact Post.val s q rfl
    rcases hy with hy | hy
    · rw [hy] at dy sy
      exact .inl ⟨_, _, dx, dy, sx, sy, qq⟩
    · rw [hy] at dy sy
      exact .inr ⟨_, _, ⟨dx, sx⟩, ⟨dy, sy⟩, qq⟩
  cases y with
  | lst ys =>
    change (if shp 64 x = true ∧ shp 64 (.lst ys) = true then vb (!inD x ys) else none) = some ent at hg
    by_cases c : shp 64 x = true ∧ shp 64 (.lst ys) = true
    · rw [if_pos c] at hg
      exact key ys c.1 c.2 hg (.inl rfl)
    · rw [if_neg c] at hg
      cases hg
  | fl ys =>
    change (if shp 64 x = true ∧ shp 64 (.fl ys) = true then vb (!inD x ys) else none) = some ent at hg
    by_cases c : shp 64 x = true ∧ shp 64 (.fl ys) = true
    · rw [if_pos c] at hg
      exact key ys c.1 c.2 hg (.inl rfl)
    · rw [if_neg c] at hg
      cases hg
  | tup ys =>
    change (if shp 64 x = true ∧ shp 64 (.tup ys) = true then vb (!inD x ys) else none) = some ent at hg
    by_cases c : shp 64 x = true ∧ shp 64 (.tup ys) = true
    · rw [if_pos c] at hg
      exact key ys c.1 c.2 hg (.inr rfl)
    · rw [if_neg c] at hg
      cases hg
  | _ => cases hg
end
/-! ### data at a module's name -/
theorem sCD {X : Cx} {Γ : Wd} {W : WX} {x : Str} {d : D} {pos : Pos} (hK : Γ.K = X.K) (h : ∃ v u, X.mg x = some u ∧ RelV v u ∧ ∀ (Γ : Wd) (B : Hp), Γ.K = X.K → Rep Γ B d v) (hg : Gl X x) (hd : (x == ("__debug__" : Str)) = false := by decide) : SV X Γ W (.Name x pos) (dC d) :=
  let ⟨v, u, hm, r, k⟩ := h
  sC (pe_glob (v := v) hg hm r hd) fun B => k Γ B hK
end Ev

set_option Elab.async false
set_option linter.all false
set_option maxRecDepth 100000
set_option maxHeartbeats 4000000
namespace Ev
open PySem PySem.Spec PyProof.Rows L2
section
variable {X : Cx} {Γ : Wd} {W : WX} {e : Expr} {es : List Expr} {pos p : Pos} {f1 : DenL}
/-! ### a field of an instance -/
def dAt (cs : List Str) (n : Str) (f : DenL) : DenV := fun env => (f env).bind fun a e => match a.get e with
  | some (.ins c ns xs) => if cs.contains c = true then (match (ns.zip xs).lookup n with
    | some d => .ok d e
    | none => .bad) else .bad
  | _ => .bad
theorem RepT.ins {B H : Hp} {c : Str} {ns : List Str} {xs : List D} {v : V} (s : Same B H) (h : RepT Γ B H (.ins c ns xs) v) : ∃ a dx C vs, v = .ref a ∧ Γ.mg c = some (.ref C) ∧ H a = some (.ins C dx (ns.zip vs)) ∧ ns.length = vs.length ∧ Reps Γ B xs vs := by
  rcases h with h | ⟨ys, _, _, h, _⟩
  · obtain ⟨a, dx, C, vs, e1, e2, e3, e4, e5⟩ := h
    exact ⟨a, dx, C, vs, e1, e2, s _ _ e3, e4, e5⟩
  · cases h
theorem sAt {cs : List Str} {n : Str} (hm : X.mg = Γ.mg) (hX : ∀ c ∈ cs, ∀ C, X.mg c = some (.ref C) → Cls X.K C ∧ NoAttr X.K C n) (he : SL X Γ W e f1) (hb : attributeBase e n X.env (eval e X.env) = eval e X.env := by rfl) : SV X Γ W (.Attribute e n pos) (dAt cs n f1) :=
  imE (pe_fld he hb) fun σ H Q ⟨env, B, s, pp⟩ => by
    refine ⟨env, B, s, pp.bind.mono fun a e1 B1 H1 s1 x1 q1 v hv => ?_⟩
    cases hd : a.get e1 with
    | none => rw [hd] at q1; exact q1.elim
    | some d =>
      rw [hd] at q1
      have rt := Ar.now s1 hv hd
      cases d with
      | ins c ns xs =>
        have q2 : Post Γ W e1 σ B1 H1 (fun d _ B' H' => ∀ v, Rep Γ B' d v → Q v H') (if cs.contains c = true then (match (ns.zip xs).lookup n with
          | some d => .ok d e1
          | none => .bad) else .bad) := q1
        by_cases hc : cs.contains c = true
        · rw [if_pos hc] at q2
          obtain ⟨a', dx, C, vs, e2, e3, e4, e5, e6⟩ := RepT.ins s1.same rt
          obtain ⟨k1, k2⟩ := hX c (List.contains_iff_mem.mp hc) C (by rw [hm]; exact e3)
          cases hl : (ns.zip xs).lookup n with
          | none => rw [hl] at q2; exact q2.elim
          | some x =>
            rw [hl] at q2
            obtain ⟨u, l1, l2⟩ := zip_lookup e6 hl
            exact ⟨a', C, dx, _, u, e2, e4, k1, k2, l1, Post.here s1 q2 u l2⟩
        · rw [if_neg hc] at q2
          exact q2.elim
      | _ => exact q1.elim
end
end Ev

set_option Elab.async false
set_option linter.all false
set_option maxRecDepth 100000
set_option maxHeartbeats 4000000
namespace Ev
open PySem PySem.Spec PyProof.Rows L2
/-! ### an instance that is being made: at a, with the fields so far -/
structure ExtA (a : Addr) (B H B' H' : Hp) : Prop where
  b : Same B B'
  t : ∀ p, H p ≠ none → H' p ≠ none
  f : ∀ p o, p ≠ a → H p = some o → H' p = some o ∧ (B p = none → B' p = none)
theorem ExtA.refl {a : Addr} {B H : Hp} : ExtA a B H B H := ⟨Same.refl _, fun _ h => h, fun _ _ _ h => ⟨h, id⟩⟩
theorem ExtA.trans {a : Addr} {B H B1 H1 B2 H2 : Hp} (x : ExtA a B H B1 H1) (y : ExtA a B1 H1 B2 H2) : ExtA a B H B2 H2 :=
  ⟨x.b.trans y.b, fun p h => y.t p (x.t p h), fun p o n h => ⟨(y.f p o n (x.f p o n h).1).1, fun q => (y.f p o n (x.f p o n h).1).2 ((x.f p o n h).2 q)⟩⟩
/-- no list of its own stands in the slots -/
def noMu (env : Sto) : Prop := ∀ (i : Nat) (xs : List D), env[i]? ≠ some (.mu xs)
section
variable {Γ : Wd} {W : WX} {env env' : Sto} {σ σ' : L2.St} {B H B' H' : Hp}
/-- a thing that no slot owns and no reader knows is changed -/
theorem StOk.updU {p : Addr} {o o' : HO} (s : StOk Γ env σ B H) (hb : B p = none) (hp : H p = some o) (h1 : ∀ vs, o ≠ .lst vs) (h2 : ∀ vs, o ≠ .xd vs) : StOk Γ env σ B (upd H p o') where
  same := fun q u hq => by
    rw [upd_ne (ne_of_none hq hb)]
    exact s.same q u hq
  len := s.len
  ent := fun i en u g1 g2 => by
    have k := s.ent i en u g1 g2
    cases en with
    | un => trivial
    | val d => exact k
    | mu xs =>
      obtain ⟨q, ws, e1, e2, e3, e4⟩ := k
      refine ⟨q, ws, e1, e2, ?_, e4⟩
      rw [upd_ne]
      · exact e3
      · rintro rfl
        rw [hp] at e3
        exact h1 _ (Option.some.inj e3)
    | exn c ns xs =>
      obtain ⟨dd, ws, e1, e2, e3, e4, e5⟩ := k
      refine ⟨dd, ws, e1, e2, ?_, e4, e5⟩
      rw [upd_ne]
      · exact e3
      · rintro rfl
        rw [hp] at e3
        exact h2 _ (Option.some.inj e3)
  dis := s.dis
/-- since the entry at B0, H0 -/
structure ExtO (a : Addr) (B0 H0 : Hp) (env : Sto) (σ : L2.St) (B H : Hp) : Prop where
  b : Same B0 B
  t : ∀ p, H0 p ≠ none → H p ≠ none
  f : ∀ p o, p ≠ a → H0 p = some o → H p = some o ∧ (B0 p = none → B p = none) ∧ ¬ Own env σ p
theorem ExtO.step {a : Addr} {B0 H0 : Hp} (x : ExtO a B0 H0 env σ B H) (y : Ext Γ env σ B H env' σ' B' H') : ExtO a B0 H0 env' σ' B' H' where
  b := x.b.trans y.b
  t := fun p h => y.t p (x.t p h)
  f := fun p o n h => by
    obtain ⟨h1, h2, h3⟩ := x.f p o n h
    obtain ⟨k1, k2, k3⟩ := y.f p o h1 h3
    exact ⟨k1, fun q => k2 (h2 q), k3⟩
theorem ExtO.upd {a : Addr} {B0 H0 : Hp} {o' : HO} (x : ExtO a B0 H0 env σ B H) : ExtO a B0 H0 env σ B (L2.upd H a o') where
  b := x.b
  t := fun p h => by
    by_cases e : p = a
    · subst e
      rw [upd_same]
      exact fun z => nomatch z
    · rw [upd_ne e]
      exact x.t p h
  f := fun p o n h => by
    rw [upd_ne n]
    exact x.f p o n h
theorem ExtO.toA {a : Addr} {B0 H0 : Hp} (x : ExtO a B0 H0 env σ B H) : ExtA a B0 H0 B H := ⟨x.b, x.t, fun p o n h => ⟨(x.f p o n h).1, (x.f p o n h).2.1⟩⟩
/-- what is wanted of the rest of an __init__: vs stand already -/
def PostI (Γ : Wd) (W : WX) (C a dx : Addr) (ns : List Str) (vs : List V) (B0 H0 Bc : Hp) (Dn : Ends) : Res (List D) → Prop
  | .ok ds env' => ∀ σ' B' H' ws, StOk Γ env' σ' B' H' → Same Bc B' → ExtA a B0 H0 B' H' → B' a = none → H' a = some (.ins C dx (ns.zip (vs ++ ws))) → Reps Γ B' ds ws → Dn.nx σ' H'
  | .err c ks xs env' => ∀ cls d σ' B' H', StOk Γ env' σ' B' H' → ExtA a B0 H0 B' H' → XnOk Γ B' H' c ks xs cls d → W cls d σ' H'
  | .bad => False
theorem PostI.up {C a dx : Addr} {ns : List Str} {vs : List V} {B0 H0 B1 B2 : Hp} {Dn : Ends} {r : Res (List D)} (h : PostI Γ W C a dx ns vs B0 H0 B1 Dn r) (e : Same B1 B2) : PostI Γ W C a dx ns vs B0 H0 B2 Dn r := by
  cases r with
  | bad => exact h
  | ok ds e1 => exact fun σ' B' H' ws s' y => h σ' B' H' ws s' (e.trans y)
  | err c ks xs e1 => exact h
/-- the fields, one behind the other -/
def dFlds : List DenV → Sto → Res (List D)
  | [], env => .ok [] env
  | f :: r, env => (f env).bind fun d e => (dFlds r e).bind fun ds e2 => .ok (d :: ds) e2
def preI (f : DenS) (g : Sto → Res (List D)) : Sto → Res (List D) := fun env => match f env with
  | .ok .nx e => g e
  | .err c ks xs e => .err c ks xs e
  | _ => .bad
/-- behind the fields done: the rest g, all names ns -/
def tIni (Γ : Wd) (W : WX) (C : Addr) (done ns : List Str) (g : Sto → Res (List D)) : TS := fun Dn σ H => ∃ env B a dx vs B0 H0, StOk Γ env σ B H ∧ σ[0]? = some (some (.ref a)) ∧ B a = none ∧ H a = some (.ins C dx (done.zip vs)) ∧ done.length = vs.length ∧ ExtO a B0 H0 env σ B H ∧ PostI Γ W C a dx ns vs B0 H0 B Dn (g env)
end
theorem putF_new {f : Str} {v : V} : ∀ {ns : List Str} {vs : List V}, ns.length = vs.length → f ∉ ns → putF f v (ns.zip vs) = (ns ++ [f]).zip (vs ++ [v])
  | [], [], _, _ => rfl
  | [], _ :: _, h, _ => by cases h
  | _ :: _, [], h, _ => by cases h
  | n :: ns, w :: vs, h, hf => by
    have h1 : ¬ n = f := fun e => hf (e ▸ List.mem_cons_self ..)
    show (if n = f then (n, v) :: ns.zip vs else (n, w) :: putF f v (ns.zip vs)) = _
    rw [if_neg h1, putF_new (Nat.succ.inj h) fun z => hf (List.mem_cons_of_mem _ z)]
    rfl
section
variable {X : Cx} {Γ : Wd} {W : WX} {C : Addr} {done ns : List Str} {e : Expr} {st : Stmt} {rest : List Stmt} {f : DenS} {g : Sto → Res (List D)} {pos p1 p2 : Pos}
theorem iNil : PSs X [] (tIni Γ W C ns ns (dFlds [])) := imSs pss_nil fun Dn σ H ⟨env, B, a, dx, vs, B0, H0, s, h0, hb, ha, hl, x, p⟩ => by
  have q := p σ B H [] s (Same.refl _) x.toA hb (by rw [List.append_nil]; exact ha) rfl
  exact q
/-- an ordinary statement ahead of the fields -/
theorem iCons (hR : 0 ∈ Γ.R) (h : SS X Γ W st f) (k : PSs X rest (tIni Γ W C [] ns g)) : PSs X (st :: rest) (tIni Γ W C [] ns (preI f g)) :=
  imSs (pss_cons h k) fun Dn σ H ⟨env, B, a, dx, vs, B0, H0, s, h0, hb, ha, hl, x, p⟩ => by
    have own0 : ¬ Own env σ a := fun z => by
      obtain ⟨_, us, z2⟩ := s.own_none z
      rw [ha] at z2
      cases z2
    refine ⟨env, B, s, ?_⟩
    have p' : PostI Γ W C a dx ns vs B0 H0 B Dn (match f env with
      | .ok .nx e => g e
      | .err c ks xs e => .err c ks xs e
      | _ => .bad) := p
    cases hf : f env with
    | bad => rw [hf] at p'; exact p'
    | err c ks xs e1 =>
      rw [hf] at p'
      exact fun cls d σ' B' H' s' y hx => p' cls d σ' B' H' s' (x.step y).toA hx
    | ok fl e1 =>
      rw [hf] at p'
      cases fl with
      | nx =>
        intro σ' B' H' s' y
        obtain ⟨k1, k2, _⟩ := y.f a _ ha own0
        exact ⟨e1, B', a, dx, vs, B0, H0, s', (y.r 0 hR).1.trans h0, k2 hb, k1, hl, x.step y, p'.up y.b⟩
      | bk => exact p'.elim
      | ct => exact p'.elim
      | rt r => exact p'.elim
/-- self.n = e -/
theorem iFld {n s1 : Str} {fv : DenV} {fs : List DenV} (hv : SV X Γ W e fv) (hs0 : PE X (.Name s1 p1) (tVar 0)) (hR : 0 ∈ Γ.R) (c : Cls X.K C) (na : NoAttr X.K C n) (hn : n ∉ done) (hz : done.length < 1000) (k : PSs X rest (tIni Γ W C (done ++ [n]) ns (dFlds fs)))
    (hs : swapsWith e (some (.Attribute (.Name s1 p1) n p2)) pos.line X.env = pure false := by rfl) : PSs X (.Assign [.Attribute (.Name s1 p1) n p2] e pos :: rest) (tIni Γ W C done ns (dFlds (fv :: fs))) :=
  imSs (pss_cons (ps_fld hs0 hv hs) k) fun Dn σ H ⟨env, B, a, dx, vs, B0, H0, s, h0, hb, ha, hl, x, p⟩ => by
    have own0 : ¬ Own env σ a := fun z => by
      obtain ⟨_, us, z2⟩ := s.own_none z
      rw [ha] at z2
      cases z2
    have p' : PostI Γ W C a dx ns vs B0 H0 B Dn ((fv env).bind fun d e => (dFlds fs e).bind fun ds e2 => .ok (d :: ds) e2) := p
    refine ⟨env, B, s, ?_⟩
    cases hf : fv env with
    | bad => rw [hf] at p'; exact p'
    | err cc ks xs e1 =>
      rw [hf] at p'
      exact fun cls d B' H' s' y hx => p' cls d σ B' H' s' (x.step y).toA hx
    | ok d e1 =>
      rw [hf] at p'
      intro B1 H1 s1' y v rv
      obtain ⟨k1, k2, _⟩ := y.f a _ ha own0
      refine ⟨.ref a, h0, a, C, dx, _, rfl, k1, c, na, ?_, ?_⟩
      · rw [List.length_zip]
        omega
      · rw [putF_new hl hn]
        refine ⟨e1, B1, a, dx, vs ++ [v], B0, H0, s1'.updU (k2 hb) k1 (fun _ z => nomatch z) (fun _ z => nomatch z), h0, k2 hb, upd_same, by rw [List.length_append, List.length_append, hl]; rfl, (x.step y).upd, ?_⟩
        have p2 : PostI Γ W C a dx ns vs B0 H0 B Dn ((dFlds fs e1).bind fun ds e2 => .ok (d :: ds) e2) := p'
        cases hg : dFlds fs e1 with
        | bad => rw [hg] at p2; exact p2
        | err cc ks xs e2 => rw [hg] at p2; exact p2
        | ok ds e2 =>
          rw [hg] at p2
          intro σ' B' H' ws s' zz z hb' ha' hr
          refine p2 σ' B' H' (v :: ws) s' (y.b.trans zz) z hb' ?_ ⟨v, ws, rfl, Rep.mono zz d v rv, hr⟩
          rw [List.append_assoc] at ha'
          exact ha'
end
end Ev

set_option Elab.async false
set_option linter.all false
set_option maxRecDepth 100000
set_option maxHeartbeats 4000000
namespace Ev
open PySem PySem.Spec PyProof.Rows L2
def mkIni (np ns : Nat) (g : Sto → Res (List D)) : List D → Res (List D) := fun ds => if ds.length = np then g (.un :: (ds.map .val ++ List.replicate (ns - (np + 1)) .un)) else .bad
def PostM (Γ : Wd) (C a dx : Addr) (ns : List Str) (B H : Hp) (Q : VK) (E : XK) : Res (List D) → Prop
  | .ok fs _ => ∀ B' H' ws, Same B B' → Same B' H' → ExtA a B H B' H' → B' a = none → H' a = some (.ins C dx (ns.zip ws)) → Reps Γ B' fs ws → Q .non H'
  | .err c ks xs _ => ∀ cls d B' H', Same B' H' → ExtA a B H B' H' → XnOk Γ B' H' c ks xs cls d → E cls d H'
  | .bad => False
def spIni (K : PySem.W.Frag) (mg : Str → Option Value) (C : Addr) (ns : List Str) (np : Nat) (g : List D → Res (List D)) : Sp := fun vs H Q E => ∃ a dx ys ds B, vs = .ref a :: ys ∧ ds.length = np ∧ Reps (wdOf K mg [0]) B ds ys ∧ Same B H ∧ H a = some (.ins C dx []) ∧ B a = none ∧ PostM (wdOf K mg [0]) C a dx ns B H Q E (g ds)
theorem spIni_len {K : PySem.W.Frag} {mg : Str → Option Value} {C : Addr} {ns : List Str} {np : Nat} {g : List D → Res (List D)} (vs : List V) (H : Hp) (Q : VK) (E : XK) (h : spIni K mg C ns np g vs H Q E) : vs.length = np + 1 := by
  obtain ⟨a, dx, ys, ds, B, rfl, h1, h2, _⟩ := h
  rw [List.length_cons, ← h2.length, h1]
section
variable {K : PySem.W.Frag} {mg : Str → Option Value} {C : Addr} {ns : List Str} {np : Nat}
theorem start_ini {a : Addr} {ys : List V} {ds : List D} {B H : Hp} {n : Nat} (s : Same B H) (r : Reps (wdOf K mg [0]) B ds ys) :
    StOk (wdOf K mg [0]) (.un :: (ds.map .val ++ List.replicate n .un)) (some (.ref a) :: (ys.map some ++ List.replicate n none)) B H where
  same := s
  len := by simp [r.length]
  ent := fun i e o h1 h2 => by
    cases i with
    | zero =>
      simp only [List.getElem?_cons_zero, Option.some.injEq] at h1
      subst h1
      trivial
    | succ i =>
      rw [List.getElem?_cons_succ] at h1 h2
      rw [List.getElem?_append] at h1
      split at h1
      · rename_i hi
        rw [List.length_map] at hi
        rw [List.getElem?_append_left (by rw [List.length_map, ← r.length]; exact hi), List.getElem?_map] at h2
        rw [List.getElem?_map] at h1
        cases hd : ds[i]? with
        | none => rw [hd] at h1; cases h1
        | some d =>
          rw [hd] at h1
          cases h1
          obtain ⟨v, hv, rv⟩ := r.get hd
          rw [hv] at h2
          cases h2
          exact ⟨v, rfl, rv⟩
      · rw [List.getElem?_replicate] at h1
        split at h1
        · cases h1
          trivial
        · cases h1
  dis := fun i j xs zs p h1 => by
    exfalso
    cases i with
    | zero => cases h1
    | succ i =>
      rw [List.getElem?_cons_succ, List.getElem?_append] at h1
      split at h1
      · rw [List.getElem?_map] at h1
        cases hd : ds[i]? with
        | none => rw [hd] at h1; cases h1
        | some d => rw [hd] at h1; cases h1
      · rw [List.getElem?_replicate] at h1
        split at h1 <;> cases h1
theorem ini_noown {a p : Addr} {ys : List V} {ds : List D} {n : Nat} : ¬ Own (.un :: (ds.map .val ++ List.replicate n .un)) (some (V.ref a) :: (ys.map some ++ List.replicate n none)) p := by
  rintro ⟨i, xs, h1, _⟩
  cases i with
  | zero => cases h1
  | succ i =>
    rw [List.getElem?_cons_succ, List.getElem?_append] at h1
    split at h1
    · rw [List.getElem?_map] at h1
      cases hd : ds[i]? with
      | none => rw [hd] at h1; cases h1
      | some d => rw [hd] at h1; cases h1
    · rw [List.getElem?_replicate] at h1
      split at h1 <;> cases h1
variable {P : Program} {w : World} {base : Heap}
/-- such an __init__ keeps its promise -/
theorem ini_ok {x qual : Str} {params : Arguments} {body : List Stmt} {scope : Scope} {dvs : List V} {kws : List (Str × V)} {f : Addr} {fd : FuncData} {N ps : List Str} {k : Nat} {g : Sto → Res (List D)} (F : FunD K x qual params body scope dvs kws f fd) (S : FnScope N ps scope) (hn : ps.length = np + 1)
    (hbody : ∀ (cdv : Value) (A : Around) (outer : List Env) (s : Shared) (H : Hp) (E : XK), RoomG k (A.deeper (envOfC qual scope s.heap.objs.size f cdv)) →
      PSs (cxOf (L2.CX P w) P w K mg base N qual scope f cdv A outer s H E) body (tIni (wdOf K mg [0]) (fun cls d _ H => E cls d H) C [] ns g)) : FnOkG P w K mg base (L2.CX P w) (k + 1) f fd ps (spIni K mg C ns np (mkIni np N.length g)) :=
  okG F S (fun vs H Q E h => (spIni_len vs H Q E h).trans hn.symm) fun cdv A outer s H vs Q E hr h => by
    refine ⟨_, hbody cdv A outer s H E hr, ?_⟩
    obtain ⟨a, dx, ys, ds, B, rfl, h1, h2, h3, h4, h5, h6⟩ := h
    have e : L2.start N (.ref a :: ys) = some (.ref a) :: (ys.map some ++ List.replicate (N.length - (np + 1)) none) := by
      unfold L2.start
      rw [List.length_cons, ← h2.length, h1]
      rfl
    rw [e]
    refine ⟨_, B, a, dx, [], B, H, start_ini h3 h2, rfl, h5, h4, rfl, ⟨Same.refl _, fun _ z => z, fun p o n z => ⟨z, id, ini_noown⟩⟩, ?_⟩
    unfold mkIni at h6
    rw [if_pos h1] at h6
    cases hg : g (.un :: (ds.map .val ++ List.replicate (N.length - (np + 1)) .un)) with
    | bad => rw [hg] at h6; exact h6
    | err c ks xs e1 =>
      rw [hg] at h6
      exact fun cls d σ' B' H' s' y hx => h6 cls d B' H' s'.same y hx
    | ok fs e1 =>
      rw [hg] at h6
      exact fun σ' B' H' ws s' zz y hb ha hr => h6 B' H' ws zz s'.same y hb ha hr
end
end Ev

set_option Elab.async false
set_option linter.all false
set_option maxRecDepth 100000
set_option maxHeartbeats 4000000
namespace Ev
open PySem PySem.Spec PyProof.Rows L2
section
variable {X : Cx} {CX : CXT} {k np : Nat} {f C : Addr} {fd : FuncData} {ps : List Str} {ds : List Value} {dvs : List V} {x : Str} {p pos : Pos} {e : Expr} {es : List Expr} {t : TA}
/-- C(..) where what __init__ lets out is wished for at the caller's slots -/
theorem make_at {sp : Sp} {E : XK} {pins : List (Addr × Obj)} {σ : L2.St} {H : Hp} {s : Shared} {Q : VK} {us : List Value} {vs : List V} (M : Mk X.K C f) (F : FnOkG X.prog X.w X.K X.mg X.base CX k f fd ps sp) (hr : RoomG (k + 1) X.A) (hb : Binds X.K fd ps ds) (hd : Vals dvs ds)
    (hx : PassesAt CX X σ E) (I : Inv X pins σ H s) (r : Vals vs us)
    (h : ∀ y dy, H y = none → H dy = none → dy ≠ y → sp (.ref y :: (vs ++ dvs)) (upd (upd H dy (.own y)) y (.ins C dy [])) (fun v H2 => v = .non ∧ Q (.ref y) H2) E) :
    wpAny (model X.prog X.w) X.A (call (.ref C) us) (EP X pins σ Q) X.xe s := by
  let n := s.heap.objs.size
  have want := h (n + 1) n (I.hok.fresh (Nat.le_succ n)) (I.hok.fresh (Nat.le_refl n)) (Nat.ne_of_lt (Nat.lt_succ_self n))
  have J := Inv.made (C := C) I
  have rr : Vals (V.ref (n + 1) :: (vs ++ dvs)) (Value.ref (n + 1) :: (us ++ ds)) := .cons rfl (r.append hd)
  have ll : (Value.ref (n + 1) :: us ++ ds).length = ps.length := rr.length.symm.trans (F.len _ _ _ _ want)
  have bb := hb _ (Value.ref (n + 1) :: us) J.kIn ll
  have go := F.run _ X.stack _ _ ⟨Value.ref (n + 1) :: us, []⟩ (Value.ref (n + 1) :: (us ++ ds)) _ _ E (hr.make C us []) (J.env0.make C us []) bb rr want
  refine wpAny_call (make_map (f := f) I.kIn M.makes M.init (beq_iff_eq.mp M.fn) (codeAny_mono go fun res s2 fin => ?_))
  cases res with
  | ok fl =>
    cases fl with
    | ret u =>
      obtain ⟨v, H3, J3, rv, ev, q⟩ := J.after fin
      subst ev
      exact ⟨rv, V.ref (n + 1), H3, J3, rfl, q⟩
    | next => exact fin.elim
    | brk => exact fin.elim
    | cont => exact fin.elim
  | error err => exact hx pins _ _ err s2 J fin
def tMakeS (C : Addr) (sp : Sp) (dvs : List V) (E : L2.St → XK) (t : TA) : TE := fun σ H Q => t σ H fun vs H1 => ∀ y dy, H1 y = none → H1 dy = none → dy ≠ y →
  sp (.ref y :: (vs ++ dvs)) (upd (upd H1 dy (.own y)) y (.ins C dy [])) (fun v H2 => v = .non ∧ Q (.ref y) H2) (E σ)
theorem pe_makeS {sp : Sp} {E : L2.St → XK} (M : Mk X.K C f) (F : FnOkG X.prog X.w X.K X.mg X.base CX k f fd ps sp) (hr : RoomG (k + 1) X.A) (gl : Gl X x) (hm : X.mg x = some (.ref C)) (hb : Binds X.K fd ps ds) (hd : Vals dvs ds) (hx : ∀ σ, PassesAt CX X σ (E σ))
    (ha : PA X (e :: es) t) (hdb : (x == ("__debug__" : Str)) = false) (he : starEach (e :: es) X.env = (false, eval e X.env) :: starEach es X.env) (hpl : (backTo pos (starEach es X.env)).any (·.1) = false) :
    PE X (.Call (.Name x p) (e :: es) [] pos) (tMakeS C sp dvs E t) := by
  refine ⟨fun pins s σ H Q I h => wpAny_Call_Name_kw (ld_glob I gl hm ?_ hdb)⟩
  exact PySem.W.callWith_K (h₀ := X.base) I.ok.mod.kin M.kp (thn (ha.run pos pins s σ H _ I h) fun us s1 ⟨vs, H1, I1, r, q⟩ => ⟨I1.kIn, make_at M F hr hb hd (hx σ) I1 r q⟩) he hpl
end
/-- C(e, ..): a new instance, at once frozen -/
def dMake (c : Str) (ns : List Str) (g : List D → Res (List D)) (dfl : List D) (fs : DenVs) : DenV := fun env => (fs env).bind fun ds e => match g (ds ++ dfl) with
  | .ok xs _ => if xs.length = ns.length then .ok (.ins c ns xs) e else .bad
  | .err k ks ys _ => .err k ks ys e
  | .bad => .bad
section
variable {X : Cx} {Γ : Wd} {W : WX} {k np : Nat} {f C : Addr} {fd : FuncData} {ps : List Str} {ds : List Value} {dvs : List V} {dfl : List D} {x : Str} {p pos : Pos} {e : Expr} {es : List Expr} {fs : DenVs} {ns : List Str} {g : List D → Res (List D)}
theorem sMake (hK : X.K = Γ.K) (hm' : X.mg = Γ.mg) (M : Mk X.K C f) (F : FnOkG X.prog X.w X.K X.mg X.base (L2.CX X.prog X.w) k f fd ps (spIni X.K X.mg C ns np g)) (hr : RoomG (k + 1) X.A) (gl : Gl X x) (hm : X.mg x = some (.ref C)) (hb : Binds X.K fd ps ds) (hd : Vals dvs ds) (hdf : ∀ B, Reps Γ B dfl dvs) (tk : Takes X W)
    (ha : SVs X Γ W (e :: es) fs) (ga : ∀ args, args.length ≠ np → g args = .bad) (hdb : (x == ("__debug__" : Str)) = false := by decide) (he : starEach (e :: es) X.env = (false, eval e X.env) :: starEach es X.env := by rfl) (hpl : (backTo pos (starEach es X.env)).any (·.1) = false := by rfl) :
    SV X Γ W (.Call (.Name x p) (e :: es) [] pos) (dMake x ns g dfl fs) := imE (pe_makeS M F hr gl hm hb hd (fun σ => passAt tk σ) ha hdb he hpl) fun σ H Q ⟨env, B, s, pp⟩ => by
  refine ⟨env, B, s, pp.bind.mono fun args e1 B1 H1 s1 x1 q1 vs hvs y dy hy hdy hne => ?_⟩
  have rc : Reps (wdOf X.K X.mg [0]) B1 (args ++ dfl) (vs ++ dvs) := by
    rw [hK, hm']
    exact (hvs.append (hdf B1)).toC
  have nlen : (args ++ dfl).length = np := by
    by_cases hz : (args ++ dfl).length = np
    · exact hz
    · rw [ga _ hz] at q1
      exact q1.elim
  have fr : ∀ q o, H1 q = some o → (upd (upd H1 dy (.own y)) y (.ins C dy [])) q = some o := fun q o hq => by
    rw [upd_ne (ne_of_none hq hy), upd_ne (ne_of_none hq hdy)]
    exact hq
  have by_ : B1 y = none := s1.bfresh hy
  have sm : Same B1 (upd (upd H1 dy (.own y)) y (.ins C dy [])) := fun q o hq => fr q o (s1.same q o hq)
  refine ⟨y, dy, vs ++ dvs, args ++ dfl, B1, rfl, nlen, rc, sm, upd_same, by_, ?_⟩
  cases hg : g (args ++ dfl) with
  | bad => rw [hg] at q1; exact q1.elim
  | err c ks xs ee =>
    rw [hg] at q1
    intro cls d B' H' sb x hx
    have gr : Grow B1 H1 B' H' := ⟨x.b, fun q o hq => (x.f q o (ne_of_none hq hy) (fr q o hq)).1, sb, fun q o hq => (x.f q o (ne_of_none hq hy) (fr q o hq)).2⟩
    refine q1 cls d B' H' (s1.growG gr) (Ext.growG gr) (XnOk.ctx (Γ := wdOf X.K X.mg [0]) (Γ' := Γ) hK hm' hx)
  | ok xs ee =>
    rw [hg] at q1
    intro B' H' ws sb s' x hb' ha' hr'
    have q2 : Post Γ W e1 σ B1 H1 (fun d _ B' H' => ∀ v, Rep Γ B' d v → Q v H') (if xs.length = ns.length then .ok (.ins _ ns xs) e1 else .bad) := q1
    by_cases hl : xs.length = ns.length
    · rw [if_pos hl] at q2
      have gr : Grow B1 H1 (upd B' y (.ins C dy (ns.zip ws))) H' := ⟨x.b.trans (same_upd hb'), fun q o hq => (x.f q o (ne_of_none hq hy) (fr q o hq)).1, same_frz s' ha', fun q o hq hn => by
        rw [upd_ne (ne_of_none hq hy)]
        exact (x.f q o (ne_of_none hq hy) (fr q o hq)).2 hn⟩
      refine ⟨rfl, q2 _ H' (s1.growG gr) (Ext.growG gr) _ ⟨y, dy, C, ws, rfl, by rw [← hm']; exact hm, upd_same, by rw [← hl, hr'.length], ?_⟩⟩
      exact Reps.mono (same_upd hb') xs ws (Reps.ctx (Γ := wdOf X.K X.mg [0]) (Γ' := Γ) hK hm' xs ws hr')
    · rw [if_neg hl] at q2
      exact q2.elim
end
end Ev

set_option Elab.async false
set_option linter.all false
set_option maxRecDepth 100000
set_option maxHeartbeats 4000000
/-! ### enumerate(x), zip(x, y), each of them a list or a tuple (k: a list) -/
namespace PySem
/-- enumerate(x): the iterator that x gives, then the enumerate object over it -/
abbrev enumHeap (h : Heap) (o : Obj) : Heap := (h.push o).push { cls := .type "enumerate", data := .fields #[.none, .bool false, .ref h.objs.size, rawInt 0, .none, .none] }
theorem enumHeap_at {h : Heap} {o : Obj} : IsEnum (enumHeap h o) (h.objs.size + 1) h.objs.size 0 .none := by
  have top := Heap.get?_push_size (h.push o) (o := { cls := .type "enumerate", data := .fields #[.none, .bool false, .ref h.objs.size, rawInt 0, .none, .none] }) rfl
  rwa [Heap.size_push] at top
set_option maxHeartbeats 1000000 in
theorem enum_new1 {a : Addr} {o : Obj} {H : Heap → Prop} (B : Begins (.ref a) o H) :
    Meets (Builtin.«enumerate.__new__» ⟨[.type "enumerate", .ref a], []⟩) (fun _ R s => H s.heap ∧ R (.ok (.ret (.ref (s.heap.objs.size + 1)))) { s with heap := enumHeap s.heap o }) :=
  .of_wp fun prog w A R ⟨hh, gg, dd, tt, oo⟩ goal => by
    have made := goal.2
    have size1 : (hh.push o).objs.size = hh.objs.size + 1 := Heap.size_push ..
    have under := sub_enumerate
    have opens : ∀ {A' : Around} {E : Value → Shared → Prop} {Q : Value → Shared → Prop}, Q (.ref hh.objs.size) ⟨hh.push o, gg, dd, tt, oo⟩ → wpAny (model prog w) A' (pyIter (.ref a)) Q E ⟨hh, gg, dd, tt, oo⟩ :=
      fun q => B.iter prog w _ _ _ _ goal.1 q
    wp_walk using opens
    apply wpAny_stack_any
    intro st
    apply wpAny_pure
    split
    case h_1 => rename_i c _ _ _ _ _; cases (c == Value.type "enumerate") <;> (wp_walk using opens; exact ⟨_, rfl, by rw [size1]; exact made⟩)
    all_goals (wp_walk using opens; exact ⟨_, rfl, by rw [size1]; exact made⟩)
section
variable {prog : Program} {w : World} {A : Around} {E : Value → Shared → Prop} {s : Shared}
theorem enum_call1 {a : Addr} {o : Obj} {H : Heap → Prop} {Q : Value → Shared → Prop} (B : Begins (.ref a) o H) (h1 : H s.heap) (h : Q (.ref (s.heap.objs.size + 1)) { s with heap := enumHeap s.heap o }) :
    wpAny (model prog w) A (call (.type "enumerate") [.ref a]) Q E s :=
  callType_new F.called_enumerate (by decide) (F.typeCall_enumerate_1 _) (F.newCall_enumerate_1 _) (fun obj => F.args_object_init_2 obj _) F.entry_enumerate_new (enum_new1 B) ⟨h1, ⟨_, enumHeap_at, rfl⟩, h⟩
end
end PySem
namespace Ev
open PySem PySem.Spec PyProof.Rows L2
/-- the sequence at a, as it is told .. -/
def SqX (K : PySem.W.Frag) (H : Hp) (k : Bool) (a : Addr) (xs : List V) : Prop := bif k then SqL K H a xs else SqT K H a xs
/-- .. and as it stands -/
def LX (h : Heap) (k : Bool) (a : Addr) (ws : Array Value) : Prop := bif k then h.IsList a ws else h.IsTuple a ws
/-- its iterator -/
def ItX (h : Heap) (k : Bool) (it a : Addr) (i : Nat) : Prop := bif k then h.IsListIter it a i else h.IsTupleIter it a i
def obX (k : Bool) (a : Addr) : Obj := bif k then { cls := .type "list_iterator", data := .fields #[.ref a, .int 0 0] } else { cls := .type "tuple_iterator", data := .fields #[.ref a, .int 0 0] }
/-- an iterator under way over what stands -/
abbrev Way (k : Bool) (it a : Addr) (ws : List Value) : Nat → Heap → Prop := fun i h => ItX h k it a i ∧ LX h k a ws.toArray
section
variable {X : Cx} {pins : List (Addr × Obj)} {σ : L2.St} {H : Hp} {s : Shared} {xs ys : List V} {a it : Addr} {k : Bool} {i : Nat} {h h' : Heap} {ws : List Value}
theorem SqX.held (I : Inv X pins σ H s) (q : SqX X.K H k a xs) : ∃ ws : List Value, Vals xs ws ∧ LX s.heap k a ws.toArray := by
  cases k
  · exact (I.tuple q).imp fun _ r => ⟨r.1, r.2.1⟩
  · exact (I.list q).imp fun _ r => ⟨r.1, r.2.1.isList⟩
theorem SqX.one (I : Inv X pins σ H s) (q : SqX X.K H k a xs) (q2 : SqX X.K H k a ys) : xs = ys := by
  cases k
  · exact I.tuple_inj q q2
  · exact I.list_inj q q2
theorem ItX.obj (st : ItX h k it a i) : ∃ o, h.get? it = some o ∧ ∀ v, o.data ≠ .cell v := by
  cases k <;> (obtain ⟨o, at_, _, dat⟩ := st; exact ⟨o, at_, fun v z => by rw [dat] at z; cases z⟩)
theorem ItX.keep (st : ItX h k it a i) (q : ∀ o, h.get? it = some o → h'.get? it = some o) : ItX h' k it a i := by
  cases k
  · exact Heap.IsTupleIter.at st q
  · exact Heap.IsListIter.at st q
theorem LX.keep (st : LX h k a ws.toArray) (q : ∀ o, h.get? a = some o → h'.get? a = some o) : LX h' k a ws.toArray := by
  cases k
  · exact Heap.IsTuple.at st q
  · exact Heap.IsList.at st q
theorem LX.lt (st : LX h k a ws.toArray) : a < h.objs.size := by
  cases k <;> exact Heap.lt_size st.choose_spec.1
/-- an iterator is no sequence -/
theorem ItX.ne (st : ItX h k it a i) (l : LX h k a ws.toArray) : a ≠ it := fun same => by
  subst same
  cases k <;>
  · obtain ⟨o, at_, _, dat⟩ := st
    obtain ⟨o2, at2, _, _, dat2⟩ := l
    cases at_.symm.trans at2
    cases dat.symm.trans dat2
theorem begins_way (k : Bool) (a : Addr) (items : Array Value) : Begins (.ref a) (obX k a) fun h => LX h k a items := by
  cases k
  · exact begins_tuple a items
  · exact begins_list a items
theorem way0 (k : Bool) (q : h.get? it = some (obX k a)) : ItX h k it a 0 := by
  cases k <;> exact ⟨_, q, rfl, rfl⟩
theorem draws_way (I : Inv X pins σ H s) (hc : X.calm = true) (st : ItX s.heap k it a i) (l : LX s.heap k a ws.toArray) :
    Draws X.prog X.w X.A.in1 it [it, a] ws.toArray.size (fun i v => ws.toArray[i]? = some v) (Way k it a ws) := by
  have apart := st.ne l
  have cool : X.A.in1.handled = none := I.ok.hd hc
  cases k
  · exact Draws.tuple cool it a apart ws.toArray
  · exact Draws.list cool it a apart ws.toArray
/-- what a draw gives is the item that was told -/
theorem drawn_is {x : V} {v : Value} (r : Vals xs ws) (hx : xs[i]? = some x) (hv : ws.toArray[i]? = some v) : RelV x v := by
  obtain ⟨u, hu, rl⟩ := r.get hx
  rw [List.getElem?_toArray, hu] at hv
  cases hv
  exact rl
theorem vals_size (r : Vals xs ws) : ws.toArray.size = xs.length := by rw [List.size_toArray, ← r.length]
/-- a couple that was laid -/
theorem couple_ok {P : Program} {w : World} {T : Addr} {x1 x2 : V} {u1 u2 : Value} (at_ : h.get? T = some { cls := .type "tuple", data := .seq #[u1, u2] }) (r1 : RelV x1 u1) (r2 : RelV x2 u2) : ObjOk P w (upd H T (.tup [x1, x2])) h T (.tup [x1, x2]) :=
  ⟨(by decide : 2 ≤ sizeLine), [u1, u2], .cons r1 (.cons r2 .nil), _, at_, rfl, _, rfl⟩
/-- the iterator's own things stay untracked when a new thing is laid -/
theorem untracked {fp : List Addr} {ob : HO} {C : Obj → Prop} (f : ∀ b ∈ fp, FpOk X pins H b) (there : ∀ b ∈ fp, ∃ o, s.heap.get? b = some o ∧ C o) : ∀ b ∈ fp, upd H s.heap.objs.size ob b = none := fun b hb => by
  rw [upd_ne (Nat.ne_of_lt (Heap.lt_size (there b hb).choose_spec.1))]
  exact (f b hb).1
end
/-- enumerate of the sequence at a -/
def IteX (K : PySem.W.Frag) (k : Bool) (a : Addr) (n : Nat) : It where
  go := fun i H => ∃ (xs : List V) (x : V), SqX K H k a xs ∧ xs.length = n ∧ xs[i]? = some x
  yld := fun i H v H' => ∃ T x, v = .ref T ∧ H T = none ∧ H' = upd H T (.tup [.int (i : Nat), x]) ∧ ∀ xs, SqX K H k a xs → xs[i]? = some x
  stop := fun i H => ∃ xs : List V, SqX K H k a xs ∧ xs.length = n ∧ n ≤ i
theorem turn_enumX {P : Program} {w : World} {K : PySem.W.Frag} {elts : List Expr} {kk : Nat} {tpos : Pos} (k : Bool) (n : Nat) (a e it : Addr) :
    Turn P w K (.Tuple elts kk tpos) (IteX K k a n) [e, it] e (fun i h => (∃ prev, IsEnum h e it ((i : Nat) : Int) prev) ∧ ItX h k it a i ∧ e ≠ it ∧ e ≠ a ∧ i ≤ n) := by
  have mem1 : e ∈ [e, it] := .head _
  have mem2 : it ∈ [e, it] := .tail _ (.head _)
  have objs : ∀ i h, ((∃ prev, IsEnum h e it ((i : Nat) : Int) prev) ∧ ItX h k it a i ∧ e ≠ it ∧ e ≠ a ∧ i ≤ n) → ∀ b ∈ [e, it], ∃ o, h.get? b = some o ∧ ∀ v, o.data ≠ .cell v := fun i h st =>
    List.forall_mem_cons.mpr ⟨⟨_, st.1.choose_spec, nofun⟩, List.forall_mem_cons.mpr ⟨st.2.1.obj, nofun⟩⟩
  refine { mem := mem1, obj := objs, keep := ?_, item := ?_, done := ?_, self := fun A i s Q E st q => wpAny_pyIter_enum st.1.choose_spec q }
  · rintro i h h' ⟨⟨prev, en⟩, st, rest⟩ keeps
    exact ⟨⟨prev, keeps e mem1 _ en⟩, st.keep (keeps it mem2), rest⟩
  · rintro X rfl rfl rfl calm i pins s σ H E I own all ⟨xs, x, sq, len, hx⟩
    have ⟨⟨prev, en⟩, st, nit, na, le⟩ := all
    obtain ⟨ws, rel, held⟩ := sq.held I
    have size := vals_size rel
    have lt : i < ws.toArray.size := by rw [size]; exact (List.getElem?_eq_some_iff.mp hx).1
    refine wpAny_pyNext_enum_itemD (draws_way I calm st held) en ⟨st, held⟩ lt nit (by simp [nit, na]) fun v h1 tk hv out ⟨st1, _⟩ laid _ keeps => ⟨_, rfl, ?_⟩
    refine wpAny_letOwnedTupleGo_enum (s := { s with heap := h1, toks := tk + 1 }) out fun h2 en2 ⟨_, same⟩ => ?_
    have at2 := (same s.heap.objs.size (Nat.ne_of_gt (Heap.lt_size en))).trans laid
    have kept : ∀ b o, b ∉ [e, it] → s.heap.get? b = some o → h2.get? b = some o := fun b o out q => by
      rw [List.mem_cons, List.mem_singleton, not_or] at out
      exact (same b out.1).trans (keeps b o out.1 out.2 q)
    refine ⟨.ref s.heap.objs.size, _, I.turnedNew (t' := tk + 1) kept own (Nat.le_refl _) (couple_ok (x1 := .int (i : Nat)) at2 ⟨_, rfl⟩ (drawn_is rel hx hv)), rfl, ⟨_, x, rfl, I.hok.fresh (Nat.le_refl _), rfl, fun ys sq2 => by rw [sq2.one I sq]; exact hx⟩, ⟨⟨v, ?_⟩, st1.keep fun o q => (same it (Ne.symm nit)).trans q, nit, na, ?_⟩, untracked own (objs i _ all)⟩
    · rw [Int.natCast_succ]
      exact en2
    · rw [size, len] at lt
      exact lt
  · rintro X rfl rfl rfl calm i pins s σ H E I own ⟨⟨prev, en⟩, st, _, _, le⟩ ⟨xs, sq, len, ended⟩
    obtain ⟨ws, rel, held⟩ := sq.held I
    have at_ : i = ws.toArray.size := by rw [vals_size rel, len]; exact Nat.le_antisymm le ended
    have ⟨z0, z1, z2, z3, z4, z5⟩ := own it mem2
    exact wpAny_pyNext_enum_endD (draws_way I calm st held) en ⟨at_ ▸ st, held⟩ fun h1 but => ⟨rfl, I.turned (t' := s.toks) (fun b o => but b o) z0 z1 z3 z4 z5⟩
def iEnumX (K : PySem.W.Frag) (ta : TA) : TI := fun σ H R => ta σ H fun vs H1 => ∃ k a xs, vs = [.ref a] ∧ SqX K H1 k a xs ∧ R (IteX K k a xs.length) H1
/-- an iterator's own things, all of them new -/
theorem new_fp {X : Cx} {pins : List (Addr × Obj)} {σ : L2.St} {H : Hp} {s : Shared} (I : Inv X pins σ H s) {fp : List Addr} (le : ∀ b ∈ fp, s.heap.objs.size ≤ b) : ∀ b ∈ fp, FpOk X pins H b := fun b hb => I.fpOk (le b hb) (I.hok.fresh (le b hb))
theorem pi_enumX {X : Cx} {e : Expr} {ta : TA} {p pos tpos : Pos} {elts : List Expr} {kk : Nat} (hg : Gl X "enumerate") (hm : X.mg "enumerate" = none) (ha : PA X [e] ta) (hs : starEach [e] X.env = [(false, eval e X.env)] := by rfl) :
    PI X (.Tuple elts kk tpos) (.Call (.Name "enumerate" p) [e] [] pos) (iEnumX X.K ta) := by
  constructor
  intro pins s σ H R I goal
  refine Call_ (ld_blt I hg hm boot_enumerate (PyProof.Rows.callWith_type1 (thn (ha.run pos pins s σ H _ I goal) ?_) hs rfl))
  rintro us s1 ⟨_, G, J, rel, k, a, xs, rfl, sq, q⟩
  match us, rel with
  | [_], .cons rfl .nil =>
    obtain ⟨ws, _, held⟩ := sq.held J
    have keeps : ∀ b o, s1.heap.get? b = some o → (enumHeap s1.heap (obX k a)).get? b = some o := fun b o q => Heap.get?_push_of_some _ (Heap.get?_push_of_some _ q)
    refine enum_call1 (begins_way k a ws.toArray) held (wpAny_pyIter_enum enumHeap_at ⟨s1.heap.objs.size + 1, [s1.heap.objs.size + 1, s1.heap.objs.size], _, _, G, rfl, J.kept (t' := s1.toks) keeps, turn_enumX k xs.length a _ _, ⟨⟨_, enumHeap_at⟩, way0 k (Heap.get?_push_of_some _ (Heap.get?_push_size _ (begins_way k a ws.toArray).free)), Nat.succ_ne_self _, Nat.ne_of_gt (Nat.lt_succ_of_lt held.lt), Nat.zero_le _⟩, ?_, q⟩)
    exact new_fp J (List.forall_mem_cons.mpr ⟨Nat.le_add_right .., List.forall_mem_cons.mpr ⟨Nat.le_refl _, nofun⟩⟩)
end Ev
set_option Elab.async false
set_option linter.all false
set_option maxRecDepth 100000
set_option maxHeartbeats 4000000
namespace Ev
open PySem PySem.Spec PyProof.Rows L2
/-! ### zip of two -/
def ItzX (K : PySem.W.Frag) (k1 k2 : Bool) (a b : Addr) (n1 n2 : Nat) : It where
  go := fun i H => ∃ (xs ys : List V) (x y : V), SqX K H k1 a xs ∧ SqX K H k2 b ys ∧ xs.length = n1 ∧ ys.length = n2 ∧ xs[i]? = some x ∧ ys[i]? = some y
  yld := fun i H v H' => ∃ T x y, v = .ref T ∧ H T = none ∧ H' = upd H T (.tup [x, y]) ∧ (∀ xs, SqX K H k1 a xs → xs[i]? = some x) ∧ ∀ ys, SqX K H k2 b ys → ys[i]? = some y
  stop := fun i H => ∃ xs ys : List V, SqX K H k1 a xs ∧ SqX K H k2 b ys ∧ xs.length = n1 ∧ ys.length = n2 ∧ (n1 ≤ i ∨ n2 ≤ i)
/-- the zip's own things: itself, its two couples, its iterators; no two of them are one, none is a sequence -/
abbrev zipFp (z TI TO i1 i2 : Addr) : List Addr := [z, TI, TO, i1, i2]
structure Zipped (z TI TO i1 i2 a b : Addr) : Prop where
  own : (zipFp z TI TO i1 i2).Nodup
  na : a ∉ zipFp z TI TO i1 i2
  nb : b ∉ zipFp z TI TO i1 i2
theorem Zipped.sep {z TI TO i1 i2 a b : Addr} (D : Zipped z TI TO i1 i2 a b) : ZipSep2 z TI TO i1 i2 [i1, a] [i2, b] := by
  have own := D.own
  have na := D.na
  have nb := D.nb
  simp only [zipFp, List.nodup_cons, List.mem_cons, List.not_mem_nil, or_false, not_or, List.nodup_nil, and_true, not_false_eq_true] at own na nb
  obtain ⟨⟨q1, q2, q3, q4⟩, ⟨q5, q6, q7⟩, ⟨q8, q9⟩, q10⟩ := own
  obtain ⟨n1, n2, n3, n4, n5⟩ := na
  obtain ⟨m1, m2, m3, m4, m5⟩ := nb
  constructor <;> first
    | assumption
    | exact Ne.symm (by assumption)
    | (simp only [List.mem_cons, List.not_mem_nil, or_false, not_or, true_or, or_true, forall_eq_or_imp, forall_eq]; done)
    | (simp only [List.mem_cons, List.not_mem_nil, or_false, not_or, forall_eq_or_imp, forall_eq]; refine ⟨?_, ?_⟩ <;> first | assumption | exact Ne.symm (by assumption) | (refine ⟨?_, ?_⟩ <;> first | assumption | exact Ne.symm (by assumption)))
section
variable {k1 k2 : Bool} {n1 n2 : Nat} {a b z TI TO i1 i2 : Addr}
/-- how the zip stands ahead of turn i -/
def ZipAt (k1 k2 : Bool) (n1 n2 : Nat) (a b z TI TO i1 i2 : Addr) (i : Nat) (h : Heap) : Prop :=
  IsZip h z TI TO .none ∧ IsTupOf2 h TI (.ref i1) (.ref i2) ∧ (∃ x y, IsTupOf2 h TO x y) ∧ ItX h k1 i1 a i ∧ ItX h k2 i2 b i ∧ i ≤ n1 ∧ i ≤ n2
theorem ZipAt.objs {i : Nat} {h : Heap} (st : ZipAt k1 k2 n1 n2 a b z TI TO i1 i2 i h) : ∀ c ∈ zipFp z TI TO i1 i2, ∃ o, h.get? c = some o ∧ ∀ v, o.data ≠ .cell v := by
  obtain ⟨q1, q2, ⟨_, _, q3⟩, q4, q5, _⟩ := st
  exact List.forall_mem_cons.mpr ⟨⟨_, q1, nofun⟩, List.forall_mem_cons.mpr ⟨⟨_, q2, nofun⟩, List.forall_mem_cons.mpr ⟨⟨_, q3, nofun⟩, List.forall_mem_cons.mpr ⟨q4.obj, List.forall_mem_cons.mpr ⟨q5.obj, nofun⟩⟩⟩⟩⟩
theorem ZipAt.keep {i : Nat} {h h' : Heap} (st : ZipAt k1 k2 n1 n2 a b z TI TO i1 i2 i h) (k : ∀ c ∈ zipFp z TI TO i1 i2, ∀ o, h.get? c = some o → h'.get? c = some o) : ZipAt k1 k2 n1 n2 a b z TI TO i1 i2 i h' := by
  obtain ⟨q1, q2, ⟨x, y, q3⟩, q4, q5, rest⟩ := st
  exact ⟨k _ (by simp) _ q1, k _ (by simp) _ q2, ⟨x, y, k _ (by simp) _ q3⟩, q4.keep (k _ (by simp)), q5.keep (k _ (by simp)), rest⟩
/-- all that is no zip's own is kept -/
theorem zip_kept {h1 h2 : Heap} (k : ∀ c o, c ≠ z → c ≠ TO → c ≠ i1 → c ≠ i2 → h1.get? c = some o → h2.get? c = some o) (c : Addr) (o : Obj) (out : c ∉ zipFp z TI TO i1 i2) (e : h1.get? c = some o) : h2.get? c = some o := by
  simp only [List.mem_cons, List.not_mem_nil, or_false, not_or] at out
  exact k c o out.1 out.2.2.1 out.2.2.2.1 out.2.2.2.2 e
theorem turn_zipX {P : Program} {w : World} {K : PySem.W.Frag} {elts : List Expr} {kk : Nat} {tpos : Pos} (D : Zipped z TI TO i1 i2 a b) :
    Turn P w K (.Tuple elts kk tpos) (ItzX K k1 k2 a b n1 n2) (zipFp z TI TO i1 i2) z (ZipAt k1 k2 n1 n2 a b z TI TO i1 i2) := by
  have S := D.sep
  refine { mem := .head _, obj := fun _ _ => ZipAt.objs, keep := fun _ _ _ => ZipAt.keep, item := ?_, done := ?_, self := fun A i s Q E st q => wpAny_pyIter_zip st.1 q }
  · rintro X rfl rfl rfl calm i pins s σ H E I own st ⟨xs, ys, x, y, sq1, sq2, len1, len2, hx, hy⟩
    have ⟨zp, ti, ⟨_, _, to⟩, w1, w2, _, _⟩ := st
    obtain ⟨us, rel1, held1⟩ := sq1.held I
    obtain ⟨vs, rel2, held2⟩ := sq2.held I
    have size1 := vals_size rel1
    have size2 := vals_size rel2
    have lt1 := (List.getElem?_eq_some_iff.mp hx).1
    have lt2 := (List.getElem?_eq_some_iff.mp hy).1
    refine wpAny_pyNext_zipD2_item S (draws_way I calm w1 held1) (draws_way I calm w2 held2) zp ti to ⟨w1, held1⟩ ⟨w2, held2⟩ (by rw [size1]; exact lt1) (by rw [size2]; exact lt2) fun u v h1 tk hu hv zp1 to1 ⟨s1, _⟩ ⟨s2, _⟩ laid _ keeps => ⟨_, rfl, ?_⟩
    refine wpAny_letOwnedTupleGo_zip (s := { s with heap := h1, toks := tk }) zp1 fun h2 zp2 ⟨_, same⟩ => ?_
    have at2 := (same s.heap.objs.size (Nat.ne_of_gt (Heap.lt_size zp))).trans laid
    have kept : ∀ c o, c ∉ zipFp z TI TO i1 i2 → s.heap.get? c = some o → h2.get? c = some o := fun c o out q => (same c (fun eq => out (by rw [eq]; exact .head _))).trans (zip_kept keeps c o out q)
    have zi1 : i1 ≠ z := fun eq => S.zf1 (by rw [eq]; exact .head _)
    have zi2 : i2 ≠ z := fun eq => S.zf2 (by rw [eq]; exact .head _)
    refine ⟨.ref s.heap.objs.size, _, I.turnedNew (t' := tk) kept own (Nat.le_refl _) (couple_ok at2 (drawn_is rel1 hx hu) (drawn_is rel2 hy hv)), rfl, ⟨_, x, y, rfl, I.hok.fresh (Nat.le_refl _), rfl, fun l sq => by rw [sq.one I sq1]; exact hx, fun l sq => by rw [sq.one I sq2]; exact hy⟩, ⟨zp2, (same _ S.TIz).trans (keeps _ _ S.TIz S.TITO S.TIi1 S.TIi2 ti), ⟨u, v, (same _ S.TOz).trans to1⟩, s1.keep fun o q => (same _ zi1).trans q, s2.keep fun o q => (same _ zi2).trans q, by rw [← len1]; exact lt1, by rw [← len2]; exact lt2⟩, untracked own st.objs⟩
  · rintro X rfl rfl rfl calm i pins s σ H E I own ⟨zp, ti, ⟨_, _, to⟩, w1, w2, le1, le2⟩ ⟨xs, ys, sq1, sq2, len1, len2, ended⟩
    obtain ⟨us, rel1, held1⟩ := sq1.held I
    obtain ⟨vs, rel2, held2⟩ := sq2.held I
    have size1 := (vals_size rel1).trans len1
    have size2 := (vals_size rel2).trans len2
    exact wpAny_pyNext_zipD2_end S (draws_way I calm w1 held1) (draws_way I calm w2 held2) zp ti to ⟨w1, held1⟩ ⟨w2, held2⟩ (by rw [size1]; exact le1) (by rw [size2]; exact le2) (by rw [size1, size2]; exact ended.imp (Nat.le_antisymm le1) (Nat.le_antisymm le2)) fun h1 tk keeps => ⟨rfl, I.turnedL (t' := tk) (zip_kept keeps) own⟩
end
def iZipX (K : PySem.W.Frag) (ta : TA) : TI := fun σ H R => ta σ H fun vs H1 => ∃ k1 k2 a b xs ys, vs = [.ref a, .ref b] ∧ SqX K H1 k1 a xs ∧ SqX K H1 k2 b ys ∧ R (ItzX K k1 k2 a b xs.length ys.length) H1
/-- five new things in a row, ahead of what stood before -/
theorem zipped_new {a b n : Nat} (ha : a < n) (hb : b < n) : Zipped (n + 4) (n + 2) (n + 3) n (n + 1) a b := by
  have out : ∀ c : Nat, c < n → c ∉ zipFp (n + 4) (n + 2) (n + 3) n (n + 1) := fun c lt inC => by
    simp only [List.mem_cons, List.not_mem_nil, or_false] at inC
    rcases inC with e | e | e | e | e
    · exact Nat.lt_irrefl _ (Nat.lt_of_lt_of_le (e ▸ lt : n + 4 < n) (Nat.le_add_right ..))
    · exact Nat.lt_irrefl _ (Nat.lt_of_lt_of_le (e ▸ lt : n + 2 < n) (Nat.le_add_right ..))
    · exact Nat.lt_irrefl _ (Nat.lt_of_lt_of_le (e ▸ lt : n + 3 < n) (Nat.le_add_right ..))
    · exact Nat.lt_irrefl _ (e ▸ lt : n < n)
    · exact Nat.lt_irrefl _ (Nat.lt_of_lt_of_le (e ▸ lt : n + 1 < n) (Nat.le_add_right ..))
  refine ⟨?_, out a ha, out b hb⟩
  simp only [zipFp, List.nodup_cons, List.mem_cons, List.not_mem_nil, or_false, not_or, List.nodup_nil, and_true, not_false_eq_true]
  refine ⟨⟨?_, ?_, ?_, ?_⟩, ⟨?_, ?_, ?_⟩, ⟨?_, ?_⟩, ?_⟩ <;> (show (_ : Nat) ≠ (_ : Nat); omega)
theorem pi_zipX {X : Cx} {e e2 : Expr} {ta : TA} {p pos tpos : Pos} {elts : List Expr} {kk : Nat} (hg : Gl X "zip") (hm : X.mg "zip" = none) (ha : PA X [e, e2] ta)
    (hs : starEach [e, e2] X.env = (false, eval e X.env) :: starEach [e2] X.env := by rfl) (hpl : (backTo pos (starEach [e2] X.env)).any (·.1) = false := by rfl) :
    PI X (.Tuple elts kk tpos) (.Call (.Name "zip" p) [e, e2] [] pos) (iZipX X.K ta) := by
  constructor
  intro pins s σ H R I goal
  refine Call_ (ld_blt I hg hm PyProof.Rows.boot_zip (PyProof.Rows.callWith_type1 (thn (ha.run pos pins s σ H _ I goal) ?_) hs hpl))
  rintro us s1 ⟨_, G, J, rel, k1, k2, a, b, xs, ys, rfl, sq1, sq2, q⟩
  match us, rel with
  | [_, _], .cons rfl (.cons rfl .nil) =>
    obtain ⟨us, _, held1⟩ := sq1.held J
    obtain ⟨vs, _, held2⟩ := sq2.held J
    refine zip_begins2 (begins_way k1 a us.toArray) (begins_way k2 b vs.toArray) held1 held2 fun h1 zp ti to b1 b2 _ keeps => wpAny_pyIter_zip zp ⟨_, _, _, _, G, rfl, J.kept (t' := s1.toks) keeps, turn_zipX (zipped_new held1.lt held2.lt), ⟨zp, ti, ⟨_, _, to⟩, way0 k1 b1, way0 k2 b2, Nat.zero_le _, Nat.zero_le _⟩, new_fp J ?_, q⟩
    exact List.forall_mem_cons.mpr ⟨Nat.le_add_right .., List.forall_mem_cons.mpr ⟨Nat.le_add_right .., List.forall_mem_cons.mpr ⟨Nat.le_add_right .., List.forall_mem_cons.mpr ⟨Nat.le_refl _, List.forall_mem_cons.mpr ⟨Nat.le_add_right .., nofun⟩⟩⟩⟩⟩
/-! ### the same as readings -/
def enumD : Nat → List D → List D
  | _, [] => []
  | k, x :: r => .tup [.int (k : Nat), x] :: enumD (k + 1) r
theorem enumD_get : ∀ {xs : List D} {k i : Nat}, (enumD k xs)[i]? = (xs[i]?).map fun x => .tup [.int ((k + i : Nat)), x]
  | [], k, i => by simp [enumD]
  | x :: r, k, 0 => by simp [enumD]
  | x :: r, k, i + 1 => by
    rw [enumD, List.getElem?_cons_succ, List.getElem?_cons_succ, enumD_get, show k + 1 + i = k + (i + 1) from by omega]
theorem enumD_len : ∀ {xs : List D} {k : Nat}, (enumD k xs).length = xs.length
  | [], k => rfl
  | x :: r, k => by rw [enumD, List.length_cons, List.length_cons, enumD_len]
def zipD : List D → List D → List D
  | x :: r, y :: q => .tup [x, y] :: zipD r q
  | _, _ => []
theorem zipD_get : ∀ {xs ys : List D} {i : Nat}, (zipD xs ys)[i]? = (match xs[i]?, ys[i]? with
    | some x, some y => some (.tup [x, y])
    | _, _ => none)
  | [], ys, i => by simp [zipD]
  | x :: r, [], i => by
    simp only [zipD, List.getElem?_nil]
    cases (x :: r)[i]? <;> rfl
  | x :: r, y :: q, 0 => by simp [zipD]
  | x :: r, y :: q, i + 1 => by rw [zipD, List.getElem?_cons_succ, List.getElem?_cons_succ, List.getElem?_cons_succ, zipD_get]
theorem zipD_len : ∀ {xs ys : List D}, (zipD xs ys).length = min xs.length ys.length
  | [], ys => by simp [zipD]
  | x :: r, [] => by simp [zipD]
  | x :: r, y :: q => by rw [zipD, List.length_cons, List.length_cons, List.length_cons, zipD_len]; omega
section
variable {X : Cx} {Γ : Wd} {W : WX} {tg e e2 : Expr} {pos p tpos : Pos}
theorem grow_tup {B H : Hp} {T : Addr} {vs : List V} (s : Same B H) (h : H T = none) : Grow B H (upd B T (.tup vs)) (upd H T (.tup vs)) :=
  ⟨same_upd (s.free h), same_upd h, same_upd2 s, fun p o hp hb => by rw [upd_ne (ne_of_none hp h)]; exact hb⟩
/-- a value that is walked, as it stands in B -/
def SqB (Γ : Wd) (B : Hp) (d : D) (v : V) (xs : List D) : Prop := ∃ k a vs, v = .ref a ∧ SqX Γ.K B k a vs ∧ Reps Γ B xs vs
theorem SqX.mono {K : PySem.W.Frag} {B B' : Hp} {k : Bool} {a : Addr} {vs : List V} (s : Same B B') (h : SqX K B k a vs) : SqX K B' k a vs := by
  cases k with
  | true => exact s.seq h
  | false => exact sqT_mono s h
theorem Rep.sqx {B : Hp} {d : D} {v : V} {xs : List D} (h : Rep Γ B d v) (e : d.its = some xs) : ∃ k a vs, v = .ref a ∧ SqX Γ.K B k a vs ∧ Reps Γ B xs vs := by
  cases d with
  | tup ys =>
    cases e
    obtain ⟨a, vs, h1, h2, h3⟩ := h
    exact ⟨false, a, vs, h1, h2, h3⟩
  | lst ys =>
    cases e
    obtain ⟨a, vs, h1, h2, h3⟩ := h
    exact ⟨true, a, vs, h1, .inl (.inl h2), h3⟩
  | fl ys =>
    cases e
    obtain ⟨a, vs, h1, h2, h3⟩ := h
    exact ⟨true, a, vs, h1, h2, h3⟩
  | _ => cases e
theorem walks_enumX {k : Bool} {a : Addr} {items : List D} {B : Hp} {vs : List V} (h : SqX Γ.K B k a vs) (r : Reps Γ B items vs) : Walks Γ (IteX Γ.K k a vs.length) (enumD 0 items) B := fun i B2 H2 k1 k2 => by
  have hq : SqX Γ.K H2 k a vs := (h.mono k1).mono k2
  refine ⟨fun d hd => ?_, fun hl => ⟨vs, hq, rfl, by rw [enumD_len, r.length] at hl; exact hl⟩⟩
  rw [enumD_get] at hd
  cases hx : items[i]? with
  | none => rw [hx] at hd; cases hd
  | some d0 =>
    rw [hx] at hd
    have hd' : D.tup [.int ((0 + i : Nat)), d0] = d := Option.some.inj hd
    subst hd'
    obtain ⟨v, hv, rv⟩ := r.get hx
    refine ⟨⟨vs, v, hq, rfl, hv⟩, fun x H3 y => ?_⟩
    obtain ⟨T, u, e1, e2, e3, e4⟩ := y
    subst e1 e3
    have e5 : v = u := Option.some.inj (hv.symm.trans (e4 vs hq))
    subst e5
    refine ⟨_, grow_tup k2 e2, T, _, rfl, .inl (.inl upd_same), ?_⟩
    refine ⟨.int (i : Nat), [v], rfl, ?_, v, [], rfl, Rep.mono (k1.trans (same_upd (k2.free e2))) d0 v rv, rfl⟩
    show V.int (i : Nat) = V.int ((0 + i : Nat))
    rw [Nat.zero_add]
theorem walks_zipX {ka kb : Bool} {a b : Addr} {xs ys : List D} {B : Hp} {vs ws : List V} (h : SqX Γ.K B ka a vs) (r : Reps Γ B xs vs) (h' : SqX Γ.K B kb b ws) (r' : Reps Γ B ys ws) : Walks Γ (ItzX Γ.K ka kb a b vs.length ws.length) (zipD xs ys) B := fun i B2 H2 k1 k2 => by
  have hq : SqX Γ.K H2 ka a vs := (h.mono k1).mono k2
  have hq' : SqX Γ.K H2 kb b ws := (h'.mono k1).mono k2
  refine ⟨fun d hd => ?_, fun hl => ⟨vs, ws, hq, hq', rfl, rfl, by rw [zipD_len, r.length, r'.length] at hl; omega⟩⟩
  rw [zipD_get] at hd
  cases hx : xs[i]? with
  | none => rw [hx] at hd; cases hd
  | some d0 =>
    cases hy : ys[i]? with
    | none => rw [hx, hy] at hd; cases hd
    | some d1 =>
      rw [hx, hy] at hd
      have hd' : D.tup [d0, d1] = d := Option.some.inj hd
      subst hd'
      obtain ⟨v, hv, rv⟩ := r.get hx
      obtain ⟨v', hv', rv'⟩ := r'.get hy
      refine ⟨⟨vs, ws, v, v', hq, hq', rfl, rfl, hv, hv'⟩, fun x H3 y => ?_⟩
      obtain ⟨T, u, u', e1, e2, e3, e4, e5⟩ := y
      subst e1 e3
      have e6 : v = u := Option.some.inj (hv.symm.trans (e4 vs hq))
      have e7 : v' = u' := Option.some.inj (hv'.symm.trans (e5 ws hq'))
      subst e6 e7
      have up := k1.trans (same_upd (o := .tup [v, v']) (k2.free e2))
      exact ⟨_, grow_tup k2 e2, T, _, rfl, .inl (.inl upd_same), v, [v'], rfl, Rep.mono up d0 v rv, v', [], rfl, Rep.mono up d1 v' rv', rfl⟩
def dEnum (f : DenVs) : DenI := fun env => (f env).bind fun ds e => match ds with
  | [d] => (match d.its with
    | some xs => .ok (enumD 0 xs) e
    | none => .bad)
  | _ => .bad
def dZip (f : DenVs) : DenI := fun env => (f env).bind fun ds e => match ds with
  | [d, d2] => (match d.its, d2.its with
    | some xs, some ys => .ok (zipD xs ys) e
    | _, _ => .bad)
  | _ => .bad
theorem sEnum {elts : List Expr} {kk : Nat} {f : DenVs} (hK : X.K = Γ.K) (hg : Gl X "enumerate") (hm : X.mg "enumerate" = none) (h : SVs X Γ W [e] f) (hs : starEach [e] X.env = [(false, eval e X.env)] := by rfl) :
    SI X Γ W (.Tuple elts kk tpos) (.Call (.Name "enumerate" p) [e] [] pos) (dEnum f) := imI (pi_enumX hg hm h hs) fun σ H R ⟨env, B, s, pp⟩ => by
  refine ⟨env, B, s, pp.bind.mono fun ds e1 B1 H1 s1 x1 q1 vs hvs => ?_⟩
  cases ds with
  | nil => exact q1.elim
  | cons d r =>
    cases r with
    | cons _ _ => exact q1.elim
    | nil =>
      obtain ⟨v, r, rfl, hv, hr⟩ := hvs
      cases hr
      cases hi : d.its with
      | none =>
        have q2 : Post Γ W e1 σ B1 H1 (fun items _ B' H' => ∀ J, Walks Γ J items B' → R J H') (match d.its with | some xs => .ok (enumD 0 xs) e1 | none => .bad) := q1
        rw [hi] at q2
        exact q2.elim
      | some xs =>
        have q2 : Post Γ W e1 σ B1 H1 (fun items _ B' H' => ∀ J, Walks Γ J items B' → R J H') (match d.its with | some xs => .ok (enumD 0 xs) e1 | none => .bad) := q1
        rw [hi] at q2
        obtain ⟨k, a, ws, rfl, h1, h2⟩ := Rep.sqx hv hi
        refine ⟨k, a, ws, rfl, by rw [hK]; exact h1.mono s1.same, ?_⟩
        rw [hK]
        exact Post.here s1 q2 _ (walks_enumX h1 h2)
theorem sZip {elts : List Expr} {kk : Nat} {f : DenVs} (hK : X.K = Γ.K) (hg : Gl X "zip") (hm : X.mg "zip" = none) (h : SVs X Γ W [e, e2] f) (hs : starEach [e, e2] X.env = (false, eval e X.env) :: starEach [e2] X.env := by rfl) (hpl : (backTo pos (starEach [e2] X.env)).any (·.1) = false := by rfl) :
    SI X Γ W (.Tuple elts kk tpos) (.Call (.Name "zip" p) [e, e2] [] pos) (dZip f) := imI (pi_zipX hg hm h hs hpl) fun σ H R ⟨env, B, s, pp⟩ => by
  refine ⟨env, B, s, pp.bind.mono fun ds e1 B1 H1 s1 x1 q1 vs hvs => ?_⟩
  rcases ds with _ | ⟨d, _ | ⟨d2, _ | ⟨_, _⟩⟩⟩
  · exact q1.elim
  · exact q1.elim
  · obtain ⟨v, r, rfl, hv, v2, r2, rfl, hv2, hr⟩ := hvs
    cases hr
    have q2 : Post Γ W e1 σ B1 H1 (fun items _ B' H' => ∀ J, Walks Γ J items B' → R J H') (match d.its, d2.its with
      | some xs, some ys => .ok (zipD xs ys) e1
      | _, _ => .bad) := q1
    cases hi : d.its with
    | none => rw [hi] at q2; exact q2.elim
    | some xs =>
      cases hj : d2.its with
      | none => rw [hi, hj] at q2; exact q2.elim
      | some ys =>
        rw [hi, hj] at q2
        obtain ⟨k, a, ws, rfl, h1, h2⟩ := Rep.sqx hv hi
        obtain ⟨k', a', ws', rfl, h1', h2'⟩ := Rep.sqx hv2 hj
        refine ⟨k, k', a, a', ws, ws', rfl, by rw [hK]; exact h1.mono s1.same, by rw [hK]; exact h1'.mono s1.same, ?_⟩
        rw [hK]
        exact Post.here s1 q2 _ (walks_zipX h1 h2 h1' h2')
  · exact q1.elim
end
end Ev
set_option Elab.async false
set_option linter.all false
set_option maxRecDepth 100000
set_option maxHeartbeats 4000000
namespace Ev
open PySem PySem.Spec PyProof.Rows L2
/-! ### defs as values, called by a local name -/
section
variable {X : Cx} {Γ : Wd} {W : WX} {e : Expr} {es : List Expr} {pos p : Pos} {x : Str} {fs : DenA}
theorem sFn {f : Addr} (hm' : X.mg = Γ.mg) (hm : X.mg x = some (.ref f)) (hg : Gl X x) (hd : (x == ("__debug__" : Str)) = false := by decide) : SV X Γ W (.Name x pos) (dC (.fn x)) :=
  sC (pe_glob (v := .ref f) hg hm rfl hd) fun _ => ⟨f, rfl, by rw [← hm']; exact hm⟩
/-- a def by its name: what it does -/
def HeldE (P : Program) (w : World) (K : PySem.W.Frag) (mg : Str → Option Value) (base : Heap) (m : Nat) (x : Str) (g : Fn) : Prop :=
  ∃ (f : Addr) (fd : FuncData) (ps : List Str) (np k : Nat), k ≤ m ∧ mg x = some (.ref f) ∧ PySem.W.keepIn K (.ref f) = true ∧ Binds K fd ps [] ∧ FnOkG P w K mg base (L2.CX P w) k f fd ps (spOf K mg [] np g) ∧ ∀ args, args.length ≠ np → g args = .bad
def tCallLE (i : Nat) (f : Addr) (sp : Sp) (E : L2.St → XK) (t : TA) : TE := fun σ H Q => σ[i]? = some (some (.ref f)) ∧ tCallSD sp [] E t σ H Q
theorem pe_callLE {i k : Nat} {f : Addr} {fd : FuncData} {ps : List Str} {sp : Sp} {CX : CXT} {E : L2.St → XK} {t : TA} (F : FnOkG X.prog X.w X.K X.mg X.base CX k f fd ps sp) (hr : RoomG k X.A) (hN : X.N[i]? = some x) (hv : Vis X.env.scope x) (hk : PySem.W.keepIn X.K (.ref f) = true) (hb : Binds X.K fd ps []) (hx : ∀ σ, PassesAt CX X σ (E σ)) (ha : PA X (e :: es) t)
    (hdb : (x == ("__debug__" : Str)) = false) (hcd : (x == ("__classdict__" : Str)) = false)
    (he : starEach (e :: es) X.env = (false, eval e X.env) :: starEach es X.env) (hpl : (backTo pos (starEach es X.env)).any (·.1) = false) : PE X (.Call (.Name x p) (e :: es) [] pos) (tCallLE i f sp E t) := by
  constructor
  rintro pins s σ H Q I ⟨slot, goal⟩
  have name := (pe_var (pos := p) hN hv hdb hcd).run pins s σ H (fun v G => v = .ref f ∧ G = H) I ⟨_, slot, rfl, rfl⟩
  refine wpAny_Call_Name_kw (thn name ?_)
  rintro _ s1 ⟨_, _, J, rel, rfl, rfl⟩
  cases rel
  have given := ha.run pos pins s1 σ _ _ J goal
  exact PySem.W.callWith_K (h₀ := X.base) I.ok.mod.kin hk (thn given fun us s2 ⟨vs, G, J2, rs, q⟩ => ⟨J2.kIn, run_fnSG F hr hb .nil (hx σ) J2 rs q⟩) he hpl
def dCallV (tab : List (Str × Fn)) (i : Nat) (fs : DenA) : DenF := fun env => match env[i]? with
  | some (.val (.fn x)) => (match tab.lookup x with
    | some g => dCall g [] fs env
    | none => .bad)
  | _ => .bad
theorem lookup_mem {tab : List (Str × Fn)} {y : Str} {g : Fn} (h : tab.lookup y = some g) : (y, g) ∈ tab := by
  induction tab with
  | nil => cases h
  | cons q r ih =>
    obtain ⟨z, g'⟩ := q
    rw [List.lookup_cons] at h
    split at h
    · rename_i hz
      have hz' : y = z := by simpa using hz
      cases h
      rw [hz']
      exact List.mem_cons_self ..
    · exact List.mem_cons_of_mem _ (ih h)
theorem sCallV {tab : List (Str × Fn)} {i m : Nat} (hK : X.K = Γ.K) (hm' : X.mg = Γ.mg) (A : ∀ y g, (y, g) ∈ tab → HeldE X.prog X.w X.K X.mg X.base m y g) (hr : RoomG m X.A) (hN : X.N[i]? = some x) (hv : Vis X.env.scope x) (tk : Takes X W)
    (ha : SA X Γ W (e :: es) fs) (hdb : (x == ("__debug__" : Str)) = false := by decide) (hcd : (x == ("__classdict__" : Str)) = false := by decide)
    (he : starEach (e :: es) X.env = (false, eval e X.env) :: starEach es X.env := by rfl) (hpl : (backTo pos (starEach es X.env)).any (·.1) = false := by rfl) :
    SF X Γ W (.Call (.Name x p) (e :: es) [] pos) (dCallV tab i fs) := ⟨fun pins s σ H Q I h => by
  obtain ⟨env, B, so, pp⟩ := h
  have pp' : Post Γ W env σ B H (fun r env' B' H' => ∀ v, RetOk Γ (FreeR Γ env σ H) env' σ B' H' r v → Q v H') (match env[i]? with
    | some (.val (.fn x)) => (match tab.lookup x with
      | some g => dCall g [] fs env
      | none => .bad)
    | _ => .bad) := pp
  cases hi : env[i]? with
  | none => rw [hi] at pp'; exact pp'.elim
  | some en =>
    rw [hi] at pp'
    cases en with
    | val d =>
      cases d with
      | fn y =>
        have pp2 : Post Γ W env σ B H (fun r env' B' H' => ∀ v, RetOk Γ (FreeR Γ env σ H) env' σ B' H' r v → Q v H') (match tab.lookup y with
          | some g => dCall g [] fs env
          | none => .bad) := pp'
        cases hl : tab.lookup y with
        | none => rw [hl] at pp2; exact pp2.elim
        | some g =>
          rw [hl] at pp2
          obtain ⟨f, fd, ps, np, k, hkm, hm, hk, hb, F, ga⟩ := A y g (lookup_mem hl)
          obtain ⟨o, ho, v, ev, f', ef, hf'⟩ := so.slot hi
          have e1 : f' = f := by
            rw [← hm', hm] at hf'
            cases hf'
            rfl
          subst e1 ev ef
          refine (pe_callLE (i := i) F (hr.mono hkm) hN hv hk hb (fun σ => passAt tk σ) ha hdb hcd he hpl).run pins s σ H Q I ⟨ho, ?_⟩
          exact tCall_of (dvs := []) (dfl := []) hK hm' (fun _ => rfl) ga ⟨env, B, so, pp2⟩
      | _ => exact pp'.elim
    | _ => exact pp'.elim⟩
end
end Ev
set_option Elab.async false
set_option linter.all false
set_option maxRecDepth 100000
set_option maxHeartbeats 4000000
namespace Ev
open PySem PySem.Spec PyProof.Rows L2
/-! ### repr of data -/
mutual
/-- what repr's text may come to -/
def rcost : D → Nat
  | .int _ => 2000
  | .str s => 10 * s.length + 10
  | .tup xs => rcosts xs + 10
  | .lst xs => rcosts xs + 10
  | .fl xs => rcosts xs + 10
  | _ => 10
def rcosts : List D → Nat
  | [] => 0
  | d :: ds => rcost d + 2 + rcosts ds
end
mutual
def rok : D → Bool
  | .int i => decide (i.natAbs.log2 < 1900)
  | .str s => PyData.strOk s
  | .tup xs => roks xs
  | .lst xs => roks xs
  | .fl xs => roks xs
  | .non => true
  | .bl _ => true
  | _ => false
def roks : List D → Bool
  | [] => true
  | d :: ds => rok d && roks ds
end
theorem log2_lt_pow {n k : Nat} (h : n.log2 < k) (hk : 0 < k) : n < 2 ^ k := by
  by_cases z : n = 0
  · rw [z]; exact Nat.two_pow_pos k
  · exact (Nat.log2_lt z).mp h
theorem int_text {i : Int} (h : i.natAbs.log2 < 1900) : (PyData.int i).shown.length ≤ 2000 := by
  have e := int_text_length_le (k := 1900) (by decide) h
  have e2 : (PyData.int i).shown = Str.ofString (toString i) := by simp only [PyData.shown]
  rw [e2, PySem.ofString_length]
  omega
theorem str_text {s : Str} (h : PyData.strOk s = true) : (PyData.str s).shown.length ≤ 10 * s.length + 10 := by
  have e2 : (PyData.str s).shown = reprText s := by simp only [PyData.shown]
  rw [e2]
  have := StrLaws.reprText_len s fun c hc => by
    have z := Array.all_eq_true'.mp h c (Array.mem_def.mpr hc)
    have : c < 0x110000 := of_decide_eq_true z
    exact Nat.lt_of_lt_of_le this (by decide)
  omega
mutual
theorem shown_cost : ∀ d : D, rok d = true → d.py.shown.length ≤ rcost d
  | .non, _ => by simp only [D.py, PyData.shown, rcost]; decide +kernel
  | .bl b, _ => by cases b <;> (simp only [D.py, PyData.shown, rcost]; decide +kernel)
  | .int i, h => int_text (of_decide_eq_true h)
  | .str s, h => str_text h
  | .tup xs, h => by
    have q := shown_costs xs h
    have e := tupleText_len_le (PyData.shownAll (pys xs))
    simp only [D.py, PyData.shown, rcost]
    rw [PyData.shownAll_length, ] at e
    omega
  | .lst xs, h => by
    have q := shown_costs xs h
    have e := listText_len_le (PyData.shownAll (pys xs))
    simp only [D.py, PyData.shown, rcost]
    rw [PyData.shownAll_length] at e
    omega
  | .fl xs, h => by
    have q := shown_costs xs h
    have e := listText_len_le (PyData.shownAll (pys xs))
    simp only [D.py, PyData.shown, rcost]
    rw [PyData.shownAll_length] at e
    omega
  | .ins _ _ _, h => by cases h
  | .fn _, h => by cases h
theorem shown_costs : ∀ ds : List D, roks ds = true → ((PyData.shownAll (pys ds)).map (·.length)).sum + 2 * (pys ds).length ≤ rcosts ds
  | [], _ => by simp [pys, PyData.shownAll, rcosts]
  | d :: ds, h => by
    obtain ⟨h1, h2⟩ := Bool.and_eq_true_iff.mp (show (rok d && roks ds) = true from h)
    have q1 := shown_cost d h1
    have q2 := shown_costs ds h2
    simp only [pys, PyData.shownAll, rcosts, List.map_cons, List.sum_cons, List.length_cons]
    omega
end
mutual
theorem shown_able : ∀ d : D, rok d = true → d.py.showable = true
  | .non, _ => by simp only [D.py, PyData.showable]
  | .bl b, _ => by simp only [D.py, PyData.showable]
  | .int i, h => by
    have := of_decide_eq_true (show decide (i.natAbs.log2 < 1900) = true from h)
    simp only [D.py, PyData.showable, decide_eq_true_eq]
    omega
  | .str s, h => by simp only [D.py, PyData.showable]
  | .tup xs, h => by simpa only [D.py, PyData.showable] using shown_ables xs h
  | .lst xs, h => by simpa only [D.py, PyData.showable] using shown_ables xs h
  | .fl xs, h => by simpa only [D.py, PyData.showable] using shown_ables xs h
  | .ins _ _ _, h => by cases h
  | .fn _, h => by cases h
theorem shown_ables : ∀ ds : List D, roks ds = true → PyData.showableAll (pys ds) = true
  | [], _ => by simp only [pys, PyData.showableAll]
  | d :: ds, h => by
    obtain ⟨h1, h2⟩ := Bool.and_eq_true_iff.mp (show (rok d && roks ds) = true from h)
    simp only [pys, PyData.showableAll, shown_able d h1, shown_ables ds h2, Bool.and_self]
end
def gRepr : List D → Option Ent
  | [d] => if shp 64 d = true ∧ rok d = true ∧ rcost d ≤ 1000000 then some (.val (.str d.py.shown)) else none
  | _ => none
def rRepr (K : PySem.W.Frag) : List V → Hp → VK → Prop := fun xs H Q => ∃ v d, xs = [v] ∧ Dp K H v d ∧ d.showable = true ∧ d.canLay0 = true ∧ d.depth ≤ 64 ∧ d.shown.length ≤ sizeLine ∧ Q (.str d.shown) H
theorem bt_repr : bootBuiltins "repr" = some (.builtin "repr") := by decide +kernel
section
variable {X : Cx} {Γ : Wd} {W : WX}
theorem call_reprD {k : Nat} (hr : RoomG k X.A) : CallR X (.builtin "repr") (rRepr X.K) := by
  intro pins s σ H xs us Q I r h
  obtain ⟨v, d, rfl, hd, h1, h2, h3, h4, q⟩ := h
  cases r with
  | cons rv rn =>
    rename_i u _
    cases rn
    obtain ⟨as, rd⟩ := Dp.reads I d v u hd rv
    have hu := hr.room.un
    have hsm : d.hasDict = true → sysModules ∉ as := PyData.noDict_hsm (PyData.hasDict_of_canLay d h2)
    have fin : ∀ (h' : Heap) (t tk : Tok), (∀ b o, s.heap.get? b = some o → h'.get? b = some o) → EP X pins σ Q (.str d.shown t) { s with heap := h', toks := tk } := fun h' t tk kp => ⟨.str d.shown, H, I.kept (t' := tk) kp, ⟨t, rfl⟩, q⟩
    cases rd with
    | none =>
      have e : (PyData.none).shown = ("None" : Str) := by simp only [PyData.shown]
      rw [e] at fin
      exact PySem.P.repr_of_none (fin s.heap _ _ fun _ _ z => z)
    | bool b =>
      have e : (PyData.bool b).shown = (if b then "True" else "False" : Str) := by simp only [PyData.shown]
      rw [e] at fin
      exact PySem.P.repr_of_bool (fin s.heap _ _ fun _ _ z => z)
    | int i t =>
      have e : (PyData.int i).shown = (toString i : String) := by simp only [PyData.shown]
      rw [e] at fin
      exact PySem.P.repr_of_int (by simpa only [PyData.showable, decide_eq_true_eq] using h1) (fin s.heap _ _ fun _ _ z => z)
    | str x t =>
      have e : (PyData.str x).shown = reprText x := by simp only [PyData.shown]
      rw [e] at fin h4
      exact PySem.P.repr_of_str (fin s.heap _ _ fun _ _ z => z) h4
    | list a1 a2 a3 a4 => exact repr_of_reads' (.list a1 a2 a3 a4) h1 hsm hr.gd (by omega) (fun _ _ z => z) (fun h' t tk kp => fin h' t tk kp) h4
    | tuple a1 a2 a3 a4 => exact repr_of_reads' (.tuple a1 a2 a3 a4) h1 hsm hr.gd (by omega) (fun _ _ z => z) (fun h' t tk kp => fin h' t tk kp) h4
    | dict a1 a2 a3 a4 a5 => exact repr_of_reads' (.dict a1 a2 a3 a4 a5) h1 hsm hr.gd (by omega) (fun _ _ z => z) (fun h' t tk kp => fin h' t tk kp) h4
theorem sv_repr : ServesN Γ W (rRepr Γ.K) gRepr := by
  intro ds ent env σ B H P0 vs Q hg s hx h0 p
  rcases ds with _ | ⟨d, _ | ⟨_, _⟩⟩
  · cases hg
  · obtain ⟨v, rfl, k⟩ := hx.one
    have hg' : (if shp 64 d = true ∧ rok d = true ∧ rcost d ≤ 1000000 then some (Ent.val (.str d.py.shown)) else none) = some ent := hg
    split at hg'
    · rename_i hc
      cases hg'
      obtain ⟨c1, c2⟩ := shp_ok 64 d hc.1
      exact ⟨v, d.py, rfl, k.dp s.same hc.1, shown_able d hc.2.1, c1, c2, LN_le (Nat.le_trans (shown_cost d hc.2.1) hc.2.2), Post.val s p rfl⟩
    · cases hg'
  · cases hg
/-! ### == and != of texts -/
def gEqS : D → D → Option Ent
  | .str a, .str b => vb (decide (a = b))
  | _, _ => none
def gNeS : D → D → Option Ent
  | .str a, .str b => vb (!decide (a = b))
  | _, _ => none
theorem sv_eqS : Serves Γ W rEq gEqS := by
  intro x y ent env σ B H P0 v w Q hg s hx hy h0 p
  cases x with
  | str a => cases y with
    | str b =>
      cases hg
      rw [hx.str, hy.str]
      have z : decide (V.str a = V.str b) = decide (a = b) := by
        by_cases q : a = b
        · simp [q]
        · simp [q]
      refine ⟨rfl, ?_⟩
      rw [z]
      exact Post.val s p rfl
    | _ => cases hg
  | _ => cases hg
theorem sv_neS : Serves Γ W rNe gNeS := by
  intro x y ent env σ B H P0 v w Q hg s hx hy h0 p
  cases x with
  | str a => cases y with
    | str b =>
      cases hg
      rw [hx.str, hy.str]
      have z : decide (V.str a = V.str b) = decide (a = b) := by
        by_cases q : a = b
        · simp [q]
        · simp [q]
      refine ⟨rfl, ?_⟩
      rw [z]
      exact Post.val s p rfl
    | _ => cases hg
  | _ => cases hg
end
end Ev

set_option Elab.async false
set_option linter.all false
set_option maxRecDepth 100000
set_option maxHeartbeats 4000000
namespace Ev
open PySem PySem.Spec PyProof.Rows L2
/-! ### a, b, c = x, y, z -/
section
variable {X : Cx} {Γ : Wd} {W : WX} {a b c e : Expr} {pos : Pos}
def dPar3 (i j l : Nat) (fs : DenVs) : DenS := fun env => (fs env).bind fun ds e => match ds with
  | [a, b, c] => .ok .nx (((e.set i (.val a)).set j (.val b)).set l (.val c))
  | _ => .bad
theorem sPar3 {i j l : Nat} {x y z : Str} {fs : DenVs} {px py pz pt : Pos} {kt k2 : Nat} {pt2 : Pos} (hi0 : i ∉ Γ.R) (hj0 : j ∉ Γ.R) (hl0 : l ∉ Γ.R) (hc : X.calm = true) (hN : X.N.Nodup) (hi : X.N[i]? = some x) (hj : X.N[j]? = some y) (hl : X.N[l]? = some z) (hij : i ≠ j) (hil : i ≠ l) (hjl : j ≠ l)
    (hx : X.env.scope.names.lookup x = some .local) (hy : X.env.scope.names.lookup y = some .local) (hz : X.env.scope.names.lookup z = some .local) (ha : SVs X Γ W [a, b, c] fs)
    (hw : swappedStores [.Tuple [.Name x px, .Name y py, .Name z pz] kt pt] (.Tuple [a, b, c] k2 pt2) X.env = pure (some [x, y, z]) := by rfl)
    (hs : swapsWithSole [.Tuple [.Name x px, .Name y py, .Name z pz] kt pt] (.Tuple [a, b, c] k2 pt2) pos.line X.env = pure false := by rfl) :
    SS X Γ W (.Assign [.Tuple [.Name x px, .Name y py, .Name z pz] kt pt] (.Tuple [a, b, c] k2 pt2) pos) (dPar3 i j l fs) :=
  imS (ps_par3 hc hN hi hj hl hij hil hjl hx hy hz ha hw hs) fun Q σ H ⟨env, B, s, p⟩ => by
    refine ⟨env, B, s, p.bind.mono fun ds e1 B1 H1 s1 x1 q1 vs hv => ?_⟩
    obtain ⟨ext, q⟩ := q1
    match ds, q, hv with
    | [d1, d2, d3], q, hv =>
      obtain ⟨v1, r1, f1, g1, v2, r2, f2, g2, v3, r3, f3, g3, k3⟩ := hv
      have k3' : r3 = [] := k3
      exact ⟨v1, v2, v3, by rw [f1, f2, f3, k3'], q _ _ _ (((s1.setV g1).setV g2).setV g3) (((ext.setV hi0).setV hj0).setV hl0)⟩
end
/-! ### e[::-1], e[:0:-1] -/
theorem rng_rev {n m : Nat} (h : m ≤ n) : (List.range m).map (fun k => n - 1 - k) = ((List.range n).drop (n - m)).reverse := by
  apply List.ext_getElem
  · simp; omega
  · intro i h1 h2
    simp at h1 h2 ⊢
    omega
theorem sliceRange_dn {n m : Nat} (h : m ≤ n) : sliceRange ((n : Int) - 1) ((n : Int) - 1 - m) (-1) = (List.range m).map fun k => n - 1 - k := by
  rcases m with _ | m
  · simp [sliceRange]
  · have count : (((n : Int) - 1 - ((n : Int) - 1 - ((m + 1 : Nat) : Int)) - -1 - 1) / (- -1)).toNat = m + 1 := by
      rw [Int.neg_neg, Int.ediv_one]
      omega
    rw [sliceRange, if_neg (by decide), if_pos (by omega), count]
    exact List.map_congr_left fun k hk => by
      have := List.mem_range.mp hk
      omega
theorem fm_congr {α β : Type} {f g : α → Option β} : ∀ {l : List α}, (∀ a ∈ l, f a = g a) → l.filterMap f = l.filterMap g
  | [], _ => rfl
  | a :: l, h => by
    rw [List.filterMap_cons, List.filterMap_cons, h a (List.mem_cons_self ..), fm_congr fun b hb => h b (List.mem_cons_of_mem _ hb)]
theorem pick_all {α : Type} (xs : List α) (d : Nat) : ((List.range xs.length).drop d).filterMap (xs[·]?) = xs.drop d := by
  induction d generalizing xs with
  | zero =>
    rw [List.drop_zero, List.drop_zero]
    induction xs with
    | nil => rfl
    | cons x xs ih =>
      rw [List.length_cons, List.range_succ_eq_map, List.filterMap_cons, List.filterMap_map]
      simp only [List.getElem?_cons_zero]
      congr 1
  | succ d ih =>
    cases xs with
    | nil => rfl
    | cons x xs =>
      rw [List.length_cons, List.range_succ_eq_map, List.drop_succ_cons, List.drop_succ_cons, ← List.map_drop, List.filterMap_map]
      exact ih xs
theorem pick_dn (its : List Value) (hi : Option Int) (h : hi = none ∨ hi = some 0) : slicePick its.toArray none hi (some (-1)) = ((its.drop (if hi = none then 0 else 1)).reverse).toArray := by
  have key : ∀ (m : Nat), m ≤ its.length → ((sliceRange ((its.length : Int) - 1) ((its.length : Int) - 1 - m) (-1)).filterMap (its.toArray[·]?)) = (its.drop (its.length - m)).reverse := fun m hm => by
    rw [sliceRange_dn hm, rng_rev hm, List.filterMap_reverse]
    congr 1
    have e : (fun x : Nat => its.toArray[x]?) = fun x : Nat => its[x]? := by
      funext x
      rw [List.getElem?_toArray]
    rw [e]
    exact pick_all its _
  unfold slicePick
  rcases h with rfl | rfl
  · have e1 : sliceBounds none none (some (-1)) its.toArray.size = ((its.length : Int) - 1, (its.length : Int) - 1 - its.length, -1) := by
      simp only [sliceBounds, List.size_toArray]
      simp
      omega
    rw [e1]
    show ((sliceRange ((its.length : Int) - 1) ((its.length : Int) - 1 - its.length) (-1)).filterMap (its.toArray[·]?)).toArray = _
    rw [key its.length (Nat.le_refl _)]
    simp
  · cases its with
    | nil =>
      show ((sliceRange _ _ _).filterMap (fun x => ([] : List Value).toArray[x]?)).toArray = _
      rw [if_neg (by simp)]
      congr 1
    | cons v r =>
      have e1 : sliceBounds none (some 0) (some (-1)) (v :: r).toArray.size = (((v :: r).length : Int) - 1, ((v :: r).length : Int) - 1 - r.length, -1) := by
        simp only [sliceBounds, List.size_toArray, List.length_cons]
        simp
        omega
      rw [e1]
      show ((sliceRange (((v :: r).length : Int) - 1) (((v :: r).length : Int) - 1 - r.length) (-1)).filterMap ((v :: r).toArray[·]?)).toArray = _
      rw [key r.length (by simp)]
      rw [if_neg (by simp), List.length_cons, show r.length + 1 - r.length = 1 from by omega]
section
variable {prog : Program} {w : World} {A : Around} {E : Value → Shared → Prop} {s : Shared}
def dnCount (n : Nat) (hi : Option Int) : Nat := if hi = none then n else n - 1
theorem adjust_dn (hi : Option Int) (n : Nat) (h : hi = none ∨ hi = some 0) : Builtin.Slice.sliceAdjust none hi (-1) (n : Int) = ((n : Int) - 1, (n : Int) - 1 - (dnCount n hi : Nat)) := by
  unfold Builtin.Slice.sliceAdjust dnCount
  rcases h with rfl | rfl
  · simp
    omega
  · simp
    omega
theorem places_dn (n : Nat) (hi : Option Int) (h : hi = none ∨ hi = some 0) : Builtin.Slice.slicePlaces ((n : Int) - 1) ((n : Int) - 1 - (dnCount n hi : Nat)) (-1) = dnCount n hi := by
  unfold Builtin.Slice.slicePlaces
  have h1 : ¬ ((-1 : Int) > 0) := by omega
  rw [if_neg h1, show (- -1 : Int) = 1 by decide, Int.ediv_one]
  split <;> omega
/-- a slice's three parts, read -/
theorem applied_dn {sl : Addr} {n : Nat} {vl vu vs : Value} {hi : Option Int} {Q : Int × Int × Nat → Shared → Prop} (hh : hi = none ∨ hi = some 0) (hs : s.heap.IsSliceOf sl vl vu vs) (pl : IsPart vl none) (pu : IsPart vu hi) (ps : IsPart vs (some (-1))) (q : Q ((n : Int) - 1, -1, dnCount n hi) s) :
    wpAny (model prog w) A (Builtin.Slice.sliceApplied (.ref sl) (pure (n : Int))) Q E s := by
  have ⟨_, there, _, dat⟩ := id hs
  have tail : wpAny (model prog w) A (match Builtin.Slice.sliceAdjust none hi (-1) (n : Int) with | (lo, hi) => pure (lo, (-1 : Int), Builtin.Slice.slicePlaces lo hi (-1))) Q E s := by
    rw [adjust_dn hi _ hh]
    show wpAny _ _ (pure ((n : Int) - 1, (-1 : Int), Builtin.Slice.slicePlaces ((n : Int) - 1) ((n : Int) - 1 - (dnCount n hi : Nat)) (-1))) _ _ s
    rw [places_dn _ _ hh]
    exact wpAny_pure q
  unfold Builtin.Slice.sliceApplied Builtin.Slice.sliceFields
  refine wpAny_bind (wpAny_bind (wpAny_field there dat (x := vl) rfl (wpAny_bind (wpAny_field there dat (x := vu) rfl (wpAny_bind (wpAny_field there dat (x := vs) rfl (wpAny_pure (wpAny_bind (HT.slicePart_ ps ?_)))))))))
  show wpAny _ _ (if ((-1 : Int) == 0) = true then _ else _) _ _ s
  rw [if_neg (by decide)]
  exact wpAny_bind (HT.slicePart_ pl (wpAny_bind (HT.slicePart_ pu (wpAny_bind (wpAny_pure tail)))))
/-- what stands at the places of such a slice -/
theorem picked_dn (its : List Value) (hi : Option Int) (hh : hi = none ∨ hi = some 0) : ((List.range (dnCount its.length hi)).filterMap fun (m : Nat) => its.toArray[(((its.length : Int) - 1) + (m : Int) * (-1)).toNat]?) = (its.drop (if hi = none then 0 else 1)).reverse := by
  have le : dnCount its.length hi ≤ its.length := by
    unfold dnCount
    split <;> omega
  have back : ((List.range (dnCount its.length hi)).filterMap fun (m : Nat) => its.toArray[(((its.length : Int) - 1) + (m : Int) * (-1)).toNat]?) = (its.drop (its.length - dnCount its.length hi)).reverse := by
    rw [← pick_all its, ← List.filterMap_reverse, ← rng_rev le, List.filterMap_map]
    refine fm_congr fun m hm => ?_
    have := List.mem_range.mp hm
    rw [show (((its.length : Int) - 1) + (m : Int) * (-1)).toNat = its.length - 1 - m by omega, List.getElem?_toArray]
    rfl
  rw [back]
  rcases hh with rfl | rfl
  · simp [dnCount]
  · cases its <;> simp [dnCount]
theorem getItem_tup_dn {t sl : Addr} {its : List Value} {vl vu vs : Value} {hi : Option Int} {Q : Value → Shared → Prop} (hh : hi = none ∨ hi = some 0) (ht : IsTup s.heap t its.toArray) (hs : s.heap.IsSliceOf sl vl vu vs) (pl : IsPart vl none) (pu : IsPart vu hi) (ps : IsPart vs (some (-1)))
    (q : Q (.ref s.heap.objs.size) { s with heap := s.heap.push { cls := .type "tuple", data := .seq ((its.drop (if hi = none then 0 else 1)).reverse).toArray } }) (hsz : its.length ≤ sizeLine) : wpAny (model prog w) A (getItem (.ref t) (.ref sl)) Q E s := by
  have fits : sizeOk (.seq ((its.drop (if hi = none then 0 else 1)).reverse).toArray) := by
    show List.length _ ≤ sizeLine
    rw [List.length_reverse, List.length_drop]
    omega
  have isSlice : s.TypeIs (.ref sl) "slice" := have ⟨o, there, cls, _⟩ := id hs; ⟨o, there, cls⟩
  have made : wpAny (model prog w) A.in1 (Builtin.Tuple.tupleExact ((its.drop (if hi = none then 0 else 1)).reverse).toArray) (fun v s' => Q v s') E s := by
    exact wpAny_newObj_type q fits
  unfold getItem
  refine wpAny_holding (wpAny_bind (wpAny_sequenceKey ht.typeIs (by decide) (wpAny_bind (wpAny_callSpecial?_slot (name := Str.ofString "__getitem__") ht.typeIs PyProof.Rows.slot_tuple_getitem (wpAny_call_entry PyProof.Rows.slot_tuple_getitem ht.typeIs entry_tuple_getitem ?_ (args_tuple_getitem _ _))))))
  show wpAny _ _ (Builtin.Tuple.tupleItemsOf (.ref t) >>= _) _ _ s
  refine wpAny_bind (PyProof.Rows.tupleItemsOf_ ht (wpAny_bind (wpAny_typeOf isSlice ?_)))
  rw [if_pos (by decide)]
  have len : its.toArray.size = its.length := List.size_toArray
  rw [len]
  refine wpAny_bind (applied_dn hh hs pl pu ps ?_)
  show wpAny _ _ (if (((its.length : Int) - 1) == 0 && ((-1 : Int) == 1) && (dnCount its.length hi == its.length)) = true then _ else _) _ _ s
  rw [if_neg (by simp), picked_dn its hi hh]
  exact wpAny_bind (m := Builtin.Tuple.tupleExact _) (wpAny_mono made (fun v s' q' => wpAny_pure ⟨v, rfl, wpAny_pure q'⟩) fun _ _ z => z)
end
/-- backwards, from the end to the start or to the second item -/
def rRev (K : PySem.W.Frag) : V → Option Int → Hp → VK → Prop := fun x hi H Q => (hi = none ∨ hi = some 0) ∧ ∃ a xs, x = .ref a ∧
  ((SqL K H a xs ∧ ∀ p, H p = none → Q (.ref p) (upd H p (.lst (xs.drop (if hi = none then 0 else 1)).reverse))) ∨ (SqT K H a xs ∧ ∀ p, H p = none → Q (.ref p) (upd H p (.tup (xs.drop (if hi = none then 0 else 1)).reverse))))
theorem vals_drop {xs : List V} {us : List Value} (r : Vals xs us) : ∀ n, Vals (xs.drop n) (us.drop n)
  | 0 => r
  | n + 1 => by
    cases r with
    | nil => exact .nil
    | cons h t => exact vals_drop t n
theorem vals_rev : ∀ {xs : List V} {us : List Value}, Vals xs us → Vals xs.reverse us.reverse
  | _, _, .nil => .nil
  | _, _, .cons h t => by
    rw [List.reverse_cons, List.reverse_cons]
    exact (vals_rev t).append (.cons h .nil)
theorem pe_rev {X : Cx} {e : Expr} {te : TE} {th : TO} {hi : Option Expr} {k : Nat} {p1 p2 p3 pos : Pos} (he : PE X e te) (hu : PO X hi th) :
    PE X (.Subscript e (.Slice none hi (some (.UnaryOp .USub (.Constant (.int 1) k p1) p2)) p3) pos) (fun σ H Q => te σ H fun x H1 => th σ H1 fun u H2 => rRev X.K x u H2 Q) := by
  refine ⟨fun pins s σ H Q I h => Subscript_ (thn (he.run pins s σ H _ I h) fun v s1 ⟨x, H1, I1, r1, q1⟩ => ?_)⟩
  have stp : PO X (some (.UnaryOp .USub (.Constant (.int 1) k p1) p2)) (tPart (tUn (rU fun i => .int (-i)) (tC (.int 1)))) := po_some (pe_un un_neg pe_int)
  refine wpAny_Slice (thn (po_none.run pins s1 σ H1 (fun o H2 => o = none ∧ H2 = H1) I1 ⟨rfl, rfl⟩) fun vl s2 ⟨l, H2, I2, pl, el, e2⟩ => ?_)
  cases el
  cases e2
  refine thn (hu.run pins s2 σ H1 _ I2 q1) fun vu s3 ⟨u, H3, I3, pu, q3⟩ => ?_
  refine thn (stp.run pins s3 σ H3 (fun o H4 => o = some (-1) ∧ H4 = H3) I3 ⟨1, rfl, -1, rfl, rfl, rfl⟩) fun vs s4 ⟨o, H4, I4, ps, eo, e4⟩ => ?_
  cases eo
  cases e4
  obtain ⟨hh, a, xs, rfl, q⟩ := q3
  cases r1
  have I5 : Inv X pins σ H3 { s4 with heap := s4.heap.push { cls := .type "slice", data := .fields #[vl, vu, vs] } } := I4.kept (t' := s4.toks) fun b ob z => Heap.get?_push_of_some _ z
  have sl := Heap.IsSliceOf.new s4.heap vl vu vs
  show wpAny (model X.prog X.w) X.A (subscriptTail e (.Slice none hi (some (.UnaryOp .USub (.Constant (.int 1) k p1) p2)) p3) (.ref a) (.ref s4.heap.objs.size)) (EP X pins σ Q) X.xe { s4 with heap := s4.heap.push { cls := .type "slice", data := .fields #[vl, vu, vs] } }
  rcases q with ⟨hq, q⟩ | ⟨hq, q⟩
  · obtain ⟨its, r, ht, hz⟩ := I5.list hq
    have ln := r.length
    refine tail_any (ops := [.ref a, .ref s4.heap.objs.size]) ht.isList.typeIs (PySem.slot_list_getitem.lookup) ?_ (by with_unfolding_all rfl)
    refine wpAny_getItem_list_slice ht.isList sl pl pu ps (by decide) ?_ (by rw [List.size_toArray]; omega)
    rw [pick_dn its u hh]
    refine ⟨.ref _, _, I5.laid (t' := s4.toks) (o := .lst (xs.drop (if u = none then 0 else 1)).reverse) (fun b ob z => Heap.get?_push_of_some _ z) (Nat.le_refl _) ?_, rfl, q _ (I5.hok.fresh (Nat.le_refl _))⟩
    exact ⟨by rw [List.length_reverse, List.length_drop]; omega, _, 0, vals_rev (vals_drop r _), Heap.get?_push_size _ rfl⟩
  · obtain ⟨its, r, ht, hz⟩ := I5.tuple hq
    have ln := r.length
    refine tail_any (ops := [.ref a, .ref s4.heap.objs.size]) ht.typeIs (PyProof.Rows.slot_tuple_getitem.lookup) ?_ (by with_unfolding_all rfl)
    refine getItem_tup_dn hh ht sl pl pu ps ?_ (by omega)
    refine ⟨.ref _, _, I5.laid (t' := s4.toks) (o := .tup (xs.drop (if u = none then 0 else 1)).reverse) (fun b ob z => Heap.get?_push_of_some _ z) (Nat.le_refl _) ?_, rfl, q _ (I5.hok.fresh (Nat.le_refl _))⟩
    exact ⟨by rw [List.length_reverse, List.length_drop]; omega, _, vals_rev (vals_drop r _), ⟨_, Heap.get?_push_size _ rfl, rfl, _, rfl⟩⟩
def gRev (x : D) (hi : Option Int) : Option Ent := if hi = none ∨ hi = some 0 then (match x with
  | .tup xs => some (.val (.tup (xs.drop (if hi = none then 0 else 1)).reverse))
  | .lst xs => some (.mu (xs.drop (if hi = none then 0 else 1)).reverse)
  | .fl xs => some (.mu (xs.drop (if hi = none then 0 else 1)).reverse)
  | _ => none) else none
def dRev (f : DenL) (h : DenP) : DenF := fun env => (f env).bind fun a e1 => (h e1).bind fun hi e2 => match a.get e2 with
  | some x => (match gRev x hi with
    | some r => .ok r e2
    | none => .bad)
  | none => .bad
section
variable {X : Cx} {Γ : Wd} {W : WX} {e : Expr} {pos : Pos} {f1 : DenL}
theorem sRev {hi : Option Expr} {h : DenP} {k : Nat} {p1 p2 p3 : Pos} (hK : X.K = Γ.K) (ha : SL X Γ W e f1) (hh : SP' X Γ W hi h) : SF X Γ W (.Subscript e (.Slice none hi (some (.UnaryOp .USub (.Constant (.int 1) k p1) p2)) p3) pos) (dRev f1 h) :=
  imE (pe_rev ha hh) fun σ H Q ⟨env, B, s, p⟩ => by
    refine ⟨env, B, s, p.bind.mono fun a' e1 B1 H1 s1 x1 q1 v hv => ⟨e1, B1, s1, q1.bind.mono fun u e2 B2 H2 s2 x2 q2 => ?_⟩⟩
    cases ha : a'.get e2 with
    | none => rw [ha] at q2; exact q2.elim
    | some x =>
      rw [ha] at q2
      have hx := Ar.now s2 (hv.mono x2.b) ha
      have h0 : ∀ p, H2 p = none → FreeR Γ env σ H p := fun p hp => .inl (x1.h0 p (x2.h0 p hp))
      have q3 : Post Γ W e2 σ B2 H2 (fun r env' B' H' => ∀ v, RetOk Γ (FreeR Γ env σ H) env' σ B' H' r v → Q v H') (match gRev x u with
        | some r => .ok r e2
        | none => .bad) := q2
      by_cases hu : u = none ∨ u = some 0
      · cases x with
        | tup xs =>
          have eg : gRev (.tup xs) u = some (.val (.tup (xs.drop (if u = none then 0 else 1)).reverse)) := if_pos hu
          rw [eg] at q3
          obtain ⟨q, vs, k1, k2, k3⟩ := hx.tup s2.same
          exact ⟨hu, q, vs, k1, .inr ⟨by rw [hK]; exact k2, fun p hp => Post.newT s2 q3 ((k3.drop _).reverse) hp⟩⟩
        | lst xs =>
          have eg : gRev (.lst xs) u = some (.mu (xs.drop (if u = none then 0 else 1)).reverse) := if_pos hu
          rw [eg] at q3
          obtain ⟨q, vs, k1, k2, k3⟩ := hx.lst s2.same
          exact ⟨hu, q, vs, k1, .inl ⟨.inl (.inl k2), fun p hp => Post.newL h0 s2 q3 ((k3.drop _).reverse) hp⟩⟩
        | fl xs =>
          have eg : gRev (.fl xs) u = some (.mu (xs.drop (if u = none then 0 else 1)).reverse) := if_pos hu
          rw [eg] at q3
          obtain ⟨q, vs, k1, k2, k3⟩ := hx.fl s2.same
          exact ⟨hu, q, vs, k1, .inl ⟨by rw [hK]; exact k2, fun p hp => Post.newL h0 s2 q3 ((k3.drop _).reverse) hp⟩⟩
        | _ =>
          unfold gRev at q3
          rw [if_pos hu] at q3
          exact q3.elim
      · unfold gRev at q3
        rw [if_neg hu] at q3
        exact q3.elim
end
end Ev
set_option Elab.async false
set_option linter.all false
set_option maxRecDepth 100000
set_option maxHeartbeats 4000000
namespace Ev
open PySem PySem.Spec PyProof.Rows L2
/-! ### isinstance where instances of own classes may come -/
def NotTys (K : PySem.W.Frag) (mg : Str → Option Value) (ks : List Str) : Prop := ∀ k ∈ ks, ∀ C, mg k = some (.ref C) → ClF K C ∧ ∀ t ∈ tyNames, PySem.W.kitOne K (.ref C) (.type t) = some false
theorem NotTys.nil {K : PySem.W.Frag} {mg : Str → Option Value} : NotTys K mg [] := fun _ h => by cases h
theorem NotTys.cons {K : PySem.W.Frag} {mg : Str → Option Value} {k : Str} {ks : List Str} {C : Addr} (g : mg k = some (.ref C)) (c : ClF K C) (h : ∀ t ∈ tyNames, PySem.W.kitOne K (.ref C) (.type t) = some false) (r : NotTys K mg ks) : NotTys K mg (k :: ks) := fun k' hk C' hC' => by
  rcases List.mem_cons.mp hk with rfl | hk
  · rw [g] at hC'
    cases hC'
    exact ⟨c, h⟩
  · exact r k' hk C' hC'
def OwnTab (K : PySem.W.Frag) (mg : Str → Option Value) (C : Addr) (l : List (Str × Bool)) : Prop := (∀ t ∈ tyNames, PySem.W.kitOne K (.type t) (.ref C) = some false) ∧ ∀ p ∈ l, ∀ D, mg p.1 = some (.ref D) → ClF K D ∧ PySem.W.kitOne K (.ref D) (.ref C) = some p.2
theorem OwnTab.nil {K : PySem.W.Frag} {mg : Str → Option Value} {C : Addr} (h : ∀ t ∈ tyNames, PySem.W.kitOne K (.type t) (.ref C) = some false) : OwnTab K mg C [] := ⟨h, fun _ h => by cases h⟩
theorem OwnTab.cons {K : PySem.W.Frag} {mg : Str → Option Value} {C D : Addr} {k : Str} {b : Bool} {l : List (Str × Bool)} (g : mg k = some (.ref D)) (c : ClF K D) (h : PySem.W.kitOne K (.ref D) (.ref C) = some b) (r : OwnTab K mg C l) : OwnTab K mg C ((k, b) :: l) := ⟨r.1, fun p hp D' hD' => by
  rcases List.mem_cons.mp hp with rfl | hp
  · rw [g] at hD'
    cases hD'
    exact ⟨c, h⟩
  · exact r.2 p hp D' hD'⟩
def isTK (ks : List Str) (d : D) (cs : List String) : Option Bool := match d with
  | .ins k _ _ => if ks.contains k = true then some false else none
  | .fn _ => none
  | d => some (isTs d cs)
def isOwn (l : List (Str × Bool)) : D → Option Bool
  | .ins k _ _ => l.lookup k
  | .fn _ => none
  | _ => some false
def dIsK (g : D → Option Bool) (f : DenL) : DenV := fun env => (f env).bind fun a e => match a.get e with
  | some d => (match g d with
    | some b => .ok (.bl b) e
    | none => .bad)
  | none => .bad
section
variable {X : Cx} {Γ : Wd} {W : WX} {a : Expr} {es : List Expr} {pos : Pos} {f1 : DenL} {g : D → Option Bool}
theorem tIsK {σ : L2.St} {H : Hp} {Q : VK} (h : tV Γ W (dIsK g f1) σ H Q) : tL Γ W f1 σ H fun v H1 => ∃ d b e1 B1, StOk Γ e1 σ B1 H1 ∧ RepT Γ B1 H1 d v ∧ g d = some b ∧ ∀ B2 H2, StOk Γ e1 σ B2 H2 → Ext Γ e1 σ B1 H1 e1 σ B2 H2 → Q (.bl b) H2 := by
  obtain ⟨env, B, s, p⟩ := h
  refine ⟨env, B, s, p.bind.mono fun a e1 B1 H1 s1 x1 q1 v hv => ?_⟩
  cases ha : a.get e1 with
  | none => rw [ha] at q1; exact q1.elim
  | some d =>
    rw [ha] at q1
    have q2 : Post Γ W e1 σ B1 H1 (fun d _ B' H' => ∀ v, Rep Γ B' d v → Q v H') (match g d with | some b => .ok (.bl b) e1 | none => .bad) := q1
    cases hn : g d with
    | some b =>
      rw [hn] at q2
      exact ⟨d, b, e1, B1, s1, Ar.now s1 hv ha, hn, fun B2 H2 s2 x2 => q2 B2 H2 s2 x2 _ rfl⟩
    | none =>
      rw [hn] at q2
      exact q2.elim
theorem RepT.tyI {B H : Hp} {c : Str} {ns : List Str} {xs : List D} {v : V} (s : Same B H) (h : RepT Γ B H (.ins c ns xs) v) (hc : ∀ C, Γ.mg c = some (.ref C) → ClF Γ.K C) : ∃ C, Γ.mg c = some (.ref C) ∧ TyX Γ.K H v (.ref C) := by
  obtain ⟨a, dx, C, vs, rfl, e2, e3, _, _⟩ := RepT.ins s h
  have k := hc C e2
  exact ⟨C, e2, .base (.ins e3 k.cl k.cls.1 k.cls.2.1 k.cls.2.2 k.obj)⟩
theorem tyN_mem {d : D} (h : tyN d ≠ "") : tyN d ∈ tyNames := by
  cases d with
  | ins _ _ _ => exact absurd rfl h
  | fn _ => exact absurd rfl h
  | _ => simp [tyN, tyNames]
theorem okT_mem {c : String} (h : okT c = true) : c ∈ tyNames := by
  unfold okT at h
  simp only [Bool.or_eq_true, beq_iff_eq] at h
  rcases h with (((h | h) | h) | h) | h <;> subst h <;> decide
theorem isTs_one {d : D} {c : String} : isTs d [c] = isT d c := by
  unfold isTs
  rw [List.any_cons, List.any_nil, Bool.or_false]
theorem kitAny_ff {K : PySem.W.Frag} {t : Value} : ∀ {cs : List String}, (∀ c ∈ cs, PySem.W.kitOne K t (.type c) = some false) → PySem.W.kitAny K t (cs.map Value.type) = some false
  | [], _ => kitAny_nil
  | c :: cs, h => kitAny_cons (h c (List.mem_cons_self ..)) (fun _ => kitAny_ff fun z hz => h z (List.mem_cons_of_mem _ hz)) fun z => by cases z
/-- the answer of one built-in class -/
theorem ty_ans {B H : Hp} {ks : List Str} {c : String} {d : D} {v : V} {b : Bool} (s : Same B H) (r : RepT Γ B H d v) (hk : NotTys Γ.K Γ.mg ks) (ok : okT c = true) (e : isTK ks d [c] = some b) : ∃ t, TyX Γ.K H v t ∧ PySem.W.kitOne Γ.K t (.type c) = some b := by
  by_cases nd : tyN d = ""
  · cases d with
    | ins k ns xs =>
      have e' : (if ks.contains k = true then some false else none) = some b := e
      split at e'
      · rename_i hc
        cases e'
        have hm := List.contains_iff_mem.mp hc
        obtain ⟨C, hC, ty⟩ := RepT.tyI s r fun C hC => (hk k hm C hC).1
        exact ⟨_, ty, (hk k hm C hC).2 c (okT_mem ok)⟩
      · cases e'
    | fn _ => cases e
    | _ => simp [tyN] at nd
  · refine ⟨_, r.ty s nd, ?_⟩
    rw [kit_isT nd ok]
    have e' : isTK ks d [c] = some (isTs d [c]) := by
      cases d with
      | ins _ _ _ => exact absurd rfl nd
      | fn _ => exact absurd rfl nd
      | _ => rfl
    rw [e', isTs_one] at e
    exact e
theorem tys_ans {B H : Hp} {ks : List Str} {cs : List String} {d : D} {v : V} {b : Bool} (s : Same B H) (r : RepT Γ B H d v) (hk : NotTys Γ.K Γ.mg ks) (ok : cs.all okT = true) (e : isTK ks d cs = some b) : ∃ t, TyX Γ.K H v t ∧ PySem.W.kitAny Γ.K t (cs.map Value.type) = some b := by
  by_cases nd : tyN d = ""
  · cases d with
    | ins k ns xs =>
      have e' : (if ks.contains k = true then some false else none) = some b := e
      split at e'
      · rename_i hc
        cases e'
        have hm := List.contains_iff_mem.mp hc
        obtain ⟨C, hC, ty⟩ := RepT.tyI s r fun C hC => (hk k hm C hC).1
        exact ⟨_, ty, kitAny_ff fun c hc2 => (hk k hm C hC).2 c (okT_mem (List.all_eq_true.mp ok c hc2))⟩
      · cases e'
    | fn _ => cases e
    | _ => simp [tyN] at nd
  · refine ⟨_, r.ty s nd, ?_⟩
    rw [kit_isTs nd ok]
    have e' : isTK ks d cs = some (isTs d cs) := by
      cases d with
      | ins _ _ _ => exact absurd rfl nd
      | fn _ => exact absurd rfl nd
      | _ => rfl
    rw [e'] at e
    exact e
theorem own_ans {B H : Hp} {C : Addr} {l : List (Str × Bool)} {d : D} {v : V} {b : Bool} (s : Same B H) (r : RepT Γ B H d v) (ho : OwnTab Γ.K Γ.mg C l) (e : isOwn l d = some b) : ∃ t, TyX Γ.K H v t ∧ PySem.W.kitOne Γ.K t (.ref C) = some b := by
  by_cases nd : tyN d = ""
  · cases d with
    | ins k ns xs =>
      have hm : (k, b) ∈ l := by
        have e' : l.lookup k = some b := e
        clear e r nd ho
        induction l with
        | nil => cases e'
        | cons q l ih =>
          obtain ⟨z, b'⟩ := q
          rw [List.lookup_cons] at e'
          split at e'
          · rename_i hz
            have hz' : k = z := by simpa using hz
            cases e'
            rw [hz']
            exact List.mem_cons_self ..
          · exact List.mem_cons_of_mem _ (ih e')
      obtain ⟨D, hD, ty⟩ := RepT.tyI s r fun D hD => (ho.2 _ hm D hD).1
      exact ⟨_, ty, (ho.2 _ hm D hD).2⟩
    | fn _ => cases e
    | _ => simp [tyN] at nd
  · refine ⟨_, r.ty s nd, ?_⟩
    rw [ho.1 _ (tyN_mem nd)]
    cases d with
    | ins _ _ _ => exact absurd rfl nd
    | fn _ => exact absurd rfl nd
    | _ => exact e
theorem sIsK {ks : List Str} {c : String} {x n : Str} {p p2 : Pos} (hK : X.K = Γ.K) (hm' : X.mg = Γ.mg) (hk : NotTys X.K X.mg ks) (gl : Gl X x) (hm : X.mg x = none) (hv : bootBuiltins x = some (.builtin "isinstance")) (ha : SL X Γ W a f1) (hc : PE X (.Name n p2) (tC (.ty c))) (ok : okT c = true) (hn : x ≠ "__name__" := by decide) (hdb : (x == ("__debug__" : Str)) = false := by decide)
    (he : starEach [a, .Name n p2] X.env = (false, eval a X.env) :: starEach [.Name n p2] X.env := by rfl) : SV X Γ W (.Call (.Name x p) [a, .Name n p2] [] pos) (dIsK (fun d => isTK ks d [c]) f1) :=
  imE (pe_callB (call_isi (X := X)) gl hm hv (pa_cons ha (pa_cons hc pa_nil) he) hn hdb he) fun σ H Q h => by
    obtain ⟨env, B, s, p⟩ := tIsK h
    refine ⟨env, B, s, p.mono fun a e1 B1 H1 s1 x1 q1 v hv => ?_⟩
    obtain ⟨d, b, e2, B2, s2, r2, eg, q2⟩ := q1 v hv
    rw [hK, hm'] at hk
    obtain ⟨t, ty, an⟩ := ty_ans s2.same r2 hk ok eg
    exact ⟨v, .ty c, t, .type c, b, rfl, .ty c, by rw [hK]; exact ty, by rw [hK]; exact an, q2 B2 H1 s2 Ext.refl⟩
theorem sIsO {l : List (Str × Bool)} {C : Addr} {x n : Str} {p p2 : Pos} (hK : X.K = Γ.K) (hm' : X.mg = Γ.mg) (ho : OwnTab X.K X.mg C l) (gl : Gl X x) (hm : X.mg x = none) (hv : bootBuiltins x = some (.builtin "isinstance")) (ha : SL X Γ W a f1) (hc : PE X (.Name n p2) (tC (.ref C))) (hn : x ≠ "__name__" := by decide) (hdb : (x == ("__debug__" : Str)) = false := by decide)
    (he : starEach [a, .Name n p2] X.env = (false, eval a X.env) :: starEach [.Name n p2] X.env := by rfl) : SV X Γ W (.Call (.Name x p) [a, .Name n p2] [] pos) (dIsK (isOwn l) f1) :=
  imE (pe_callB (call_isi (X := X)) gl hm hv (pa_cons ha (pa_cons hc pa_nil) he) hn hdb he) fun σ H Q h => by
    obtain ⟨env, B, s, p⟩ := tIsK h
    refine ⟨env, B, s, p.mono fun a e1 B1 H1 s1 x1 q1 v hv => ?_⟩
    obtain ⟨d, b, e2, B2, s2, r2, eg, q2⟩ := q1 v hv
    rw [hK, hm'] at ho
    obtain ⟨t, ty, an⟩ := own_ans s2.same r2 ho eg
    exact ⟨v, .ref C, t, .ref C, b, rfl, .own C, by rw [hK]; exact ty, by rw [hK]; exact an, q2 B2 H1 s2 Ext.refl⟩
theorem sIsKT {ks : List Str} {cs : List String} {x : Str} {p p2 : Pos} {k : Nat} (hK : X.K = Γ.K) (hm' : X.mg = Γ.mg) (hk : NotTys X.K X.mg ks) (gl : Gl X x) (hm : X.mg x = none) (hv : bootBuiltins x = some (.builtin "isinstance")) (ha : SL X Γ W a f1) (hc : TyNames X es cs) (ok : cs.all okT = true) (hz : cs.length ≤ 100) (hn : x ≠ "__name__" := by decide) (hdb : (x == ("__debug__" : Str)) = false := by decide)
    (he : starEach [a, .Tuple es k p2] X.env = (false, eval a X.env) :: starEach [.Tuple es k p2] X.env := by rfl) : SV X Γ W (.Call (.Name x p) [a, .Tuple es k p2] [] pos) (dIsK (fun d => isTK ks d cs) f1) :=
  imE (pe_callB (call_isiT (X := X)) gl hm hv (pa_cons ha (pa_cons (pe_tup hc.pa) pa_nil) he) hn hdb he) fun σ H Q h => by
    obtain ⟨env, B, s, p⟩ := tIsK h
    refine ⟨env, B, s, p.mono fun a e1 B1 H1 s1 x1 q1 v hv => ⟨LN_le (by rw [List.length_map]; omega), fun t ht => ?_⟩⟩
    obtain ⟨d, b, e2, B2, s2, r2, eg, q2⟩ := q1 v hv
    rw [hK, hm'] at hk
    have s3 := s2.newM (o := .tup (cs.map V.ty)) ht
    have r3 : RepT Γ B2 (upd H1 t (.tup (cs.map V.ty))) d v := by
      rcases r2 with r | ⟨xs, p, vs, e1, e2, e3, e4⟩
      · exact .inl r
      · exact .inr ⟨xs, p, vs, e1, e2, same_upd ht _ _ e3, e4⟩
    obtain ⟨ty, tyx, an⟩ := tys_ans s3.same r3 hk ok eg
    exact ⟨v, t, cs.map V.ty, ty, cs.map Value.type, b, rfl, upd_same, clsv_all cs, by rw [hK]; exact tyx, by rw [hK]; exact an, q2 B2 _ s3 (Ext.newM ht)⟩
end
end Ev
set_option Elab.async false
set_option linter.all false
set_option maxRecDepth 100000
set_option maxHeartbeats 4000000
namespace Ev
open PySem PySem.Spec PyProof.Rows L2
/-! ### evaluation, by simp -/
section
variable {env : Sto} {f g : DenV} {u u2 : DenF} {l l2 l3 : DenL} {t t2 : DenT} {s s2 : DenS} {i j : Nat} {d : D}
theorem dC_a : dC d env = .ok d env := rfl
theorem dVar_a : dVar i env = match env[i]? with
  | some (.val d) => .ok d env
  | some (.mu xs) => .ok (.lst xs) (env.set i (.val (.lst xs)))
  | _ => .bad := rfl
theorem dSlot_a : dSlot i env = match env[i]? with
  | some (.val d) => .ok (.v d) env
  | some (.mu xs) => .ok (.s i) env
  | _ => .bad := rfl
theorem dMove_a : dMove i env = match env[i]? with
  | some (.val d) => .ok (.val d) env
  | some (.mu xs) => .ok (.mu xs) (env.set i .un)
  | _ => .bad := rfl
theorem dLV_a : dLV f env = (f env).bind fun d e => .ok (.v d) e := rfl
theorem dFrz_a : dFrz u env = (u env).bind frzE := rfl
theorem frzE_val {e : Sto} : frzE (.val d) e = .ok d e := rfl
theorem frzE_mu {xs : List D} {e : Sto} : frzE (.mu xs) e = .ok (.lst xs) e := rfl
theorem dVal_a : dVal f env = (f env).bind fun d e => .ok (.val d) e := rfl
theorem get_v {e : Sto} : (Ar.v d).get e = some d := rfl
theorem get_s {e : Sto} : (Ar.s i).get e = match e[i]? with
    | some (.val d) => some d
    | some (.mu xs) => some (.lst xs)
    | _ => none := rfl
theorem dBin_a {g : D → D → Option Ent} : dBin g l l2 env = (l env).bind fun a e1 => (l2 e1).bind fun b e2 => match a.get e2, b.get e2 with
  | some x, some y => (match g x y with
    | some r => .ok r e2
    | none => .bad)
  | _, _ => .bad := rfl
theorem dNeg_a : dNeg f env = (f env).bind fun d e => match d with
  | .int i => .ok (.int (-i)) e
  | _ => .bad := rfl
theorem dTB_a : dTB u env = (u env).bind fun r e => match r with
  | .val (.bl b) => .ok b e
  | _ => .bad := rfl
theorem dBT_a : dBT f env = (f env).bind fun d e => match d with
  | .bl b => .ok b e
  | _ => .bad := rfl
theorem dTru_a : dTru l env = (l env).bind fun a e => match a.get e with
  | some d => (match truth d with
    | some b => .ok b e
    | none => .bad)
  | none => .bad := rfl
theorem dNotT_a : dNotT t env = (t env).bind fun b e => .ok (!b) e := rfl
theorem dAndT_a : dAndT t t2 env = (t env).bind fun b e => if b = true then t2 e else .ok false e := rfl
theorem dOrT_a : dOrT t t2 env = (t env).bind fun b e => if b = true then .ok true e else t2 e := rfl
theorem dAndV_a : dAndV f g env = (dBT f env).bind fun b e => if b = true then g e else .ok (.bl false) e := rfl
theorem dOrV_a : dOrV f g env = (dBT f env).bind fun b e => if b = true then .ok (.bl true) e else g e := rfl
theorem dNotL_a : dNotL l env = (dTru l env).bind fun b e => .ok (.bl (!b)) e := rfl
theorem dIf_a : dIf t f g env = (t env).bind fun b e => if b = true then f e else g e := rfl
theorem dIfF_a : dIfF t u u2 env = (t env).bind fun b e => if b = true then u e else u2 e := rfl
theorem dChain_a {g g' : D → D → Option Ent} : dChain g g' l l2 l3 env = (l env).bind fun a e1 => (l2 e1).bind fun b e2 => match a.get e2, b.get e2 with
  | some x, some y => (match g x y with
    | some (.val (.bl true)) => (l3 e2).bind fun c e3 => (match b.get e3, c.get e3 with
      | some y, some z => (match g' y z with
        | some r => .ok r e3
        | none => .bad)
      | _, _ => .bad)
    | some (.val (.bl false)) => .ok (.val (.bl false)) e2
    | _ => .bad)
  | _, _ => .bad := rfl
theorem dVs_n : dVs [] env = .ok [] env := rfl
theorem dVs_c {fs : List DenV} : dVs (f :: fs) env = (f env).bind fun d e => (dVs fs e).bind fun ds e2 => .ok (d :: ds) e2 := rfl
theorem dArs_n : dArs [] env = .ok [] env := rfl
theorem dArs_c {fs : List DenL} : dArs (l :: fs) env = (l env).bind fun d e => (dArs fs e).bind fun ds e2 => .ok (d :: ds) e2 := rfl
theorem dTup_a {fs : List DenV} : dTup fs env = (dVs fs env).bind fun ds e => if ds.length ≤ 1000000 then .ok (.tup ds) e else .bad := rfl
theorem dLst_a {fs : List DenV} : dLst fs env = (dVs fs env).bind fun ds e => if ds.length ≤ 1000000 then .ok (.mu ds) e else .bad := rfl
theorem getAll_n {e : Sto} : getAll [] e = some [] := rfl
theorem getAll_c {a : Ar} {as : List Ar} {e : Sto} : getAll (a :: as) e = match a.get e, getAll as e with
    | some d, some ds => some (d :: ds)
    | _, _ => none := rfl
theorem dCB_a {g : List D → Option Ent} {fs : DenA} : dCB g fs env = (fs env).bind fun as e => match getAll as e with
  | some ds => (match g ds with
    | some r => .ok r e
    | none => .bad)
  | none => .bad := rfl
theorem dCall_a {g : Fn} {dfl : List D} {fs : DenA} : dCall g dfl fs env = (fs env).bind fun as e => match getAll as e with
  | some ds => (match g ((ds ++ dfl).map .val) with
    | .ok r _ => if r.flat = true then .ok r e else .ok r (frzAr as e)
    | .err c ns xs _ => .err c ns xs (frzAr as e)
    | .bad => .bad)
  | none => .bad := rfl
theorem dCall0_a {g : Fn} {dfl : List D} : dCall0 g dfl env = match g (dfl.map .val) with
  | .ok r _ => .ok r env
  | .err c ns xs _ => .err c ns xs env
  | .bad => .bad := rfl
theorem dCallR_a {g : Fn} {dfl : List D} {fs : DenA} : dCallR g j dfl fs env = match env[j]? with
  | some (.mu _) => (fs env).bind fun as e => (match e[j]?, getAll as e, hasS j as with
    | some (.mu xs), some ds, false => (match g (.mu xs :: (ds ++ dfl).map .val) with
      | .ok r (p0 :: _) => .ok r ((frzAr as e).set j p0)
      | .err c ns ys (p0 :: _) => .err c ns ys ((frzAr as e).set j p0)
      | _ => .bad)
    | _, _, _ => .bad)
  | some (.val d) => (fs env).bind fun as e => (match getAll as e with
    | some ds => (match g (.val d :: (ds ++ dfl).map .val) with
      | .ok r _ => .ok r (frzAr as e)
      | .err c ns ys _ => .err c ns ys (frzAr as e)
      | _ => .bad)
    | none => .bad)
  | _ => .bad := rfl
theorem dIsi_a {cs : List String} : dIsi cs l env = (l env).bind fun a e => match a.get e with
  | some d => if noIns d = true then .ok (.bl (isTs d cs)) e else .bad
  | none => .bad := rfl
theorem dSeq_a : dSeq s s2 env = match s env with
  | .ok .nx e => s2 e
  | r => r := rfl
theorem dSkip_a : dSkip env = .ok .nx env := rfl
theorem dIfS_a : dIfS t s s2 env = (t env).bind fun b e => if b = true then s e else s2 e := rfl
theorem dRet_a : dRet u env = (u env).bind fun r e => .ok (.rt r) e := rfl
theorem dSet_a : dSet i u env = (u env).bind fun r e => match r with
  | .val d => .ok .nx (e.set i (.val d))
  | .mu xs => .ok .nx (e.set i (.mu xs))
  | _ => .bad := rfl
theorem dAsg_a {t : Asg} : dAsg t f env = (f env).bind fun d e => match t d e with
  | some e' => .ok .nx e'
  | none => .bad := rfl
theorem asN_a {e : Sto} : asN i d e = some (e.set i (.val d)) := rfl
theorem asT_a {n : Nat} {g : Asgs} {ds : List D} {e : Sto} : asT n g (.tup ds) e = if ds.length = n then g ds e else none := rfl
theorem asT_l {n : Nat} {g : Asgs} {ds : List D} {e : Sto} : asT n g (.lst ds) e = if ds.length = n then g ds e else none := rfl
theorem asC_a {f : Asg} {g : Asgs} {ds : List D} {e : Sto} : asCons f g (d :: ds) e = (f d e).bind (g ds) := rfl
theorem asNil_a {e : Sto} : asNil [] e = some e := rfl
theorem dPar_a {fs : DenVs} : dPar i j fs env = (fs env).bind fun ds e => match ds with
  | [a, b] => .ok .nx ((e.set i (.val a)).set j (.val b))
  | _ => .bad := rfl
theorem dPut_a : dPut i f g env = (g env).bind fun d e1 => match e1[i]? with
  | some (.mu _) => (f e1).bind fun k e2 => (match k, e2[i]? with
    | .int k, some (.mu xs) => (match ixN xs.length k with
      | some j => .ok .nx (e2.set i (.mu (xs.set j d)))
      | none => .bad)
    | _, _ => .bad)
  | _ => .bad := rfl
theorem dExp_a : dExp f env = (f env).bind fun _ e => .ok .nx e := rfl
theorem dApp_a : dApp i f env = match env[i]? with
  | some (.mu _) => (f env).bind fun d e => (match e[i]? with
    | some (.mu xs) => if xs.length < 1000000 then .ok .non (e.set i (.mu (xs ++ [d]))) else .bad
    | _ => .bad)
  | _ => .bad := rfl
theorem dFor_a {t : Asg} {it : DenI} : dFor t it s env = (it env).bind fun items e => loopF t s items e := rfl
theorem loopF_n {t : Asg} {b : DenS} : loopF t b [] env = .ok .nx env := rfl
theorem dIt_a : dIt f env = (f env).bind fun d e => match d.its with
  | some xs => .ok xs e
  | none => .bad := rfl
theorem mkFn_a {np ns : Nat} {b : DenS} {args : List Ent} : mkFn np ns b args = if args.length = np then finF np (b (args ++ List.replicate (ns - np) .un)) else .bad := rfl
end
/-! ### sizes -/
def Bd (k : Nat) (i : Int) : Prop := i.natAbs < 2 ^ k
theorem Bd.mono {k m : Nat} {i : Int} (h : Bd k i) (l : k ≤ m) : Bd m i := Nat.lt_of_lt_of_le h (Nat.pow_le_pow_right (by decide) l)
theorem Bd.log {k : Nat} {i : Int} (h : Bd (k + 1) i) : i.natAbs.log2 ≤ k := by
  by_cases z : i.natAbs = 0
  · rw [z]
    simp
  · have := (Nat.log2_lt z).mpr h
    omega
theorem mulOk_of {k m : Nat} {i j : Int} (h : Bd (k + 1) i) (h2 : Bd (m + 1) j) (l : k + m < 1000000) : mulOk i j = true := by
  have := h.log
  have := h2.log
  exact decide_eq_true (by omega)
theorem divOk_of {k : Nat} {j : Int} (h : Bd (k + 1) j) (z : j ≠ 0) (l : k < 9000) : divOk j = true := by
  have := h.log
  exact decide_eq_true ⟨z, by omega⟩
theorem Bd.mul {k m : Nat} {i j : Int} (h : Bd k i) (h2 : Bd m j) : Bd (k + m) (i * j) := by
  unfold Bd at *
  rw [Int.natAbs_mul, Nat.pow_add]
  exact Nat.mul_lt_mul'' h h2
theorem Bd.add {k : Nat} {i j : Int} (h : Bd k i) (h2 : Bd k j) : Bd (k + 1) (i + j) := by
  unfold Bd at *
  have := Int.natAbs_add_le i j
  rw [Nat.pow_succ]
  omega
theorem Bd.sub {k : Nat} {i j : Int} (h : Bd k i) (h2 : Bd k j) : Bd (k + 1) (i - j) := by
  unfold Bd at *
  have := Int.natAbs_sub_le i j
  rw [Nat.pow_succ]
  omega
theorem Bd.neg {k : Nat} {i : Int} (h : Bd k i) : Bd k (-i) := by
  unfold Bd at *
  rw [Int.natAbs_neg]
  exact h
theorem Bd.of_le {k : Nat} {i j : Int} (h : Bd k j) (l : i.natAbs ≤ j.natAbs) : Bd k i := Nat.lt_of_le_of_lt l h
theorem Bd.div {k : Nat} {i j : Int} (h : Bd k i) : Bd k (i / j) := h.of_le (Int.natAbs_ediv_le_natAbs i j)
end Ev

set_option Elab.async false
set_option linter.all false
set_option maxRecDepth 100000
set_option maxHeartbeats 4000000
namespace Ev
open PySem PySem.Spec PyProof.Rows L2
mutual
theorem deq_refl : ∀ (n : Nat) (d : D), shp n d = true → deq d d = true
  | n, .non, h => rfl
  | n, .bl b, h => by
    unfold deq D.py PyData.eqv
    simp
  | n, .int i, h => by
    unfold deq D.py PyData.eqv
    simp
  | n, .str s, h => by
    unfold deq D.py PyData.eqv
    simp
  | 0, .tup xs, h => by cases h
  | 0, .lst xs, h => by cases h
  | 0, .fl xs, h => by cases h
  | n + 1, .tup xs, h => by
    have := deqs_refl n xs h
    unfold deq D.py PyData.eqv
    exact this
  | n + 1, .lst xs, h => by
    have := deqs_refl n xs h
    unfold deq D.py PyData.eqv
    exact this
  | n + 1, .fl xs, h => by
    have := deqs_refl n xs h
    unfold deq D.py PyData.eqv
    exact this
  | n, .ins _ _ _, h => by
    cases n <;> cases h
  | n, .fn _, h => by
    cases n <;> cases h
theorem deqs_refl : ∀ (n : Nat) (ds : List D), shps n ds = true → deqs ds ds = true
  | n, [], h => rfl
  | n, d :: ds, h => by
    unfold shps at h
    rw [Bool.and_eq_true] at h
    have h1 := deq_refl n d h.1
    have h2 := deqs_refl n ds h.2
    unfold deqs pys PyData.eqvAll
    unfold deq at h1
    unfold deqs at h2
    rw [h1, h2]
    rfl
end
theorem gEq_self {d : D} (h : shp 64 d = true) : gEq d d = vb true := by
  unfold gEq
  rw [if_pos ⟨h, h⟩, deq_refl 64 d h]
theorem gNe_self {d : D} (h : shp 64 d = true) : gNe d d = vb false := by
  unfold gNe
  rw [if_pos ⟨h, h⟩, deq_refl 64 d h]
  rfl
theorem gEq_of {d e : D} (h : shp 64 d = true) (q : e = d) : gEq d e = vb true := by
  rw [q]
  exact gEq_self h
theorem gNe_of {d e : D} (h : shp 64 d = true) (q : e = d) : gNe d e = vb false := by
  rw [q]
  exact gNe_self h
theorem deq_int {i j : Int} : deq (.int i) (.int j) = decide (i = j) := by
  unfold deq D.py PyData.eqv
  by_cases h : i = j
  · simp [h]
  · simp [h]
theorem gEq_int {i j : Int} : gEq (.int i) (.int j) = vb (decide (i = j)) := by
  unfold gEq
  rw [if_pos ⟨rfl, rfl⟩, deq_int]
theorem gNe_int {i j : Int} : gNe (.int i) (.int j) = vb (!decide (i = j)) := by
  unfold gNe
  rw [if_pos ⟨rfl, rfl⟩, deq_int]
/-! ### the small list's items -/
section
variable {x y z w : D} {xs : List D}
theorem atI_nat {n : Nat} {d : D} (h : xs[n]? = some d) : atI xs (n : Int) = some d := by
  have hn : n < xs.length := by
    rcases Nat.lt_or_ge n xs.length with q | q
    · exact q
    · rw [List.getElem?_eq_none q] at h
      cases h
  unfold atI ixN
  rw [if_pos (Int.natCast_nonneg n), if_pos (by omega)]
  exact h
theorem at0 : atI (x :: xs) 0 = some x := atI_nat (n := 0) rfl
theorem at1 : atI (x :: y :: xs) 1 = some y := atI_nat (n := 1) rfl
theorem at2 : atI (x :: y :: z :: xs) 2 = some z := atI_nat (n := 2) rfl
theorem at3 : atI (x :: y :: z :: w :: xs) 3 = some w := atI_nat (n := 3) rfl
theorem ix_t0 : gIx (.tup (x :: xs)) (.int 0) = some (.val x) := congrArg (Option.map Ent.val) at0
theorem ix_t1 : gIx (.tup (x :: y :: xs)) (.int 1) = some (.val y) := congrArg (Option.map Ent.val) at1
theorem ix_t2 : gIx (.tup (x :: y :: z :: xs)) (.int 2) = some (.val z) := congrArg (Option.map Ent.val) at2
theorem ix_t3 : gIx (.tup (x :: y :: z :: w :: xs)) (.int 3) = some (.val w) := congrArg (Option.map Ent.val) at3
theorem ix_l0 : gIx (.lst (x :: xs)) (.int 0) = some (.val x) := congrArg (Option.map Ent.val) at0
theorem ix_l1 : gIx (.lst (x :: y :: xs)) (.int 1) = some (.val y) := congrArg (Option.map Ent.val) at1
theorem ix_l2 : gIx (.lst (x :: y :: z :: xs)) (.int 2) = some (.val z) := congrArg (Option.map Ent.val) at2
theorem ix_l3 : gIx (.lst (x :: y :: z :: w :: xs)) (.int 3) = some (.val w) := congrArg (Option.map Ent.val) at3
theorem ixN4_0 {n : Nat} : ixN (n + 1) 0 = some 0 := by
  unfold ixN
  rw [if_pos (by decide), if_pos (by omega)]
  rfl
theorem ixN4_1 {n : Nat} : ixN (n + 1 + 1) 1 = some 1 := by
  unfold ixN
  rw [if_pos (by decide), if_pos (by omega)]
  rfl
theorem ixN4_2 {n : Nat} : ixN (n + 1 + 1 + 1) 2 = some 2 := by
  unfold ixN
  rw [if_pos (by decide), if_pos (by omega)]
  rfl
theorem ixN4_3 {n : Nat} : ixN (n + 1 + 1 + 1 + 1) 3 = some 3 := by
  unfold ixN
  rw [if_pos (by decide), if_pos (by omega)]
  rfl
theorem ixc_0 : ixN 4 0 = some 0 := rfl
theorem ixc_1 : ixN 4 1 = some 1 := rfl
theorem ixc_2 : ixN 4 2 = some 2 := rfl
theorem ixc_3 : ixN 4 3 = some 3 := rfl
end
/-! ### numbers -/
theorem gAdd_i {i j : Int} : gAdd (.int i) (.int j) = some (.val (.int (i + j))) := rfl
theorem gSub_i {i j : Int} : gSub (.int i) (.int j) = some (.val (.int (i - j))) := rfl
theorem gMul_i {i j : Int} (h : mulOk i j = true) : gMul (.int i) (.int j) = some (.val (.int (i * j))) := if_pos h
theorem gDiv_i {i j : Int} (h : divOk j = true) : gDiv (.int i) (.int j) = some (.val (.int (i.fdiv j))) := if_pos h
theorem gMod_i {i j : Int} (h : j ≠ 0) : gMod (.int i) (.int j) = some (.val (.int (i.fmod j))) := if_neg h
theorem gLt_i {i j : Int} : gLt (.int i) (.int j) = vb (decide (i < j)) := rfl
theorem gLe_i {i j : Int} : gLe (.int i) (.int j) = vb (decide (i ≤ j)) := rfl
theorem gGt_i {i j : Int} : gGt (.int i) (.int j) = vb (decide (j < i)) := rfl
theorem gGe_i {i j : Int} : gGe (.int i) (.int j) = vb (decide (j ≤ i)) := rfl
theorem gInt_i {i : Int} : gInt [.int i] = some (.val (.int i)) := rfl
theorem gLen_l {xs : List D} : gLen [.lst xs] = some (.val (.int xs.length)) := rfl
theorem gLen_f {xs : List D} : gLen [.fl xs] = some (.val (.int xs.length)) := rfl
theorem gLen_t {xs : List D} : gLen [.tup xs] = some (.val (.int xs.length)) := rfl
theorem gAbs_i {i : Int} : gAbs [.int i] = some (.val (.int (i.natAbs : Int))) := by
  have e : (if i < 0 then -i else i) = (i.natAbs : Int) := by
    by_cases h : i < 0
    · rw [if_pos h]
      omega
    · rw [if_neg h]
      omega
  exact congrArg (fun z => some (Ent.val (.int z))) e
theorem its_l {xs : List D} : D.its (.lst xs) = some xs := rfl
theorem its_t {xs : List D} : D.its (.tup xs) = some xs := rfl
theorem its_f {xs : List D} : D.its (.fl xs) = some xs := rfl
theorem Bd.nat {k n : Nat} (h : n < 2 ^ k) : Bd k (n : Int) := h
theorem Bd.lit {k : Nat} {i : Int} (h : i.natAbs < 2 ^ k := by decide) : Bd k i := h
theorem fmod_range {a b : Int} (h : 0 < b) : 0 ≤ a.fmod b ∧ a.fmod b < b := by
  rw [Int.fmod_eq_emod_of_nonneg _ (Int.le_of_lt h)]
  exact ⟨Int.emod_nonneg _ (by omega), Int.emod_lt_of_pos _ h⟩
theorem fdiv_pos {a b : Int} (h : 0 < b) : a.fdiv b = a / b := Int.fdiv_eq_ediv_of_nonneg _ (Int.le_of_lt h)
theorem Bd.ofR {k : Nat} {i b : Int} (h : 0 ≤ i ∧ i < b) (hb : b ≤ 2 ^ k) : Bd k i := by
  unfold Bd
  have : (i.natAbs : Int) < (2 ^ k : Nat) := by
    rw [Int.natCast_pow]
    have : ((2 : Nat) : Int) = 2 := rfl
    rw [this]
    omega
  exact Int.ofNat_lt.mp this
end Ev

set_option Elab.async false
set_option linter.all false
set_option maxRecDepth 100000
set_option maxHeartbeats 4000000
namespace Ev
open PySem PySem.Spec PyProof.Rows L2
/-! ### what a call hands back, its parameters forgotten -/
def FR.st : FR → FR
  | .ok r _ => .ok r []
  | .err c ns xs _ => .err c ns xs []
  | .bad => .bad
def stF : Res Fl → FR
  | .ok .nx _ => .ok (.val .non) []
  | .ok (.rt r) _ => .ok r []
  | .err c ns xs _ => .err c ns xs []
  | _ => .bad
theorem finF_s {np : Nat} {r : Res Fl} : (finF np r).st = stF r := by
  cases r with
  | ok f e => cases f <;> rfl
  | err c ns xs e => rfl
  | bad => rfl
theorem mkFn_s {np ns : Nat} {b : DenS} {args : List Ent} : (mkFn np ns b args).st = if args.length = np then stF (b (args ++ List.replicate (ns - np) .un)) else .bad := by
  unfold mkFn
  split
  · exact finF_s
  · rfl
theorem stF_rt {r : Ent} {e : Sto} : stF (.ok (.rt r) e) = .ok r [] := rfl
theorem stF_nx {e : Sto} : stF (.ok .nx e) = .ok (.val .non) [] := rfl
theorem stF_er {c : Str} {ns : List Str} {xs : List D} {e : Sto} : stF (.err c ns xs e) = .err c ns xs [] := rfl
theorem recFn_st {np ns : Nat} {den : Fn → DenS} {n : Nat} {args : List Ent} : (recFn np ns den (n + 1) args).st = if args.length = np then stF (den (recFn np ns den n) (args ++ List.replicate (ns - np) .un)) else .bad := mkFn_s
section
variable {env : Sto} {f g : DenV} {u u2 : DenF} {l l2 l3 : DenL} {t t2 : DenT} {s s2 : DenS} {i j k : Nat} {d x y z : D} {xs ys ds : List D} {h : Fn} {dfl : List D} {fs : DenA}
theorem dCall_s : dCall h dfl fs env = (fs env).bind fun as e => match getAll as e with
  | some ds => (match (h ((ds ++ dfl).map .val)).st with
    | .ok r _ => if r.flat = true then .ok r e else .ok r (frzAr as e)
    | .err c ns xs _ => .err c ns xs (frzAr as e)
    | .bad => .bad)
  | none => .bad := by
  unfold dCall
  congr 1
  funext as e
  cases getAll as e with
  | none => rfl
  | some ds =>
    cases hh : h ((ds ++ dfl).map .val) <;> simp only [hh, FR.st]
theorem dCall0_s : dCall0 h dfl env = match (h (dfl.map .val)).st with
  | .ok r _ => .ok r env
  | .err c ns xs _ => .err c ns xs env
  | .bad => .bad := by
  unfold dCall0
  cases h (dfl.map .val) <;> rfl
theorem dCallK_s {n m : Nat} {l : List Src} {fs gs : DenVs} : dCallK h n m l dfl fs gs env = (fs env).bind fun ds e1 => (gs e1).bind fun zs e2 => if ds.length = n ∧ zs.length = m then (match (h ((arr l ds zs dfl).map .val)).st with
  | .ok r _ => .ok r e2
  | .err c ns xs _ => .err c ns xs e2
  | .bad => .bad) else .bad := by
  unfold dCallK
  congr 1
  funext ds e1
  congr 1
  funext zs e2
  split
  · cases h ((arr l ds zs dfl).map .val) <;> rfl
  · rfl
theorem dCallV_s {tab : List (Str × Fn)} {fs : DenA} : dCallV tab i fs env = match env[i]? with
  | some (.val (.fn x)) => (match tab.lookup x with
    | some g => dCall g [] fs env
    | none => .bad)
  | _ => .bad := rfl
/-! ### the other constructs -/
theorem dIsK_e {g : D → Option Bool} : dIsK g l env = (l env).bind fun a e => match a.get e with
  | some d => (match g d with
    | some b => .ok (.bl b) e
    | none => .bad)
  | none => .bad := rfl
theorem dAt_e {cs : List Str} {n : Str} : dAt cs n l env = (l env).bind fun a e => match a.get e with
  | some (.ins c ns xs) => if cs.contains c = true then (match (ns.zip xs).lookup n with
    | some d => .ok d e
    | none => .bad) else .bad
  | _ => .bad := rfl
theorem dRev_e {p : DenP} : dRev l p env = (l env).bind fun a e1 => (p e1).bind fun hi e2 => match a.get e2 with
  | some x => (match gRev x hi with
    | some r => .ok r e2
    | none => .bad)
  | none => .bad := rfl
theorem dPar3_e {fs : DenVs} : dPar3 i j k fs env = (fs env).bind fun ds e => match ds with
  | [a, b, c] => .ok .nx (((e.set i (.val a)).set j (.val b)).set k (.val c))
  | _ => .bad := rfl
theorem dEnum_e {f : DenVs} : dEnum f env = (f env).bind fun ds e => match ds with
  | [d] => (match d.its with
    | some xs => .ok (enumD 0 xs) e
    | none => .bad)
  | _ => .bad := rfl
theorem dZip_e {f : DenVs} : dZip f env = (f env).bind fun ds e => match ds with
  | [d, d2] => (match d.its, d2.its with
    | some xs, some ys => .ok (zipD xs ys) e
    | _, _ => .bad)
  | _ => .bad := rfl
theorem enumD_n : enumD k [] = [] := rfl
theorem enumD_c : enumD k (x :: xs) = .tup [.int (k : Nat), x] :: enumD (k + 1) xs := rfl
theorem zipD_c : zipD (x :: xs) (y :: ys) = .tup [x, y] :: zipD xs ys := rfl
theorem zipD_n : zipD [] ys = [] := rfl
theorem zipD_m : zipD xs [] = [] := by cases xs <;> rfl
theorem dRng1_e : dRng1 fs env = (fs env).bind fun as e => match getAll as e with
  | some [.int n] => if -(2 ^ 62) ≤ n ∧ n < 2 ^ 62 then .ok (rngD 0 n.toNat) e else .bad
  | _ => .bad := rfl
theorem dPs_e : dPs f env = (f env).bind fun d e => match d with
  | .int i => .ok (some i) e
  | _ => .bad := rfl
theorem dPn_e : dPn env = .ok none env := rfl
theorem dSl_e {p q : DenP} : dSl l p q env = (l env).bind fun a e1 => (p e1).bind fun lo e2 => (q e2).bind fun hi e3 => match a.get e3 with
  | some x => (match gSl x lo hi with
    | some r => .ok r e3
    | none => .bad)
  | none => .bad := rfl
theorem frzS_e : frzS env j = match env[j]? with
  | some (.mu xs) => env.set j (.val (.lst xs))
  | _ => env := rfl
theorem noX_n : noX [] = [] := rfl
theorem noX_v {e : Sto} : noX (.val d :: e) = .val d :: noX e := rfl
theorem noX_m {e : Sto} : noX (.mu xs :: e) = .mu xs :: noX e := rfl
theorem noX_u {e : Sto} : noX (.un :: e) = .un :: noX e := rfl
theorem noX_x {e : Sto} {c : Str} {ns : List Str} : noX (.exn c ns xs :: e) = .un :: noX e := rfl
theorem finX_s {f : Fl} {i : Nat} {e : Sto} : finX (some i) (.ok f e) = .ok f ((noX e).set i .un) := rfl
theorem finX_n {f : Fl} {e : Sto} : finX none (.ok f e) = .ok f (noX e) := rfl
theorem gSum_l {ns : List Int} (h : intsOf xs = some ns) : gSum [.lst xs] = some (.val (.int ns.sum)) := by
  show (Option.bind (some xs) fun xs => (intsOf xs).map fun ns => Ent.val (.int ns.sum)) = _
  rw [Option.bind_some, h]
  rfl
theorem dBreak_e : dBreak env = .ok .bk env := rfl
theorem dCont_e : dCont env = .ok .ct env := rfl
theorem rngD_z {lo : Int} : rngD lo 0 = [] := rfl
theorem rngD_s {lo : Int} {n : Nat} : rngD lo (n + 1) = .int lo :: rngD (lo + 1) n := by
  unfold rngD
  rw [List.range_succ_eq_map, List.map_cons, List.map_map, Int.natCast_zero, Int.add_zero]
  refine congrArg _ (List.map_congr_left fun i _ => congrArg D.int ?_)
  show lo + ((i + 1 : Nat) : Int) = lo + 1 + (i : Int)
  omega
theorem dTrue_e : dTrue env = .ok true env := rfl
theorem dLc_e {own : List Nat} {t : Asg} {it : DenI} {c : DenT} : dLc own t it c f env = (it env).bind fun items e => if okOwn e own = true then (loopC own t c f items [] (wipeE e own)).bindX fun acc e' => .ok (.mu acc) (restE e e' own) else .bad := rfl
theorem loopC_n {own : List Nat} {t : Asg} {c : DenT} {acc : List D} : loopC own t c f [] acc env = .ok acc env := rfl
theorem loopC_c {own : List Nat} {t : Asg} {c : DenT} {acc : List D} : loopC own t c f (d :: ds) acc env = match t d env with
    | none => .bad
    | some e1 => (c e1).bindX fun b e2 => if b = true then (f e2).bindX fun y e3 => (if acc.length < 1000000 then loopC own t c f ds (acc ++ [y]) (wipeE e3 own) else .bad) else loopC own t c f ds acc (wipeE e2 own) := rfl
def eleC (t : Asg) (c : DenT) (f : DenV) (d : D) (env : Sto) : Res (Option D) := match t d env with
    | none => .bad
    | some e1 => match c e1 with
      | .ok true e2 => (match f e2 with
        | .ok y e3 => .ok (some y) e3
        | _ => .bad)
      | .ok false e2 => .ok none e2
      | _ => .bad
def goC (own : List Nat) (t : Asg) (c : DenT) (f : DenV) (ds acc : List D) : Res (Option D) → Res (List D)
    | .ok (some y) e => if acc.length < 1000000 then loopC own t c f ds (acc ++ [y]) (wipeE e own) else .bad
    | .ok none e => loopC own t c f ds acc (wipeE e own)
    | _ => .bad
theorem loopC_k {own : List Nat} {t : Asg} {c : DenT} {acc : List D} : loopC own t c f (d :: ds) acc env = goC own t c f ds acc (eleC t c f d env) := by
  rw [loopC_c]
  unfold eleC
  cases h : t d env with
  | none => rfl
  | some e1 =>
    dsimp only
    cases h2 : c e1 with
    | ok b e2 =>
      cases b with
      | true =>
        dsimp only [Res.bindX]
        simp only [if_true]
        cases f e2 <;> rfl
      | false => rfl
    | err _ _ _ _ => rfl
    | bad => rfl
theorem goC_s {own : List Nat} {t : Asg} {c : DenT} {acc : List D} : goC own t c f ds acc (.ok (some y) env) = if acc.length < 1000000 then loopC own t c f ds (acc ++ [y]) (wipeE env own) else .bad := rfl
theorem goC_o {own : List Nat} {t : Asg} {c : DenT} {acc : List D} : goC own t c f ds acc (.ok none env) = loopC own t c f ds acc (wipeE env own) := rfl
theorem eleC_e {t : Asg} {c : DenT} : eleC t c f d env = match t d env with
    | none => .bad
    | some e1 => match c e1 with
      | .ok true e2 => (match f e2 with
        | .ok y e3 => .ok (some y) e3
        | _ => .bad)
      | .ok false e2 => .ok none e2
      | _ => .bad := rfl
theorem bindX_o {α β : Type} {a : α} {e : Sto} {k : α → Sto → Res β} : (Res.ok a e).bindX k = k a e := rfl
theorem loopF_c {t : Asg} {b : DenS} : loopF t b (d :: ds) env = match t d env with
    | none => .bad
    | some e1 => (match b e1 with
      | .ok .nx e2 => loopF t b ds e2
      | .ok .ct e2 => loopF t b ds e2
      | .ok .bk e2 => .ok .nx e2
      | r => r) := rfl
theorem wipeE_n : wipeE env [] = env := rfl
theorem wipeE_c {v : Nat} {vs : List Nat} : wipeE env (v :: vs) = (wipeE env vs).set v .un := rfl
theorem restE_n {e1 : Sto} : restE env e1 [] = e1 := rfl
theorem restE_c {e1 : Sto} {v : Nat} {vs : List Nat} : restE env e1 (v :: vs) = (restE env e1 vs).set v ((env[v]?).getD .un) := rfl
theorem okOwn_n : okOwn env [] = true := rfl
theorem okOwn_c {v : Nat} {vs : List Nat} : okOwn env (v :: vs) = ((match env[v]? with
  | some .un => true
  | some (.val _) => true
  | _ => false) && okOwn env vs) := rfl
theorem dTry_e {T : XTab} {body : DenS} {hs : List (Str × Option Nat × DenS)} : dTry T body hs env = match body env with
  | .err c ns xs e => runH T c ns xs e hs
  | r => r := rfl
theorem runH_n {T : XTab} {c : Str} {ns : List Str} : runH T c ns xs env [] = .err c ns xs env := rfl
theorem runH_c {T : XTab} {c h : Str} {ns : List Str} {o : Option Nat} {g : DenS} {r : List (Str × Option Nat × DenS)} : runH T c ns xs env ((h, o, g) :: r) = match T c h with
    | some true => finX o (g (match o with
      | some i => (noX env).set i (.exn c ns xs)
      | none => noX env))
    | some false => runH T c ns xs env r
    | none => .bad := rfl
theorem dRaise_e {c : Str} {ns : List Str} {fs : List DenV} : dRaise c ns fs env = (dVs fs env).bind fun ds e => if ds.length = ns.length then .err c ns.reverse ds.reverse e else .bad := rfl
theorem dXf_e {cs : List Str} {n : Str} : dXf cs i n env = match env[i]? with
  | some (.exn c ns xs) => if cs.contains c = true then (match (ns.zip xs).lookup n with
    | some d => .ok d env
    | none => .bad) else .bad
  | _ => .bad := rfl
/-! ### data -/
theorem shp_i {n : Nat} {i : Int} : shp n (.int i) = true := by cases n <;> rfl
theorem shp_b {n : Nat} {i : Bool} : shp n (.bl i) = true := by cases n <;> rfl
theorem shp_o {n : Nat} : shp n .non = true := by cases n <;> rfl
theorem shp_s {n : Nat} {i : Str} : shp n (.str i) = PyData.strOk i := by cases n <;> rfl
theorem shp_t {n : Nat} : shp (n + 1) (.tup xs) = shps n xs := rfl
theorem shp_l {n : Nat} : shp (n + 1) (.lst xs) = shps n xs := rfl
theorem shp_f {n : Nat} : shp (n + 1) (.fl xs) = shps n xs := rfl
theorem shps_n {n : Nat} : shps n [] = true := by cases n <;> rfl
theorem shps_c {n : Nat} : shps n (d :: ds) = (shp n d && shps n ds) := by cases n <;> rfl
theorem gEq_e : gEq x y = if shp 64 x = true ∧ shp 64 y = true then vb (deq x y) else none := rfl
theorem gNe_e : gNe x y = if shp 64 x = true ∧ shp 64 y = true then vb (!deq x y) else none := rfl
theorem gEq_ci {i : Int} : gEq (.int i) y = if shp 64 (.int i) = true ∧ shp 64 y = true then vb (deq (.int i) y) else none := rfl
theorem gNe_ci {i : Int} : gNe (.int i) y = if shp 64 (.int i) = true ∧ shp 64 y = true then vb (!deq (.int i) y) else none := rfl
theorem gEq_cb {i : Bool} : gEq (.bl i) y = if shp 64 (.bl i) = true ∧ shp 64 y = true then vb (deq (.bl i) y) else none := rfl
theorem gNe_cb {i : Bool} : gNe (.bl i) y = if shp 64 (.bl i) = true ∧ shp 64 y = true then vb (!deq (.bl i) y) else none := rfl
theorem gEq_cs {i : Str} : gEq (.str i) y = if shp 64 (.str i) = true ∧ shp 64 y = true then vb (deq (.str i) y) else none := rfl
theorem gNe_cs {i : Str} : gNe (.str i) y = if shp 64 (.str i) = true ∧ shp 64 y = true then vb (!deq (.str i) y) else none := rfl
theorem gEq_co : gEq (.non) y = if shp 64 (.non) = true ∧ shp 64 y = true then vb (deq (.non) y) else none := rfl
theorem gNe_co : gNe (.non) y = if shp 64 (.non) = true ∧ shp 64 y = true then vb (!deq (.non) y) else none := rfl
theorem gEq_ct : gEq (.tup xs) y = if shp 64 (.tup xs) = true ∧ shp 64 y = true then vb (deq (.tup xs) y) else none := rfl
theorem gNe_ct : gNe (.tup xs) y = if shp 64 (.tup xs) = true ∧ shp 64 y = true then vb (!deq (.tup xs) y) else none := rfl
theorem gEq_cl : gEq (.lst xs) y = if shp 64 (.lst xs) = true ∧ shp 64 y = true then vb (deq (.lst xs) y) else none := rfl
theorem gNe_cl : gNe (.lst xs) y = if shp 64 (.lst xs) = true ∧ shp 64 y = true then vb (!deq (.lst xs) y) else none := rfl
theorem gEq_cf : gEq (.fl xs) y = if shp 64 (.fl xs) = true ∧ shp 64 y = true then vb (deq (.fl xs) y) else none := rfl
theorem gNe_cf : gNe (.fl xs) y = if shp 64 (.fl xs) = true ∧ shp 64 y = true then vb (!deq (.fl xs) y) else none := rfl
theorem beq_intD {i j : Int} : (i == j) = decide (i = j) := by
  by_cases q : i = j
  · simp [q]
  · simp [q]
theorem deq_ii {i j : Int} : deq (.int i) (.int j) = decide (i = j) := deq_int
theorem deq_bb {a b : Bool} : deq (.bl a) (.bl b) = (a == b) := by unfold deq D.py PyData.eqv; rfl
theorem deq_bi {a : Bool} {j : Int} : deq (.bl a) (.int j) = decide ((if a then 1 else 0) = j) := by
  unfold deq D.py PyData.eqv
  exact beq_intD
theorem deq_ib {a : Bool} {j : Int} : deq (.int j) (.bl a) = decide (j = (if a then 1 else 0)) := by
  unfold deq D.py PyData.eqv
  exact beq_intD
theorem deq_ss {a b : Str} : deq (.str a) (.str b) = (a == b) := by unfold deq D.py PyData.eqv; rfl
theorem deq_tt : deq (.tup xs) (.tup ys) = deqs xs ys := by unfold deq D.py PyData.eqv; rfl
theorem deq_ll : deq (.lst xs) (.lst ys) = deqs xs ys := by unfold deq D.py PyData.eqv; rfl
theorem deq_lf : deq (.lst xs) (.fl ys) = deqs xs ys := by unfold deq D.py PyData.eqv; rfl
theorem deq_fl : deq (.fl xs) (.lst ys) = deqs xs ys := by unfold deq D.py PyData.eqv; rfl
theorem deq_ff : deq (.fl xs) (.fl ys) = deqs xs ys := by unfold deq D.py PyData.eqv; rfl
theorem deq_oo : deq .non .non = true := by unfold deq D.py PyData.eqv; rfl
theorem deqs_nn : deqs [] [] = true := rfl
theorem deqs_cc : deqs (x :: xs) (y :: ys) = (deq x y && deqs xs ys) := by
  unfold deqs
  rw [pys, pys, PyData.eqvAll]
  rfl
theorem deqs_nc : deqs [] (y :: ys) = false := rfl
theorem deqs_cn : deqs (x :: xs) [] = false := rfl
theorem deq_oi {i : Int} : deq .non (.int i) = false := by unfold deq D.py PyData.eqv; rfl
theorem deq_io {i : Int} : deq (.int i) .non = false := by unfold deq D.py PyData.eqv; rfl
theorem deq_ob {i : Bool} : deq .non (.bl i) = false := by unfold deq D.py PyData.eqv; rfl
theorem deq_bo {i : Bool} : deq (.bl i) .non = false := by unfold deq D.py PyData.eqv; rfl
theorem deq_os {i : Str} : deq .non (.str i) = false := by unfold deq D.py PyData.eqv; rfl
theorem deq_so {i : Str} : deq (.str i) .non = false := by unfold deq D.py PyData.eqv; rfl
theorem deq_ot : deq .non (.tup xs) = false := by unfold deq D.py PyData.eqv; rfl
theorem deq_to : deq (.tup xs) .non = false := by unfold deq D.py PyData.eqv; rfl
theorem deq_ol : deq .non (.lst xs) = false := by unfold deq D.py PyData.eqv; rfl
theorem deq_lo : deq (.lst xs) .non = false := by unfold deq D.py PyData.eqv; rfl
theorem deq_it {i : Int} : deq (.int i) (.tup xs) = false := by unfold deq D.py PyData.eqv; rfl
theorem deq_ti {i : Int} : deq (.tup xs) (.int i) = false := by unfold deq D.py PyData.eqv; rfl
theorem deq_il {i : Int} : deq (.int i) (.lst xs) = false := by unfold deq D.py PyData.eqv; rfl
theorem deq_li {i : Int} : deq (.lst xs) (.int i) = false := by unfold deq D.py PyData.eqv; rfl
theorem deq_is {i : Int} {a : Str} : deq (.int i) (.str a) = false := by unfold deq D.py PyData.eqv; rfl
theorem deq_si {i : Int} {a : Str} : deq (.str a) (.int i) = false := by unfold deq D.py PyData.eqv; rfl
theorem deq_tl : deq (.tup xs) (.lst ys) = false := by unfold deq D.py PyData.eqv; rfl
theorem deq_lt : deq (.lst xs) (.tup ys) = false := by unfold deq D.py PyData.eqv; rfl
theorem deq_ts {a : Str} : deq (.tup xs) (.str a) = false := by unfold deq D.py PyData.eqv; rfl
theorem deq_st {a : Str} : deq (.str a) (.tup xs) = false := by unfold deq D.py PyData.eqv; rfl
theorem deq_ls {a : Str} : deq (.lst xs) (.str a) = false := by unfold deq D.py PyData.eqv; rfl
theorem deq_sl {a : Str} : deq (.str a) (.lst xs) = false := by unfold deq D.py PyData.eqv; rfl
theorem deq_bt {a : Bool} : deq (.bl a) (.tup xs) = false := by unfold deq D.py PyData.eqv; rfl
theorem deq_tb {a : Bool} : deq (.tup xs) (.bl a) = false := by unfold deq D.py PyData.eqv; rfl
theorem deq_bs {a : Bool} {b : Str} : deq (.bl a) (.str b) = false := by unfold deq D.py PyData.eqv; rfl
theorem deq_sb {a : Bool} {b : Str} : deq (.str b) (.bl a) = false := by unfold deq D.py PyData.eqv; rfl
theorem tru_b {b : Bool} : truth (.bl b) = some b := rfl
theorem tru_l : truth (.lst xs) = some (!xs.isEmpty) := rfl
theorem tru_t : truth (.tup xs) = some (!xs.isEmpty) := rfl
theorem tru_i {i : Int} : truth (.int i) = some (i != 0) := rfl
theorem tru_o : truth .non = some false := rfl
theorem ni_i {i : Int} : noIns (.int i) = true := rfl
theorem ni_b {i : Bool} : noIns (.bl i) = true := rfl
theorem ni_s {i : Str} : noIns (.str i) = true := rfl
theorem ni_o : noIns .non = true := rfl
theorem ni_t : noIns (.tup xs) = true := rfl
theorem ni_l : noIns (.lst xs) = true := rfl
theorem ni_f : noIns (.fl xs) = true := rfl
theorem isTs_n : isTs d [] = false := rfl
theorem isTs_c {c : String} {cs : List String} : isTs d (c :: cs) = (isT d c || isTs d cs) := rfl
theorem isT_i {i : Int} {c : String} : isT (.int i) c = (c == "int") := rfl
theorem isT_b {i : Bool} {c : String} : isT (.bl i) c = (c == "bool" || c == "int") := rfl
theorem isT_s {i : Str} {c : String} : isT (.str i) c = (c == "str") := rfl
theorem isT_t {c : String} : isT (.tup xs) c = (c == "tuple") := rfl
theorem isT_l {c : String} : isT (.lst xs) c = (c == "list") := rfl
theorem isT_f {c : String} : isT (.fl xs) c = (c == "list") := rfl
theorem isT_o {c : String} : isT .non c = false := rfl
theorem gIs_n : gIs x .non = vb x.isN := by cases x <;> rfl
theorem gIs_bb {a b : Bool} : gIs (.bl a) (.bl b) = vb (decide (a = b)) := rfl
theorem gIsNot_n : gIsNot x .non = vb (!x.isN) := by cases x <;> rfl
theorem gIsNot_bb {a b : Bool} : gIsNot (.bl a) (.bl b) = vb (!decide (a = b)) := rfl
theorem isN_o : D.isN .non = true := rfl
theorem isN_i {i : Int} : D.isN (.int i) = false := rfl
theorem isN_b {i : Bool} : D.isN (.bl i) = false := rfl
theorem isN_s {i : Str} : D.isN (.str i) = false := rfl
theorem isN_t : D.isN (.tup xs) = false := rfl
theorem isN_l : D.isN (.lst xs) = false := rfl
theorem isN_f : D.isN (.fl xs) = false := rfl
theorem gList_t : gList [.tup xs] = some (.mu xs) := rfl
theorem gList_l : gList [.lst xs] = some (.mu xs) := rfl
theorem gList_f : gList [.fl xs] = some (.mu xs) := rfl
theorem gTuple_l : gTuple [.lst xs] = some (.val (.tup xs)) := rfl
theorem gTuple_f : gTuple [.fl xs] = some (.val (.tup xs)) := rfl
theorem gTuple_t : gTuple [.tup xs] = some (.val (.tup xs)) := rfl
theorem gGcd_e {i j : Int} : gGcd [.int i, .int j] = some (.val (.int ((Nat.gcd i.natAbs j.natAbs : Nat) : Int))) := rfl
theorem gIx_t {i : Int} : gIx (.tup xs) (.int i) = (atI xs i).map .val := rfl
theorem gIx_l {i : Int} : gIx (.lst xs) (.int i) = (atI xs i).map .val := rfl
theorem gIx_f {i : Int} : gIx (.fl xs) (.int i) = (atI xs i).map .val := rfl
theorem gSl_t {lo hi : Option Int} : gSl (.tup xs) lo hi = some (.val (.tup (cutD xs lo hi))) := rfl
theorem gSl_l {lo hi : Option Int} : gSl (.lst xs) lo hi = some (.mu (cutD xs lo hi)) := rfl
theorem gSl_f {lo hi : Option Int} : gSl (.fl xs) lo hi = some (.mu (cutD xs lo hi)) := rfl
theorem gEqS_e {a b : Str} : gEqS (.str a) (.str b) = vb (decide (a = b)) := rfl
theorem gNeS_e {a b : Str} : gNeS (.str a) (.str b) = vb (!decide (a = b)) := rfl
theorem gRepr_ok (h : shp 64 d = true ∧ rok d = true ∧ rcost d ≤ 1000000) : gRepr [d] = some (.val (.str d.py.shown)) := if_pos h
theorem st_ok {r : Ent} {ps : List Ent} : (FR.ok r ps).st = .ok r [] := rfl
theorem st_err {c : Str} {ns : List Str} {ps : List Ent} : (FR.err c ns xs ps).st = .err c ns xs [] := rfl
theorem st_bad : FR.bad.st = .bad := rfl
theorem fl_m : (Ent.mu xs).flat = false := rfl
theorem fl_i {i : Int} : (Ent.val (.int i)).flat = true := rfl
theorem fl_b {i : Bool} : (Ent.val (.bl i)).flat = true := rfl
theorem fl_s {i : Str} : (Ent.val (.str i)).flat = true := rfl
theorem fl_o : (Ent.val .non).flat = true := rfl
theorem fl_t : (Ent.val (.tup xs)).flat = false := rfl
theorem fl_l : (Ent.val (.lst xs)).flat = false := rfl
theorem fl_f : (Ent.val (.fl xs)).flat = false := rfl
theorem fl_n {c : Str} {ns : List Str} : (Ent.val (.ins c ns xs)).flat = false := rfl
theorem fl_g {c : Str} : (Ent.val (.fn c)).flat = false := rfl
theorem frzAr_n : frzAr [] env = env := rfl
theorem frzAr_v {as : List Ar} : frzAr (.v d :: as) env = frzAr as env := rfl
theorem frzAr_s {as : List Ar} : frzAr (.s i :: as) env = frzAr as (frzS env i) := rfl
theorem hasS_n : hasS i [] = false := rfl
theorem hasS_v {as : List Ar} : hasS i (.v d :: as) = hasS i as := rfl
theorem hasS_s {as : List Ar} : hasS i (.s j :: as) = (j == i || hasS i as) := rfl
theorem vb_e {b : Bool} : vb b = some (.val (.bl b)) := rfl
end
/-! ### items by written places -/
section
variable {x0 x1 x2 x3 x4 x5 x6 x7 x8 x9 x10 x11 x12 : D} {xs : List D}
theorem at4 : atI (x0 :: x1 :: x2 :: x3 :: x4 :: xs) 4 = some x4 := atI_nat (n := 4) rfl
theorem at5 : atI (x0 :: x1 :: x2 :: x3 :: x4 :: x5 :: xs) 5 = some x5 := atI_nat (n := 5) rfl
theorem at6 : atI (x0 :: x1 :: x2 :: x3 :: x4 :: x5 :: x6 :: xs) 6 = some x6 := atI_nat (n := 6) rfl
theorem at7 : atI (x0 :: x1 :: x2 :: x3 :: x4 :: x5 :: x6 :: x7 :: xs) 7 = some x7 := atI_nat (n := 7) rfl
theorem at8 : atI (x0 :: x1 :: x2 :: x3 :: x4 :: x5 :: x6 :: x7 :: x8 :: xs) 8 = some x8 := atI_nat (n := 8) rfl
theorem at9 : atI (x0 :: x1 :: x2 :: x3 :: x4 :: x5 :: x6 :: x7 :: x8 :: x9 :: xs) 9 = some x9 := atI_nat (n := 9) rfl
theorem at10 : atI (x0 :: x1 :: x2 :: x3 :: x4 :: x5 :: x6 :: x7 :: x8 :: x9 :: x10 :: xs) 10 = some x10 := atI_nat (n := 10) rfl
theorem at11 : atI (x0 :: x1 :: x2 :: x3 :: x4 :: x5 :: x6 :: x7 :: x8 :: x9 :: x10 :: x11 :: xs) 11 = some x11 := atI_nat (n := 11) rfl
theorem at12 : atI (x0 :: x1 :: x2 :: x3 :: x4 :: x5 :: x6 :: x7 :: x8 :: x9 :: x10 :: x11 :: x12 :: xs) 12 = some x12 := atI_nat (n := 12) rfl
theorem atm1_1 : atI [x0] (-1) = some x0 := rfl
theorem atm1_2 : atI [x0, x1] (-1) = some x1 := rfl
theorem atm1_3 : atI [x0, x1, x2] (-1) = some x2 := rfl
theorem atm1_4 : atI [x0, x1, x2, x3] (-1) = some x3 := rfl
theorem atm1_5 : atI [x0, x1, x2, x3, x4] (-1) = some x4 := rfl
theorem atm1_6 : atI [x0, x1, x2, x3, x4, x5] (-1) = some x5 := rfl
theorem atm1_7 : atI [x0, x1, x2, x3, x4, x5, x6] (-1) = some x6 := rfl
theorem atm1_8 : atI [x0, x1, x2, x3, x4, x5, x6, x7] (-1) = some x7 := rfl
theorem ixq1_0 : ixN 1 0 = some 0 := rfl
theorem ixq2_0 : ixN 2 0 = some 0 := rfl
theorem ixq2_1 : ixN 2 1 = some 1 := rfl
theorem ixq3_0 : ixN 3 0 = some 0 := rfl
theorem ixq3_1 : ixN 3 1 = some 1 := rfl
theorem ixq3_2 : ixN 3 2 = some 2 := rfl
theorem ixq4_0 : ixN 4 0 = some 0 := rfl
theorem ixq4_1 : ixN 4 1 = some 1 := rfl
theorem ixq4_2 : ixN 4 2 = some 2 := rfl
theorem ixq4_3 : ixN 4 3 = some 3 := rfl
theorem ixq5_0 : ixN 5 0 = some 0 := rfl
theorem ixq5_1 : ixN 5 1 = some 1 := rfl
theorem ixq5_2 : ixN 5 2 = some 2 := rfl
theorem ixq5_3 : ixN 5 3 = some 3 := rfl
theorem ixq5_4 : ixN 5 4 = some 4 := rfl
theorem ixq6_0 : ixN 6 0 = some 0 := rfl
theorem ixq6_1 : ixN 6 1 = some 1 := rfl
theorem ixq6_2 : ixN 6 2 = some 2 := rfl
theorem ixq6_3 : ixN 6 3 = some 3 := rfl
theorem ixq6_4 : ixN 6 4 = some 4 := rfl
theorem ixq6_5 : ixN 6 5 = some 5 := rfl
theorem ixq7_0 : ixN 7 0 = some 0 := rfl
theorem ixq7_1 : ixN 7 1 = some 1 := rfl
theorem ixq7_2 : ixN 7 2 = some 2 := rfl
theorem ixq7_3 : ixN 7 3 = some 3 := rfl
theorem ixq7_4 : ixN 7 4 = some 4 := rfl
theorem ixq7_5 : ixN 7 5 = some 5 := rfl
theorem ixq7_6 : ixN 7 6 = some 6 := rfl
theorem ixq8_0 : ixN 8 0 = some 0 := rfl
theorem ixq8_1 : ixN 8 1 = some 1 := rfl
theorem ixq8_2 : ixN 8 2 = some 2 := rfl
theorem ixq8_3 : ixN 8 3 = some 3 := rfl
theorem ixq8_4 : ixN 8 4 = some 4 := rfl
theorem ixq8_5 : ixN 8 5 = some 5 := rfl
theorem ixq8_6 : ixN 8 6 = some 6 := rfl
theorem ixq8_7 : ixN 8 7 = some 7 := rfl
end
/-! ### sizes, by levels: bits to 1000 * 2 ^ n -/
def BdL (n : Nat) (i : Int) : Prop := Bd (1000 * 2 ^ n) i
theorem BdL.of {n k : Nat} {i : Int} (h : Bd k i) (l : k ≤ 1000) : BdL n i := h.mono (Nat.le_trans l (Nat.le_mul_of_pos_right _ (Nat.two_pow_pos n)))
theorem BdL.up {n m : Nat} {i : Int} (h : BdL n i) (l : n ≤ m) : BdL m i := h.mono (Nat.mul_le_mul_left _ (Nat.pow_le_pow_right (by decide) l))
theorem BdL.mul {n : Nat} {i j : Int} (h : BdL n i) (h2 : BdL n j) : BdL (n + 1) (i * j) := (Bd.mul h h2).mono (by rw [Nat.pow_succ]; omega)
theorem BdL.add {n : Nat} {i j : Int} (h : BdL n i) (h2 : BdL n j) : BdL (n + 1) (i + j) := (Bd.add h h2).mono (by rw [Nat.pow_succ]; have := Nat.two_pow_pos n; omega)
theorem BdL.sub {n : Nat} {i j : Int} (h : BdL n i) (h2 : BdL n j) : BdL (n + 1) (i - j) := (Bd.sub h h2).mono (by rw [Nat.pow_succ]; have := Nat.two_pow_pos n; omega)
theorem BdL.neg {n : Nat} {i : Int} (h : BdL n i) : BdL n (-i) := Bd.neg h
theorem BdL.div {n : Nat} {i j : Int} (h : BdL n i) : BdL n (i / j) := Bd.div h
theorem mulOk_L {i j : Int} (h : BdL 8 i) (h2 : BdL 8 j) : mulOk i j = true := by
  have g : ∀ x : Int, BdL 8 x → Bd (255999 + 1) x := fun x (q : Bd (1000 * 2 ^ 8) x) => Bd.mono q (by decide)
  exact mulOk_of (g i h) (g j h2) (by decide)
theorem divOk_L {j : Int} (h : BdL 3 j) (z : j ≠ 0) : divOk j = true := by
  have g : Bd (7999 + 1) j := Bd.mono (show Bd (1000 * 2 ^ 3) j from h) (by decide)
  exact divOk_of g z (by decide)
end Ev

set_option Elab.async false
set_option linter.all false
set_option maxRecDepth 100000
set_option maxHeartbeats 4000000
namespace Ev
open PySem PySem.Spec PyProof.Rows L2
/-! ### ratios as numbers -/
abbrev I2 (a b : Int) : D := .tup [.int a, .int b]
abbrev gc (a b : Int) : Int := ((Nat.gcd a.natAbs b.natAbs : Nat) : Int)
abbrev rD (r : Rat) : D := I2 r.num (r.den : Int)
abbrev qv (a b : Int) : Rat := (a : Rat) / (b : Rat)
theorem den_pos (r : Rat) : (0 : Int) < (r.den : Int) := Int.natCast_pos.mpr r.den_pos
theorem den_ne (r : Rat) : (r.den : Int) ≠ 0 := by have := den_pos r; omega
theorem num_eq (r : Rat) : (r.num : Rat) = r * ((r.den : Int) : Rat) := by
  have h : mkRat r.num r.den = r := Rat.mkRat_self r
  rw [Rat.mkRat_eq_div] at h
  have z : ((r.den : Int) : Rat) ≠ 0 := fun z => den_ne r (Rat.intCast_inj.mp z)
  have h' : (r.num : Rat) / ((r.den : Int) : Rat) = r := by rw [Rat.intCast_natCast]; exact h
  grind
theorem cast_ne {b : Int} (h : b ≠ 0) : (b : Rat) ≠ 0 := fun z => h (Rat.intCast_inj.mp z)
theorem gc_pos {a b : Int} (h : b ≠ 0) : 0 < gc a b := by
  have : 0 < Nat.gcd a.natAbs b.natAbs := Nat.gcd_pos_of_pos_right _ (by omega)
  unfold gc
  omega
theorem qv_num {a b : Int} (h : 0 < b) : (qv a b).num = a / gc a b := by
  obtain ⟨n, rfl⟩ : ∃ n : Nat, b = n := ⟨b.toNat, by omega⟩
  have e : qv a n = mkRat a n := by rw [Rat.mkRat_eq_div, qv, Rat.intCast_natCast]
  rw [e, Rat.num_mkRat, if_neg (by omega), Nat.gcd_comm]
  rfl
theorem qv_den {a b : Int} (h : 0 < b) : ((qv a b).den : Int) = b / gc a b := by
  obtain ⟨n, rfl⟩ : ∃ n : Nat, b = n := ⟨b.toNat, by omega⟩
  have e : qv a n = mkRat a n := by rw [Rat.mkRat_eq_div, qv, Rat.intCast_natCast]
  rw [e, Rat.den_mkRat, if_neg (by omega), Nat.gcd_comm]
  exact Int.natCast_ediv n (a.natAbs.gcd n)
theorem qr_eq {a b : Int} (h : 0 < b) : I2 (a / gc a b) (b / gc a b) = rD (qv a b) := by
  rw [rD, qv_num h, qv_den h]
theorem gc_le {a b : Int} (h : b ≠ 0) : (gc a b).natAbs ≤ b.natAbs := by
  have gl : Nat.gcd a.natAbs b.natAbs ≤ b.natAbs := Nat.gcd_le_right _ (by omega)
  unfold gc
  omega
theorem gc_divL {n : Nat} {a b : Int} (h : b ≠ 0) (hk : BdL n b) (hn : n ≤ 3) : divOk (gc a b) = true := divOk_L (BdL.up (n := n) (show BdL n (gc a b) from Bd.of_le hk (gc_le h)) hn) (by have := gc_pos (a := a) h; omega)
/-! bounds of both parts -/
def RB (n : Nat) (r : Rat) : Prop := BdL n r.num ∧ BdL n (r.den : Int)
theorem RB.up {n m : Nat} {r : Rat} (h : RB n r) (l : n ≤ m) : RB m r := ⟨h.1.up l, h.2.up l⟩
theorem RB.qv {n : Nat} {a b : Int} (h : 0 < b) (ha : BdL n a) (hb : BdL n b) : RB n (qv a b) := ⟨by rw [qv_num h]; exact ha.div, by rw [qv_den h]; exact hb.div⟩
theorem one_ne : (1 : Rat) ≠ 0 := by decide
theorem int_num (i : Int) : ((i : Rat)).num = i := Rat.num_intCast i
theorem int_den (i : Int) : ((((i : Rat)).den : Nat) : Int) = 1 := by rw [Rat.den_intCast]; rfl
theorem rD_int (i : Int) : rD (i : Rat) = I2 i 1 := by rw [rD, int_num, int_den]
theorem RB.int {n : Nat} {i : Int} (h : BdL n i) : RB n (i : Rat) := ⟨by rw [int_num]; exact h, by rw [int_den]; exact BdL.of (k := 1) .lit (by decide)⟩
theorem qv_add (x y : Rat) : qv (x.num * y.den + y.num * x.den) (x.den * y.den) = x + y := by
  have h1 := num_eq x
  have h2 := num_eq y
  have z1 := cast_ne (den_ne x)
  have z2 := cast_ne (den_ne y)
  simp only [qv, Rat.intCast_add, Rat.intCast_mul]
  grind
theorem qv_sub (x y : Rat) : qv (x.num * y.den - y.num * x.den) (x.den * y.den) = x - y := by
  have h1 := num_eq x
  have h2 := num_eq y
  have z1 := cast_ne (den_ne x)
  have z2 := cast_ne (den_ne y)
  simp only [qv, Rat.intCast_sub, Rat.intCast_mul]
  grind
theorem qv_mul (x y : Rat) : qv (x.num * y.num) (x.den * y.den) = x * y := by
  have h1 := num_eq x
  have h2 := num_eq y
  have z1 := cast_ne (den_ne x)
  have z2 := cast_ne (den_ne y)
  simp only [qv, Rat.intCast_mul]
  grind
theorem RB.add {n : Nat} {x y : Rat} (h : RB n x) (k : RB n y) : RB (n + 2) (x + y) := by
  rw [← qv_add]
  exact .qv (Int.mul_pos (den_pos x) (den_pos y)) ((h.1.mul k.2).add (k.1.mul h.2)) ((h.2.mul k.2).up (by omega))
theorem RB.sub {n : Nat} {x y : Rat} (h : RB n x) (k : RB n y) : RB (n + 2) (x - y) := by
  rw [← qv_sub]
  exact .qv (Int.mul_pos (den_pos x) (den_pos y)) ((h.1.mul k.2).sub (k.1.mul h.2)) ((h.2.mul k.2).up (by omega))
theorem RB.mul {n : Nat} {x y : Rat} (h : RB n x) (k : RB n y) : RB (n + 1) (x * y) := by
  rw [← qv_mul]
  exact .qv (Int.mul_pos (den_pos x) (den_pos y)) (h.1.mul k.1) (h.2.mul k.2)
theorem RB.neg {n : Nat} {x : Rat} (h : RB n x) : RB n (-x) := ⟨by rw [Rat.neg_num]; exact h.1.neg, by rw [Rat.neg_den]; exact h.2⟩
theorem rD_inj {x y : Rat} : deq (rD x) (rD y) = decide (x = y) := by
  rw [deq_tt, deqs_cc, deqs_cc, deqs_nn, deq_ii, deq_ii, Bool.and_true]
  by_cases h : x = y
  · subst h
    simp
  · rw [decide_eq_false h]
    by_cases h1 : x.num = y.num
    · have : ¬ ((x.den : Int) = y.den) := fun z => h (Rat.ext h1 (by omega))
      rw [decide_eq_false this, Bool.and_false]
    · rw [decide_eq_false h1, Bool.false_and]
theorem shp_rD {n : Nat} {x : Rat} : shp (n + 1) (rD x) = true := by
  rw [shp_t, shps_c, shps_c, shps_n, shp_i, shp_i]
  rfl
theorem gEq_rD {x y : Rat} : gEq (rD x) (rD y) = vb (decide (x = y)) := by
  rw [gEq_e, if_pos ⟨shp_rD, shp_rD⟩, rD_inj]
theorem gNe_rD {x y : Rat} : gNe (rD x) (rD y) = vb (!decide (x = y)) := by
  rw [gNe_e, if_pos ⟨shp_rD, shp_rD⟩, rD_inj]
end Ev

set_option Elab.async false
set_option linter.all false
set_option maxRecDepth 100000
set_option maxHeartbeats 4000000
namespace Kx
open PySem PySem.Spec PyProof.Rows L2 Ev
def top (i : Nat) : Stmt := PySem.Challenge.pw_tautparcel_k17_common_times_of_beats.main.body.getD i (.Pass ⟨0, 0, 0, 0⟩)
def meth (s : Stmt) (j : Nat) : Stmt := match s with
  | .ClassDef _ _ _ b _ _ _ _ _ _ _ => b.getD j (.Pass ⟨0, 0, 0, 0⟩)
  | _ => .Pass ⟨0, 0, 0, 0⟩
def d_is_whole : He.DefD := ⟨("is_whole", none), "is_whole", "is_whole", defArgs (top 5), defBody (top 5), defScope (top 5), [.non, .non], []⟩
def d_is_ratio : He.DefD := ⟨("is_ratio", none), "is_ratio", "is_ratio", defArgs (top 6), defBody (top 6), defScope (top 6), [], []⟩
def d_in_lowest : He.DefD := ⟨("in_lowest", none), "in_lowest", "in_lowest", defArgs (top 7), defBody (top 7), defScope (top 7), [], []⟩
def d_check_beat : He.DefD := ⟨("check_beat", none), "check_beat", "check_beat", defArgs (top 9), defBody (top 9), defScope (top 9), [], []⟩
def d_inverse_of : He.DefD := ⟨("inverse_of", none), "inverse_of", "inverse_of", defArgs (top 10), defBody (top 10), defScope (top 10), [], []⟩
def d_common_whole : He.DefD := ⟨("common_whole", none), "common_whole", "common_whole", defArgs (top 11), defBody (top 11), defScope (top 11), [], []⟩
def d_least_common : He.DefD := ⟨("least_common", none), "least_common", "least_common", defArgs (top 12), defBody (top 12), defScope (top 12), [], []⟩
def d_common_time : He.DefD := ⟨("common_time", none), "common_time", "common_time", defArgs (top 13), defBody (top 13), defScope (top 13), [], []⟩
def d__law_hand : He.DefD := ⟨("_law_hand", none), "_law_hand", "_law_hand", defArgs (top 15), defBody (top 15), defScope (top 15), [], []⟩
def d__law_mixed : He.DefD := ⟨("_law_mixed", none), "_law_mixed", "_law_mixed", defArgs (top 16), defBody (top 16), defScope (top 16), [], []⟩
def d__law_take : He.DefD := ⟨("_law_take", none), "_law_take", "_law_take", defArgs (top 17), defBody (top 17), defScope (top 17), [], []⟩
def d__law_common : He.DefD := ⟨("_law_common", none), "_law_common", "_law_common", defArgs (top 18), defBody (top 18), defScope (top 18), [], []⟩
def d__law_ratio : He.DefD := ⟨("_law_ratio", none), "_law_ratio", "_law_ratio", defArgs (top 19), defBody (top 19), defScope (top 19), [], []⟩
def d__law_tuples : He.DefD := ⟨("_law_tuples", none), "_law_tuples", "_law_tuples", defArgs (top 20), defBody (top 20), defScope (top 20), [], []⟩
def d__law_same : He.DefD := ⟨("_law_same", none), "_law_same", "_law_same", defArgs (top 21), defBody (top 21), defScope (top 21), [], []⟩
def d__law_sequence : He.DefD := ⟨("_law_sequence", none), "_law_sequence", "_law_sequence", defArgs (top 22), defBody (top 22), defScope (top 22), [], []⟩
def d__law_plus : He.DefD := ⟨("_law_plus", none), "_law_plus", "_law_plus", defArgs (top 23), defBody (top 23), defScope (top 23), [], []⟩
def d__law_minus : He.DefD := ⟨("_law_minus", none), "_law_minus", "_law_minus", defArgs (top 24), defBody (top 24), defScope (top 24), [], []⟩
def d__law_number : He.DefD := ⟨("_law_number", none), "_law_number", "_law_number", defArgs (top 25), defBody (top 25), defScope (top 25), [], []⟩
def d__law_drawn_beat : He.DefD := ⟨("_law_drawn_beat", none), "_law_drawn_beat", "_law_drawn_beat", defArgs (top 26), defBody (top 26), defScope (top 26), [], []⟩
def d__law_through : He.DefD := ⟨("_law_through", none), "_law_through", "_law_through", defArgs (top 27), defBody (top 27), defScope (top 27), [], []⟩
def d__law_belongs : He.DefD := ⟨("_law_belongs", none), "_law_belongs", "_law_belongs", defArgs (top 28), defBody (top 28), defScope (top 28), [], []⟩
def d__law_scaled_beats : He.DefD := ⟨("_law_scaled_beats", none), "_law_scaled_beats", "_law_scaled_beats", defArgs (top 29), defBody (top 29), defScope (top 29), [], []⟩
def d__law_exists : He.DefD := ⟨("_law_exists", none), "_law_exists", "_law_exists", defArgs (top 30), defBody (top 30), defScope (top 30), [], []⟩
def d__law_is_least : He.DefD := ⟨("_law_is_least", none), "_law_is_least", "_law_is_least", defArgs (top 31), defBody (top 31), defScope (top 31), [], []⟩
def d__law_refused : He.DefD := ⟨("_law_refused", none), "_law_refused", "_law_refused", defArgs (top 32), defBody (top 32), defScope (top 32), [], []⟩
def d__law_refusals : He.DefD := ⟨("_law_refusals", none), "_law_refusals", "_law_refusals", defArgs (top 33), defBody (top 33), defScope (top 33), [], []⟩
def d_law : He.DefD := ⟨("law", none), "law", "law", defArgs (top 34), defBody (top 34), defScope (top 34), [], []⟩
def d_ini_BadBeat : He.DefD := ⟨("BadBeat", some "__init__"), "__init__", "BadBeat.__init__", defArgs (meth (top 3) 0), defBody (meth (top 3) 0), defScope (meth (top 3) 0), [], []⟩
def fn : List He.DefD := [d_is_whole, d_is_ratio, d_in_lowest, d_check_beat, d_inverse_of, d_common_whole, d_least_common, d_common_time, d__law_hand, d__law_mixed, d__law_take, d__law_common, d__law_ratio, d__law_tuples, d__law_same, d__law_sequence, d__law_plus, d__law_minus, d__law_number, d__law_drawn_beat, d__law_through, d__law_belongs, d__law_scaled_beats, d__law_exists, d__law_is_least, d__law_refused, d__law_refusals, d_law, d_ini_BadBeat]
def fa : List Fx := [.glo "law", .free "isinstance", .free "bool", .free "int", .free "tuple", .free "list", .free "len", .glo "is_whole", .fun_ "gcd" "math.gcd", .nof "BadBeat" "index", .nof "BadBeat" "what", .oex "BadBeat", .ini "BadBeat", .glo "BadBeat", .glo "is_ratio", .glo "common_whole", .glo "inverse_of", .fun_ "lcm" "math.lcm", .glo "in_lowest", .glo "least_common", .glo "check_beat", .free "abs", .glo "_law_mixed", .glo "_law_common", .glo "_law_tuples", .glo "_law_take", .glo "_law_ratio", .glo "_law_number", .glo "_law_plus", .glo "_law_minus", .glo "_law_scaled_beats", .glo "common_time", .xf "BadBeat", .glo "_law_refused", .glo "_law_hand", .free "range", .glo "_law_drawn_beat", .glo "_law_through", .glo "_law_sequence", .glo "_law_exists", .glo "_law_same", .glo "_law_belongs", .glo "_law_is_least", .glo "_law_refusals", .exm "BadBeat" "BadBeat" true]
structure Tz (K : PySem.W.Frag) (mg : Str → Option Value) : Prop where
  ex : ∃ h : Heap, K.In h ∧ h.Ns mainGlobals mg
  c : SaysX fa fn K
section
variable {K : PySem.W.Frag} {mg : Str → Option Value}
theorem Tz.glo (T : Tz K mg) {x : Str} (c : (Fx.glo x).ok K = true) : mg x = some (.ref (He.ga K x)) := let ⟨_, X, G⟩ := T.ex; fx_glo X G c
theorem Tz.free (T : Tz K mg) {x : Str} (c : (Fx.free x).ok K = true) : mg x = none := let ⟨_, X, G⟩ := T.ex; fx_free X G c
theorem Tz.fun_ (T : Tz K mg) {x : Str} {id : String} (c : (Fx.fun_ x id).ok K = true) : mg x = some (.builtin id) := let ⟨_, X, G⟩ := T.ex; fx_fun X G c
theorem Tz.dat (T : Tz K mg) {x : Str} {d : D} (c : (Fx.dat x d).ok K = true) : ∃ v u, mg x = some u ∧ RelV v u ∧ ∀ (Γ : Wd) (B : Hp), Γ.K = K → Rep Γ B d v := let ⟨_, X, G⟩ := T.ex; fx_dat X G c
theorem Tz.int (T : Tz K mg) {x : Str} {i : Int} (c : (Fx.int x i).ok K = true) : ∃ t, mg x = some (.int i t) := let ⟨_, X, G⟩ := T.ex; fx_int X G c
theorem Tz.F_is_whole (T : Tz K mg) : FunD K "is_whole" "is_whole" (defArgs (top 5)) (defBody (top 5)) (defScope (top 5)) (d_is_whole.dvs K) [] (He.ga K "is_whole") (fdOf K (He.ga K "is_whole")) := T.c.def_ 0 (d := d_is_whole) rfl
theorem Tz.F_is_ratio (T : Tz K mg) : FunD K "is_ratio" "is_ratio" (defArgs (top 6)) (defBody (top 6)) (defScope (top 6)) (d_is_ratio.dvs K) [] (He.ga K "is_ratio") (fdOf K (He.ga K "is_ratio")) := T.c.def_ 1 (d := d_is_ratio) rfl
theorem Tz.b_is_ratio (T : Tz K mg) : Binds K (fdOf K (He.ga K "is_ratio")) ["thing"] [] := T.F_is_ratio.bindsN fun _ _ _ _ _ _ us hl => match us, hl with | [_], _ => rfl
theorem Tz.F_in_lowest (T : Tz K mg) : FunD K "in_lowest" "in_lowest" (defArgs (top 7)) (defBody (top 7)) (defScope (top 7)) (d_in_lowest.dvs K) [] (He.ga K "in_lowest") (fdOf K (He.ga K "in_lowest")) := T.c.def_ 2 (d := d_in_lowest) rfl
theorem Tz.b_in_lowest (T : Tz K mg) : Binds K (fdOf K (He.ga K "in_lowest")) ["top", "bottom"] [] := T.F_in_lowest.bindsN fun _ _ _ _ _ _ us hl => match us, hl with | [_, _], _ => rfl
theorem Tz.F_check_beat (T : Tz K mg) : FunD K "check_beat" "check_beat" (defArgs (top 9)) (defBody (top 9)) (defScope (top 9)) (d_check_beat.dvs K) [] (He.ga K "check_beat") (fdOf K (He.ga K "check_beat")) := T.c.def_ 3 (d := d_check_beat) rfl
theorem Tz.b_check_beat (T : Tz K mg) : Binds K (fdOf K (He.ga K "check_beat")) ["beat", "index"] [] := T.F_check_beat.bindsN fun _ _ _ _ _ _ us hl => match us, hl with | [_, _], _ => rfl
theorem Tz.F_inverse_of (T : Tz K mg) : FunD K "inverse_of" "inverse_of" (defArgs (top 10)) (defBody (top 10)) (defScope (top 10)) (d_inverse_of.dvs K) [] (He.ga K "inverse_of") (fdOf K (He.ga K "inverse_of")) := T.c.def_ 4 (d := d_inverse_of) rfl
theorem Tz.b_inverse_of (T : Tz K mg) : Binds K (fdOf K (He.ga K "inverse_of")) ["number", "modulus"] [] := T.F_inverse_of.bindsN fun _ _ _ _ _ _ us hl => match us, hl with | [_, _], _ => rfl
theorem Tz.F_common_whole (T : Tz K mg) : FunD K "common_whole" "common_whole" (defArgs (top 11)) (defBody (top 11)) (defScope (top 11)) (d_common_whole.dvs K) [] (He.ga K "common_whole") (fdOf K (He.ga K "common_whole")) := T.c.def_ 5 (d := d_common_whole) rfl
theorem Tz.b_common_whole (T : Tz K mg) : Binds K (fdOf K (He.ga K "common_whole")) ["first", "every", "start", "step"] [] := T.F_common_whole.bindsN fun _ _ _ _ _ _ us hl => match us, hl with | [_, _, _, _], _ => rfl
theorem Tz.F_least_common (T : Tz K mg) : FunD K "least_common" "least_common" (defArgs (top 12)) (defBody (top 12)) (defScope (top 12)) (d_least_common.dvs K) [] (He.ga K "least_common") (fdOf K (He.ga K "least_common")) := T.c.def_ 6 (d := d_least_common) rfl
theorem Tz.b_least_common (T : Tz K mg) : Binds K (fdOf K (He.ga K "least_common")) ["beat", "mate"] [] := T.F_least_common.bindsN fun _ _ _ _ _ _ us hl => match us, hl with | [_, _], _ => rfl
theorem Tz.F_common_time (T : Tz K mg) : FunD K "common_time" "common_time" (defArgs (top 13)) (defBody (top 13)) (defScope (top 13)) (d_common_time.dvs K) [] (He.ga K "common_time") (fdOf K (He.ga K "common_time")) := T.c.def_ 7 (d := d_common_time) rfl
theorem Tz.b_common_time (T : Tz K mg) : Binds K (fdOf K (He.ga K "common_time")) ["beat", "mate"] [] := T.F_common_time.bindsN fun _ _ _ _ _ _ us hl => match us, hl with | [_, _], _ => rfl
theorem Tz.F__law_hand (T : Tz K mg) : FunD K "_law_hand" "_law_hand" (defArgs (top 15)) (defBody (top 15)) (defScope (top 15)) (d__law_hand.dvs K) [] (He.ga K "_law_hand") (fdOf K (He.ga K "_law_hand")) := T.c.def_ 8 (d := d__law_hand) rfl
theorem Tz.b__law_hand (T : Tz K mg) : Binds K (fdOf K (He.ga K "_law_hand")) ["_law_script"] [] := T.F__law_hand.bindsN fun _ _ _ _ _ _ us hl => match us, hl with | [_], _ => rfl
theorem Tz.F__law_mixed (T : Tz K mg) : FunD K "_law_mixed" "_law_mixed" (defArgs (top 16)) (defBody (top 16)) (defScope (top 16)) (d__law_mixed.dvs K) [] (He.ga K "_law_mixed") (fdOf K (He.ga K "_law_mixed")) := T.c.def_ 9 (d := d__law_mixed) rfl
theorem Tz.b__law_mixed (T : Tz K mg) : Binds K (fdOf K (He.ga K "_law_mixed")) ["_law_number_here", "_law_turn"] [] := T.F__law_mixed.bindsN fun _ _ _ _ _ _ us hl => match us, hl with | [_, _], _ => rfl
theorem Tz.F__law_take (T : Tz K mg) : FunD K "_law_take" "_law_take" (defArgs (top 17)) (defBody (top 17)) (defScope (top 17)) (d__law_take.dvs K) [] (He.ga K "_law_take") (fdOf K (He.ga K "_law_take")) := T.c.def_ 10 (d := d__law_take) rfl
theorem Tz.b__law_take (T : Tz K mg) : Binds K (fdOf K (He.ga K "_law_take")) ["_law_hand_here", "_law_many"] [] := T.F__law_take.bindsN fun _ _ _ _ _ _ us hl => match us, hl with | [_, _], _ => rfl
theorem Tz.F__law_common (T : Tz K mg) : FunD K "_law_common" "_law_common" (defArgs (top 18)) (defBody (top 18)) (defScope (top 18)) (d__law_common.dvs K) [] (He.ga K "_law_common") (fdOf K (He.ga K "_law_common")) := T.c.def_ 11 (d := d__law_common) rfl
theorem Tz.b__law_common (T : Tz K mg) : Binds K (fdOf K (He.ga K "_law_common")) ["_law_one", "_law_other"] [] := T.F__law_common.bindsN fun _ _ _ _ _ _ us hl => match us, hl with | [_, _], _ => rfl
theorem Tz.F__law_ratio (T : Tz K mg) : FunD K "_law_ratio" "_law_ratio" (defArgs (top 19)) (defBody (top 19)) (defScope (top 19)) (d__law_ratio.dvs K) [] (He.ga K "_law_ratio") (fdOf K (He.ga K "_law_ratio")) := T.c.def_ 12 (d := d__law_ratio) rfl
theorem Tz.b__law_ratio (T : Tz K mg) : Binds K (fdOf K (He.ga K "_law_ratio")) ["_law_top", "_law_bottom"] [] := T.F__law_ratio.bindsN fun _ _ _ _ _ _ us hl => match us, hl with | [_, _], _ => rfl
theorem Tz.F__law_tuples (T : Tz K mg) : FunD K "_law_tuples" "_law_tuples" (defArgs (top 20)) (defBody (top 20)) (defScope (top 20)) (d__law_tuples.dvs K) [] (He.ga K "_law_tuples") (fdOf K (He.ga K "_law_tuples")) := T.c.def_ 13 (d := d__law_tuples) rfl
theorem Tz.b__law_tuples (T : Tz K mg) : Binds K (fdOf K (He.ga K "_law_tuples")) ["_law_thing"] [] := T.F__law_tuples.bindsN fun _ _ _ _ _ _ us hl => match us, hl with | [_], _ => rfl
theorem Tz.F__law_same (T : Tz K mg) : FunD K "_law_same" "_law_same" (defArgs (top 21)) (defBody (top 21)) (defScope (top 21)) (d__law_same.dvs K) [] (He.ga K "_law_same") (fdOf K (He.ga K "_law_same")) := T.c.def_ 14 (d := d__law_same) rfl
theorem Tz.b__law_same (T : Tz K mg) : Binds K (fdOf K (He.ga K "_law_same")) ["_law_told", "_law_due"] [] := T.F__law_same.bindsN fun _ _ _ _ _ _ us hl => match us, hl with | [_, _], _ => rfl
theorem Tz.F__law_sequence (T : Tz K mg) : FunD K "_law_sequence" "_law_sequence" (defArgs (top 22)) (defBody (top 22)) (defScope (top 22)) (d__law_sequence.dvs K) [] (He.ga K "_law_sequence") (fdOf K (He.ga K "_law_sequence")) := T.c.def_ 15 (d := d__law_sequence) rfl
theorem Tz.b__law_sequence (T : Tz K mg) : Binds K (fdOf K (He.ga K "_law_sequence")) ["_law_hand_here", "_law_thing"] [] := T.F__law_sequence.bindsN fun _ _ _ _ _ _ us hl => match us, hl with | [_, _], _ => rfl
theorem Tz.F__law_plus (T : Tz K mg) : FunD K "_law_plus" "_law_plus" (defArgs (top 23)) (defBody (top 23)) (defScope (top 23)) (d__law_plus.dvs K) [] (He.ga K "_law_plus") (fdOf K (He.ga K "_law_plus")) := T.c.def_ 16 (d := d__law_plus) rfl
theorem Tz.b__law_plus (T : Tz K mg) : Binds K (fdOf K (He.ga K "_law_plus")) ["_law_one", "_law_other"] [] := T.F__law_plus.bindsN fun _ _ _ _ _ _ us hl => match us, hl with | [_, _], _ => rfl
theorem Tz.F__law_minus (T : Tz K mg) : FunD K "_law_minus" "_law_minus" (defArgs (top 24)) (defBody (top 24)) (defScope (top 24)) (d__law_minus.dvs K) [] (He.ga K "_law_minus") (fdOf K (He.ga K "_law_minus")) := T.c.def_ 17 (d := d__law_minus) rfl
theorem Tz.b__law_minus (T : Tz K mg) : Binds K (fdOf K (He.ga K "_law_minus")) ["_law_one", "_law_other"] [] := T.F__law_minus.bindsN fun _ _ _ _ _ _ us hl => match us, hl with | [_, _], _ => rfl
theorem Tz.F__law_number (T : Tz K mg) : FunD K "_law_number" "_law_number" (defArgs (top 25)) (defBody (top 25)) (defScope (top 25)) (d__law_number.dvs K) [] (He.ga K "_law_number") (fdOf K (He.ga K "_law_number")) := T.c.def_ 18 (d := d__law_number) rfl
theorem Tz.b__law_number (T : Tz K mg) : Binds K (fdOf K (He.ga K "_law_number")) ["_law_hand_here"] [] := T.F__law_number.bindsN fun _ _ _ _ _ _ us hl => match us, hl with | [_], _ => rfl
theorem Tz.F__law_drawn_beat (T : Tz K mg) : FunD K "_law_drawn_beat" "_law_drawn_beat" (defArgs (top 26)) (defBody (top 26)) (defScope (top 26)) (d__law_drawn_beat.dvs K) [] (He.ga K "_law_drawn_beat") (fdOf K (He.ga K "_law_drawn_beat")) := T.c.def_ 19 (d := d__law_drawn_beat) rfl
theorem Tz.b__law_drawn_beat (T : Tz K mg) : Binds K (fdOf K (He.ga K "_law_drawn_beat")) ["_law_hand_here"] [] := T.F__law_drawn_beat.bindsN fun _ _ _ _ _ _ us hl => match us, hl with | [_], _ => rfl
theorem Tz.F__law_through (T : Tz K mg) : FunD K "_law_through" "_law_through" (defArgs (top 27)) (defBody (top 27)) (defScope (top 27)) (d__law_through.dvs K) [] (He.ga K "_law_through") (fdOf K (He.ga K "_law_through")) := T.c.def_ 20 (d := d__law_through) rfl
theorem Tz.b__law_through (T : Tz K mg) : Binds K (fdOf K (He.ga K "_law_through")) ["_law_hand_here", "_law_beat", "_law_time"] [] := T.F__law_through.bindsN fun _ _ _ _ _ _ us hl => match us, hl with | [_, _, _], _ => rfl
theorem Tz.F__law_belongs (T : Tz K mg) : FunD K "_law_belongs" "_law_belongs" (defArgs (top 28)) (defBody (top 28)) (defScope (top 28)) (d__law_belongs.dvs K) [] (He.ga K "_law_belongs") (fdOf K (He.ga K "_law_belongs")) := T.c.def_ 21 (d := d__law_belongs) rfl
theorem Tz.b__law_belongs (T : Tz K mg) : Binds K (fdOf K (He.ga K "_law_belongs")) ["_law_time", "_law_beat"] [] := T.F__law_belongs.bindsN fun _ _ _ _ _ _ us hl => match us, hl with | [_, _], _ => rfl
theorem Tz.F__law_scaled_beats (T : Tz K mg) : FunD K "_law_scaled_beats" "_law_scaled_beats" (defArgs (top 29)) (defBody (top 29)) (defScope (top 29)) (d__law_scaled_beats.dvs K) [] (He.ga K "_law_scaled_beats") (fdOf K (He.ga K "_law_scaled_beats")) := T.c.def_ 22 (d := d__law_scaled_beats) rfl
theorem Tz.b__law_scaled_beats (T : Tz K mg) : Binds K (fdOf K (He.ga K "_law_scaled_beats")) ["_law_beat", "_law_mate"] [] := T.F__law_scaled_beats.bindsN fun _ _ _ _ _ _ us hl => match us, hl with | [_, _], _ => rfl
theorem Tz.F__law_exists (T : Tz K mg) : FunD K "_law_exists" "_law_exists" (defArgs (top 30)) (defBody (top 30)) (defScope (top 30)) (d__law_exists.dvs K) [] (He.ga K "_law_exists") (fdOf K (He.ga K "_law_exists")) := T.c.def_ 23 (d := d__law_exists) rfl
theorem Tz.b__law_exists (T : Tz K mg) : Binds K (fdOf K (He.ga K "_law_exists")) ["_law_beat", "_law_mate"] [] := T.F__law_exists.bindsN fun _ _ _ _ _ _ us hl => match us, hl with | [_, _], _ => rfl
theorem Tz.F__law_is_least (T : Tz K mg) : FunD K "_law_is_least" "_law_is_least" (defArgs (top 31)) (defBody (top 31)) (defScope (top 31)) (d__law_is_least.dvs K) [] (He.ga K "_law_is_least") (fdOf K (He.ga K "_law_is_least")) := T.c.def_ 24 (d := d__law_is_least) rfl
theorem Tz.b__law_is_least (T : Tz K mg) : Binds K (fdOf K (He.ga K "_law_is_least")) ["_law_time", "_law_beat", "_law_mate"] [] := T.F__law_is_least.bindsN fun _ _ _ _ _ _ us hl => match us, hl with | [_, _, _], _ => rfl
theorem Tz.F__law_refused (T : Tz K mg) : FunD K "_law_refused" "_law_refused" (defArgs (top 32)) (defBody (top 32)) (defScope (top 32)) (d__law_refused.dvs K) [] (He.ga K "_law_refused") (fdOf K (He.ga K "_law_refused")) := T.c.def_ 25 (d := d__law_refused) rfl
theorem Tz.b__law_refused (T : Tz K mg) : Binds K (fdOf K (He.ga K "_law_refused")) ["_law_beat", "_law_mate"] [] := T.F__law_refused.bindsN fun _ _ _ _ _ _ us hl => match us, hl with | [_, _], _ => rfl
theorem Tz.F__law_refusals (T : Tz K mg) : FunD K "_law_refusals" "_law_refusals" (defArgs (top 33)) (defBody (top 33)) (defScope (top 33)) (d__law_refusals.dvs K) [] (He.ga K "_law_refusals") (fdOf K (He.ga K "_law_refusals")) := T.c.def_ 26 (d := d__law_refusals) rfl
theorem Tz.b__law_refusals (T : Tz K mg) : Binds K (fdOf K (He.ga K "_law_refusals")) ["_law_hand_here", "_law_beat"] [] := T.F__law_refusals.bindsN fun _ _ _ _ _ _ us hl => match us, hl with | [_, _], _ => rfl
theorem Tz.F_law (T : Tz K mg) : FunD K "law" "law" (defArgs (top 34)) (defBody (top 34)) (defScope (top 34)) (d_law.dvs K) [] (He.ga K "law") (fdOf K (He.ga K "law")) := T.c.def_ 27 (d := d_law) rfl
theorem Tz.b_law (T : Tz K mg) : Binds K (fdOf K (He.ga K "law")) ["_law_script"] [] := T.F_law.bindsN fun _ _ _ _ _ _ us hl => match us, hl with | [_], _ => rfl
theorem Tz.bd_is_whole_1 (T : Tz K mg) : ∃ ds, Vals ((d_is_whole.dvs K).drop 0) ds ∧ Binds K (fdOf K (He.ga K "is_whole")) ["thing", "low", "high"] ds := T.F_is_whole.binds1 1 0 (by exact fun z => nomatch z) rfl fun _ _ _ _ _ _ _ us its hl hi => match us, its, hl, hi with | [_], [_, _], _, _ => ⟨_, rfl, rfl⟩
theorem Tz.bd_is_whole_2 (T : Tz K mg) : ∃ ds, Vals ((d_is_whole.dvs K).drop 1) ds ∧ Binds K (fdOf K (He.ga K "is_whole")) ["thing", "low", "high"] ds := T.F_is_whole.binds1 2 1 (by exact fun z => nomatch z) rfl fun _ _ _ _ _ _ _ us its hl hi => match us, its, hl, hi with | [_, _], [_, _], _, _ => ⟨_, rfl, rfl⟩
theorem Tz.iF_BadBeat (T : Tz K mg) : FunD K "__init__" "BadBeat.__init__" (defArgs (meth (top 3) 0)) (defBody (meth (top 3) 0)) (defScope (meth (top 3) 0)) [] [] (He.ma K (He.ga K "BadBeat") "__init__") (fdOf K (He.ma K (He.ga K "BadBeat") "__init__")) := T.c.def_ 28 (d := d_ini_BadBeat) rfl
theorem Tz.ib_BadBeat (T : Tz K mg) : Binds K (fdOf K (He.ma K (He.ga K "BadBeat") "__init__")) ["self", "index", "what"] [] := T.iF_BadBeat.bindsN fun _ _ _ _ _ _ us hl => match us, hl with | [_, _, _], _ => rfl
theorem Tz.ini_BadBeat {P : Program} {w : World} {base : Heap} (T : Tz K mg) : FnOk P w K mg base CX0 1 (He.ma K (He.ga K "BadBeat") "__init__") (fdOf K (He.ma K (He.ga K "BadBeat") "__init__")) ["self", "index", "what"] (spInit (He.ga K "BadBeat") ["index", "what"]) := init2 T.iF_BadBeat ⟨rfl, rfl, rfl, by decide +kernel, rfl, by decide +kernel, by decide +kernel⟩ (fx_oex (T.c.fact 11)) (fx_nof (T.c.fact 9)) (fx_nof (T.c.fact 10))
def tabL : List (Str × Str × Bool) := [("BadBeat", "BadBeat", true)]
def tabX : XTab := xtab tabL
theorem Tz.exm (T : Tz K mg) {h : Str} {Ch : Addr} (hh : mg h = some (.ref Ch)) : ∀ cn C b, tabX cn h = some b → mg cn = some (.ref C) → PySem.W.exmOne K (.ref C) (.ref Ch) = some b := by
  intro cn C b e g
  have m := xtab_mem e
  unfold tabL at m
  simp only [List.mem_cons, List.not_mem_nil, or_false, Prod.mk.injEq] at m
  obtain ⟨rfl, rfl, rfl⟩ := m
  · have q1 := g.symm.trans (T.glo (T.c.fact 13))
    have q2 := hh.symm.trans (T.glo (T.c.fact 13))
    cases q1
    cases q2
    exact fx_exm (T.c.fact 44)
end
end Kx

set_option Elab.async false
set_option linter.all false
set_option maxRecDepth 100000
set_option maxHeartbeats 400000
namespace Kx
open PySem PySem.Spec PyProof.Rows L2 Ev
section
variable {P : Program} {w : World} {K : PySem.W.Frag} {mg : Str → Option Value} {base : Heap}
/-! is_whole -/
abbrev N_is_whole : List Str := ["thing", "low", "high"]
theorem sc_is_whole : FnScope N_is_whole ["thing", "low", "high"] (defScope (top 5)) := ⟨rfl, rfl, rfl, by decide +kernel, rfl, by decide +kernel, by decide +kernel⟩
noncomputable def den_is_whole : DenS := dSeq (dIfS (dOrT (dTru (dLV (dIsi ["bool"] (dSlot 0)))) (dNotT (dTru (dLV (dIsi ["int"] (dSlot 0)))))) (dRet (dVal (dC (.bl false)))) (dSkip)) (dRet (dVal (dAndV (dOrV (dFrz (dBin gIs (dSlot 1) (dLV (dC .non)))) (dFrz (dBin gGe (dSlot 0) (dSlot 1)))) (dOrV (dFrz (dBin gIs (dSlot 2) (dLV (dC .non)))) (dFrz (dBin gLe (dSlot 0) (dSlot 2)))))))
noncomputable def fn_is_whole : Fn := mkFn 3 3 den_is_whole
theorem fn_is_whole_len (args : List Ent) (h : args.length ≠ 3) : fn_is_whole args = .bad := mkFn_len args h
theorem ok_is_whole (T : Tz K mg) : FnOkG P w K mg base (L2.CX P w) 1 (He.ga K "is_whole") (fdOf K (He.ga K "is_whole")) ["thing", "low", "high"] (spOf K mg [] 3 fn_is_whole) := by
  refine fn_ok (N := N_is_whole) (np := 3) (k := 0) (R := []) T.F_is_whole sc_is_whole rfl (f := den_is_whole) (fun cdv A outer s H E hr => ?_)
  have tk : Takes (cxOf (L2.CX P w) P w K mg base N_is_whole "is_whole" (defScope (top 5)) (He.ga K "is_whole") cdv A outer s H E) (fun cls d _ H => E cls d H) := takes_of rfl rfl rfl rfl
  have hp := passes_of (X := cxOf (L2.CX P w) P w K mg base N_is_whole "is_whole" (defScope (top 5)) (He.ga K "is_whole") cdv A outer s H E) rfl
  exact sCons (sIfS (sWT (sOrT (sTru rfl (sLV (sIsi rfl rfl (T.free (T.c.fact 1)) bt_isinstance (sSlot (pe_var (i := 0) rfl (.inl rfl))) (pe_bltn rfl (T.free (T.c.fact 2)) bt_bool rfl) rfl))) (sOrT1 (sNotT (sTru rfl (sLV (sIsi rfl rfl (T.free (T.c.fact 1)) bt_isinstance (sSlot (pe_var (i := 0) rfl (.inl rfl))) (pe_bltn rfl (T.free (T.c.fact 3)) bt_int rfl) rfl))))))) (sOne (sRet (sVal (sBl)))) (sNil)) (sOne (sRet (sVal (sAndV (sOrV (sFrz (sCmp op_isE sv_is (sSlot (pe_var (i := 1) rfl (.inl rfl))) (sLV (sNon)) (nomark _))) (sOneV (sFrz (sCmp op_ge sv_ge (sSlot (pe_var (i := 0) rfl (.inl rfl))) (sSlot (pe_var (i := 1) rfl (.inl rfl))) (nomark _))))) (sOneV (sOrV (sFrz (sCmp op_isE sv_is (sSlot (pe_var (i := 2) rfl (.inl rfl))) (sLV (sNon)) (nomark _))) (sOneV (sFrz (sCmp op_le sv_le (sSlot (pe_var (i := 0) rfl (.inl rfl))) (sSlot (pe_var (i := 2) rfl (.inl rfl))) (nomark _))))))))))
/-! in_lowest -/
abbrev N_in_lowest : List Str := ["top", "bottom", "common"]
theorem sc_in_lowest : FnScope N_in_lowest ["top", "bottom"] (defScope (top 7)) := ⟨rfl, rfl, rfl, by decide +kernel, rfl, by decide +kernel, by decide +kernel⟩
noncomputable def den_in_lowest : DenS := dSeq (dSet 2 (dCB gGcd (dArs [dSlot 0, dSlot 1]))) (dSeq (dIfS (dTB (dBin gLt (dSlot 1) (dLV (dC (.int 0))))) (dSet 2 (dVal (dNeg (dVar 2)))) (dSkip)) (dRet (dVal (dTup [dFrz (dBin gDiv (dSlot 0) (dSlot 2)), dFrz (dBin gDiv (dSlot 1) (dSlot 2))]))))
noncomputable def fn_in_lowest : Fn := mkFn 2 3 den_in_lowest
theorem fn_in_lowest_len (args : List Ent) (h : args.length ≠ 2) : fn_in_lowest args = .bad := mkFn_len args h
theorem ok_in_lowest (T : Tz K mg) : FnOkG P w K mg base (L2.CX P w) 1 (He.ga K "in_lowest") (fdOf K (He.ga K "in_lowest")) ["top", "bottom"] (spOf K mg [] 2 fn_in_lowest) := by
  refine fn_ok (N := N_in_lowest) (np := 2) (k := 0) (R := []) T.F_in_lowest sc_in_lowest rfl (f := den_in_lowest) (fun cdv A outer s H E hr => ?_)
  have tk : Takes (cxOf (L2.CX P w) P w K mg base N_in_lowest "in_lowest" (defScope (top 7)) (He.ga K "in_lowest") cdv A outer s H E) (fun cls d _ H => E cls d H) := takes_of rfl rfl rfl rfl
  have hp := passes_of (X := cxOf (L2.CX P w) P w K mg base N_in_lowest "in_lowest" (defScope (top 7)) (He.ga K "in_lowest") cdv A outer s H E) rfl
  exact sCons (sSet (i := 2) (nR rfl) (sCG cr_gcd sv_gcd rfl (T.fun_ (T.c.fact 8)) (sArCons (sSlot (pe_var (i := 0) rfl (.inl rfl))) (sArCons (sSlot (pe_var (i := 1) rfl (.inl rfl))) (sArNil)))) sc_in_lowest.nd rfl (.inl rfl)) (sCons (sIfS (sCmpT op_lt sv_lt (sSlot (pe_var (i := 1) rfl (.inl rfl))) (sLV (sInt)) (nomark _)) (sOne (sSet (i := 2) (nR rfl) (sVal (sNeg (sVar (pe_var (i := 2) rfl (.inl rfl))))) sc_in_lowest.nd rfl (.inl rfl))) (sNil)) (sOne (sRet (sVal (sTup (sVsCons (sFrz (sBin op_fdivX sv_div (sSlot (pe_var (i := 0) rfl (.inl rfl))) (sSlot (pe_var (i := 2) rfl (.inl rfl))))) (sVsCons (sFrz (sBin op_fdivX sv_div (sSlot (pe_var (i := 1) rfl (.inl rfl))) (sSlot (pe_var (i := 2) rfl (.inl rfl))))) (sVsNil))))))))
/-! inverse_of -/
abbrev N_inverse_of : List Str := ["number", "modulus", "low", "high", "one", "two", "part"]
theorem sc_inverse_of : FnScope N_inverse_of ["number", "modulus"] (defScope (top 10)) := ⟨rfl, rfl, rfl, by decide +kernel, rfl, by decide +kernel, by decide +kernel⟩
noncomputable def cd_inverse_of_1 : DenT := dTB (dBin gNe (dSlot 2) (dLV (dC (.int 0))))
noncomputable def bd_inverse_of_2 : DenS := dSeq (dSet 6 (dBin gDiv (dSlot 3) (dSlot 2))) (dSeq (dPar 2 3 (dVs [dFrz (dBin gSub (dSlot 3) (dLV (dFrz (dBin gMul (dSlot 6) (dSlot 2))))), dVar 2])) (dPar 4 5 (dVs [dFrz (dBin gSub (dSlot 5) (dLV (dFrz (dBin gMul (dSlot 6) (dSlot 4))))), dVar 4])))
noncomputable def den_inverse_of : DenS := dSeq (dPar 2 3 (dVs [dFrz (dBin gSub (dSlot 0) (dLV (dFrz (dBin gMul (dLV (dFrz (dBin gDiv (dSlot 0) (dSlot 1)))) (dSlot 1))))), dVar 1])) (dSeq (dAsg (asT 2 (asCons (asN 4) (asCons (asN 5) (asNil)))) (dTup [dC (.int 1), dC (.int 0)])) (dSeq (dWhile (cd_inverse_of_1) (bd_inverse_of_2)) (dRet (dBin gSub (dSlot 5) (dLV (dFrz (dBin gMul (dLV (dFrz (dBin gDiv (dSlot 5) (dSlot 1)))) (dSlot 1))))))))
noncomputable def fn_inverse_of : Fn := mkFn 2 7 den_inverse_of
theorem fn_inverse_of_len (args : List Ent) (h : args.length ≠ 2) : fn_inverse_of args = .bad := mkFn_len args h
theorem ok_inverse_of (T : Tz K mg) : FnOkG P w K mg base (L2.CX P w) 1 (He.ga K "inverse_of") (fdOf K (He.ga K "inverse_of")) ["number", "modulus"] (spOf K mg [] 2 fn_inverse_of) := by
  refine fn_ok (N := N_inverse_of) (np := 2) (k := 0) (R := []) T.F_inverse_of sc_inverse_of rfl (f := den_inverse_of) (fun cdv A outer s H E hr => ?_)
  have tk : Takes (cxOf (L2.CX P w) P w K mg base N_inverse_of "inverse_of" (defScope (top 10)) (He.ga K "inverse_of") cdv A outer s H E) (fun cls d _ H => E cls d H) := takes_of rfl rfl rfl rfl
  have hp := passes_of (X := cxOf (L2.CX P w) P w K mg base N_inverse_of "inverse_of" (defScope (top 10)) (He.ga K "inverse_of") cdv A outer s H E) rfl
  exact sCons (sPar (i := 2) (j := 3) (nR rfl) (nR rfl) rfl sc_inverse_of.nd rfl rfl (by decide) rfl rfl (sVsCons (sFrz (sBin op_sub sv_sub (sSlot (pe_var (i := 0) rfl (.inl rfl))) (sLV (sFrz (sBin op_mulE sv_mul (sLV (sFrz (sBin op_fdivX sv_div (sSlot (pe_var (i := 0) rfl (.inl rfl))) (sSlot (pe_var (i := 1) rfl (.inl rfl)))))) (sSlot (pe_var (i := 1) rfl (.inl rfl)))))))) (sVsCons (sVar (pe_var (i := 1) rfl (.inl rfl))) (sVsNil)))) (sCons (sAsg (own := [4, 5]) (sTup (sVsCons (sInt) (sVsCons (sInt) (sVsNil)))) (gT rfl rfl (gsCons (gN (i := 4) (by decide) (nR rfl) sc_inverse_of.nd rfl (.inl rfl)) (gsCons (gN (i := 5) (by decide) (nR rfl) sc_inverse_of.nd rfl (.inl rfl)) (gsNil))))) (sCons (sWhile hp (sCmpT (op_neD hr.units) sv_ne (sSlot (pe_var (i := 2) rfl (.inl rfl))) (sLV (sInt)) (nomark _)) (sCons (sSet (i := 6) (nR rfl) (sBin op_fdivX sv_div (sSlot (pe_var (i := 3) rfl (.inl rfl))) (sSlot (pe_var (i := 2) rfl (.inl rfl)))) sc_inverse_of.nd rfl (.inl rfl)) (sCons (sPar (i := 2) (j := 3) (nR rfl) (nR rfl) rfl sc_inverse_of.nd rfl rfl (by decide) rfl rfl (sVsCons (sFrz (sBin op_sub sv_sub (sSlot (pe_var (i := 3) rfl (.inl rfl))) (sLV (sFrz (sBin op_mulE sv_mul (sSlot (pe_var (i := 6) rfl (.inl rfl))) (sSlot (pe_var (i := 2) rfl (.inl rfl)))))))) (sVsCons (sVar (pe_var (i := 2) rfl (.inl rfl))) (sVsNil)))) (sOne (sPar (i := 4) (j := 5) (nR rfl) (nR rfl) rfl sc_inverse_of.nd rfl rfl (by decide) rfl rfl (sVsCons (sFrz (sBin op_sub sv_sub (sSlot (pe_var (i := 5) rfl (.inl rfl))) (sLV (sFrz (sBin op_mulE sv_mul (sSlot (pe_var (i := 6) rfl (.inl rfl))) (sSlot (pe_var (i := 4) rfl (.inl rfl)))))))) (sVsCons (sVar (pe_var (i := 4) rfl (.inl rfl))) (sVsNil)))))))) (sOne (sRet (sBin op_sub sv_sub (sSlot (pe_var (i := 5) rfl (.inl rfl))) (sLV (sFrz (sBin op_mulE sv_mul (sLV (sFrz (sBin op_fdivX sv_div (sSlot (pe_var (i := 5) rfl (.inl rfl))) (sSlot (pe_var (i := 1) rfl (.inl rfl)))))) (sSlot (pe_var (i := 1) rfl (.inl rfl)))))))))))
/-! _law_hand -/
abbrev N__law_hand : List Str := ["_law_script", "_law_total", "_law_cells", "_law_cell"]
theorem sc__law_hand : FnScope N__law_hand ["_law_script"] (defScope (top 15)) := ⟨rfl, rfl, rfl, by decide +kernel, rfl, by decide +kernel, by decide +kernel⟩
noncomputable def bd__law_hand_1 : DenS := dSeq (dSet 1 (dBin gMod (dLV (dFrz (dCB gInt (dArs [dLV (dFrz (dBin gAdd (dLV (dFrz (dBin gMul (dSlot 1) (dLV (dC (.int 1103)))))) (dLV (dFrz (dCB gInt (dArs [dSlot 3]))))))])))) (dLV (dC (.int 2147483549))))) (dExp (dApp 2 (dFrz (dCB gAbs (dArs [dLV (dFrz (dCB gInt (dArs [dSlot 3])))])))))
noncomputable def den__law_hand : DenS := dSeq (dSet 1 (dBin gAdd (dLV (dFrz (dBin gMul (dLV (dC (.int 3))) (dLV (dFrz (dCB gLen (dArs [dSlot 0]))))))) (dLV (dC (.int 71))))) (dSeq (dSet 2 (dLst [])) (dSeq (dFor (asN 3) (dIt (dVar 0)) (bd__law_hand_1)) (dRet (dLst [dVar 2, dC (.int 0), dC (.int 0), dVar 1]))))
noncomputable def fn__law_hand : Fn := mkFn 1 4 den__law_hand
theorem fn__law_hand_len (args : List Ent) (h : args.length ≠ 1) : fn__law_hand args = .bad := mkFn_len args h
theorem ok__law_hand (T : Tz K mg) : FnOkG P w K mg base (L2.CX P w) 1 (He.ga K "_law_hand") (fdOf K (He.ga K "_law_hand")) ["_law_script"] (spOf K mg [] 1 fn__law_hand) := by
  refine fn_ok (N := N__law_hand) (np := 1) (k := 0) (R := []) T.F__law_hand sc__law_hand rfl (f := den__law_hand) (fun cdv A outer s H E hr => ?_)
  have tk : Takes (cxOf (L2.CX P w) P w K mg base N__law_hand "_law_hand" (defScope (top 15)) (He.ga K "_law_hand") cdv A outer s H E) (fun cls d _ H => E cls d H) := takes_of rfl rfl rfl rfl
  have hp := passes_of (X := cxOf (L2.CX P w) P w K mg base N__law_hand "_law_hand" (defScope (top 15)) (He.ga K "_law_hand") cdv A outer s H E) rfl
  exact sCons (sSet (i := 1) (nR rfl) (sBin op_addE sv_add (sLV (sFrz (sBin op_mulE sv_mul (sLV (sInt)) (sLV (sFrz (sCB call_lenE sv_len rfl (T.free (T.c.fact 6)) bt_len (sArCons (sSlot (pe_var (i := 0) rfl (.inl rfl))) (sArNil)))))))) (sLV (sInt))) sc__law_hand.nd rfl (.inl rfl)) (sCons (sSet (i := 2) (nR rfl) (sLst (sVsNil)) sc__law_hand.nd rfl (.inl rfl)) (sCons (sFor (own := [3]) hp rfl (sIt rfl (sVar (pe_var (i := 0) rfl (.inl rfl)))) (gN (i := 3) (by decide) (nR rfl) sc__law_hand.nd rfl (.inl rfl)) (sCons (sSet (i := 1) (nR rfl) (sBin op_modN sv_mod (sLV (sFrz (sCT call_int1 sv_int rfl (T.free (T.c.fact 3)) bt_int (sArCons (sLV (sFrz (sBin op_addE sv_add (sLV (sFrz (sBin op_mulE sv_mul (sSlot (pe_var (i := 1) rfl (.inl rfl))) (sLV (sInt))))) (sLV (sFrz (sCT call_int1 sv_int rfl (T.free (T.c.fact 3)) bt_int (sArCons (sSlot (pe_var (i := 3) rfl (.inl rfl))) (sArNil)))))))) (sArNil))))) (sLV (sInt))) sc__law_hand.nd rfl (.inl rfl)) (sOne (sExp (sApp rfl (pe_var (i := 2) rfl (.inl rfl)) (sFrz (sCB call_abs sv_abs rfl (T.free (T.c.fact 21)) bt_abs (sArCons (sLV (sFrz (sCT call_int1 sv_int rfl (T.free (T.c.fact 3)) bt_int (sArCons (sSlot (pe_var (i := 3) rfl (.inl rfl))) (sArNil))))) (sArNil))))))))) (sOne (sRet (sLst (sVsCons (sVar (pe_var (i := 2) rfl (.inl rfl))) (sVsCons (sInt) (sVsCons (sInt) (sVsCons (sVar (pe_var (i := 1) rfl (.inl rfl))) (sVsNil))))))))))
/-! _law_mixed -/
abbrev N__law_mixed : List Str := ["_law_number_here", "_law_turn", "_law_once", "_law_twice"]
theorem sc__law_mixed : FnScope N__law_mixed ["_law_number_here", "_law_turn"] (defScope (top 16)) := ⟨rfl, rfl, rfl, by decide +kernel, rfl, by decide +kernel, by decide +kernel⟩
noncomputable def den__law_mixed : DenS := dSeq (dSet 2 (dBin gMod (dLV (dFrz (dCB gInt (dArs [dLV (dFrz (dBin gAdd (dLV (dFrz (dBin gAdd (dLV (dFrz (dBin gMul (dSlot 0) (dLV (dC (.int 48271)))))) (dLV (dFrz (dBin gMul (dSlot 1) (dLV (dC (.int 10007))))))))) (dLV (dC (.int 30011)))))])))) (dLV (dC (.int 2147483647))))) (dSeq (dSet 3 (dBin gMod (dLV (dFrz (dCB gInt (dArs [dLV (dFrz (dBin gAdd (dLV (dFrz (dBin gAdd (dLV (dFrz (dBin gMul (dSlot 2) (dSlot 2)))) (dLV (dFrz (dBin gMul (dSlot 1) (dLV (dC (.int 92821))))))))) (dLV (dFrz (dBin gDiv (dSlot 2) (dLV (dC (.int 257))))))))])))) (dLV (dC (.int 2147483629))))) (dRet (dBin gDiv (dLV (dFrz (dCB gInt (dArs [dLV (dFrz (dBin gMod (dLV (dFrz (dCB gInt (dArs [dLV (dFrz (dBin gAdd (dLV (dFrz (dBin gMul (dSlot 3) (dLV (dC (.int 69621)))))) (dLV (dFrz (dBin gDiv (dSlot 2) (dLV (dC (.int 11))))))))])))) (dLV (dC (.int 2147483587)))))])))) (dLV (dC (.int 64))))))
noncomputable def fn__law_mixed : Fn := mkFn 2 4 den__law_mixed
theorem fn__law_mixed_len (args : List Ent) (h : args.length ≠ 2) : fn__law_mixed args = .bad := mkFn_len args h
theorem ok__law_mixed (T : Tz K mg) : FnOkG P w K mg base (L2.CX P w) 1 (He.ga K "_law_mixed") (fdOf K (He.ga K "_law_mixed")) ["_law_number_here", "_law_turn"] (spOf K mg [] 2 fn__law_mixed) := by
  refine fn_ok (N := N__law_mixed) (np := 2) (k := 0) (R := []) T.F__law_mixed sc__law_mixed rfl (f := den__law_mixed) (fun cdv A outer s H E hr => ?_)
  have tk : Takes (cxOf (L2.CX P w) P w K mg base N__law_mixed "_law_mixed" (defScope (top 16)) (He.ga K "_law_mixed") cdv A outer s H E) (fun cls d _ H => E cls d H) := takes_of rfl rfl rfl rfl
  have hp := passes_of (X := cxOf (L2.CX P w) P w K mg base N__law_mixed "_law_mixed" (defScope (top 16)) (He.ga K "_law_mixed") cdv A outer s H E) rfl
  exact sCons (sSet (i := 2) (nR rfl) (sBin op_modN sv_mod (sLV (sFrz (sCT call_int1 sv_int rfl (T.free (T.c.fact 3)) bt_int (sArCons (sLV (sFrz (sBin op_addE sv_add (sLV (sFrz (sBin op_addE sv_add (sLV (sFrz (sBin op_mulE sv_mul (sSlot (pe_var (i := 0) rfl (.inl rfl))) (sLV (sInt))))) (sLV (sFrz (sBin op_mulE sv_mul (sSlot (pe_var (i := 1) rfl (.inl rfl))) (sLV (sInt)))))))) (sLV (sInt))))) (sArNil))))) (sLV (sInt))) sc__law_mixed.nd rfl (.inl rfl)) (sCons (sSet (i := 3) (nR rfl) (sBin op_modN sv_mod (sLV (sFrz (sCT call_int1 sv_int rfl (T.free (T.c.fact 3)) bt_int (sArCons (sLV (sFrz (sBin op_addE sv_add (sLV (sFrz (sBin op_addE sv_add (sLV (sFrz (sBin op_mulE sv_mul (sSlot (pe_var (i := 2) rfl (.inl rfl))) (sSlot (pe_var (i := 2) rfl (.inl rfl)))))) (sLV (sFrz (sBin op_mulE sv_mul (sSlot (pe_var (i := 1) rfl (.inl rfl))) (sLV (sInt)))))))) (sLV (sFrz (sBin op_fdivX sv_div (sSlot (pe_var (i := 2) rfl (.inl rfl))) (sLV (sInt)))))))) (sArNil))))) (sLV (sInt))) sc__law_mixed.nd rfl (.inl rfl)) (sOne (sRet (sBin op_fdivX sv_div (sLV (sFrz (sCT call_int1 sv_int rfl (T.free (T.c.fact 3)) bt_int (sArCons (sLV (sFrz (sBin op_modN sv_mod (sLV (sFrz (sCT call_int1 sv_int rfl (T.free (T.c.fact 3)) bt_int (sArCons (sLV (sFrz (sBin op_addE sv_add (sLV (sFrz (sBin op_mulE sv_mul (sSlot (pe_var (i := 3) rfl (.inl rfl))) (sLV (sInt))))) (sLV (sFrz (sBin op_fdivX sv_div (sSlot (pe_var (i := 2) rfl (.inl rfl))) (sLV (sInt)))))))) (sArNil))))) (sLV (sInt))))) (sArNil))))) (sLV (sInt))))))
/-! _law_common -/
abbrev N__law_common : List Str := ["_law_one", "_law_other"]
theorem sc__law_common : FnScope N__law_common ["_law_one", "_law_other"] (defScope (top 18)) := ⟨rfl, rfl, rfl, by decide +kernel, rfl, by decide +kernel, by decide +kernel⟩
noncomputable def cd__law_common_1 : DenT := dTB (dBin gGt (dSlot 1) (dLV (dC (.int 0))))
noncomputable def bd__law_common_2 : DenS := dPar 0 1 (dVs [dVar 1, dFrz (dBin gMod (dLV (dFrz (dCB gInt (dArs [dSlot 0])))) (dSlot 1))])
noncomputable def den__law_common : DenS := dSeq (dSet 0 (dCB gAbs (dArs [dSlot 0]))) (dSeq (dSet 1 (dCB gAbs (dArs [dSlot 1]))) (dSeq (dWhile (cd__law_common_1) (bd__law_common_2)) (dRet (dMove 0))))
noncomputable def fn__law_common : Fn := mkFn 2 2 den__law_common
theorem fn__law_common_len (args : List Ent) (h : args.length ≠ 2) : fn__law_common args = .bad := mkFn_len args h
theorem ok__law_common (T : Tz K mg) : FnOkG P w K mg base (L2.CX P w) 1 (He.ga K "_law_common") (fdOf K (He.ga K "_law_common")) ["_law_one", "_law_other"] (spOf K mg [] 2 fn__law_common) := by
  refine fn_ok (N := N__law_common) (np := 2) (k := 0) (R := []) T.F__law_common sc__law_common rfl (f := den__law_common) (fun cdv A outer s H E hr => ?_)
  have tk : Takes (cxOf (L2.CX P w) P w K mg base N__law_common "_law_common" (defScope (top 18)) (He.ga K "_law_common") cdv A outer s H E) (fun cls d _ H => E cls d H) := takes_of rfl rfl rfl rfl
  have hp := passes_of (X := cxOf (L2.CX P w) P w K mg base N__law_common "_law_common" (defScope (top 18)) (He.ga K "_law_common") cdv A outer s H E) rfl
  exact sCons (sSet (i := 0) (nR rfl) (sCB call_abs sv_abs rfl (T.free (T.c.fact 21)) bt_abs (sArCons (sSlot (pe_var (i := 0) rfl (.inl rfl))) (sArNil))) sc__law_common.nd rfl (.inl rfl)) (sCons (sSet (i := 1) (nR rfl) (sCB call_abs sv_abs rfl (T.free (T.c.fact 21)) bt_abs (sArCons (sSlot (pe_var (i := 1) rfl (.inl rfl))) (sArNil))) sc__law_common.nd rfl (.inl rfl)) (sCons (sWhile hp (sCmpT op_gt sv_gt (sSlot (pe_var (i := 1) rfl (.inl rfl))) (sLV (sInt)) (nomark _)) (sOne (sPar (i := 0) (j := 1) (nR rfl) (nR rfl) rfl sc__law_common.nd rfl rfl (by decide) rfl rfl (sVsCons (sVar (pe_var (i := 1) rfl (.inl rfl))) (sVsCons (sFrz (sBin op_modN sv_mod (sLV (sFrz (sCT call_int1 sv_int rfl (T.free (T.c.fact 3)) bt_int (sArCons (sSlot (pe_var (i := 0) rfl (.inl rfl))) (sArNil))))) (sSlot (pe_var (i := 1) rfl (.inl rfl))))) (sVsNil)))))) (sOne (sRet (sMove (nR rfl) (pe_var (i := 0) rfl (.inl rfl)))))))
/-! _law_scaled_beats -/
abbrev N__law_scaled_beats : List Str := ["_law_beat", "_law_mate", "_law_bottom", "_law_ratio_here"]
theorem sc__law_scaled_beats : FnScope N__law_scaled_beats ["_law_beat", "_law_mate"] (defScope (top 29)) := ⟨rfl, rfl, rfl, by decide +kernel, rfl, by decide +kernel, by decide +kernel⟩
noncomputable def el__law_scaled_beats_1 : DenV := dFrz (dBin gMul (dLV (dFrz (dBin gIx (dSlot 3) (dLV (dC (.int 0)))))) (dLV (dFrz (dBin gDiv (dSlot 2) (dLV (dFrz (dBin gIx (dSlot 3) (dLV (dC (.int 1))))))))))
noncomputable def den__law_scaled_beats : DenS := dSeq (dSet 2 (dBin gMul (dLV (dFrz (dBin gMul (dLV (dFrz (dBin gMul (dLV (dFrz (dBin gIx (dLV (dFrz (dBin gIx (dSlot 0) (dLV (dC (.int 0)))))) (dLV (dC (.int 1)))))) (dLV (dFrz (dBin gIx (dLV (dFrz (dBin gIx (dSlot 0) (dLV (dC (.int 1)))))) (dLV (dC (.int 1))))))))) (dLV (dFrz (dBin gIx (dLV (dFrz (dBin gIx (dSlot 1) (dLV (dC (.int 0)))))) (dLV (dC (.int 1))))))))) (dLV (dFrz (dBin gIx (dLV (dFrz (dBin gIx (dSlot 1) (dLV (dC (.int 1)))))) (dLV (dC (.int 1)))))))) (dRet (dBin gAdd (dLV (dFrz (dLc [3] (asN 3) (dIt (dTup [dFrz (dBin gIx (dSlot 0) (dLV (dC (.int 0)))), dFrz (dBin gIx (dSlot 0) (dLV (dC (.int 1)))), dFrz (dBin gIx (dSlot 1) (dLV (dC (.int 0)))), dFrz (dBin gIx (dSlot 1) (dLV (dC (.int 1))))])) (dTrue) (el__law_scaled_beats_1)))) (dLV (dFrz (dLst [dVar 2])))))
noncomputable def fn__law_scaled_beats : Fn := mkFn 2 4 den__law_scaled_beats
theorem fn__law_scaled_beats_len (args : List Ent) (h : args.length ≠ 2) : fn__law_scaled_beats args = .bad := mkFn_len args h
theorem ok__law_scaled_beats (T : Tz K mg) : FnOkG P w K mg base (L2.CX P w) 1 (He.ga K "_law_scaled_beats") (fdOf K (He.ga K "_law_scaled_beats")) ["_law_beat", "_law_mate"] (spOf K mg [] 2 fn__law_scaled_beats) := by
  refine fn_ok (N := N__law_scaled_beats) (np := 2) (k := 0) (R := []) T.F__law_scaled_beats sc__law_scaled_beats rfl (f := den__law_scaled_beats) (fun cdv A outer s H E hr => ?_)
  have tk : Takes (cxOf (L2.CX P w) P w K mg base N__law_scaled_beats "_law_scaled_beats" (defScope (top 29)) (He.ga K "_law_scaled_beats") cdv A outer s H E) (fun cls d _ H => E cls d H) := takes_of rfl rfl rfl rfl
  have hp := passes_of (X := cxOf (L2.CX P w) P w K mg base N__law_scaled_beats "_law_scaled_beats" (defScope (top 29)) (He.ga K "_law_scaled_beats") cdv A outer s H E) rfl
  exact sCons (sSet (i := 2) (nR rfl) (sBin op_mulE sv_mul (sLV (sFrz (sBin op_mulE sv_mul (sLV (sFrz (sBin op_mulE sv_mul (sLV (sFrz (sIx rfl (sLV (sFrz (sIx rfl (sSlot (pe_var (i := 0) rfl (.inl rfl))) (sLV (sInt))))) (sLV (sInt))))) (sLV (sFrz (sIx rfl (sLV (sFrz (sIx rfl (sSlot (pe_var (i := 0) rfl (.inl rfl))) (sLV (sInt))))) (sLV (sInt)))))))) (sLV (sFrz (sIx rfl (sLV (sFrz (sIx rfl (sSlot (pe_var (i := 1) rfl (.inl rfl))) (sLV (sInt))))) (sLV (sInt)))))))) (sLV (sFrz (sIx rfl (sLV (sFrz (sIx rfl (sSlot (pe_var (i := 1) rfl (.inl rfl))) (sLV (sInt))))) (sLV (sInt)))))) sc__law_scaled_beats.nd rfl (.inr rfl)) (sOne (sRet (sBin op_addE sv_add (sLV (sFrz (sLc (own := [("_law_ratio_here", 3)]) (nRs rfl) rfl sc__law_scaled_beats.nd (sIt rfl (sTup (sVsCons (sFrz (sIx rfl (sSlot (pe_var (i := 0) rfl (.inl rfl))) (sLV (sInt)))) (sVsCons (sFrz (sIx rfl (sSlot (pe_var (i := 0) rfl (.inl rfl))) (sLV (sInt)))) (sVsCons (sFrz (sIx rfl (sSlot (pe_var (i := 1) rfl (.inl rfl))) (sLV (sInt)))) (sVsCons (sFrz (sIx rfl (sSlot (pe_var (i := 1) rfl (.inl rfl))) (sLV (sInt)))) (sVsNil))))))) (blkOk_by (N := N__law_scaled_beats) (sc := defScope (top 29)) (by decide +kernel)) (fun s H C cl fp => gN (i := 3) (by decide) (nR rfl) sc__law_scaled_beats.nd rfl (.inl rfl)) (fun s H C cl fp => sTs0) (fun s H C cl fp => sFrz (sBin op_mulE sv_mul (sLV (sFrz (sIx rfl (sSlot (pe_var (i := 3) rfl (.inl rfl))) (sLV (sInt))))) (sLV (sFrz (sBin op_fdivX sv_div (sSlot (pe_var (i := 2) rfl (.inr (.inl rfl)))) (sLV (sFrz (sIx rfl (sSlot (pe_var (i := 3) rfl (.inl rfl))) (sLV (sInt))))))))))))) (sLV (sFrz (sLst (sVsCons (sVar (pe_var (i := 2) rfl (.inr (.inl rfl)))) (sVsNil))))))))
/-! is_ratio -/
abbrev N_is_ratio : List Str := ["thing"]
theorem sc_is_ratio : FnScope N_is_ratio ["thing"] (defScope (top 6)) := ⟨rfl, rfl, rfl, by decide +kernel, rfl, by decide +kernel, by decide +kernel⟩
noncomputable def den_is_ratio : DenS := dSeq (dIfS (dOrT (dNotT (dTru (dLV (dIsi ["list", "tuple"] (dSlot 0))))) (dTB (dBin gNe (dLV (dFrz (dCB gLen (dArs [dSlot 0])))) (dLV (dC (.int 2)))))) (dRet (dVal (dC (.bl false)))) (dSkip)) (dRet (dVal (dAndV (dFrz (dCall fn_is_whole [.non, .non] (dArs [dLV (dFrz (dBin gIx (dSlot 0) (dLV (dC (.int 0)))))]))) (dAndV (dFrz (dCall fn_is_whole [.non] (dArs [dLV (dFrz (dBin gIx (dSlot 0) (dLV (dC (.int 1))))), dLV (dC (.int 1))]))) (dFrz (dBin gEq (dLV (dFrz (dCB gGcd (dArs [dLV (dFrz (dBin gIx (dSlot 0) (dLV (dC (.int 0))))), dLV (dFrz (dBin gIx (dSlot 0) (dLV (dC (.int 1)))))])))) (dLV (dC (.int 1)))))))))
noncomputable def fn_is_ratio : Fn := mkFn 1 1 den_is_ratio
theorem fn_is_ratio_len (args : List Ent) (h : args.length ≠ 1) : fn_is_ratio args = .bad := mkFn_len args h
theorem ok_is_ratio (T : Tz K mg) : FnOkG P w K mg base (L2.CX P w) 2 (He.ga K "is_ratio") (fdOf K (He.ga K "is_ratio")) ["thing"] (spOf K mg [] 1 fn_is_ratio) := by
  obtain ⟨ds_is_whole_1, v_is_whole_1, b_is_whole_1⟩ := T.bd_is_whole_1
  obtain ⟨ds_is_whole_2, v_is_whole_2, b_is_whole_2⟩ := T.bd_is_whole_2
  refine fn_ok (N := N_is_ratio) (np := 1) (k := 1) (R := []) T.F_is_ratio sc_is_ratio rfl (f := den_is_ratio) (fun cdv A outer s H E hr => ?_)
  have tk : Takes (cxOf (L2.CX P w) P w K mg base N_is_ratio "is_ratio" (defScope (top 6)) (He.ga K "is_ratio") cdv A outer s H E) (fun cls d _ H => E cls d H) := takes_of rfl rfl rfl rfl
  have hp := passes_of (X := cxOf (L2.CX P w) P w K mg base N_is_ratio "is_ratio" (defScope (top 6)) (He.ga K "is_ratio") cdv A outer s H E) rfl
  exact sCons (sIfS (sWT (sOrT (sNotT (sTru rfl (sLV (sIsiT rfl rfl (T.free (T.c.fact 1)) bt_isinstance (sSlot (pe_var (i := 0) rfl (.inl rfl))) (.cons (pe_bltn rfl (T.free (T.c.fact 5)) bt_list rfl) rfl (.cons (pe_bltn rfl (T.free (T.c.fact 4)) bt_tuple rfl) rfl .nil)) rfl (by decide))))) (sOrT1 (sCmpT (op_neD hr.units) sv_ne (sLV (sFrz (sCB call_lenE sv_len rfl (T.free (T.c.fact 6)) bt_len (sArCons (sSlot (pe_var (i := 0) rfl (.inl rfl))) (sArNil))))) (sLV (sInt)) (nomark _))))) (sOne (sRet (sVal (sBl)))) (sNil)) (sOne (sRet (sVal (sAndV (sFrz (sCall rfl rfl (ok_is_whole T) (hr.mono (by decide)) rfl (T.glo (T.c.fact 7)) (T.F_is_whole).kp b_is_whole_1 v_is_whole_1 (fun _ => ⟨_, _, rfl, rfl, ⟨_, _, rfl, rfl, rfl⟩⟩) tk (sArCons (sLV (sFrz (sIx rfl (sSlot (pe_var (i := 0) rfl (.inl rfl))) (sLV (sInt))))) (sArNil)) fn_is_whole_len)) (sAndV (sFrz (sCall rfl rfl (ok_is_whole T) (hr.mono (by decide)) rfl (T.glo (T.c.fact 7)) (T.F_is_whole).kp b_is_whole_2 v_is_whole_2 (fun _ => ⟨_, _, rfl, rfl, rfl⟩) tk (sArCons (sLV (sFrz (sIx rfl (sSlot (pe_var (i := 0) rfl (.inl rfl))) (sLV (sInt))))) (sArCons (sLV (sInt)) (sArNil))) fn_is_whole_len)) (sOneV (sFrz (sCmp (op_eqD hr.units) sv_eq (sLV (sFrz (sCG cr_gcd sv_gcd rfl (T.fun_ (T.c.fact 8)) (sArCons (sLV (sFrz (sIx rfl (sSlot (pe_var (i := 0) rfl (.inl rfl))) (sLV (sInt))))) (sArCons (sLV (sFrz (sIx rfl (sSlot (pe_var (i := 0) rfl (.inl rfl))) (sLV (sInt))))) (sArNil)))))) (sLV (sInt)) (nomark _)))))))))
/-! _law_take -/
abbrev N__law_take : List Str := ["_law_hand_here", "_law_many", "_law_cell", "_law_rest"]
theorem sc__law_take : FnScope N__law_take ["_law_hand_here", "_law_many"] (defScope (top 17)) := ⟨rfl, rfl, rfl, by decide +kernel, rfl, by decide +kernel, by decide +kernel⟩
noncomputable def den__law_take : DenS := dSeq (dIfS (dAndT (dTB (dBin gEq (dLV (dFrz (dBin gIx (dSlot 0) (dLV (dC (.int 2)))))) (dLV (dC (.int 0))))) (dTB (dBin gLt (dLV (dFrz (dBin gIx (dSlot 0) (dLV (dC (.int 1)))))) (dLV (dFrz (dCB gLen (dArs [dLV (dFrz (dBin gIx (dSlot 0) (dLV (dC (.int 0)))))]))))))) (dSeq (dSet 2 (dBin gIx (dLV (dFrz (dBin gIx (dSlot 0) (dLV (dC (.int 0)))))) (dLV (dFrz (dBin gIx (dSlot 0) (dLV (dC (.int 1)))))))) (dSeq (dPut 0 (dC (.int 1)) (dFrz (dBin gAdd (dLV (dFrz (dBin gIx (dSlot 0) (dLV (dC (.int 1)))))) (dLV (dC (.int 1)))))) (dSeq (dIfS (dTB (dBin gLt (dSlot 2) (dLV (dFrz (dBin gPow (dLV (dC (.int 10))) (dLV (dC (.int 18)))))))) (dRet (dBin gMod (dLV (dFrz (dCB gInt (dArs [dLV (dFrz (dCall fn__law_mixed [] (dArs [dLV (dFrz (dBin gMod (dLV (dFrz (dCB gInt (dArs [dSlot 2])))) (dLV (dC (.int 2147483647))))), dLV (dFrz (dBin gIx (dSlot 0) (dLV (dC (.int 1)))))])))])))) (dSlot 1))) (dSkip)) (dPut 0 (dC (.int 2)) (dVar 2))))) (dSkip)) (dSeq (dIfS (dTB (dBin gGt (dLV (dFrz (dBin gIx (dSlot 0) (dLV (dC (.int 2)))))) (dLV (dC (.int 0))))) (dSeq (dSet 3 (dBin gIx (dSlot 0) (dLV (dC (.int 2))))) (dSeq (dPut 0 (dC (.int 2)) (dFrz (dBin gDiv (dLV (dFrz (dCB gInt (dArs [dSlot 3])))) (dSlot 1)))) (dRet (dBin gMod (dLV (dFrz (dCB gInt (dArs [dSlot 3])))) (dSlot 1))))) (dSkip)) (dSeq (dPut 0 (dC (.int 3)) (dFrz (dBin gMod (dLV (dFrz (dCB gInt (dArs [dLV (dFrz (dBin gAdd (dLV (dFrz (dBin gIx (dSlot 0) (dLV (dC (.int 3)))))) (dLV (dC (.int 1)))))])))) (dLV (dC (.int 2147483549)))))) (dRet (dBin gMod (dLV (dFrz (dCB gInt (dArs [dLV (dFrz (dCall fn__law_mixed [] (dArs [dLV (dFrz (dBin gIx (dSlot 0) (dLV (dC (.int 3))))), dLV (dFrz (dBin gIx (dSlot 0) (dLV (dC (.int 1)))))])))])))) (dSlot 1)))))
noncomputable def fn__law_take : Fn := mkFn 2 4 den__law_take
theorem fn__law_take_len (args : List Ent) (h : args.length ≠ 2) : fn__law_take args = .bad := mkFn_len args h
theorem ok__law_take (T : Tz K mg) : FnOkG P w K mg base (L2.CX P w) 2 (He.ga K "_law_take") (fdOf K (He.ga K "_law_take")) ["_law_hand_here", "_law_many"] (spOf K mg [0] 2 fn__law_take) := by
  refine fn_ok (N := N__law_take) (np := 2) (k := 1) (R := [0]) T.F__law_take sc__law_take rfl (f := den__law_take) (fun cdv A outer s H E hr => ?_)
  have tk : Takes (cxOf (L2.CX P w) P w K mg base N__law_take "_law_take" (defScope (top 17)) (He.ga K "_law_take") cdv A outer s H E) (fun cls d _ H => E cls d H) := takes_of rfl rfl rfl rfl
  have hp := passes_of (X := cxOf (L2.CX P w) P w K mg base N__law_take "_law_take" (defScope (top 17)) (He.ga K "_law_take") cdv A outer s H E) rfl
  exact sCons (sIfS (sWT (sAndT (sCmpT (op_eqD hr.units) sv_eq (sLV (sFrz (sIx rfl (sSlot (pe_var (i := 0) rfl (.inl rfl))) (sLV (sInt))))) (sLV (sInt)) (nomark _)) (sAndT1 (sCmpT op_lt sv_lt (sLV (sFrz (sIx rfl (sSlot (pe_var (i := 0) rfl (.inl rfl))) (sLV (sInt))))) (sLV (sFrz (sCB call_lenE sv_len rfl (T.free (T.c.fact 6)) bt_len (sArCons (sLV (sFrz (sIx rfl (sSlot (pe_var (i := 0) rfl (.inl rfl))) (sLV (sInt))))) (sArNil))))) (nomark _))))) (sCons (sSet (i := 2) (nR rfl) (sIx rfl (sLV (sFrz (sIx rfl (sSlot (pe_var (i := 0) rfl (.inl rfl))) (sLV (sInt))))) (sLV (sFrz (sIx rfl (sSlot (pe_var (i := 0) rfl (.inl rfl))) (sLV (sInt)))))) sc__law_take.nd rfl (.inl rfl)) (sCons (sPut (pe_var (i := 0) rfl (.inl rfl)) (sInt) (sFrz (sBin op_addE sv_add (sLV (sFrz (sIx rfl (sSlot (pe_var (i := 0) rfl (.inl rfl))) (sLV (sInt))))) (sLV (sInt))))) (sCons (sIfS (sCmpT op_lt sv_lt (sSlot (pe_var (i := 2) rfl (.inl rfl))) (sLV (sFrz (sBin op_pow sv_pow (sLV (sInt)) (sLV (sInt))))) (nomark _)) (sOne (sRet (sBin op_modN sv_mod (sLV (sFrz (sCT call_int1 sv_int rfl (T.free (T.c.fact 3)) bt_int (sArCons (sLV (sFrz (sCall rfl rfl (ok__law_mixed T) (hr.mono (by decide)) rfl (T.glo (T.c.fact 22)) (T.F__law_mixed).kp T.b__law_mixed .nil (fun _ => rfl) tk (sArCons (sLV (sFrz (sBin op_modN sv_mod (sLV (sFrz (sCT call_int1 sv_int rfl (T.free (T.c.fact 3)) bt_int (sArCons (sSlot (pe_var (i := 2) rfl (.inl rfl))) (sArNil))))) (sLV (sInt))))) (sArCons (sLV (sFrz (sIx rfl (sSlot (pe_var (i := 0) rfl (.inl rfl))) (sLV (sInt))))) (sArNil))) fn__law_mixed_len))) (sArNil))))) (sSlot (pe_var (i := 1) rfl (.inl rfl)))))) (sNil)) (sOne (sPut (pe_var (i := 0) rfl (.inl rfl)) (sInt) (sVar (pe_var (i := 2) rfl (.inl rfl)))))))) (sNil)) (sCons (sIfS (sCmpT op_gt sv_gt (sLV (sFrz (sIx rfl (sSlot (pe_var (i := 0) rfl (.inl rfl))) (sLV (sInt))))) (sLV (sInt)) (nomark _)) (sCons (sSet (i := 3) (nR rfl) (sIx rfl (sSlot (pe_var (i := 0) rfl (.inl rfl))) (sLV (sInt))) sc__law_take.nd rfl (.inl rfl)) (sCons (sPut (pe_var (i := 0) rfl (.inl rfl)) (sInt) (sFrz (sBin op_fdivX sv_div (sLV (sFrz (sCT call_int1 sv_int rfl (T.free (T.c.fact 3)) bt_int (sArCons (sSlot (pe_var (i := 3) rfl (.inl rfl))) (sArNil))))) (sSlot (pe_var (i := 1) rfl (.inl rfl)))))) (sOne (sRet (sBin op_modN sv_mod (sLV (sFrz (sCT call_int1 sv_int rfl (T.free (T.c.fact 3)) bt_int (sArCons (sSlot (pe_var (i := 3) rfl (.inl rfl))) (sArNil))))) (sSlot (pe_var (i := 1) rfl (.inl rfl)))))))) (sNil)) (sCons (sPut (pe_var (i := 0) rfl (.inl rfl)) (sInt) (sFrz (sBin op_modN sv_mod (sLV (sFrz (sCT call_int1 sv_int rfl (T.free (T.c.fact 3)) bt_int (sArCons (sLV (sFrz (sBin op_addE sv_add (sLV (sFrz (sIx rfl (sSlot (pe_var (i := 0) rfl (.inl rfl))) (sLV (sInt))))) (sLV (sInt))))) (sArNil))))) (sLV (sInt))))) (sOne (sRet (sBin op_modN sv_mod (sLV (sFrz (sCT call_int1 sv_int rfl (T.free (T.c.fact 3)) bt_int (sArCons (sLV (sFrz (sCall rfl rfl (ok__law_mixed T) (hr.mono (by decide)) rfl (T.glo (T.c.fact 22)) (T.F__law_mixed).kp T.b__law_mixed .nil (fun _ => rfl) tk (sArCons (sLV (sFrz (sIx rfl (sSlot (pe_var (i := 0) rfl (.inl rfl))) (sLV (sInt))))) (sArCons (sLV (sFrz (sIx rfl (sSlot (pe_var (i := 0) rfl (.inl rfl))) (sLV (sInt))))) (sArNil))) fn__law_mixed_len))) (sArNil))))) (sSlot (pe_var (i := 1) rfl (.inl rfl))))))))
/-! _law_ratio -/
abbrev N__law_ratio : List Str := ["_law_top", "_law_bottom", "_law_common_here"]
theorem sc__law_ratio : FnScope N__law_ratio ["_law_top", "_law_bottom"] (defScope (top 19)) := ⟨rfl, rfl, rfl, by decide +kernel, rfl, by decide +kernel, by decide +kernel⟩
noncomputable def den__law_ratio : DenS := dSeq (dSet 2 (dCall fn__law_common [] (dArs [dSlot 0, dSlot 1]))) (dRet (dVal (dTup [dFrz (dBin gDiv (dSlot 0) (dSlot 2)), dFrz (dBin gDiv (dSlot 1) (dSlot 2))])))
noncomputable def fn__law_ratio : Fn := mkFn 2 3 den__law_ratio
theorem fn__law_ratio_len (args : List Ent) (h : args.length ≠ 2) : fn__law_ratio args = .bad := mkFn_len args h
theorem ok__law_ratio (T : Tz K mg) : FnOkG P w K mg base (L2.CX P w) 2 (He.ga K "_law_ratio") (fdOf K (He.ga K "_law_ratio")) ["_law_top", "_law_bottom"] (spOf K mg [] 2 fn__law_ratio) := by
  refine fn_ok (N := N__law_ratio) (np := 2) (k := 1) (R := []) T.F__law_ratio sc__law_ratio rfl (f := den__law_ratio) (fun cdv A outer s H E hr => ?_)
  have tk : Takes (cxOf (L2.CX P w) P w K mg base N__law_ratio "_law_ratio" (defScope (top 19)) (He.ga K "_law_ratio") cdv A outer s H E) (fun cls d _ H => E cls d H) := takes_of rfl rfl rfl rfl
  have hp := passes_of (X := cxOf (L2.CX P w) P w K mg base N__law_ratio "_law_ratio" (defScope (top 19)) (He.ga K "_law_ratio") cdv A outer s H E) rfl
  exact sCons (sSet (i := 2) (nR rfl) (sCall rfl rfl (ok__law_common T) (hr.mono (by decide)) rfl (T.glo (T.c.fact 23)) (T.F__law_common).kp T.b__law_common .nil (fun _ => rfl) tk (sArCons (sSlot (pe_var (i := 0) rfl (.inl rfl))) (sArCons (sSlot (pe_var (i := 1) rfl (.inl rfl))) (sArNil))) fn__law_common_len) sc__law_ratio.nd rfl (.inl rfl)) (sOne (sRet (sVal (sTup (sVsCons (sFrz (sBin op_fdivX sv_div (sSlot (pe_var (i := 0) rfl (.inl rfl))) (sSlot (pe_var (i := 2) rfl (.inl rfl))))) (sVsCons (sFrz (sBin op_fdivX sv_div (sSlot (pe_var (i := 1) rfl (.inl rfl))) (sSlot (pe_var (i := 2) rfl (.inl rfl))))) (sVsNil)))))))
/-! _law_exists -/
abbrev N__law_exists : List Str := ["_law_beat", "_law_mate", "_law_first", "_law_every", "_law_start", "_law_step", "_law_bottom"]
theorem sc__law_exists : FnScope N__law_exists ["_law_beat", "_law_mate"] (defScope (top 30)) := ⟨rfl, rfl, rfl, by decide +kernel, rfl, by decide +kernel, by decide +kernel⟩
noncomputable def den__law_exists : DenS := dSeq (dAsg (asT 5 (asCons (asN 2) (asCons (asN 3) (asCons (asN 4) (asCons (asN 5) (asCons (asN 6) (asNil))))))) (dFrz (dCall fn__law_scaled_beats [] (dArs [dSlot 0, dSlot 1])))) (dSeq (dIfS (dAndT (dTB (dBin gEq (dSlot 3) (dLV (dC (.int 0))))) (dTB (dBin gEq (dSlot 5) (dLV (dC (.int 0)))))) (dRet (dVal (dAndV (dFrz (dBin gEq (dSlot 2) (dSlot 4))) (dFrz (dBin gGe (dSlot 2) (dLV (dC (.int 0)))))))) (dSkip)) (dSeq (dIfS (dTB (dBin gEq (dSlot 3) (dLV (dC (.int 0))))) (dRet (dVal (dAndV (dFrz (dBin gGe (dSlot 2) (dLV (dC (.int 0))))) (dFrz (dBin gEq (dLV (dFrz (dBin gMod (dLV (dFrz (dCB gInt (dArs [dLV (dFrz (dBin gSub (dSlot 2) (dSlot 4)))])))) (dSlot 5)))) (dLV (dC (.int 0)))))))) (dSkip)) (dSeq (dIfS (dTB (dBin gEq (dSlot 5) (dLV (dC (.int 0))))) (dRet (dVal (dAndV (dFrz (dBin gGe (dSlot 4) (dLV (dC (.int 0))))) (dFrz (dBin gEq (dLV (dFrz (dBin gMod (dLV (dFrz (dCB gInt (dArs [dLV (dFrz (dBin gSub (dSlot 4) (dSlot 2)))])))) (dSlot 3)))) (dLV (dC (.int 0)))))))) (dSkip)) (dRet (dBin gEq (dLV (dFrz (dBin gMod (dLV (dFrz (dCB gInt (dArs [dLV (dFrz (dBin gSub (dSlot 2) (dSlot 4)))])))) (dLV (dFrz (dCall fn__law_common [] (dArs [dSlot 3, dSlot 5]))))))) (dLV (dC (.int 0))))))))
noncomputable def fn__law_exists : Fn := mkFn 2 7 den__law_exists
theorem fn__law_exists_len (args : List Ent) (h : args.length ≠ 2) : fn__law_exists args = .bad := mkFn_len args h
theorem ok__law_exists (T : Tz K mg) : FnOkG P w K mg base (L2.CX P w) 2 (He.ga K "_law_exists") (fdOf K (He.ga K "_law_exists")) ["_law_beat", "_law_mate"] (spOf K mg [] 2 fn__law_exists) := by
  refine fn_ok (N := N__law_exists) (np := 2) (k := 1) (R := []) T.F__law_exists sc__law_exists rfl (f := den__law_exists) (fun cdv A outer s H E hr => ?_)
  have tk : Takes (cxOf (L2.CX P w) P w K mg base N__law_exists "_law_exists" (defScope (top 30)) (He.ga K "_law_exists") cdv A outer s H E) (fun cls d _ H => E cls d H) := takes_of rfl rfl rfl rfl
  have hp := passes_of (X := cxOf (L2.CX P w) P w K mg base N__law_exists "_law_exists" (defScope (top 30)) (He.ga K "_law_exists") cdv A outer s H E) rfl
  exact sCons (sAsg (own := [2, 3, 4, 5, 6]) (sFrz (sCall rfl rfl (ok__law_scaled_beats T) (hr.mono (by decide)) rfl (T.glo (T.c.fact 30)) (T.F__law_scaled_beats).kp T.b__law_scaled_beats .nil (fun _ => rfl) tk (sArCons (sSlot (pe_var (i := 0) rfl (.inl rfl))) (sArCons (sSlot (pe_var (i := 1) rfl (.inl rfl))) (sArNil))) fn__law_scaled_beats_len)) (gT rfl rfl (gsCons (gN (i := 2) (by decide) (nR rfl) sc__law_exists.nd rfl (.inl rfl)) (gsCons (gN (i := 3) (by decide) (nR rfl) sc__law_exists.nd rfl (.inl rfl)) (gsCons (gN (i := 4) (by decide) (nR rfl) sc__law_exists.nd rfl (.inl rfl)) (gsCons (gN (i := 5) (by decide) (nR rfl) sc__law_exists.nd rfl (.inl rfl)) (gsCons (gN (i := 6) (by decide) (nR rfl) sc__law_exists.nd rfl (.inl rfl)) (gsNil)))))))) (sCons (sIfS (sWT (sAndT (sCmpT (op_eqD hr.units) sv_eq (sSlot (pe_var (i := 3) rfl (.inl rfl))) (sLV (sInt)) (nomark _)) (sAndT1 (sCmpT (op_eqD hr.units) sv_eq (sSlot (pe_var (i := 5) rfl (.inl rfl))) (sLV (sInt)) (nomark _))))) (sOne (sRet (sVal (sAndV (sFrz (sCmp (op_eqD hr.units) sv_eq (sSlot (pe_var (i := 2) rfl (.inl rfl))) (sSlot (pe_var (i := 4) rfl (.inl rfl))) (nomark _))) (sOneV (sFrz (sCmp op_ge sv_ge (sSlot (pe_var (i := 2) rfl (.inl rfl))) (sLV (sInt)) (nomark _)))))))) (sNil)) (sCons (sIfS (sCmpT (op_eqD hr.units) sv_eq (sSlot (pe_var (i := 3) rfl (.inl rfl))) (sLV (sInt)) (nomark _)) (sOne (sRet (sVal (sAndV (sFrz (sCmp op_ge sv_ge (sSlot (pe_var (i := 2) rfl (.inl rfl))) (sLV (sInt)) (nomark _))) (sOneV (sFrz (sCmp (op_eqD hr.units) sv_eq (sLV (sFrz (sBin op_modN sv_mod (sLV (sFrz (sCT call_int1 sv_int rfl (T.free (T.c.fact 3)) bt_int (sArCons (sLV (sFrz (sBin op_sub sv_sub (sSlot (pe_var (i := 2) rfl (.inl rfl))) (sSlot (pe_var (i := 4) rfl (.inl rfl)))))) (sArNil))))) (sSlot (pe_var (i := 5) rfl (.inl rfl)))))) (sLV (sInt)) (nomark _)))))))) (sNil)) (sCons (sIfS (sCmpT (op_eqD hr.units) sv_eq (sSlot (pe_var (i := 5) rfl (.inl rfl))) (sLV (sInt)) (nomark _)) (sOne (sRet (sVal (sAndV (sFrz (sCmp op_ge sv_ge (sSlot (pe_var (i := 4) rfl (.inl rfl))) (sLV (sInt)) (nomark _))) (sOneV (sFrz (sCmp (op_eqD hr.units) sv_eq (sLV (sFrz (sBin op_modN sv_mod (sLV (sFrz (sCT call_int1 sv_int rfl (T.free (T.c.fact 3)) bt_int (sArCons (sLV (sFrz (sBin op_sub sv_sub (sSlot (pe_var (i := 4) rfl (.inl rfl))) (sSlot (pe_var (i := 2) rfl (.inl rfl)))))) (sArNil))))) (sSlot (pe_var (i := 3) rfl (.inl rfl)))))) (sLV (sInt)) (nomark _)))))))) (sNil)) (sOne (sRet (sCmp (op_eqD hr.units) sv_eq (sLV (sFrz (sBin op_modN sv_mod (sLV (sFrz (sCT call_int1 sv_int rfl (T.free (T.c.fact 3)) bt_int (sArCons (sLV (sFrz (sBin op_sub sv_sub (sSlot (pe_var (i := 2) rfl (.inl rfl))) (sSlot (pe_var (i := 4) rfl (.inl rfl)))))) (sArNil))))) (sLV (sFrz (sCall rfl rfl (ok__law_common T) (hr.mono (by decide)) rfl (T.glo (T.c.fact 23)) (T.F__law_common).kp T.b__law_common .nil (fun _ => rfl) tk (sArCons (sSlot (pe_var (i := 3) rfl (.inl rfl))) (sArCons (sSlot (pe_var (i := 5) rfl (.inl rfl))) (sArNil))) fn__law_common_len)))))) (sLV (sInt)) (nomark _)))))))
/-! _law_is_least -/
abbrev N__law_is_least : List Str := ["_law_time", "_law_beat", "_law_mate", "_law_first", "_law_every", "_law_start", "_law_step", "_law_bottom"]
theorem sc__law_is_least : FnScope N__law_is_least ["_law_time", "_law_beat", "_law_mate"] (defScope (top 31)) := ⟨rfl, rfl, rfl, by decide +kernel, rfl, by decide +kernel, by decide +kernel⟩
noncomputable def den__law_is_least : DenS := dSeq (dAsg (asT 5 (asCons (asN 3) (asCons (asN 4) (asCons (asN 5) (asCons (asN 6) (asCons (asN 7) (asNil))))))) (dFrz (dCall fn__law_scaled_beats [] (dArs [dSlot 1, dSlot 2])))) (dSeq (dIfS (dOrT (dTB (dBin gEq (dSlot 4) (dLV (dC (.int 0))))) (dTB (dBin gEq (dSlot 6) (dLV (dC (.int 0)))))) (dRet (dVal (dC (.bl true)))) (dSkip)) (dRet (dBin gLt (dLV (dFrz (dBin gMul (dLV (dFrz (dBin gIx (dSlot 0) (dLV (dC (.int 0)))))) (dSlot 7)))) (dLV (dFrz (dBin gMul (dLV (dFrz (dBin gIx (dSlot 0) (dLV (dC (.int 1)))))) (dLV (dFrz (dBin gMul (dLV (dFrz (dBin gDiv (dSlot 4) (dLV (dFrz (dCall fn__law_common [] (dArs [dSlot 4, dSlot 6]))))))) (dSlot 6))))))))))
noncomputable def fn__law_is_least : Fn := mkFn 3 8 den__law_is_least
theorem fn__law_is_least_len (args : List Ent) (h : args.length ≠ 3) : fn__law_is_least args = .bad := mkFn_len args h
theorem ok__law_is_least (T : Tz K mg) : FnOkG P w K mg base (L2.CX P w) 2 (He.ga K "_law_is_least") (fdOf K (He.ga K "_law_is_least")) ["_law_time", "_law_beat", "_law_mate"] (spOf K mg [] 3 fn__law_is_least) := by
  refine fn_ok (N := N__law_is_least) (np := 3) (k := 1) (R := []) T.F__law_is_least sc__law_is_least rfl (f := den__law_is_least) (fun cdv A outer s H E hr => ?_)
  have tk : Takes (cxOf (L2.CX P w) P w K mg base N__law_is_least "_law_is_least" (defScope (top 31)) (He.ga K "_law_is_least") cdv A outer s H E) (fun cls d _ H => E cls d H) := takes_of rfl rfl rfl rfl
  have hp := passes_of (X := cxOf (L2.CX P w) P w K mg base N__law_is_least "_law_is_least" (defScope (top 31)) (He.ga K "_law_is_least") cdv A outer s H E) rfl
  exact sCons (sAsg (own := [3, 4, 5, 6, 7]) (sFrz (sCall rfl rfl (ok__law_scaled_beats T) (hr.mono (by decide)) rfl (T.glo (T.c.fact 30)) (T.F__law_scaled_beats).kp T.b__law_scaled_beats .nil (fun _ => rfl) tk (sArCons (sSlot (pe_var (i := 1) rfl (.inl rfl))) (sArCons (sSlot (pe_var (i := 2) rfl (.inl rfl))) (sArNil))) fn__law_scaled_beats_len)) (gT rfl rfl (gsCons (gN (i := 3) (by decide) (nR rfl) sc__law_is_least.nd rfl (.inl rfl)) (gsCons (gN (i := 4) (by decide) (nR rfl) sc__law_is_least.nd rfl (.inl rfl)) (gsCons (gN (i := 5) (by decide) (nR rfl) sc__law_is_least.nd rfl (.inl rfl)) (gsCons (gN (i := 6) (by decide) (nR rfl) sc__law_is_least.nd rfl (.inl rfl)) (gsCons (gN (i := 7) (by decide) (nR rfl) sc__law_is_least.nd rfl (.inl rfl)) (gsNil)))))))) (sCons (sIfS (sWT (sOrT (sCmpT (op_eqD hr.units) sv_eq (sSlot (pe_var (i := 4) rfl (.inl rfl))) (sLV (sInt)) (nomark _)) (sOrT1 (sCmpT (op_eqD hr.units) sv_eq (sSlot (pe_var (i := 6) rfl (.inl rfl))) (sLV (sInt)) (nomark _))))) (sOne (sRet (sVal (sBl)))) (sNil)) (sOne (sRet (sCmp op_lt sv_lt (sLV (sFrz (sBin op_mulE sv_mul (sLV (sFrz (sIx rfl (sSlot (pe_var (i := 0) rfl (.inl rfl))) (sLV (sInt))))) (sSlot (pe_var (i := 7) rfl (.inl rfl)))))) (sLV (sFrz (sBin op_mulE sv_mul (sLV (sFrz (sIx rfl (sSlot (pe_var (i := 0) rfl (.inl rfl))) (sLV (sInt))))) (sLV (sFrz (sBin op_mulE sv_mul (sLV (sFrz (sBin op_fdivX sv_div (sSlot (pe_var (i := 4) rfl (.inl rfl))) (sLV (sFrz (sCall rfl rfl (ok__law_common T) (hr.mono (by decide)) rfl (T.glo (T.c.fact 23)) (T.F__law_common).kp T.b__law_common .nil (fun _ => rfl) tk (sArCons (sSlot (pe_var (i := 4) rfl (.inl rfl))) (sArCons (sSlot (pe_var (i := 6) rfl (.inl rfl))) (sArNil))) fn__law_common_len)))))) (sSlot (pe_var (i := 6) rfl (.inl rfl))))))))) (nomark _)))))
/-! check_beat -/
abbrev N_check_beat : List Str := ["beat", "index"]
theorem sc_check_beat : FnScope N_check_beat ["beat", "index"] (defScope (top 9)) := ⟨rfl, rfl, rfl, by decide +kernel, rfl, by decide +kernel, by decide +kernel⟩
noncomputable def den_check_beat : DenS := dSeq (dIfS (dOrT (dNotT (dTru (dLV (dIsi ["list", "tuple"] (dSlot 0))))) (dTB (dBin gNe (dLV (dFrz (dCB gLen (dArs [dSlot 0])))) (dLV (dC (.int 2)))))) (dRaise "BadBeat" ["index", "what"] [dVar 1, dC (.str "couple")]) (dSkip)) (dSeq (dIfS (dNotT (dTru (dLV (dFrz (dCall fn_is_ratio [] (dArs [dLV (dFrz (dBin gIx (dSlot 0) (dLV (dC (.int 0)))))])))))) (dRaise "BadBeat" ["index", "what"] [dVar 1, dC (.str "first")]) (dSkip)) (dSeq (dIfS (dOrT (dNotT (dTru (dLV (dFrz (dCall fn_is_ratio [] (dArs [dLV (dFrz (dBin gIx (dSlot 0) (dLV (dC (.int 1)))))])))))) (dTB (dBin gLt (dLV (dFrz (dBin gIx (dLV (dFrz (dBin gIx (dSlot 0) (dLV (dC (.int 1)))))) (dLV (dC (.int 0)))))) (dLV (dC (.int 0)))))) (dRaise "BadBeat" ["index", "what"] [dVar 1, dC (.str "every")]) (dSkip)) (dRet (dVal (dTup [dFrz (dCB gTuple (dArs [dLV (dFrz (dBin gIx (dSlot 0) (dLV (dC (.int 0)))))])), dFrz (dCB gTuple (dArs [dLV (dFrz (dBin gIx (dSlot 0) (dLV (dC (.int 1)))))]))])))))
noncomputable def fn_check_beat : Fn := mkFn 2 2 den_check_beat
theorem fn_check_beat_len (args : List Ent) (h : args.length ≠ 2) : fn_check_beat args = .bad := mkFn_len args h
theorem ok_check_beat (T : Tz K mg) : FnOkG P w K mg base (L2.CX P w) 3 (He.ga K "check_beat") (fdOf K (He.ga K "check_beat")) ["beat", "index"] (spOf K mg [] 2 fn_check_beat) := by
  refine fn_ok (N := N_check_beat) (np := 2) (k := 2) (R := []) T.F_check_beat sc_check_beat rfl (f := den_check_beat) (fun cdv A outer s H E hr => ?_)
  have tk : Takes (cxOf (L2.CX P w) P w K mg base N_check_beat "check_beat" (defScope (top 9)) (He.ga K "check_beat") cdv A outer s H E) (fun cls d _ H => E cls d H) := takes_of rfl rfl rfl rfl
  have hp := passes_of (X := cxOf (L2.CX P w) P w K mg base N_check_beat "check_beat" (defScope (top 9)) (He.ga K "check_beat") cdv A outer s H E) rfl
  exact sCons (sIfS (sWT (sOrT (sNotT (sTru rfl (sLV (sIsiT rfl rfl (T.free (T.c.fact 1)) bt_isinstance (sSlot (pe_var (i := 0) rfl (.inl rfl))) (.cons (pe_bltn rfl (T.free (T.c.fact 5)) bt_list rfl) rfl (.cons (pe_bltn rfl (T.free (T.c.fact 4)) bt_tuple rfl) rfl .nil)) rfl (by decide))))) (sOrT1 (sCmpT (op_neD hr.units) sv_ne (sLV (sFrz (sCB call_lenE sv_len rfl (T.free (T.c.fact 6)) bt_len (sArCons (sSlot (pe_var (i := 0) rfl (.inl rfl))) (sArNil))))) (sLV (sInt)) (nomark _))))) (sOne (sRaise rfl tk (fx_oex (T.c.fact 11)) (fx_ini (T.c.fact 12)).1 (fx_ini (T.c.fact 12)).2 (T.ini_BadBeat) (hr.mono (by decide)) T.ib_BadBeat rfl (T.glo (T.c.fact 13)) rfl (sVsCons (sVar (pe_var (i := 1) rfl (.inl rfl))) (sVsCons (sStr) (sVsNil))) (by decide))) (sNil)) (sCons (sIfS (sNotT (sTru rfl (sLV (sFrz (sCall rfl rfl (ok_is_ratio T) (hr.mono (by decide)) rfl (T.glo (T.c.fact 14)) (T.F_is_ratio).kp T.b_is_ratio .nil (fun _ => rfl) tk (sArCons (sLV (sFrz (sIx rfl (sSlot (pe_var (i := 0) rfl (.inl rfl))) (sLV (sInt))))) (sArNil)) fn_is_ratio_len))))) (sOne (sRaise rfl tk (fx_oex (T.c.fact 11)) (fx_ini (T.c.fact 12)).1 (fx_ini (T.c.fact 12)).2 (T.ini_BadBeat) (hr.mono (by decide)) T.ib_BadBeat rfl (T.glo (T.c.fact 13)) rfl (sVsCons (sVar (pe_var (i := 1) rfl (.inl rfl))) (sVsCons (sStr) (sVsNil))) (by decide))) (sNil)) (sCons (sIfS (sWT (sOrT (sNotT (sTru rfl (sLV (sFrz (sCall rfl rfl (ok_is_ratio T) (hr.mono (by decide)) rfl (T.glo (T.c.fact 14)) (T.F_is_ratio).kp T.b_is_ratio .nil (fun _ => rfl) tk (sArCons (sLV (sFrz (sIx rfl (sSlot (pe_var (i := 0) rfl (.inl rfl))) (sLV (sInt))))) (sArNil)) fn_is_ratio_len))))) (sOrT1 (sCmpT op_lt sv_lt (sLV (sFrz (sIx rfl (sLV (sFrz (sIx rfl (sSlot (pe_var (i := 0) rfl (.inl rfl))) (sLV (sInt))))) (sLV (sInt))))) (sLV (sInt)) (nomark _))))) (sOne (sRaise rfl tk (fx_oex (T.c.fact 11)) (fx_ini (T.c.fact 12)).1 (fx_ini (T.c.fact 12)).2 (T.ini_BadBeat) (hr.mono (by decide)) T.ib_BadBeat rfl (T.glo (T.c.fact 13)) rfl (sVsCons (sVar (pe_var (i := 1) rfl (.inl rfl))) (sVsCons (sStr) (sVsNil))) (by decide))) (sNil)) (sOne (sRet (sVal (sTup (sVsCons (sFrz (sCT call_tuple_of sv_tuple rfl (T.free (T.c.fact 4)) bt_tuple (sArCons (sLV (sFrz (sIx rfl (sSlot (pe_var (i := 0) rfl (.inl rfl))) (sLV (sInt))))) (sArNil)))) (sVsCons (sFrz (sCT call_tuple_of sv_tuple rfl (T.free (T.c.fact 4)) bt_tuple (sArCons (sLV (sFrz (sIx rfl (sSlot (pe_var (i := 0) rfl (.inl rfl))) (sLV (sInt))))) (sArNil)))) (sVsNil)))))))))
/-! _law_sequence -/
abbrev N__law_sequence : List Str := ["_law_hand_here", "_law_thing"]
theorem sc__law_sequence : FnScope N__law_sequence ["_law_hand_here", "_law_thing"] (defScope (top 22)) := ⟨rfl, rfl, rfl, by decide +kernel, rfl, by decide +kernel, by decide +kernel⟩
noncomputable def den__law_sequence : DenS := dRet (dIfF (dTB (dBin gEq (dLV (dFrz (dCallR fn__law_take 0 [] (dArs [dLV (dC (.int 2))])))) (dLV (dC (.int 0))))) (dCB gList (dArs [dSlot 1])) (dCB gTuple (dArs [dSlot 1])))
noncomputable def fn__law_sequence : Fn := mkFn 2 2 den__law_sequence
theorem fn__law_sequence_len (args : List Ent) (h : args.length ≠ 2) : fn__law_sequence args = .bad := mkFn_len args h
theorem ok__law_sequence (T : Tz K mg) : FnOkG P w K mg base (L2.CX P w) 3 (He.ga K "_law_sequence") (fdOf K (He.ga K "_law_sequence")) ["_law_hand_here", "_law_thing"] (spOf K mg [0] 2 fn__law_sequence) := by
  refine fn_ok (N := N__law_sequence) (np := 2) (k := 2) (R := [0]) T.F__law_sequence sc__law_sequence rfl (f := den__law_sequence) (fun cdv A outer s H E hr => ?_)
  have tk : Takes (cxOf (L2.CX P w) P w K mg base N__law_sequence "_law_sequence" (defScope (top 22)) (He.ga K "_law_sequence") cdv A outer s H E) (fun cls d _ H => E cls d H) := takes_of rfl rfl rfl rfl
  have hp := passes_of (X := cxOf (L2.CX P w) P w K mg base N__law_sequence "_law_sequence" (defScope (top 22)) (He.ga K "_law_sequence") cdv A outer s H E) rfl
  exact sOne (sRet (sIfF (sCmpT (op_eqD hr.units) sv_eq (sLV (sFrz (sCallR rfl rfl (ok__law_take T) (hr.mono (by decide)) rfl (T.glo (T.c.fact 25)) (T.F__law_take).kp T.b__law_take .nil (fun _ => rfl) tk (pe_var (i := 0) rfl (.inl rfl)) (sArCons (sLV (sInt)) (sArNil)) fn__law_take_len))) (sLV (sInt)) (nomark _)) (sCT call_list_of sv_list rfl (T.free (T.c.fact 5)) bt_list (sArCons (sSlot (pe_var (i := 1) rfl (.inl rfl))) (sArNil))) (sCT call_tuple_of sv_tuple rfl (T.free (T.c.fact 4)) bt_tuple (sArCons (sSlot (pe_var (i := 1) rfl (.inl rfl))) (sArNil)))))
/-! _law_plus -/
abbrev N__law_plus : List Str := ["_law_one", "_law_other"]
theorem sc__law_plus : FnScope N__law_plus ["_law_one", "_law_other"] (defScope (top 23)) := ⟨rfl, rfl, rfl, by decide +kernel, rfl, by decide +kernel, by decide +kernel⟩
noncomputable def den__law_plus : DenS := dRet (dCall fn__law_ratio [] (dArs [dLV (dFrz (dBin gAdd (dLV (dFrz (dBin gMul (dLV (dFrz (dBin gIx (dSlot 0) (dLV (dC (.int 0)))))) (dLV (dFrz (dBin gIx (dSlot 1) (dLV (dC (.int 1))))))))) (dLV (dFrz (dBin gMul (dLV (dFrz (dBin gIx (dSlot 1) (dLV (dC (.int 0)))))) (dLV (dFrz (dBin gIx (dSlot 0) (dLV (dC (.int 1))))))))))), dLV (dFrz (dBin gMul (dLV (dFrz (dBin gIx (dSlot 0) (dLV (dC (.int 1)))))) (dLV (dFrz (dBin gIx (dSlot 1) (dLV (dC (.int 1))))))))]))
noncomputable def fn__law_plus : Fn := mkFn 2 2 den__law_plus
theorem fn__law_plus_len (args : List Ent) (h : args.length ≠ 2) : fn__law_plus args = .bad := mkFn_len args h
theorem ok__law_plus (T : Tz K mg) : FnOkG P w K mg base (L2.CX P w) 3 (He.ga K "_law_plus") (fdOf K (He.ga K "_law_plus")) ["_law_one", "_law_other"] (spOf K mg [] 2 fn__law_plus) := by
  refine fn_ok (N := N__law_plus) (np := 2) (k := 2) (R := []) T.F__law_plus sc__law_plus rfl (f := den__law_plus) (fun cdv A outer s H E hr => ?_)
  have tk : Takes (cxOf (L2.CX P w) P w K mg base N__law_plus "_law_plus" (defScope (top 23)) (He.ga K "_law_plus") cdv A outer s H E) (fun cls d _ H => E cls d H) := takes_of rfl rfl rfl rfl
  have hp := passes_of (X := cxOf (L2.CX P w) P w K mg base N__law_plus "_law_plus" (defScope (top 23)) (He.ga K "_law_plus") cdv A outer s H E) rfl
  exact sOne (sRet (sCall rfl rfl (ok__law_ratio T) (hr.mono (by decide)) rfl (T.glo (T.c.fact 26)) (T.F__law_ratio).kp T.b__law_ratio .nil (fun _ => rfl) tk (sArCons (sLV (sFrz (sBin op_addE sv_add (sLV (sFrz (sBin op_mulE sv_mul (sLV (sFrz (sIx rfl (sSlot (pe_var (i := 0) rfl (.inl rfl))) (sLV (sInt))))) (sLV (sFrz (sIx rfl (sSlot (pe_var (i := 1) rfl (.inl rfl))) (sLV (sInt)))))))) (sLV (sFrz (sBin op_mulE sv_mul (sLV (sFrz (sIx rfl (sSlot (pe_var (i := 1) rfl (.inl rfl))) (sLV (sInt))))) (sLV (sFrz (sIx rfl (sSlot (pe_var (i := 0) rfl (.inl rfl))) (sLV (sInt))))))))))) (sArCons (sLV (sFrz (sBin op_mulE sv_mul (sLV (sFrz (sIx rfl (sSlot (pe_var (i := 0) rfl (.inl rfl))) (sLV (sInt))))) (sLV (sFrz (sIx rfl (sSlot (pe_var (i := 1) rfl (.inl rfl))) (sLV (sInt)))))))) (sArNil))) fn__law_ratio_len))
/-! _law_minus -/
abbrev N__law_minus : List Str := ["_law_one", "_law_other"]
theorem sc__law_minus : FnScope N__law_minus ["_law_one", "_law_other"] (defScope (top 24)) := ⟨rfl, rfl, rfl, by decide +kernel, rfl, by decide +kernel, by decide +kernel⟩
noncomputable def den__law_minus : DenS := dRet (dCall fn__law_ratio [] (dArs [dLV (dFrz (dBin gSub (dLV (dFrz (dBin gMul (dLV (dFrz (dBin gIx (dSlot 0) (dLV (dC (.int 0)))))) (dLV (dFrz (dBin gIx (dSlot 1) (dLV (dC (.int 1))))))))) (dLV (dFrz (dBin gMul (dLV (dFrz (dBin gIx (dSlot 1) (dLV (dC (.int 0)))))) (dLV (dFrz (dBin gIx (dSlot 0) (dLV (dC (.int 1))))))))))), dLV (dFrz (dBin gMul (dLV (dFrz (dBin gIx (dSlot 0) (dLV (dC (.int 1)))))) (dLV (dFrz (dBin gIx (dSlot 1) (dLV (dC (.int 1))))))))]))
noncomputable def fn__law_minus : Fn := mkFn 2 2 den__law_minus
theorem fn__law_minus_len (args : List Ent) (h : args.length ≠ 2) : fn__law_minus args = .bad := mkFn_len args h
theorem ok__law_minus (T : Tz K mg) : FnOkG P w K mg base (L2.CX P w) 3 (He.ga K "_law_minus") (fdOf K (He.ga K "_law_minus")) ["_law_one", "_law_other"] (spOf K mg [] 2 fn__law_minus) := by
  refine fn_ok (N := N__law_minus) (np := 2) (k := 2) (R := []) T.F__law_minus sc__law_minus rfl (f := den__law_minus) (fun cdv A outer s H E hr => ?_)
  have tk : Takes (cxOf (L2.CX P w) P w K mg base N__law_minus "_law_minus" (defScope (top 24)) (He.ga K "_law_minus") cdv A outer s H E) (fun cls d _ H => E cls d H) := takes_of rfl rfl rfl rfl
  have hp := passes_of (X := cxOf (L2.CX P w) P w K mg base N__law_minus "_law_minus" (defScope (top 24)) (He.ga K "_law_minus") cdv A outer s H E) rfl
  exact sOne (sRet (sCall rfl rfl (ok__law_ratio T) (hr.mono (by decide)) rfl (T.glo (T.c.fact 26)) (T.F__law_ratio).kp T.b__law_ratio .nil (fun _ => rfl) tk (sArCons (sLV (sFrz (sBin op_sub sv_sub (sLV (sFrz (sBin op_mulE sv_mul (sLV (sFrz (sIx rfl (sSlot (pe_var (i := 0) rfl (.inl rfl))) (sLV (sInt))))) (sLV (sFrz (sIx rfl (sSlot (pe_var (i := 1) rfl (.inl rfl))) (sLV (sInt)))))))) (sLV (sFrz (sBin op_mulE sv_mul (sLV (sFrz (sIx rfl (sSlot (pe_var (i := 1) rfl (.inl rfl))) (sLV (sInt))))) (sLV (sFrz (sIx rfl (sSlot (pe_var (i := 0) rfl (.inl rfl))) (sLV (sInt))))))))))) (sArCons (sLV (sFrz (sBin op_mulE sv_mul (sLV (sFrz (sIx rfl (sSlot (pe_var (i := 0) rfl (.inl rfl))) (sLV (sInt))))) (sLV (sFrz (sIx rfl (sSlot (pe_var (i := 1) rfl (.inl rfl))) (sLV (sInt)))))))) (sArNil))) fn__law_ratio_len))
/-! _law_number -/
abbrev N__law_number : List Str := ["_law_hand_here", "_law_bottom", "_law_top"]
theorem sc__law_number : FnScope N__law_number ["_law_hand_here"] (defScope (top 25)) := ⟨rfl, rfl, rfl, by decide +kernel, rfl, by decide +kernel, by decide +kernel⟩
noncomputable def den__law_number : DenS := dSeq (dSet 1 (dBin gAdd (dLV (dC (.int 1))) (dLV (dFrz (dCallR fn__law_take 0 [] (dArs [dLV (dIf (dTB (dBin gGt (dLV (dFrz (dCallR fn__law_take 0 [] (dArs [dLV (dC (.int 8))])))) (dLV (dC (.int 0))))) (dC (.int 12)) (dFrz (dBin gPow (dLV (dC (.int 10))) (dLV (dC (.int 9))))))])))))) (dSeq (dSet 2 (dCallR fn__law_take 0 [] (dArs [dLV (dIf (dTB (dBin gGt (dLV (dFrz (dCallR fn__law_take 0 [] (dArs [dLV (dC (.int 8))])))) (dLV (dC (.int 0))))) (dC (.int 61)) (dFrz (dBin gPow (dLV (dC (.int 10))) (dLV (dC (.int 14))))))]))) (dRet (dCall fn__law_ratio [] (dArs [dSlot 2, dSlot 1]))))
noncomputable def fn__law_number : Fn := mkFn 1 3 den__law_number
theorem fn__law_number_len (args : List Ent) (h : args.length ≠ 1) : fn__law_number args = .bad := mkFn_len args h
theorem ok__law_number (T : Tz K mg) : FnOkG P w K mg base (L2.CX P w) 3 (He.ga K "_law_number") (fdOf K (He.ga K "_law_number")) ["_law_hand_here"] (spOf K mg [0] 1 fn__law_number) := by
  refine fn_ok (N := N__law_number) (np := 1) (k := 2) (R := [0]) T.F__law_number sc__law_number rfl (f := den__law_number) (fun cdv A outer s H E hr => ?_)
  have tk : Takes (cxOf (L2.CX P w) P w K mg base N__law_number "_law_number" (defScope (top 25)) (He.ga K "_law_number") cdv A outer s H E) (fun cls d _ H => E cls d H) := takes_of rfl rfl rfl rfl
  have hp := passes_of (X := cxOf (L2.CX P w) P w K mg base N__law_number "_law_number" (defScope (top 25)) (He.ga K "_law_number") cdv A outer s H E) rfl
  exact sCons (sSet (i := 1) (nR rfl) (sBin op_addE sv_add (sLV (sInt)) (sLV (sFrz (sCallR rfl rfl (ok__law_take T) (hr.mono (by decide)) rfl (T.glo (T.c.fact 25)) (T.F__law_take).kp T.b__law_take .nil (fun _ => rfl) tk (pe_var (i := 0) rfl (.inl rfl)) (sArCons (sLV (sIf (sCmpT op_gt sv_gt (sLV (sFrz (sCallR rfl rfl (ok__law_take T) (hr.mono (by decide)) rfl (T.glo (T.c.fact 25)) (T.F__law_take).kp T.b__law_take .nil (fun _ => rfl) tk (pe_var (i := 0) rfl (.inl rfl)) (sArCons (sLV (sInt)) (sArNil)) fn__law_take_len))) (sLV (sInt)) (nomark _)) (sInt) (sFrz (sBin op_pow sv_pow (sLV (sInt)) (sLV (sInt)))))) (sArNil)) fn__law_take_len)))) sc__law_number.nd rfl (.inl rfl)) (sCons (sSet (i := 2) (nR rfl) (sCallR rfl rfl (ok__law_take T) (hr.mono (by decide)) rfl (T.glo (T.c.fact 25)) (T.F__law_take).kp T.b__law_take .nil (fun _ => rfl) tk (pe_var (i := 0) rfl (.inl rfl)) (sArCons (sLV (sIf (sCmpT op_gt sv_gt (sLV (sFrz (sCallR rfl rfl (ok__law_take T) (hr.mono (by decide)) rfl (T.glo (T.c.fact 25)) (T.F__law_take).kp T.b__law_take .nil (fun _ => rfl) tk (pe_var (i := 0) rfl (.inl rfl)) (sArCons (sLV (sInt)) (sArNil)) fn__law_take_len))) (sLV (sInt)) (nomark _)) (sInt) (sFrz (sBin op_pow sv_pow (sLV (sInt)) (sLV (sInt)))))) (sArNil)) fn__law_take_len) sc__law_number.nd rfl (.inl rfl)) (sOne (sRet (sCall rfl rfl (ok__law_ratio T) (hr.mono (by decide)) rfl (T.glo (T.c.fact 26)) (T.F__law_ratio).kp T.b__law_ratio .nil (fun _ => rfl) tk (sArCons (sSlot (pe_var (i := 2) rfl (.inl rfl))) (sArCons (sSlot (pe_var (i := 1) rfl (.inl rfl))) (sArNil))) fn__law_ratio_len))))
/-! _law_drawn_beat -/
abbrev N__law_drawn_beat : List Str := ["_law_hand_here", "_law_first", "_law_every"]
theorem sc__law_drawn_beat : FnScope N__law_drawn_beat ["_law_hand_here"] (defScope (top 26)) := ⟨rfl, rfl, rfl, by decide +kernel, rfl, by decide +kernel, by decide +kernel⟩
noncomputable def den__law_drawn_beat : DenS := dSeq (dSet 1 (dCallR fn__law_number 0 [] (dArs []))) (dSeq (dSet 2 (dIfF (dTB (dBin gEq (dLV (dFrz (dCallR fn__law_take 0 [] (dArs [dLV (dC (.int 6))])))) (dLV (dC (.int 0))))) (dVal (dTup [dC (.int 0), dC (.int 1)])) (dCallR fn__law_number 0 [] (dArs [])))) (dRet (dLst [dIf (dTB (dBin gEq (dLV (dFrz (dCallR fn__law_take 0 [] (dArs [dLV (dC (.int 3))])))) (dLV (dC (.int 0))))) (dFrz (dCall fn__law_ratio [] (dArs [dLV (dNeg (dFrz (dBin gIx (dSlot 1) (dLV (dC (.int 0)))))), dLV (dFrz (dBin gIx (dSlot 1) (dLV (dC (.int 1)))))]))) (dVar 1), dVar 2])))
noncomputable def fn__law_drawn_beat : Fn := mkFn 1 3 den__law_drawn_beat
theorem fn__law_drawn_beat_len (args : List Ent) (h : args.length ≠ 1) : fn__law_drawn_beat args = .bad := mkFn_len args h
theorem ok__law_drawn_beat (T : Tz K mg) : FnOkG P w K mg base (L2.CX P w) 4 (He.ga K "_law_drawn_beat") (fdOf K (He.ga K "_law_drawn_beat")) ["_law_hand_here"] (spOf K mg [0] 1 fn__law_drawn_beat) := by
  refine fn_ok (N := N__law_drawn_beat) (np := 1) (k := 3) (R := [0]) T.F__law_drawn_beat sc__law_drawn_beat rfl (f := den__law_drawn_beat) (fun cdv A outer s H E hr => ?_)
  have tk : Takes (cxOf (L2.CX P w) P w K mg base N__law_drawn_beat "_law_drawn_beat" (defScope (top 26)) (He.ga K "_law_drawn_beat") cdv A outer s H E) (fun cls d _ H => E cls d H) := takes_of rfl rfl rfl rfl
  have hp := passes_of (X := cxOf (L2.CX P w) P w K mg base N__law_drawn_beat "_law_drawn_beat" (defScope (top 26)) (He.ga K "_law_drawn_beat") cdv A outer s H E) rfl
  exact sCons (sSet (i := 1) (nR rfl) (sCallR rfl rfl (ok__law_number T) (hr.mono (by decide)) rfl (T.glo (T.c.fact 27)) (T.F__law_number).kp T.b__law_number .nil (fun _ => rfl) tk (pe_var (i := 0) rfl (.inl rfl)) (sArNil) fn__law_number_len) sc__law_drawn_beat.nd rfl (.inl rfl)) (sCons (sSet (i := 2) (nR rfl) (sIfF (sCmpT (op_eqD hr.units) sv_eq (sLV (sFrz (sCallR rfl rfl (ok__law_take T) (hr.mono (by decide)) rfl (T.glo (T.c.fact 25)) (T.F__law_take).kp T.b__law_take .nil (fun _ => rfl) tk (pe_var (i := 0) rfl (.inl rfl)) (sArCons (sLV (sInt)) (sArNil)) fn__law_take_len))) (sLV (sInt)) (nomark _)) (sVal (sTup (sVsCons (sInt) (sVsCons (sInt) (sVsNil))))) (sCallR rfl rfl (ok__law_number T) (hr.mono (by decide)) rfl (T.glo (T.c.fact 27)) (T.F__law_number).kp T.b__law_number .nil (fun _ => rfl) tk (pe_var (i := 0) rfl (.inl rfl)) (sArNil) fn__law_number_len)) sc__law_drawn_beat.nd rfl (.inl rfl)) (sOne (sRet (sLst (sVsCons (sIf (sCmpT (op_eqD hr.units) sv_eq (sLV (sFrz (sCallR rfl rfl (ok__law_take T) (hr.mono (by decide)) rfl (T.glo (T.c.fact 25)) (T.F__law_take).kp T.b__law_take .nil (fun _ => rfl) tk (pe_var (i := 0) rfl (.inl rfl)) (sArCons (sLV (sInt)) (sArNil)) fn__law_take_len))) (sLV (sInt)) (nomark _)) (sFrz (sCall rfl rfl (ok__law_ratio T) (hr.mono (by decide)) rfl (T.glo (T.c.fact 26)) (T.F__law_ratio).kp T.b__law_ratio .nil (fun _ => rfl) tk (sArCons (sLV (sNeg (sFrz (sIx rfl (sSlot (pe_var (i := 1) rfl (.inl rfl))) (sLV (sInt)))))) (sArCons (sLV (sFrz (sIx rfl (sSlot (pe_var (i := 1) rfl (.inl rfl))) (sLV (sInt))))) (sArNil))) fn__law_ratio_len)) (sVar (pe_var (i := 1) rfl (.inl rfl)))) (sVsCons (sVar (pe_var (i := 2) rfl (.inl rfl))) (sVsNil)))))))
/-! _law_through -/
abbrev N__law_through : List Str := ["_law_hand_here", "_law_beat", "_law_time", "_law_k"]
theorem sc__law_through : FnScope N__law_through ["_law_hand_here", "_law_beat", "_law_time"] (defScope (top 27)) := ⟨rfl, rfl, rfl, by decide +kernel, rfl, by decide +kernel, by decide +kernel⟩
noncomputable def den__law_through : DenS := dSeq (dSet 3 (dBin gSub (dLV (dFrz (dCallR fn__law_take 0 [] (dArs [dLV (dC (.int 21))])))) (dLV (dC (.int 10))))) (dRet (dLst [dFrz (dCall fn__law_plus [] (dArs [dSlot 2, dLV (dFrz (dCall fn__law_ratio [] (dArs [dLV (dFrz (dBin gMul (dSlot 3) (dLV (dFrz (dBin gIx (dLV (dFrz (dBin gIx (dSlot 1) (dLV (dC (.int 1)))))) (dLV (dC (.int 0)))))))), dLV (dFrz (dBin gIx (dLV (dFrz (dBin gIx (dSlot 1) (dLV (dC (.int 1)))))) (dLV (dC (.int 1)))))])))])), dFrz (dBin gIx (dSlot 1) (dLV (dC (.int 1))))]))
noncomputable def fn__law_through : Fn := mkFn 3 4 den__law_through
theorem fn__law_through_len (args : List Ent) (h : args.length ≠ 3) : fn__law_through args = .bad := mkFn_len args h
theorem ok__law_through (T : Tz K mg) : FnOkG P w K mg base (L2.CX P w) 4 (He.ga K "_law_through") (fdOf K (He.ga K "_law_through")) ["_law_hand_here", "_law_beat", "_law_time"] (spOf K mg [0] 3 fn__law_through) := by
  refine fn_ok (N := N__law_through) (np := 3) (k := 3) (R := [0]) T.F__law_through sc__law_through rfl (f := den__law_through) (fun cdv A outer s H E hr => ?_)
  have tk : Takes (cxOf (L2.CX P w) P w K mg base N__law_through "_law_through" (defScope (top 27)) (He.ga K "_law_through") cdv A outer s H E) (fun cls d _ H => E cls d H) := takes_of rfl rfl rfl rfl
  have hp := passes_of (X := cxOf (L2.CX P w) P w K mg base N__law_through "_law_through" (defScope (top 27)) (He.ga K "_law_through") cdv A outer s H E) rfl
  exact sCons (sSet (i := 3) (nR rfl) (sBin op_sub sv_sub (sLV (sFrz (sCallR rfl rfl (ok__law_take T) (hr.mono (by decide)) rfl (T.glo (T.c.fact 25)) (T.F__law_take).kp T.b__law_take .nil (fun _ => rfl) tk (pe_var (i := 0) rfl (.inl rfl)) (sArCons (sLV (sInt)) (sArNil)) fn__law_take_len))) (sLV (sInt))) sc__law_through.nd rfl (.inl rfl)) (sOne (sRet (sLst (sVsCons (sFrz (sCall rfl rfl (ok__law_plus T) (hr.mono (by decide)) rfl (T.glo (T.c.fact 28)) (T.F__law_plus).kp T.b__law_plus .nil (fun _ => rfl) tk (sArCons (sSlot (pe_var (i := 2) rfl (.inl rfl))) (sArCons (sLV (sFrz (sCall rfl rfl (ok__law_ratio T) (hr.mono (by decide)) rfl (T.glo (T.c.fact 26)) (T.F__law_ratio).kp T.b__law_ratio .nil (fun _ => rfl) tk (sArCons (sLV (sFrz (sBin op_mulE sv_mul (sSlot (pe_var (i := 3) rfl (.inl rfl))) (sLV (sFrz (sIx rfl (sLV (sFrz (sIx rfl (sSlot (pe_var (i := 1) rfl (.inl rfl))) (sLV (sInt))))) (sLV (sInt)))))))) (sArCons (sLV (sFrz (sIx rfl (sLV (sFrz (sIx rfl (sSlot (pe_var (i := 1) rfl (.inl rfl))) (sLV (sInt))))) (sLV (sInt))))) (sArNil))) fn__law_ratio_len))) (sArNil))) fn__law_plus_len)) (sVsCons (sFrz (sIx rfl (sSlot (pe_var (i := 1) rfl (.inl rfl))) (sLV (sInt)))) (sVsNil))))))
/-! _law_belongs -/
abbrev N__law_belongs : List Str := ["_law_time", "_law_beat", "_law_apart"]
theorem sc__law_belongs : FnScope N__law_belongs ["_law_time", "_law_beat"] (defScope (top 28)) := ⟨rfl, rfl, rfl, by decide +kernel, rfl, by decide +kernel, by decide +kernel⟩
noncomputable def den__law_belongs : DenS := dSeq (dSet 2 (dCall fn__law_minus [] (dArs [dSlot 0, dLV (dFrz (dBin gIx (dSlot 1) (dLV (dC (.int 0)))))]))) (dSeq (dIfS (dTB (dBin gEq (dLV (dFrz (dBin gIx (dLV (dFrz (dBin gIx (dSlot 1) (dLV (dC (.int 1)))))) (dLV (dC (.int 0)))))) (dLV (dC (.int 0))))) (dRet (dBin gEq (dLV (dFrz (dBin gIx (dSlot 2) (dLV (dC (.int 0)))))) (dLV (dC (.int 0))))) (dSkip)) (dRet (dBin gEq (dLV (dFrz (dBin gMod (dLV (dFrz (dCB gInt (dArs [dLV (dFrz (dBin gMul (dLV (dFrz (dBin gIx (dSlot 2) (dLV (dC (.int 0)))))) (dLV (dFrz (dBin gIx (dLV (dFrz (dBin gIx (dSlot 1) (dLV (dC (.int 1)))))) (dLV (dC (.int 1))))))))])))) (dLV (dFrz (dBin gMul (dLV (dFrz (dBin gIx (dSlot 2) (dLV (dC (.int 1)))))) (dLV (dFrz (dBin gIx (dLV (dFrz (dBin gIx (dSlot 1) (dLV (dC (.int 1)))))) (dLV (dC (.int 0)))))))))))) (dLV (dC (.int 0))))))
noncomputable def fn__law_belongs : Fn := mkFn 2 3 den__law_belongs
theorem fn__law_belongs_len (args : List Ent) (h : args.length ≠ 2) : fn__law_belongs args = .bad := mkFn_len args h
theorem ok__law_belongs (T : Tz K mg) : FnOkG P w K mg base (L2.CX P w) 4 (He.ga K "_law_belongs") (fdOf K (He.ga K "_law_belongs")) ["_law_time", "_law_beat"] (spOf K mg [] 2 fn__law_belongs) := by
  refine fn_ok (N := N__law_belongs) (np := 2) (k := 3) (R := []) T.F__law_belongs sc__law_belongs rfl (f := den__law_belongs) (fun cdv A outer s H E hr => ?_)
  have tk : Takes (cxOf (L2.CX P w) P w K mg base N__law_belongs "_law_belongs" (defScope (top 28)) (He.ga K "_law_belongs") cdv A outer s H E) (fun cls d _ H => E cls d H) := takes_of rfl rfl rfl rfl
  have hp := passes_of (X := cxOf (L2.CX P w) P w K mg base N__law_belongs "_law_belongs" (defScope (top 28)) (He.ga K "_law_belongs") cdv A outer s H E) rfl
  exact sCons (sSet (i := 2) (nR rfl) (sCall rfl rfl (ok__law_minus T) (hr.mono (by decide)) rfl (T.glo (T.c.fact 29)) (T.F__law_minus).kp T.b__law_minus .nil (fun _ => rfl) tk (sArCons (sSlot (pe_var (i := 0) rfl (.inl rfl))) (sArCons (sLV (sFrz (sIx rfl (sSlot (pe_var (i := 1) rfl (.inl rfl))) (sLV (sInt))))) (sArNil))) fn__law_minus_len) sc__law_belongs.nd rfl (.inl rfl)) (sCons (sIfS (sCmpT (op_eqD hr.units) sv_eq (sLV (sFrz (sIx rfl (sLV (sFrz (sIx rfl (sSlot (pe_var (i := 1) rfl (.inl rfl))) (sLV (sInt))))) (sLV (sInt))))) (sLV (sInt)) (nomark _)) (sOne (sRet (sCmp (op_eqD hr.units) sv_eq (sLV (sFrz (sIx rfl (sSlot (pe_var (i := 2) rfl (.inl rfl))) (sLV (sInt))))) (sLV (sInt)) (nomark _)))) (sNil)) (sOne (sRet (sCmp (op_eqD hr.units) sv_eq (sLV (sFrz (sBin op_modN sv_mod (sLV (sFrz (sCT call_int1 sv_int rfl (T.free (T.c.fact 3)) bt_int (sArCons (sLV (sFrz (sBin op_mulE sv_mul (sLV (sFrz (sIx rfl (sSlot (pe_var (i := 2) rfl (.inl rfl))) (sLV (sInt))))) (sLV (sFrz (sIx rfl (sLV (sFrz (sIx rfl (sSlot (pe_var (i := 1) rfl (.inl rfl))) (sLV (sInt))))) (sLV (sInt)))))))) (sArNil))))) (sLV (sFrz (sBin op_mulE sv_mul (sLV (sFrz (sIx rfl (sSlot (pe_var (i := 2) rfl (.inl rfl))) (sLV (sInt))))) (sLV (sFrz (sIx rfl (sLV (sFrz (sIx rfl (sSlot (pe_var (i := 1) rfl (.inl rfl))) (sLV (sInt))))) (sLV (sInt))))))))))) (sLV (sInt)) (nomark _)))))
/-! _law_tuples -/
abbrev N__law_tuples : List Str := ["_law_thing", "_law_item"]
theorem sc__law_tuples : FnScope N__law_tuples ["_law_thing"] (defScope (top 20)) := ⟨rfl, rfl, rfl, by decide +kernel, rfl, by decide +kernel, by decide +kernel⟩
noncomputable def cd__law_tuples_1 (self : Fn) : DenT := dNotT (dTru (dLV (dFrz (dCall self [] (dArs [dSlot 1])))))
noncomputable def el__law_tuples_2 (self : Fn) : DenV := dC (.int 1)
noncomputable def den__law_tuples (self : Fn) : DenS := dSeq (dIfS (dTru (dLV (dIsi ["tuple"] (dSlot 0)))) (dRet (dVal (dNotL (dLV (dFrz (dLc [1] (asN 1) (dIt (dVar 0)) ((cd__law_tuples_1 self)) ((el__law_tuples_2 self)))))))) (dSkip)) (dRet (dVal (dOrV (dFrz (dBin gIs (dSlot 0) (dLV (dC .non)))) (dAndV (dIsi ["int"] (dSlot 0)) (dNotL (dLV (dIsi ["bool"] (dSlot 0))))))))
noncomputable def fn__law_tuples : Fn := recFn 1 2 den__law_tuples 12
theorem fn__law_tuples_len (args : List Ent) (h : args.length ≠ 1) : fn__law_tuples args = .bad := recFn_len _ _ h
theorem okr__law_tuples (T : Tz K mg) : ∀ n, FnOkG P w K mg base (L2.CX P w) (0 + n) (He.ga K "_law_tuples") (fdOf K (He.ga K "_law_tuples")) ["_law_thing"] (spOf K mg [] 1 (recFn 1 2 den__law_tuples n))
  | 0 => FnOkG.never
  | n + 1 => by
    refine fn_ok (N := N__law_tuples) (np := 1) (k := 0 + n) (R := []) T.F__law_tuples sc__law_tuples rfl (f := den__law_tuples (recFn 1 2 den__law_tuples n)) (fun cdv A outer s H E hr => ?_)
    have tk : Takes (cxOf (L2.CX P w) P w K mg base N__law_tuples "_law_tuples" (defScope (top 20)) (He.ga K "_law_tuples") cdv A outer s H E) (fun cls d _ H => E cls d H) := takes_of rfl rfl rfl rfl
    have hp := passes_of (X := cxOf (L2.CX P w) P w K mg base N__law_tuples "_law_tuples" (defScope (top 20)) (He.ga K "_law_tuples") cdv A outer s H E) rfl
    have F := okr__law_tuples T n
    have ga := recFn_len (np := 1) (ns := 2) (den := den__law_tuples) n
    exact sCons (sIfS (sTru rfl (sLV (sIsi rfl rfl (T.free (T.c.fact 1)) bt_isinstance (sSlot (pe_var (i := 0) rfl (.inl rfl))) (pe_bltn rfl (T.free (T.c.fact 4)) bt_tuple rfl) rfl))) (sOne (sRet (sVal (sNotL rfl (sLV (sFrz (sLc (own := [("_law_item", 1)]) (nRs rfl) rfl sc__law_tuples.nd (sIt rfl (sVar (pe_var (i := 0) rfl (.inl rfl)))) (blkOk_by (N := N__law_tuples) (sc := defScope (top 20)) (by decide +kernel)) (fun s H C cl fp => gN (i := 1) (by decide) (nR rfl) sc__law_tuples.nd rfl (.inl rfl)) (fun s H C cl fp => sTs1 (sNotT (sTru rfl (sLV (sFrz (sCall rfl rfl F hr rfl (T.glo (T.c.fact 24)) (T.F__law_tuples).kp T.b__law_tuples .nil (fun _ => rfl) takes0 (sArCons (sSlot (pe_var (i := 1) rfl (.inl rfl))) (sArNil)) ga)))))) (fun s H C cl fp => sInt)))))))) (sNil)) (sOne (sRet (sVal (sOrV (sFrz (sCmp op_isE sv_is (sSlot (pe_var (i := 0) rfl (.inl rfl))) (sLV (sNon)) (nomark _))) (sOneV (sAndV (sIsi rfl rfl (T.free (T.c.fact 1)) bt_isinstance (sSlot (pe_var (i := 0) rfl (.inl rfl))) (pe_bltn rfl (T.free (T.c.fact 3)) bt_int rfl) rfl) (sOneV (sNotL rfl (sLV (sIsi rfl rfl (T.free (T.c.fact 1)) bt_isinstance (sSlot (pe_var (i := 0) rfl (.inl rfl))) (pe_bltn rfl (T.free (T.c.fact 2)) bt_bool rfl) rfl))))))))))
theorem ok__law_tuples (T : Tz K mg) : FnOkG P w K mg base (L2.CX P w) 12 (He.ga K "_law_tuples") (fdOf K (He.ga K "_law_tuples")) ["_law_thing"] (spOf K mg [] 1 fn__law_tuples) := okr__law_tuples T 12
/-! common_whole -/
abbrev N_common_whole : List Str := ["first", "every", "start", "step", "apart", "common", "many", "found", "whole"]
theorem sc_common_whole : FnScope N_common_whole ["first", "every", "start", "step"] (defScope (top 11)) := ⟨rfl, rfl, rfl, by decide +kernel, rfl, by decide +kernel, by decide +kernel⟩
noncomputable def den_common_whole (self : Fn) : DenS := dSeq (dIfS (dAndT (dTB (dBin gEq (dSlot 1) (dLV (dC (.int 0))))) (dTB (dBin gEq (dSlot 3) (dLV (dC (.int 0)))))) (dRet (dIfF (dAndT (dTB (dBin gEq (dSlot 0) (dSlot 2))) (dTB (dBin gGe (dSlot 0) (dLV (dC (.int 0)))))) (dVal (dVar 0)) (dVal (dC .non)))) (dSkip)) (dSeq (dIfS (dTB (dBin gEq (dSlot 1) (dLV (dC (.int 0))))) (dSeq (dSet 4 (dBin gSub (dSlot 0) (dSlot 2))) (dRet (dIfF (dAndT (dTB (dBin gGe (dSlot 0) (dLV (dC (.int 0))))) (dTB (dBin gEq (dLV (dFrz (dBin gMul (dLV (dFrz (dBin gDiv (dSlot 4) (dSlot 3)))) (dSlot 3)))) (dSlot 4)))) (dVal (dVar 0)) (dVal (dC .non))))) (dSkip)) (dSeq (dIfS (dTB (dBin gEq (dSlot 3) (dLV (dC (.int 0))))) (dRet (dCall self [] (dArs [dSlot 2, dSlot 3, dSlot 0, dSlot 1]))) (dSkip)) (dSeq (dSet 5 (dCB gGcd (dArs [dSlot 1, dSlot 3]))) (dSeq (dSet 4 (dBin gSub (dSlot 2) (dSlot 0))) (dSeq (dIfS (dTB (dBin gNe (dLV (dFrz (dBin gMul (dLV (dFrz (dBin gDiv (dSlot 4) (dSlot 5)))) (dSlot 5)))) (dSlot 4))) (dRet (dVal (dC .non))) (dSkip)) (dSeq (dSet 6 (dBin gMul (dLV (dFrz (dBin gDiv (dSlot 4) (dSlot 5)))) (dLV (dFrz (dCall fn_inverse_of [] (dArs [dLV (dFrz (dBin gDiv (dSlot 1) (dSlot 5))), dLV (dFrz (dBin gDiv (dSlot 3) (dSlot 5)))])))))) (dSeq (dSet 7 (dBin gAdd (dSlot 0) (dLV (dFrz (dBin gMul (dSlot 6) (dSlot 1)))))) (dSeq (dSet 8 (dCB gLcm (dArs [dSlot 1, dSlot 3]))) (dRet (dBin gSub (dSlot 7) (dLV (dFrz (dBin gMul (dLV (dFrz (dBin gDiv (dSlot 7) (dSlot 8)))) (dSlot 8))))))))))))))
noncomputable def fn_common_whole : Fn := recFn 4 9 den_common_whole 12
theorem fn_common_whole_len (args : List Ent) (h : args.length ≠ 4) : fn_common_whole args = .bad := recFn_len _ _ h
theorem okr_common_whole (T : Tz K mg) : ∀ n, FnOkG P w K mg base (L2.CX P w) (1 + n) (He.ga K "common_whole") (fdOf K (He.ga K "common_whole")) ["first", "every", "start", "step"] (spOf K mg [] 4 (recFn 4 9 den_common_whole n))
  | 0 => FnOkG.never
  | n + 1 => by
    refine fn_ok (N := N_common_whole) (np := 4) (k := 1 + n) (R := []) T.F_common_whole sc_common_whole rfl (f := den_common_whole (recFn 4 9 den_common_whole n)) (fun cdv A outer s H E hr => ?_)
    have tk : Takes (cxOf (L2.CX P w) P w K mg base N_common_whole "common_whole" (defScope (top 11)) (He.ga K "common_whole") cdv A outer s H E) (fun cls d _ H => E cls d H) := takes_of rfl rfl rfl rfl
    have hp := passes_of (X := cxOf (L2.CX P w) P w K mg base N_common_whole "common_whole" (defScope (top 11)) (He.ga K "common_whole") cdv A outer s H E) rfl
    have F := okr_common_whole T n
    have ga := recFn_len (np := 4) (ns := 9) (den := den_common_whole) n
    exact sCons (sIfS (sWT (sAndT (sCmpT (op_eqD hr.units) sv_eq (sSlot (pe_var (i := 1) rfl (.inl rfl))) (sLV (sInt)) (nomark _)) (sAndT1 (sCmpT (op_eqD hr.units) sv_eq (sSlot (pe_var (i := 3) rfl (.inl rfl))) (sLV (sInt)) (nomark _))))) (sOne (sRet (sIfF (sWT (sAndT (sCmpT (op_eqD hr.units) sv_eq (sSlot (pe_var (i := 0) rfl (.inl rfl))) (sSlot (pe_var (i := 2) rfl (.inl rfl))) (nomark _)) (sAndT1 (sCmpT op_ge sv_ge (sSlot (pe_var (i := 0) rfl (.inl rfl))) (sLV (sInt)) (nomark _))))) (sVal (sVar (pe_var (i := 0) rfl (.inl rfl)))) (sVal (sNon))))) (sNil)) (sCons (sIfS (sCmpT (op_eqD hr.units) sv_eq (sSlot (pe_var (i := 1) rfl (.inl rfl))) (sLV (sInt)) (nomark _)) (sCons (sSet (i := 4) (nR rfl) (sBin op_sub sv_sub (sSlot (pe_var (i := 0) rfl (.inl rfl))) (sSlot (pe_var (i := 2) rfl (.inl rfl)))) sc_common_whole.nd rfl (.inl rfl)) (sOne (sRet (sIfF (sWT (sAndT (sCmpT op_ge sv_ge (sSlot (pe_var (i := 0) rfl (.inl rfl))) (sLV (sInt)) (nomark _)) (sAndT1 (sCmpT (op_eqD hr.units) sv_eq (sLV (sFrz (sBin op_mulE sv_mul (sLV (sFrz (sBin op_fdivX sv_div (sSlot (pe_var (i := 4) rfl (.inl rfl))) (sSlot (pe_var (i := 3) rfl (.inl rfl)))))) (sSlot (pe_var (i := 3) rfl (.inl rfl)))))) (sSlot (pe_var (i := 4) rfl (.inl rfl))) (nomark _))))) (sVal (sVar (pe_var (i := 0) rfl (.inl rfl)))) (sVal (sNon)))))) (sNil)) (sCons (sIfS (sCmpT (op_eqD hr.units) sv_eq (sSlot (pe_var (i := 3) rfl (.inl rfl))) (sLV (sInt)) (nomark _)) (sOne (sRet (sCall rfl rfl F hr rfl (T.glo (T.c.fact 15)) (T.F_common_whole).kp T.b_common_whole .nil (fun _ => rfl) tk (sArCons (sSlot (pe_var (i := 2) rfl (.inl rfl))) (sArCons (sSlot (pe_var (i := 3) rfl (.inl rfl))) (sArCons (sSlot (pe_var (i := 0) rfl (.inl rfl))) (sArCons (sSlot (pe_var (i := 1) rfl (.inl rfl))) (sArNil))))) ga))) (sNil)) (sCons (sSet (i := 5) (nR rfl) (sCG cr_gcd sv_gcd rfl (T.fun_ (T.c.fact 8)) (sArCons (sSlot (pe_var (i := 1) rfl (.inl rfl))) (sArCons (sSlot (pe_var (i := 3) rfl (.inl rfl))) (sArNil)))) sc_common_whole.nd rfl (.inl rfl)) (sCons (sSet (i := 4) (nR rfl) (sBin op_sub sv_sub (sSlot (pe_var (i := 2) rfl (.inl rfl))) (sSlot (pe_var (i := 0) rfl (.inl rfl)))) sc_common_whole.nd rfl (.inl rfl)) (sCons (sIfS (sCmpT (op_neD hr.units) sv_ne (sLV (sFrz (sBin op_mulE sv_mul (sLV (sFrz (sBin op_fdivX sv_div (sSlot (pe_var (i := 4) rfl (.inl rfl))) (sSlot (pe_var (i := 5) rfl (.inl rfl)))))) (sSlot (pe_var (i := 5) rfl (.inl rfl)))))) (sSlot (pe_var (i := 4) rfl (.inl rfl))) (nomark _)) (sOne (sRet (sVal (sNon)))) (sNil)) (sCons (sSet (i := 6) (nR rfl) (sBin op_mulE sv_mul (sLV (sFrz (sBin op_fdivX sv_div (sSlot (pe_var (i := 4) rfl (.inl rfl))) (sSlot (pe_var (i := 5) rfl (.inl rfl)))))) (sLV (sFrz (sCall rfl rfl (ok_inverse_of T) (hr.mono (by omega)) rfl (T.glo (T.c.fact 16)) (T.F_inverse_of).kp T.b_inverse_of .nil (fun _ => rfl) tk (sArCons (sLV (sFrz (sBin op_fdivX sv_div (sSlot (pe_var (i := 1) rfl (.inl rfl))) (sSlot (pe_var (i := 5) rfl (.inl rfl)))))) (sArCons (sLV (sFrz (sBin op_fdivX sv_div (sSlot (pe_var (i := 3) rfl (.inl rfl))) (sSlot (pe_var (i := 5) rfl (.inl rfl)))))) (sArNil))) fn_inverse_of_len)))) sc_common_whole.nd rfl (.inl rfl)) (sCons (sSet (i := 7) (nR rfl) (sBin op_addE sv_add (sSlot (pe_var (i := 0) rfl (.inl rfl))) (sLV (sFrz (sBin op_mulE sv_mul (sSlot (pe_var (i := 6) rfl (.inl rfl))) (sSlot (pe_var (i := 1) rfl (.inl rfl))))))) sc_common_whole.nd rfl (.inl rfl)) (sCons (sSet (i := 8) (nR rfl) (sCG cr_lcm sv_lcm rfl (T.fun_ (T.c.fact 17)) (sArCons (sSlot (pe_var (i := 1) rfl (.inl rfl))) (sArCons (sSlot (pe_var (i := 3) rfl (.inl rfl))) (sArNil)))) sc_common_whole.nd rfl (.inl rfl)) (sOne (sRet (sBin op_sub sv_sub (sSlot (pe_var (i := 7) rfl (.inl rfl))) (sLV (sFrz (sBin op_mulE sv_mul (sLV (sFrz (sBin op_fdivX sv_div (sSlot (pe_var (i := 7) rfl (.inl rfl))) (sSlot (pe_var (i := 8) rfl (.inl rfl)))))) (sSlot (pe_var (i := 8) rfl (.inl rfl)))))))))))))))))
theorem ok_common_whole (T : Tz K mg) : FnOkG P w K mg base (L2.CX P w) 13 (He.ga K "common_whole") (fdOf K (He.ga K "common_whole")) ["first", "every", "start", "step"] (spOf K mg [] 4 fn_common_whole) := okr_common_whole T 12
/-! _law_same -/
abbrev N__law_same : List Str := ["_law_told", "_law_due"]
theorem sc__law_same : FnScope N__law_same ["_law_told", "_law_due"] (defScope (top 21)) := ⟨rfl, rfl, rfl, by decide +kernel, rfl, by decide +kernel, by decide +kernel⟩
noncomputable def den__law_same : DenS := dRet (dVal (dAndV (dIsi ["tuple"] (dSlot 0)) (dAndV (dFrz (dCall fn__law_tuples [] (dArs [dSlot 0]))) (dFrz (dBin gEq (dSlot 0) (dSlot 1))))))
noncomputable def fn__law_same : Fn := mkFn 2 2 den__law_same
theorem fn__law_same_len (args : List Ent) (h : args.length ≠ 2) : fn__law_same args = .bad := mkFn_len args h
theorem ok__law_same (T : Tz K mg) : FnOkG P w K mg base (L2.CX P w) 13 (He.ga K "_law_same") (fdOf K (He.ga K "_law_same")) ["_law_told", "_law_due"] (spOf K mg [] 2 fn__law_same) := by
  refine fn_ok (N := N__law_same) (np := 2) (k := 12) (R := []) T.F__law_same sc__law_same rfl (f := den__law_same) (fun cdv A outer s H E hr => ?_)
  have tk : Takes (cxOf (L2.CX P w) P w K mg base N__law_same "_law_same" (defScope (top 21)) (He.ga K "_law_same") cdv A outer s H E) (fun cls d _ H => E cls d H) := takes_of rfl rfl rfl rfl
  have hp := passes_of (X := cxOf (L2.CX P w) P w K mg base N__law_same "_law_same" (defScope (top 21)) (He.ga K "_law_same") cdv A outer s H E) rfl
  exact sOne (sRet (sVal (sAndV (sIsi rfl rfl (T.free (T.c.fact 1)) bt_isinstance (sSlot (pe_var (i := 0) rfl (.inl rfl))) (pe_bltn rfl (T.free (T.c.fact 4)) bt_tuple rfl) rfl) (sAndV (sFrz (sCall rfl rfl (ok__law_tuples T) (hr.mono (by decide)) rfl (T.glo (T.c.fact 24)) (T.F__law_tuples).kp T.b__law_tuples .nil (fun _ => rfl) tk (sArCons (sSlot (pe_var (i := 0) rfl (.inl rfl))) (sArNil)) fn__law_tuples_len)) (sOneV (sFrz (sCmp (op_eqD hr.units) sv_eq (sSlot (pe_var (i := 0) rfl (.inl rfl))) (sSlot (pe_var (i := 1) rfl (.inl rfl))) (nomark _))))))))
/-! least_common -/
abbrev N_least_common : List Str := ["beat", "mate", "whole", "numbers", "found", "top", "bottom"]
theorem sc_least_common : FnScope N_least_common ["beat", "mate"] (defScope (top 12)) := ⟨rfl, rfl, rfl, by decide +kernel, rfl, by decide +kernel, by decide +kernel⟩
noncomputable def el_least_common_1 : DenV := dFrz (dBin gMul (dSlot 5) (dLV (dFrz (dBin gDiv (dSlot 2) (dSlot 6)))))
noncomputable def den_least_common : DenS := dSeq (dSet 2 (dCB gLcm (dArs [dLV (dFrz (dCB gLcm (dArs [dLV (dFrz (dBin gIx (dLV (dFrz (dBin gIx (dSlot 0) (dLV (dC (.int 0)))))) (dLV (dC (.int 1))))), dLV (dFrz (dBin gIx (dLV (dFrz (dBin gIx (dSlot 0) (dLV (dC (.int 1)))))) (dLV (dC (.int 1)))))]))), dLV (dFrz (dCB gLcm (dArs [dLV (dFrz (dBin gIx (dLV (dFrz (dBin gIx (dSlot 1) (dLV (dC (.int 0)))))) (dLV (dC (.int 1))))), dLV (dFrz (dBin gIx (dLV (dFrz (dBin gIx (dSlot 1) (dLV (dC (.int 1)))))) (dLV (dC (.int 1)))))])))]))) (dSeq (dSet 3 (dLc [5, 6] (asT 2 (asCons (asN 5) (asCons (asN 6) (asNil)))) (dIt (dTup [dFrz (dBin gIx (dSlot 0) (dLV (dC (.int 0)))), dFrz (dBin gIx (dSlot 0) (dLV (dC (.int 1)))), dFrz (dBin gIx (dSlot 1) (dLV (dC (.int 0)))), dFrz (dBin gIx (dSlot 1) (dLV (dC (.int 1))))])) (dTrue) (el_least_common_1))) (dSeq (dSet 4 (dCall fn_common_whole [] (dArs [dLV (dFrz (dBin gIx (dSlot 3) (dLV (dC (.int 0))))), dLV (dFrz (dBin gIx (dSlot 3) (dLV (dC (.int 1))))), dLV (dFrz (dBin gIx (dSlot 3) (dLV (dC (.int 2))))), dLV (dFrz (dBin gIx (dSlot 3) (dLV (dC (.int 3)))))]))) (dRet (dIfF (dTB (dBin gIs (dSlot 4) (dLV (dC .non)))) (dVal (dC .non)) (dCall fn_in_lowest [] (dArs [dSlot 4, dSlot 2]))))))
noncomputable def fn_least_common : Fn := mkFn 2 7 den_least_common
theorem fn_least_common_len (args : List Ent) (h : args.length ≠ 2) : fn_least_common args = .bad := mkFn_len args h
theorem ok_least_common (T : Tz K mg) : FnOkG P w K mg base (L2.CX P w) 14 (He.ga K "least_common") (fdOf K (He.ga K "least_common")) ["beat", "mate"] (spOf K mg [] 2 fn_least_common) := by
  refine fn_ok (N := N_least_common) (np := 2) (k := 13) (R := []) T.F_least_common sc_least_common rfl (f := den_least_common) (fun cdv A outer s H E hr => ?_)
  have tk : Takes (cxOf (L2.CX P w) P w K mg base N_least_common "least_common" (defScope (top 12)) (He.ga K "least_common") cdv A outer s H E) (fun cls d _ H => E cls d H) := takes_of rfl rfl rfl rfl
  have hp := passes_of (X := cxOf (L2.CX P w) P w K mg base N_least_common "least_common" (defScope (top 12)) (He.ga K "least_common") cdv A outer s H E) rfl
  exact sCons (sSet (i := 2) (nR rfl) (sCG cr_lcm sv_lcm rfl (T.fun_ (T.c.fact 17)) (sArCons (sLV (sFrz (sCG cr_lcm sv_lcm rfl (T.fun_ (T.c.fact 17)) (sArCons (sLV (sFrz (sIx rfl (sLV (sFrz (sIx rfl (sSlot (pe_var (i := 0) rfl (.inl rfl))) (sLV (sInt))))) (sLV (sInt))))) (sArCons (sLV (sFrz (sIx rfl (sLV (sFrz (sIx rfl (sSlot (pe_var (i := 0) rfl (.inl rfl))) (sLV (sInt))))) (sLV (sInt))))) (sArNil)))))) (sArCons (sLV (sFrz (sCG cr_lcm sv_lcm rfl (T.fun_ (T.c.fact 17)) (sArCons (sLV (sFrz (sIx rfl (sLV (sFrz (sIx rfl (sSlot (pe_var (i := 1) rfl (.inl rfl))) (sLV (sInt))))) (sLV (sInt))))) (sArCons (sLV (sFrz (sIx rfl (sLV (sFrz (sIx rfl (sSlot (pe_var (i := 1) rfl (.inl rfl))) (sLV (sInt))))) (sLV (sInt))))) (sArNil)))))) (sArNil)))) sc_least_common.nd rfl (.inr rfl)) (sCons (sSetLc (own := [("top", 5), ("bottom", 6)]) (i := 3) (nR rfl) (nRs rfl) rfl sc_least_common.nd rfl rfl (sw_true rfl rfl rfl (by decide +kernel)) (sIt rfl (sTup (sVsCons (sFrz (sIx rfl (sSlot (pe_var (i := 0) rfl (.inl rfl))) (sLV (sInt)))) (sVsCons (sFrz (sIx rfl (sSlot (pe_var (i := 0) rfl (.inl rfl))) (sLV (sInt)))) (sVsCons (sFrz (sIx rfl (sSlot (pe_var (i := 1) rfl (.inl rfl))) (sLV (sInt)))) (sVsCons (sFrz (sIx rfl (sSlot (pe_var (i := 1) rfl (.inl rfl))) (sLV (sInt)))) (sVsNil))))))) (blkOk_by (N := N_least_common) (sc := defScope (top 12)) (by decide +kernel)) (fun s H C cl fp => gT rfl rfl (gsCons (gN (i := 5) (by decide) (nR rfl) sc_least_common.nd rfl (.inl rfl)) (gsCons (gN (i := 6) (by decide) (nR rfl) sc_least_common.nd rfl (.inl rfl)) (gsNil)))) (fun s H C cl fp => sTs0) (fun s H C cl fp => sFrz (sBin op_mulE sv_mul (sSlot (pe_var (i := 5) rfl (.inl rfl))) (sLV (sFrz (sBin op_fdivX sv_div (sSlot (pe_var (i := 2) rfl (.inr (.inl rfl)))) (sSlot (pe_var (i := 6) rfl (.inl rfl))))))))) (sCons (sSet (i := 4) (nR rfl) (sCall rfl rfl (ok_common_whole T) (hr.mono (by decide)) rfl (T.glo (T.c.fact 15)) (T.F_common_whole).kp T.b_common_whole .nil (fun _ => rfl) tk (sArCons (sLV (sFrz (sIx rfl (sSlot (pe_var (i := 3) rfl (.inl rfl))) (sLV (sInt))))) (sArCons (sLV (sFrz (sIx rfl (sSlot (pe_var (i := 3) rfl (.inl rfl))) (sLV (sInt))))) (sArCons (sLV (sFrz (sIx rfl (sSlot (pe_var (i := 3) rfl (.inl rfl))) (sLV (sInt))))) (sArCons (sLV (sFrz (sIx rfl (sSlot (pe_var (i := 3) rfl (.inl rfl))) (sLV (sInt))))) (sArNil))))) fn_common_whole_len) sc_least_common.nd rfl (.inl rfl)) (sOne (sRet (sIfF (sCmpT op_isE sv_is (sSlot (pe_var (i := 4) rfl (.inl rfl))) (sLV (sNon)) (nomark _)) (sVal (sNon)) (sCall rfl rfl (ok_in_lowest T) (hr.mono (by decide)) rfl (T.glo (T.c.fact 18)) (T.F_in_lowest).kp T.b_in_lowest .nil (fun _ => rfl) tk (sArCons (sSlot (pe_var (i := 4) rfl (.inl rfl))) (sArCons (sSlot (pe_var (i := 2) rfl (.inr (.inl rfl)))) (sArNil))) fn_in_lowest_len))))))
/-! common_time -/
abbrev N_common_time : List Str := ["beat", "mate"]
theorem sc_common_time : FnScope N_common_time ["beat", "mate"] (defScope (top 13)) := ⟨rfl, rfl, rfl, by decide +kernel, rfl, by decide +kernel, by decide +kernel⟩
noncomputable def den_common_time : DenS := dRet (dCall fn_least_common [] (dArs [dLV (dFrz (dCall fn_check_beat [] (dArs [dSlot 0, dLV (dC (.int 0))]))), dLV (dFrz (dCall fn_check_beat [] (dArs [dSlot 1, dLV (dC (.int 1))])))]))
noncomputable def fn_common_time : Fn := mkFn 2 2 den_common_time
theorem fn_common_time_len (args : List Ent) (h : args.length ≠ 2) : fn_common_time args = .bad := mkFn_len args h
theorem ok_common_time (T : Tz K mg) : FnOkG P w K mg base (L2.CX P w) 15 (He.ga K "common_time") (fdOf K (He.ga K "common_time")) ["beat", "mate"] (spOf K mg [] 2 fn_common_time) := by
  refine fn_ok (N := N_common_time) (np := 2) (k := 14) (R := []) T.F_common_time sc_common_time rfl (f := den_common_time) (fun cdv A outer s H E hr => ?_)
  have tk : Takes (cxOf (L2.CX P w) P w K mg base N_common_time "common_time" (defScope (top 13)) (He.ga K "common_time") cdv A outer s H E) (fun cls d _ H => E cls d H) := takes_of rfl rfl rfl rfl
  have hp := passes_of (X := cxOf (L2.CX P w) P w K mg base N_common_time "common_time" (defScope (top 13)) (He.ga K "common_time") cdv A outer s H E) rfl
  exact sOne (sRet (sCall rfl rfl (ok_least_common T) (hr.mono (by decide)) rfl (T.glo (T.c.fact 19)) (T.F_least_common).kp T.b_least_common .nil (fun _ => rfl) tk (sArCons (sLV (sFrz (sCall rfl rfl (ok_check_beat T) (hr.mono (by decide)) rfl (T.glo (T.c.fact 20)) (T.F_check_beat).kp T.b_check_beat .nil (fun _ => rfl) tk (sArCons (sSlot (pe_var (i := 0) rfl (.inl rfl))) (sArCons (sLV (sInt)) (sArNil))) fn_check_beat_len))) (sArCons (sLV (sFrz (sCall rfl rfl (ok_check_beat T) (hr.mono (by decide)) rfl (T.glo (T.c.fact 20)) (T.F_check_beat).kp T.b_check_beat .nil (fun _ => rfl) tk (sArCons (sSlot (pe_var (i := 1) rfl (.inl rfl))) (sArCons (sLV (sInt)) (sArNil))) fn_check_beat_len))) (sArNil))) fn_least_common_len))
/-! _law_refused -/
abbrev N__law_refused : List Str := ["_law_beat", "_law_mate", "raised"]
theorem sc__law_refused : FnScope N__law_refused ["_law_beat", "_law_mate"] (defScope (top 32)) := ⟨rfl, rfl, rfl, by decide +kernel, rfl, by decide +kernel, by decide +kernel⟩
noncomputable def den__law_refused : DenS := dTry tabX (dSeq (dExp (dFrz (dCall fn_common_time [] (dArs [dSlot 0, dSlot 1])))) (dRet (dVal (dC .non)))) [("BadBeat", some 2, dRet (dVal (dTup [dXf ["BadBeat"] 2 "index", dXf ["BadBeat"] 2 "what"])))]
noncomputable def fn__law_refused : Fn := mkFn 2 3 den__law_refused
theorem fn__law_refused_len (args : List Ent) (h : args.length ≠ 2) : fn__law_refused args = .bad := mkFn_len args h
theorem ok__law_refused (T : Tz K mg) : FnOkG P w K mg base (L2.CX P w) 16 (He.ga K "_law_refused") (fdOf K (He.ga K "_law_refused")) ["_law_beat", "_law_mate"] (spOf K mg [] 2 fn__law_refused) := by
  refine fn_ok (N := N__law_refused) (np := 2) (k := 15) (R := []) T.F__law_refused sc__law_refused rfl (f := den__law_refused) (fun cdv A outer s H E hr => ?_)
  have tk : Takes (cxOf (L2.CX P w) P w K mg base N__law_refused "_law_refused" (defScope (top 32)) (He.ga K "_law_refused") cdv A outer s H E) (fun cls d _ H => E cls d H) := takes_of rfl rfl rfl rfl
  have hp := passes_of (X := cxOf (L2.CX P w) P w K mg base N__law_refused "_law_refused" (defScope (top 32)) (He.ga K "_law_refused") cdv A outer s H E) rfl
  exact sOne (sTry rfl rfl rfl rfl sc__law_refused.nd tk (fun W' pn xe tk' hp' => sCons (sExp (sFrz (sCall rfl rfl (ok_common_time T) (hr.mono (by decide)) rfl (T.glo (T.c.fact 31)) (T.F_common_time).kp T.b_common_time .nil (fun _ => rfl) tk' (sArCons (sSlot (pe_var (i := 0) rfl (.inl rfl))) (sArCons (sSlot (pe_var (i := 1) rfl (.inl rfl))) (sArNil))) fn_common_time_len))) (sOne (sRet (sVal (sNon))))) (.consN (i := 2) (nR rfl) rfl rfl ⟨rfl, rfl, .inl (T.glo (T.c.fact 13))⟩ (T.exm (T.glo (T.c.fact 13))) (fun a oe cls d pn hz hf => sOne (sRet (sVal (sTup (sVsCons (sXf rfl (xfOne (T.glo (T.c.fact 13)) (fx_xf (T.c.fact 32)) (fx_nof (T.c.fact 9))) hz hf (pe_var (i := 2) rfl (.inl rfl))) (sVsCons (sXf rfl (xfOne (T.glo (T.c.fact 13)) (fx_xf (T.c.fact 32)) (fx_nof (T.c.fact 10))) hz hf (pe_var (i := 2) rfl (.inl rfl))) (sVsNil))))))) .nil))
/-! _law_refusals -/
abbrev N__law_refusals : List Str := ["_law_hand_here", "_law_beat", "_law_odd", "_law_one", "_law_two"]
theorem sc__law_refusals : FnScope N__law_refusals ["_law_hand_here", "_law_beat"] (defScope (top 33)) := ⟨rfl, rfl, rfl, by decide +kernel, rfl, by decide +kernel, by decide +kernel⟩
noncomputable def den__law_refusals : DenS := dSeq (dSet 2 (dLst [dFrz (dLst [dC .non, dC (.str "couple")]), dFrz (dLst [dTup [dTup [dC (.int 1), dC (.int 2)]], dC (.str "couple")]), dFrz (dLst [dTup [dC (.int 5), dTup [dC (.int 1), dC (.int 1)]], dC (.str "first")]), dFrz (dLst [dTup [dTup [dC (.int 2), dC (.int 4)], dC .non], dC (.str "first")]), dFrz (dLst [dTup [dTup [dC (.bl true), dC (.int 1)], dTup [dC (.int 1), dC (.int 1)]], dC (.str "first")])])) (dSeq (dSet 2 (dBin gAdd (dSlot 2) (dLV (dFrz (dLst [dFrz (dLst [dTup [dTup [dC (.int 1), dC (.int 2)], dTup [dNeg (dC (.int 1)), dC (.int 3)]], dC (.str "every")]), dFrz (dLst [dTup [dTup [dC (.int 1), dC (.int 2)], dTup [dC (.int 4), dC (.int 2)]], dC (.str "every")]), dFrz (dLst [dTup [dTup [dC (.int 0), dC (.int 1)], dC .non], dC (.str "every")])]))))) (dSeq (dSet 3 (dBin gIx (dSlot 2) (dLV (dFrz (dCallR fn__law_take 0 [] (dArs [dLV (dC (.int 8))])))))) (dSeq (dSet 4 (dBin gIx (dSlot 2) (dLV (dFrz (dCallR fn__law_take 0 [] (dArs [dLV (dC (.int 8))])))))) (dRet (dVal (dAndV (dFrz (dBin gEq (dLV (dFrz (dCall fn__law_refused [] (dArs [dLV (dFrz (dBin gIx (dSlot 3) (dLV (dC (.int 0))))), dLV (dFrz (dBin gIx (dSlot 4) (dLV (dC (.int 0)))))])))) (dLV (dTup [dC (.int 0), dFrz (dBin gIx (dSlot 3) (dLV (dC (.int 1))))])))) (dFrz (dBin gEq (dLV (dFrz (dCall fn__law_refused [] (dArs [dSlot 1, dLV (dFrz (dBin gIx (dSlot 4) (dLV (dC (.int 0)))))])))) (dLV (dTup [dC (.int 1), dFrz (dBin gIx (dSlot 4) (dLV (dC (.int 1))))]))))))))))
noncomputable def fn__law_refusals : Fn := mkFn 2 5 den__law_refusals
theorem fn__law_refusals_len (args : List Ent) (h : args.length ≠ 2) : fn__law_refusals args = .bad := mkFn_len args h
theorem ok__law_refusals (T : Tz K mg) : FnOkG P w K mg base (L2.CX P w) 17 (He.ga K "_law_refusals") (fdOf K (He.ga K "_law_refusals")) ["_law_hand_here", "_law_beat"] (spOf K mg [0] 2 fn__law_refusals) := by
  refine fn_ok (N := N__law_refusals) (np := 2) (k := 16) (R := [0]) T.F__law_refusals sc__law_refusals rfl (f := den__law_refusals) (fun cdv A outer s H E hr => ?_)
  have tk : Takes (cxOf (L2.CX P w) P w K mg base N__law_refusals "_law_refusals" (defScope (top 33)) (He.ga K "_law_refusals") cdv A outer s H E) (fun cls d _ H => E cls d H) := takes_of rfl rfl rfl rfl
  have hp := passes_of (X := cxOf (L2.CX P w) P w K mg base N__law_refusals "_law_refusals" (defScope (top 33)) (He.ga K "_law_refusals") cdv A outer s H E) rfl
  exact sCons (sSet (i := 2) (nR rfl) (sLst (sVsCons (sFrz (sLst (sVsCons (sNon) (sVsCons (sStr) (sVsNil))))) (sVsCons (sFrz (sLst (sVsCons (sTup (sVsCons (sTup (sVsCons (sInt) (sVsCons (sInt) (sVsNil)))) (sVsNil))) (sVsCons (sStr) (sVsNil))))) (sVsCons (sFrz (sLst (sVsCons (sTup (sVsCons (sInt) (sVsCons (sTup (sVsCons (sInt) (sVsCons (sInt) (sVsNil)))) (sVsNil)))) (sVsCons (sStr) (sVsNil))))) (sVsCons (sFrz (sLst (sVsCons (sTup (sVsCons (sTup (sVsCons (sInt) (sVsCons (sInt) (sVsNil)))) (sVsCons (sNon) (sVsNil)))) (sVsCons (sStr) (sVsNil))))) (sVsCons (sFrz (sLst (sVsCons (sTup (sVsCons (sTup (sVsCons (sBl) (sVsCons (sInt) (sVsNil)))) (sVsCons (sTup (sVsCons (sInt) (sVsCons (sInt) (sVsNil)))) (sVsNil)))) (sVsCons (sStr) (sVsNil))))) (sVsNil))))))) sc__law_refusals.nd rfl (.inl rfl)) (sCons (sSet (i := 2) (nR rfl) (sBin op_addE sv_add (sSlot (pe_var (i := 2) rfl (.inl rfl))) (sLV (sFrz (sLst (sVsCons (sFrz (sLst (sVsCons (sTup (sVsCons (sTup (sVsCons (sInt) (sVsCons (sInt) (sVsNil)))) (sVsCons (sTup (sVsCons (sNeg (sInt)) (sVsCons (sInt) (sVsNil)))) (sVsNil)))) (sVsCons (sStr) (sVsNil))))) (sVsCons (sFrz (sLst (sVsCons (sTup (sVsCons (sTup (sVsCons (sInt) (sVsCons (sInt) (sVsNil)))) (sVsCons (sTup (sVsCons (sInt) (sVsCons (sInt) (sVsNil)))) (sVsNil)))) (sVsCons (sStr) (sVsNil))))) (sVsCons (sFrz (sLst (sVsCons (sTup (sVsCons (sTup (sVsCons (sInt) (sVsCons (sInt) (sVsNil)))) (sVsCons (sNon) (sVsNil)))) (sVsCons (sStr) (sVsNil))))) (sVsNil)))))))) sc__law_refusals.nd rfl (.inl rfl)) (sCons (sSet (i := 3) (nR rfl) (sIx rfl (sSlot (pe_var (i := 2) rfl (.inl rfl))) (sLV (sFrz (sCallR rfl rfl (ok__law_take T) (hr.mono (by decide)) rfl (T.glo (T.c.fact 25)) (T.F__law_take).kp T.b__law_take .nil (fun _ => rfl) tk (pe_var (i := 0) rfl (.inl rfl)) (sArCons (sLV (sInt)) (sArNil)) fn__law_take_len)))) sc__law_refusals.nd rfl (.inl rfl)) (sCons (sSet (i := 4) (nR rfl) (sIx rfl (sSlot (pe_var (i := 2) rfl (.inl rfl))) (sLV (sFrz (sCallR rfl rfl (ok__law_take T) (hr.mono (by decide)) rfl (T.glo (T.c.fact 25)) (T.F__law_take).kp T.b__law_take .nil (fun _ => rfl) tk (pe_var (i := 0) rfl (.inl rfl)) (sArCons (sLV (sInt)) (sArNil)) fn__law_take_len)))) sc__law_refusals.nd rfl (.inl rfl)) (sOne (sRet (sVal (sAndV (sFrz (sCmp (op_eqD hr.units) sv_eq (sLV (sFrz (sCall rfl rfl (ok__law_refused T) (hr.mono (by decide)) rfl (T.glo (T.c.fact 33)) (T.F__law_refused).kp T.b__law_refused .nil (fun _ => rfl) tk (sArCons (sLV (sFrz (sIx rfl (sSlot (pe_var (i := 3) rfl (.inl rfl))) (sLV (sInt))))) (sArCons (sLV (sFrz (sIx rfl (sSlot (pe_var (i := 4) rfl (.inl rfl))) (sLV (sInt))))) (sArNil))) fn__law_refused_len))) (sLV (sTup (sVsCons (sInt) (sVsCons (sFrz (sIx rfl (sSlot (pe_var (i := 3) rfl (.inl rfl))) (sLV (sInt)))) (sVsNil))))) (nomark _))) (sOneV (sFrz (sCmp (op_eqD hr.units) sv_eq (sLV (sFrz (sCall rfl rfl (ok__law_refused T) (hr.mono (by decide)) rfl (T.glo (T.c.fact 33)) (T.F__law_refused).kp T.b__law_refused .nil (fun _ => rfl) tk (sArCons (sSlot (pe_var (i := 1) rfl (.inl rfl))) (sArCons (sLV (sFrz (sIx rfl (sSlot (pe_var (i := 4) rfl (.inl rfl))) (sLV (sInt))))) (sArNil))) fn__law_refused_len))) (sLV (sTup (sVsCons (sInt) (sVsCons (sFrz (sIx rfl (sSlot (pe_var (i := 4) rfl (.inl rfl))) (sLV (sInt)))) (sVsNil))))) (nomark _)))))))))))
/-! law -/
abbrev N_law : List Str := ["_law_script", "_law_hand_here", "_law_turn", "_law_beat", "_law_mate", "_law_time", "_law_told", "_law_again", "_law_ratio_here"]
theorem sc_law : FnScope N_law ["_law_script"] (defScope (top 34)) := ⟨rfl, rfl, rfl, by decide +kernel, rfl, by decide +kernel, by decide +kernel⟩
noncomputable def el_law_1 : DenV := dFrz (dCallR fn__law_sequence 1 [] (dArs [dSlot 8]))
noncomputable def bd_law_2 : DenS := dSeq (dSet 3 (dCallR fn__law_drawn_beat 1 [] (dArs []))) (dSeq (dSet 4 (dCallR fn__law_drawn_beat 1 [] (dArs []))) (dSeq (dIfS (dTB (dBin gEq (dLV (dFrz (dCallR fn__law_take 1 [] (dArs [dLV (dC (.int 2))])))) (dLV (dC (.int 0))))) (dSeq (dSet 5 (dCallR fn__law_number 1 [] (dArs []))) (dSeq (dSet 3 (dCallR fn__law_through 1 [] (dArs [dSlot 3, dSlot 5]))) (dSet 4 (dCallR fn__law_through 1 [] (dArs [dSlot 4, dSlot 5]))))) (dSkip)) (dSeq (dSet 6 (dCall fn_common_time [] (dArs [dLV (dFrz (dCallR fn__law_sequence 1 [] (dArs [dSlot 3]))), dLV (dFrz (dCallR fn__law_sequence 1 [] (dArs [dLV (dFrz (dLc [8] (asN 8) (dIt (dVar 4)) (dTrue) (el_law_1)))])))]))) (dSeq (dSet 7 (dCall fn_common_time [] (dArs [dLV (dFrz (dCB gTuple (dArs [dSlot 4]))), dLV (dFrz (dCB gTuple (dArs [dSlot 3])))]))) (dSeq (dIfS (dNotT (dTru (dLV (dFrz (dCall fn__law_exists [] (dArs [dSlot 3, dSlot 4])))))) (dSeq (dIfS (dOrT (dTB (dBin gIsNot (dSlot 6) (dLV (dC .non)))) (dTB (dBin gIsNot (dSlot 7) (dLV (dC .non))))) (dRet (dVal (dC (.bl false)))) (dSkip)) (dCont)) (dSkip)) (dSeq (dIfS (dOrT (dNotT (dTru (dLV (dFrz (dCall fn__law_same [] (dArs [dSlot 6, dSlot 7])))))) (dOrT (dTB (dBin gLt (dLV (dFrz (dBin gIx (dSlot 6) (dLV (dC (.int 0)))))) (dLV (dC (.int 0))))) (dOrT (dNotT (dTru (dLV (dFrz (dCall fn__law_belongs [] (dArs [dSlot 6, dSlot 3])))))) (dNotT (dTru (dLV (dFrz (dCall fn__law_belongs [] (dArs [dSlot 6, dSlot 4]))))))))) (dRet (dVal (dC (.bl false)))) (dSkip)) (dSeq (dIfS (dNotT (dTru (dLV (dFrz (dCall fn__law_is_least [] (dArs [dSlot 6, dSlot 3, dSlot 4])))))) (dRet (dVal (dC (.bl false)))) (dSkip)) (dIfS (dNotT (dTru (dLV (dFrz (dCallR fn__law_refusals 1 [] (dArs [dSlot 3])))))) (dRet (dVal (dC (.bl false)))) (dSkip)))))))))
noncomputable def den_law : DenS := dSeq (dSet 1 (dCall fn__law_hand [] (dArs [dSlot 0]))) (dSeq (dFor (asN 2) (dRng1 (dArs [dLV (dC (.int 6))])) (bd_law_2)) (dRet (dVal (dC (.bl true)))))
noncomputable def fn_law : Fn := mkFn 1 9 den_law
theorem fn_law_len (args : List Ent) (h : args.length ≠ 1) : fn_law args = .bad := mkFn_len args h
theorem ok_law (T : Tz K mg) : FnOkG P w K mg base (L2.CX P w) 18 (He.ga K "law") (fdOf K (He.ga K "law")) ["_law_script"] (spOf K mg [] 1 fn_law) := by
  refine fn_ok (N := N_law) (np := 1) (k := 17) (R := []) T.F_law sc_law rfl (f := den_law) (fun cdv A outer s H E hr => ?_)
  have tk : Takes (cxOf (L2.CX P w) P w K mg base N_law "law" (defScope (top 34)) (He.ga K "law") cdv A outer s H E) (fun cls d _ H => E cls d H) := takes_of rfl rfl rfl rfl
  have hp := passes_of (X := cxOf (L2.CX P w) P w K mg base N_law "law" (defScope (top 34)) (He.ga K "law") cdv A outer s H E) rfl
  exact sCons (sSet (i := 1) (nR rfl) (sCall rfl rfl (ok__law_hand T) (hr.mono (by decide)) rfl (T.glo (T.c.fact 34)) (T.F__law_hand).kp T.b__law_hand .nil (fun _ => rfl) tk (sArCons (sSlot (pe_var (i := 0) rfl (.inl rfl))) (sArNil)) fn__law_hand_len) sc_law.nd rfl (.inr rfl)) (sCons (sFor (own := [2]) hp rfl (sRng1 rfl (T.free (T.c.fact 35)) (sArCons (sLV (sInt)) (sArNil))) (gN (i := 2) (by decide) (nR rfl) sc_law.nd rfl (.inl rfl)) (sCons (sSet (i := 3) (nR rfl) (sCallR rfl rfl (ok__law_drawn_beat T) (hr.mono (by decide)) rfl (T.glo (T.c.fact 36)) (T.F__law_drawn_beat).kp T.b__law_drawn_beat .nil (fun _ => rfl) tk (pe_var (i := 1) rfl (.inr (.inl rfl))) (sArNil) fn__law_drawn_beat_len) sc_law.nd rfl (.inl rfl)) (sCons (sSet (i := 4) (nR rfl) (sCallR rfl rfl (ok__law_drawn_beat T) (hr.mono (by decide)) rfl (T.glo (T.c.fact 36)) (T.F__law_drawn_beat).kp T.b__law_drawn_beat .nil (fun _ => rfl) tk (pe_var (i := 1) rfl (.inr (.inl rfl))) (sArNil) fn__law_drawn_beat_len) sc_law.nd rfl (.inl rfl)) (sCons (sIfS (sCmpT (op_eqD hr.units) sv_eq (sLV (sFrz (sCallR rfl rfl (ok__law_take T) (hr.mono (by decide)) rfl (T.glo (T.c.fact 25)) (T.F__law_take).kp T.b__law_take .nil (fun _ => rfl) tk (pe_var (i := 1) rfl (.inr (.inl rfl))) (sArCons (sLV (sInt)) (sArNil)) fn__law_take_len))) (sLV (sInt)) (nomark _)) (sCons (sSet (i := 5) (nR rfl) (sCallR rfl rfl (ok__law_number T) (hr.mono (by decide)) rfl (T.glo (T.c.fact 27)) (T.F__law_number).kp T.b__law_number .nil (fun _ => rfl) tk (pe_var (i := 1) rfl (.inr (.inl rfl))) (sArNil) fn__law_number_len) sc_law.nd rfl (.inl rfl)) (sCons (sSet (i := 3) (nR rfl) (sCallR rfl rfl (ok__law_through T) (hr.mono (by decide)) rfl (T.glo (T.c.fact 37)) (T.F__law_through).kp T.b__law_through .nil (fun _ => rfl) tk (pe_var (i := 1) rfl (.inr (.inl rfl))) (sArCons (sSlot (pe_var (i := 3) rfl (.inl rfl))) (sArCons (sSlot (pe_var (i := 5) rfl (.inl rfl))) (sArNil))) fn__law_through_len) sc_law.nd rfl (.inl rfl)) (sOne (sSet (i := 4) (nR rfl) (sCallR rfl rfl (ok__law_through T) (hr.mono (by decide)) rfl (T.glo (T.c.fact 37)) (T.F__law_through).kp T.b__law_through .nil (fun _ => rfl) tk (pe_var (i := 1) rfl (.inr (.inl rfl))) (sArCons (sSlot (pe_var (i := 4) rfl (.inl rfl))) (sArCons (sSlot (pe_var (i := 5) rfl (.inl rfl))) (sArNil))) fn__law_through_len) sc_law.nd rfl (.inl rfl))))) (sNil)) (sCons (sSet (i := 6) (nR rfl) (sCall rfl rfl (ok_common_time T) (hr.mono (by decide)) rfl (T.glo (T.c.fact 31)) (T.F_common_time).kp T.b_common_time .nil (fun _ => rfl) tk (sArCons (sLV (sFrz (sCallR rfl rfl (ok__law_sequence T) (hr.mono (by decide)) rfl (T.glo (T.c.fact 38)) (T.F__law_sequence).kp T.b__law_sequence .nil (fun _ => rfl) tk (pe_var (i := 1) rfl (.inr (.inl rfl))) (sArCons (sSlot (pe_var (i := 3) rfl (.inl rfl))) (sArNil)) fn__law_sequence_len))) (sArCons (sLV (sFrz (sCallR rfl rfl (ok__law_sequence T) (hr.mono (by decide)) rfl (T.glo (T.c.fact 38)) (T.F__law_sequence).kp T.b__law_sequence .nil (fun _ => rfl) tk (pe_var (i := 1) rfl (.inr (.inl rfl))) (sArCons (sLV (sFrz (sLc (own := [("_law_ratio_here", 8)]) (nRs rfl) rfl sc_law.nd (sIt rfl (sVar (pe_var (i := 4) rfl (.inl rfl)))) (blkOk_by (N := N_law) (sc := defScope (top 34)) (by decide +kernel)) (fun s H C cl fp => gN (i := 8) (by decide) (nR rfl) sc_law.nd rfl (.inl rfl)) (fun s H C cl fp => sTs0) (fun s H C cl fp => sFrz (sCallR rfl rfl (ok__law_sequence T) (hr.mono (by decide)) rfl (T.glo (T.c.fact 38)) (T.F__law_sequence).kp T.b__law_sequence .nil (fun _ => rfl) takes0 (pe_var (i := 1) rfl (.inr (.inl rfl))) (sArCons (sSlot (pe_var (i := 8) rfl (.inl rfl))) (sArNil)) fn__law_sequence_len))))) (sArNil)) fn__law_sequence_len))) (sArNil))) fn_common_time_len) sc_law.nd rfl (.inl rfl)) (sCons (sSet (i := 7) (nR rfl) (sCall rfl rfl (ok_common_time T) (hr.mono (by decide)) rfl (T.glo (T.c.fact 31)) (T.F_common_time).kp T.b_common_time .nil (fun _ => rfl) tk (sArCons (sLV (sFrz (sCT call_tuple_of sv_tuple rfl (T.free (T.c.fact 4)) bt_tuple (sArCons (sSlot (pe_var (i := 4) rfl (.inl rfl))) (sArNil))))) (sArCons (sLV (sFrz (sCT call_tuple_of sv_tuple rfl (T.free (T.c.fact 4)) bt_tuple (sArCons (sSlot (pe_var (i := 3) rfl (.inl rfl))) (sArNil))))) (sArNil))) fn_common_time_len) sc_law.nd rfl (.inl rfl)) (sCons (sIfS (sNotT (sTru rfl (sLV (sFrz (sCall rfl rfl (ok__law_exists T) (hr.mono (by decide)) rfl (T.glo (T.c.fact 39)) (T.F__law_exists).kp T.b__law_exists .nil (fun _ => rfl) tk (sArCons (sSlot (pe_var (i := 3) rfl (.inl rfl))) (sArCons (sSlot (pe_var (i := 4) rfl (.inl rfl))) (sArNil))) fn__law_exists_len))))) (sCons (sIfS (sWT (sOrT (sCmpT op_isNotE sv_isNot (sSlot (pe_var (i := 6) rfl (.inl rfl))) (sLV (sNon)) (nomark _)) (sOrT1 (sCmpT op_isNotE sv_isNot (sSlot (pe_var (i := 7) rfl (.inl rfl))) (sLV (sNon)) (nomark _))))) (sOne (sRet (sVal (sBl)))) (sNil)) (sOne (sCont))) (sNil)) (sCons (sIfS (sWT (sOrT (sNotT (sTru rfl (sLV (sFrz (sCall rfl rfl (ok__law_same T) (hr.mono (by decide)) rfl (T.glo (T.c.fact 40)) (T.F__law_same).kp T.b__law_same .nil (fun _ => rfl) tk (sArCons (sSlot (pe_var (i := 6) rfl (.inl rfl))) (sArCons (sSlot (pe_var (i := 7) rfl (.inl rfl))) (sArNil))) fn__law_same_len))))) (sOrT (sCmpT op_lt sv_lt (sLV (sFrz (sIx rfl (sSlot (pe_var (i := 6) rfl (.inl rfl))) (sLV (sInt))))) (sLV (sInt)) (nomark _)) (sOrT (sNotT (sTru rfl (sLV (sFrz (sCall rfl rfl (ok__law_belongs T) (hr.mono (by decide)) rfl (T.glo (T.c.fact 41)) (T.F__law_belongs).kp T.b__law_belongs .nil (fun _ => rfl) tk (sArCons (sSlot (pe_var (i := 6) rfl (.inl rfl))) (sArCons (sSlot (pe_var (i := 3) rfl (.inl rfl))) (sArNil))) fn__law_belongs_len))))) (sOrT1 (sNotT (sTru rfl (sLV (sFrz (sCall rfl rfl (ok__law_belongs T) (hr.mono (by decide)) rfl (T.glo (T.c.fact 41)) (T.F__law_belongs).kp T.b__law_belongs .nil (fun _ => rfl) tk (sArCons (sSlot (pe_var (i := 6) rfl (.inl rfl))) (sArCons (sSlot (pe_var (i := 4) rfl (.inl rfl))) (sArNil))) fn__law_belongs_len)))))))))) (sOne (sRet (sVal (sBl)))) (sNil)) (sCons (sIfS (sNotT (sTru rfl (sLV (sFrz (sCall rfl rfl (ok__law_is_least T) (hr.mono (by decide)) rfl (T.glo (T.c.fact 42)) (T.F__law_is_least).kp T.b__law_is_least .nil (fun _ => rfl) tk (sArCons (sSlot (pe_var (i := 6) rfl (.inl rfl))) (sArCons (sSlot (pe_var (i := 3) rfl (.inl rfl))) (sArCons (sSlot (pe_var (i := 4) rfl (.inl rfl))) (sArNil)))) fn__law_is_least_len))))) (sOne (sRet (sVal (sBl)))) (sNil)) (sOne (sIfS (sNotT (sTru rfl (sLV (sFrz (sCallR rfl rfl (ok__law_refusals T) (hr.mono (by decide)) rfl (T.glo (T.c.fact 43)) (T.F__law_refusals).kp T.b__law_refusals .nil (fun _ => rfl) tk (pe_var (i := 1) rfl (.inr (.inl rfl))) (sArCons (sSlot (pe_var (i := 3) rfl (.inl rfl))) (sArNil)) fn__law_refusals_len))))) (sOne (sRet (sVal (sBl)))) (sNil)))))))))))) (sOne (sRet (sVal (sBl)))))
end
end Kx

set_option linter.all false
set_option maxRecDepth 100000
set_option maxHeartbeats 4000000
namespace Kx
open PySem PySem.Spec PyProof.Rows L2 Ev
/-! the plain law of two progressions -/
theorem sc_zero {n m B W : Int} (hB : 0 < B) (hW : 0 < W) (h : n * B = m * W) : n = 0 ↔ m = 0 := by
  constructor
  · intro z
    rw [z, Int.zero_mul] at h
    rcases Int.mul_eq_zero.mp h.symm with q | q
    · exact q
    · omega
  · intro z
    rw [z, Int.zero_mul] at h
    rcases Int.mul_eq_zero.mp h with q | q
    · exact q
    · omega
theorem sc_nonneg1 {n m B W : Int} (hB : 0 < B) (hW : 0 < W) (h : n * B = m * W) (z : 0 ≤ n) : 0 ≤ m := by
  have h1 : 0 ≤ m * W := h ▸ Int.mul_nonneg z (by omega)
  exact Int.nonneg_of_mul_nonneg_left h1 hW
theorem sc_nonneg {n m B W : Int} (hB : 0 < B) (hW : 0 < W) (h : n * B = m * W) : 0 ≤ n ↔ 0 ≤ m := ⟨sc_nonneg1 hB hW h, sc_nonneg1 hW hB h.symm⟩
theorem sc_eq1 {a b a' b' B W : Int} (hB : 0 < B) (hW : 0 < W) (h1 : a * B = a' * W) (h2 : b * B = b' * W) (z : a = b) : a' = b' := by
  rw [z] at h1
  exact Int.eq_of_mul_eq_mul_right (by omega) (h1.symm.trans h2)
theorem sc_eq {a b a' b' B W : Int} (hB : 0 < B) (hW : 0 < W) (h1 : a * B = a' * W) (h2 : b * B = b' * W) : a = b ↔ a' = b' := ⟨sc_eq1 hB hW h1 h2, sc_eq1 hW hB h1.symm h2.symm⟩
theorem sc_dvd1 {a b a' b' B W : Int} (hB : 0 < B) (hW : 0 < W) (h1 : a * B = a' * W) (h2 : b * B = b' * W) (z : a ∣ b) : a' ∣ b' := by
  obtain ⟨k, rfl⟩ := z
  refine ⟨k, Int.eq_of_mul_eq_mul_right (a := W) (by omega) ?_⟩
  rw [← h2]
  grind
theorem sc_dvd {a b a' b' B W : Int} (hB : 0 < B) (hW : 0 < W) (h1 : a * B = a' * W) (h2 : b * B = b' * W) : a ∣ b ↔ a' ∣ b' := ⟨sc_dvd1 hB hW h1 h2, sc_dvd1 hW hB h1.symm h2.symm⟩
theorem gc_mul (a b : Int) {B : Int} (hB : 0 < B) : gc (a * B) (b * B) = gc a b * B := by
  unfold gc
  rw [Int.natAbs_mul, Int.natAbs_mul, Nat.gcd_mul_right, Int.natCast_mul]
  congr 1
  omega
theorem sc_gc {a b a' b' B W : Int} (hB : 0 < B) (hW : 0 < W) (h1 : a * B = a' * W) (h2 : b * B = b' * W) : gc a b * B = gc a' b' * W := by
  rw [← gc_mul a b hB, ← gc_mul a' b' hW, h1, h2]
theorem sc_sub {a b a' b' B W : Int} (h1 : a * B = a' * W) (h2 : b * B = b' * W) : (a - b) * B = (a' - b') * W := by grind
theorem gc_dvd1 (a b : Int) : gc a b ∣ a := Int.ofNat_dvd_left.mpr (Nat.gcd_dvd_left _ _)
theorem gc_dvd2 (a b : Int) : gc a b ∣ b := Int.ofNat_dvd_left.mpr (Nat.gcd_dvd_right _ _)
theorem gc_pos1 {a b : Int} (h : 0 < a) : 0 < gc a b := by
  have := Nat.gcd_pos_of_pos_left b.natAbs (show 0 < a.natAbs by omega)
  unfold gc
  omega
theorem div_one_gc {a b : Int} (h : 0 < a) : gc (a / gc a b) (b / gc a b) = 1 := by
  have g0 : 0 < Nat.gcd a.natAbs b.natAbs := Nat.gcd_pos_of_pos_left _ (by omega)
  have n1 : (a / gc a b).natAbs = a.natAbs / Nat.gcd a.natAbs b.natAbs := by rw [Int.natAbs_ediv_of_dvd (gc_dvd1 a b)]; rfl
  have n2 : (b / gc a b).natAbs = b.natAbs / Nat.gcd a.natAbs b.natAbs := by rw [Int.natAbs_ediv_of_dvd (gc_dvd2 a b)]; rfl
  show ((Nat.gcd (a / gc a b).natAbs (b / gc a b).natAbs : Nat) : Int) = 1
  rw [n1, n2, Nat.gcd_div (Nat.gcd_dvd_left _ _) (Nat.gcd_dvd_right _ _), Nat.div_self g0]
  rfl
/-- the least common multiple -/
abbrev lc (a b : Int) : Int := ((Nat.lcm a.natAbs b.natAbs : Nat) : Int)
theorem lc_comm (a b : Int) : lc a b = lc b a := by unfold lc; rw [Nat.lcm_comm]
theorem lc_dvd1 (a b : Int) : a ∣ lc a b := Int.natAbs_dvd.mp (Int.ofNat_dvd.mpr (Nat.dvd_lcm_left _ _))
theorem lc_dvd2 (a b : Int) : b ∣ lc a b := Int.natAbs_dvd.mp (Int.ofNat_dvd.mpr (Nat.dvd_lcm_right _ _))
theorem lc_pos {a b : Int} (h : 0 < a) (k : 0 < b) : 0 < lc a b := by
  have := Nat.lcm_pos (m := a.natAbs) (n := b.natAbs) (by omega) (by omega)
  unfold lc
  omega
theorem lc_least {a b x : Int} (h : a ∣ x) (k : b ∣ x) : lc a b ∣ x := Int.ofNat_dvd_left.mpr (Nat.lcm_dvd (Int.natAbs_dvd_natAbs.mpr h) (Int.natAbs_dvd_natAbs.mpr k))
theorem lc_le {a b : Int} (h : 0 < a) (k : 0 < b) : lc a b ≤ a * b := by
  exact Int.le_of_dvd (Int.mul_pos h k) (lc_least ⟨b, rfl⟩ ⟨a, Int.mul_comm a b⟩)
theorem lc_eq {a b : Int} (h : 0 < a) (k : 0 < b) : lc a b = a / gc a b * b := by
  have g := gc_pos1 (b := b) h
  have e : lc a b * gc a b = a * b := by
    unfold lc gc
    rw [← Int.natCast_mul, Nat.mul_comm, Nat.gcd_mul_lcm, Int.natCast_mul]
    have h1 : ((a.natAbs : Nat) : Int) = a := by omega
    have h2 : ((b.natAbs : Nat) : Int) = b := by omega
    rw [h1, h2]
  refine Int.eq_of_mul_eq_mul_right (a := gc a b) (by omega) ?_
  rw [e]
  have d : a / gc a b * gc a b = a := Int.ediv_mul_cancel (gc_dvd1 a b)
  grind
/-- told for both progressions that go on: in the range, in both -/
structure InB (a e b s f : Int) : Prop where
  l : 0 ≤ f
  u : f < lc e s
  d1 : e ∣ f - a
  d2 : s ∣ f - b
theorem InB.uniq {a e b s f g : Int} (h : InB a e b s f) (k : InB b s a e g) (he : 0 < e) (hs : 0 < s) : f = g := by
  have d : lc e s ∣ f - g := lc_least (by
      have := Int.dvd_sub h.d1 k.d2
      have e1 : f - a - (g - a) = f - g := by omega
      rwa [e1] at this) (by
      have := Int.dvd_sub h.d2 k.d1
      have e1 : f - b - (g - b) = f - g := by omega
      rwa [e1] at this)
  have u1 := h.u
  have u2 := k.u
  rw [lc_comm] at u2
  have l1 := h.l
  have l2 := k.l
  obtain ⟨q, hq⟩ := d
  have p := lc_pos he hs
  rcases Int.lt_trichotomy q 0 with z | z | z
  · have : lc e s * q ≤ lc e s * (-1) := Int.mul_le_mul_of_nonneg_left (by omega) (by omega)
    omega
  · rw [z, Int.mul_zero] at hq
    omega
  · have : lc e s * 1 ≤ lc e s * q := Int.mul_le_mul_of_nonneg_left (by omega) (by omega)
    omega
theorem crt {a e b s r : Int} (he : 0 < e) (hs : 0 < s) (hc : gc e s ∣ b - a) (hr : s / gc e s ∣ e / gc e s * r - 1) : InB a e b s ((a + (b - a) / gc e s * r * e).fmod (lc e s)) := by
  have p := lc_pos he hs
  have dc1 : e / gc e s * gc e s = e := Int.ediv_mul_cancel (gc_dvd1 e s)
  have dc2 : s / gc e s * gc e s = s := Int.ediv_mul_cancel (gc_dvd2 e s)
  have dc3 : (b - a) / gc e s * gc e s = b - a := Int.ediv_mul_cancel hc
  obtain ⟨k, hk⟩ := hr
  obtain ⟨x, hx⟩ := lc_dvd1 e s
  obtain ⟨y, hy⟩ := lc_dvd2 e s
  rw [Int.fmod_eq_emod_of_nonneg _ (by omega)]
  have em := Int.emod_def (a + (b - a) / gc e s * r * e) (lc e s)
  have r0 := Int.emod_nonneg (a + (b - a) / gc e s * r * e) (show lc e s ≠ 0 by omega)
  have r1 := Int.emod_lt_of_pos (a + (b - a) / gc e s * r * e) p
  generalize (a + (b - a) / gc e s * r * e) / lc e s = q at *
  generalize (a + (b - a) / gc e s * r * e) % lc e s = f at *
  generalize (b - a) / gc e s = t at *
  generalize e / gc e s = E at *
  generalize s / gc e s = S at *
  generalize gc e s = c at *
  generalize hL : lc e s = L at *
  refine ⟨r0, by rw [hL]; exact r1, ⟨t * r - x * q, ?_⟩, ⟨t * k - y * q, ?_⟩⟩
  · rw [em]
    have : L * q = e * x * q := by rw [hx]
    grind
  · rw [em]
    have h3 : L * q = s * y * q := by rw [hy]
    have h4 : t * r * e - t * c = t * c * (E * r - 1) := by grind
    have h5 : t * c * (E * r - 1) = t * c * (S * k) := by rw [hk]
    grind
end Kx

set_option linter.all false
set_option maxRecDepth 100000
set_option maxHeartbeats 4000000
namespace Kx
open PySem PySem.Spec PyProof.Rows L2 Ev
theorem mixed_ev (n t : Int) (hn : Bd 40 n) (ht : Bd 40 t) : ∃ r, (fn__law_mixed [.val (.int n), .val (.int t)]).st = .ok (.val (.int r)) [] := by
  have m1 : mulOk n 48271 = true := mulOk_of (k := 39) (m := 39) hn .lit (by decide)
  have m2 : mulOk t 10007 = true := mulOk_of (k := 39) (m := 39) ht .lit (by decide)
  have m4 : mulOk t 92821 = true := mulOk_of (k := 39) (m := 39) ht .lit (by decide)
  generalize ho : (n * 48271 + t * 10007 + 30011).fmod 2147483647 = o
  have bo : Bd 40 o := Bd.ofR (b := 2147483647) (ho ▸ fmod_range (by decide)) (by decide)
  have m3 : mulOk o o = true := mulOk_of (k := 39) (m := 39) bo bo (by decide)
  generalize hw : (o * o + t * 92821 + o.fdiv 257).fmod 2147483629 = w
  have bw : Bd 40 w := Bd.ofR (b := 2147483629) (hw ▸ fmod_range (by decide)) (by decide)
  have m5 : mulOk w 69621 = true := mulOk_of (k := 39) (m := 39) bw .lit (by decide)
  have d1 : divOk 257 = true := by decide
  have d2 : divOk 11 = true := by decide
  have d3 : divOk 64 = true := by decide
  have z1 : (2147483647 : Int) ≠ 0 := by decide
  have z2 : (2147483629 : Int) ≠ 0 := by decide
  have z3 : (2147483587 : Int) ≠ 0 := by decide
  simp only [fn__law_mixed, den__law_mixed, dC_a, dVar_a, dSlot_a, dMove_a, dLV_a, dFrz_a, frzE_val, frzE_mu, dVal_a, get_v, get_s, dBin_a, dNeg_a, dTB_a, dBT_a, dTru_a, dNotT_a, dAndT_a, dOrT_a, dAndV_a, dOrV_a, dNotL_a, dIf_a, dIfF_a, dChain_a, dVs_n, dVs_c, dArs_n, dArs_c, dTup_a, dLst_a, getAll_n, getAll_c, dCB_a, dCallR_a, dIsi_a, dSeq_a, dSkip_a, dIfS_a, dRet_a, dSet_a, dAsg_a, asN_a, asT_a, asT_l, asC_a, asNil_a, dPar_a, dPut_a, dExp_a, dApp_a, dFor_a, loopF_n, dIt_a, gDiv_i, gMul_i, gMod_i, gEq_int, gNe_int, at0, at1, at2, at3, gAdd_i, gSub_i, gLt_i, gLe_i, gGt_i, gGe_i, gInt_i, gLen_l, gLen_f, gLen_t, gAbs_i, its_l, its_t, its_f, mkFn_s, stF_rt, stF_nx, stF_er, dCall_s, dCall0_s, dCallK_s, dIsK_e, dAt_e, dRev_e, dPar3_e, dEnum_e, dZip_e, enumD_n, enumD_c, zipD_c, zipD_n, zipD_m, dRng1_e, dPs_e, dPn_e, dSl_e, frzS_e, noX_n, noX_v, noX_m, noX_u, noX_x, finX_s, finX_n, dBreak_e, dCont_e, rngD_z, rngD_s, dTrue_e, dLc_e, loopC_n, loopC_k, goC_s, goC_o, eleC_e, bindX_o, loopF_c, wipeE_n, wipeE_c, restE_n, restE_c, okOwn_n, okOwn_c, dTry_e, runH_n, runH_c, dRaise_e, dXf_e, shp_i, shp_b, shp_o, shp_s, shp_t, shp_l, shp_f, shps_n, shps_c, gEq_ci, gNe_ci, gEq_cb, gNe_cb, gEq_cs, gNe_cs, gEq_co, gNe_co, gEq_ct, gNe_ct, gEq_cl, gNe_cl, gEq_cf, gNe_cf, deq_ii, deq_bb, deq_bi, deq_ib, deq_ss, deq_tt, deq_ll, deq_lf, deq_fl, deq_ff, deq_oo, deqs_nn, deqs_cc, deqs_nc, deqs_cn, deq_oi, deq_io, deq_ob, deq_bo, deq_os, deq_so, deq_ot, deq_to, deq_ol, deq_lo, deq_it, deq_ti, deq_il, deq_li, deq_is, deq_si, deq_tl, deq_lt, deq_ts, deq_st, deq_ls, deq_sl, deq_bt, deq_tb, deq_bs, deq_sb, tru_b, tru_l, tru_t, tru_i, tru_o, ni_i, ni_b, ni_s, ni_o, ni_t, ni_l, ni_f, isTs_n, isTs_c, isT_i, isT_b, isT_s, isT_t, isT_l, isT_f, isT_o, gIs_n, gIs_bb, gIsNot_n, gIsNot_bb, isN_o, isN_i, isN_b, isN_s, isN_t, isN_l, isN_f, gList_t, gList_l, gList_f, gTuple_l, gTuple_f, gTuple_t, gIx_t, gIx_l, gIx_f, gSl_t, gSl_l, gSl_f, gEqS_e, gNeS_e, st_ok, st_err, st_bad, fl_m, fl_i, fl_b, fl_s, fl_o, fl_t, fl_l, fl_f, fl_n, fl_g, frzAr_n, frzAr_v, frzAr_s, hasS_n, hasS_v, hasS_s, vb_e, at4, at5, at6, at7, at8, at9, at10, at11, at12, atm1_1, atm1_2, atm1_3, atm1_4, atm1_5, atm1_6, atm1_7, atm1_8, ixq1_0, ixq2_0, ixq2_1, ixq3_0, ixq3_1, ixq3_2, ixq4_0, ixq4_1, ixq4_2, ixq4_3, ixq5_0, ixq5_1, ixq5_2, ixq5_3, ixq5_4, ixq6_0, ixq6_1, ixq6_2, ixq6_3, ixq6_4, ixq6_5, ixq7_0, ixq7_1, ixq7_2, ixq7_3, ixq7_4, ixq7_5, ixq7_6, ixq8_0, ixq8_1, ixq8_2, ixq8_3, ixq8_4, ixq8_5, ixq8_6, ixq8_7, Res.bind_ok, Res.bind_err, Res.bind_bad, List.getElem?_cons_zero, List.getElem?_cons_succ, List.set_cons_zero, List.set_cons_succ, List.map_cons, List.map_nil, List.cons_append, List.nil_append, List.append_nil, List.length_cons, List.length_nil, List.replicate, List.take, if_true, if_false, ite_true, ite_false, reduceIte, Nat.reduceAdd, Nat.reduceSub, Nat.reduceLeDiff, Bool.false_eq_true, Nat.reduceEqDiff, Nat.add_eq, Nat.add_zero, Nat.zero_add, Option.bind_some, Option.map_some, Nat.sub_self, eq_self, and_self, and_true, true_and, Bool.and_true, Bool.true_and, Bool.and_false, Bool.false_and, Bool.or_true, Bool.true_or, Bool.or_false, Bool.false_or, Bool.not_true, Bool.not_false, String.reduceBEq, decide_true, decide_false, List.reverse_cons, List.reverse_nil, List.isEmpty_cons, List.isEmpty_nil, Option.getD_some, Int.reduceLT, Int.reduceLE, Int.reduceEq, Int.reduceAdd, Int.reduceSub, Int.reduceMul, Int.reduceNeg, Nat.reduceLT, Nat.reduceMul, not_true_eq_false, not_false_eq_true, and_false, false_and, List.length_map, Int.natCast_zero, Int.reduceToNat, Int.cast_ofNat_Int, Int.reduceFDiv, Int.reduceFMod, Int.reduceBEq, Int.reduceBNe, Int.reduceNe, Nat.reduceBEq, Int.reducePow, gMul_i m1, gMul_i m2, gMul_i m3, gMul_i m4, gMul_i m5, gDiv_i d1, gDiv_i d2, gDiv_i d3, gMod_i z1, gMod_i z2, gMod_i z3, ho, hw]
  exact ⟨_, rfl⟩
def HandOk (xs : List D) : Prop := ∃ (cs : List Int) (k r t : Int), xs = [.lst (cs.map .int), .int k, .int r, .int t] ∧ cs.length ≤ 63 ∧ 0 ≤ k ∧ k ≤ cs.length ∧ 0 ≤ t ∧ t < 2147483549
theorem take_ev (xs : List D) (h : HandOk xs) (m : Int) (hm : 0 < m) (hd : divOk m = true) : ∃ v ys, fn__law_take [.mu xs, .val (.int m)] = .ok (.val (.int v)) [.mu ys, .val (.int m)] ∧ HandOk ys ∧ 0 ≤ v ∧ v < m := by
  obtain ⟨cs, k, r, t, rfl, hl, k0, k1, t0, t1⟩ := h
  have hm0 : m ≠ 0 := by omega
  have bk : Bd 40 k := Bd.ofR (b := 64) ⟨k0, by omega⟩ (by decide)
  have bk1 : Bd 40 (k + 1) := Bd.ofR (b := 65) ⟨by omega, by omega⟩ (by decide)
  have z1 : (2147483647 : Int) ≠ 0 := by decide
  have z2 : (2147483549 : Int) ≠ 0 := by decide
  have p18 : gPow (.int 10) (.int 18) = some (.val (.int 1000000000000000000)) := by rfl
  have L0 : gLen [.lst (cs.map D.int)] = some (.val (.int cs.length)) := by rw [gLen_l, List.length_map]
  by_cases hr : r = 0
  · subst hr
    by_cases hk : k < cs.length
    · obtain ⟨kn, rfl⟩ : ∃ kn : Nat, k = kn := ⟨k.toNat, by omega⟩
      have hkn : kn < cs.length := by omega
      have ge : cs[kn]? = some cs[kn] := List.getElem?_eq_getElem hkn
      generalize cs[kn] = c at ge
      have I0 : gIx (.lst (cs.map D.int)) (.int (kn : Int)) = some (.val (.int c)) := congrArg (Option.map Ent.val) (Ev.atI_nat (by rw [List.getElem?_map, ge]; rfl))
      by_cases hc : c < 1000000000000000000
      · obtain ⟨q, hq⟩ := mixed_ev (c.fmod 2147483647) ((kn : Int) + 1) (Bd.ofR (b := 2147483647) (fmod_range (by decide)) (by decide)) bk1
        refine ⟨q.fmod m, [.lst (cs.map .int), .int (kn + 1), .int 0, .int t], ?_, ⟨cs, kn + 1, 0, t, rfl, hl, by omega, by omega, t0, t1⟩, (fmod_range hm).1, (fmod_range hm).2⟩
        simp only [fn__law_take, den__law_take, mkFn_a, finF, I0, dC_a, dVar_a, dSlot_a, dMove_a, dLV_a, dFrz_a, frzE_val, frzE_mu, dVal_a, get_v, get_s, dBin_a, dNeg_a, dTB_a, dBT_a, dTru_a, dNotT_a, dAndT_a, dOrT_a, dAndV_a, dOrV_a, dNotL_a, dIf_a, dIfF_a, dChain_a, dVs_n, dVs_c, dArs_n, dArs_c, dTup_a, dLst_a, getAll_n, getAll_c, dCB_a, dCallR_a, dIsi_a, dSeq_a, dSkip_a, dIfS_a, dRet_a, dSet_a, dAsg_a, asN_a, asT_a, asT_l, asC_a, asNil_a, dPar_a, dPut_a, dExp_a, dApp_a, dFor_a, loopF_n, dIt_a, gDiv_i, gMul_i, gMod_i, gEq_int, gNe_int, at0, at1, at2, at3, gAdd_i, gSub_i, gLt_i, gLe_i, gGt_i, gGe_i, gInt_i, gLen_l, gLen_f, gLen_t, gAbs_i, its_l, its_t, its_f, mkFn_s, stF_rt, stF_nx, stF_er, dCall_s, dCall0_s, dCallK_s, dIsK_e, dAt_e, dRev_e, dPar3_e, dEnum_e, dZip_e, enumD_n, enumD_c, zipD_c, zipD_n, zipD_m, dRng1_e, dPs_e, dPn_e, dSl_e, frzS_e, noX_n, noX_v, noX_m, noX_u, noX_x, finX_s, finX_n, dBreak_e, dCont_e, rngD_z, rngD_s, dTrue_e, dLc_e, loopC_n, loopC_k, goC_s, goC_o, eleC_e, bindX_o, loopF_c, wipeE_n, wipeE_c, restE_n, restE_c, okOwn_n, okOwn_c, dTry_e, runH_n, runH_c, dRaise_e, dXf_e, shp_i, shp_b, shp_o, shp_s, shp_t, shp_l, shp_f, shps_n, shps_c, gEq_ci, gNe_ci, gEq_cb, gNe_cb, gEq_cs, gNe_cs, gEq_co, gNe_co, gEq_ct, gNe_ct, gEq_cl, gNe_cl, gEq_cf, gNe_cf, deq_ii, deq_bb, deq_bi, deq_ib, deq_ss, deq_tt, deq_ll, deq_lf, deq_fl, deq_ff, deq_oo, deqs_nn, deqs_cc, deqs_nc, deqs_cn, deq_oi, deq_io, deq_ob, deq_bo, deq_os, deq_so, deq_ot, deq_to, deq_ol, deq_lo, deq_it, deq_ti, deq_il, deq_li, deq_is, deq_si, deq_tl, deq_lt, deq_ts, deq_st, deq_ls, deq_sl, deq_bt, deq_tb, deq_bs, deq_sb, tru_b, tru_l, tru_t, tru_i, tru_o, ni_i, ni_b, ni_s, ni_o, ni_t, ni_l, ni_f, isTs_n, isTs_c, isT_i, isT_b, isT_s, isT_t, isT_l, isT_f, isT_o, gIs_n, gIs_bb, gIsNot_n, gIsNot_bb, isN_o, isN_i, isN_b, isN_s, isN_t, isN_l, isN_f, gList_t, gList_l, gList_f, gTuple_l, gTuple_f, gTuple_t, gIx_t, gIx_l, gIx_f, gSl_t, gSl_l, gSl_f, gEqS_e, gNeS_e, st_ok, st_err, st_bad, fl_m, fl_i, fl_b, fl_s, fl_o, fl_t, fl_l, fl_f, fl_n, fl_g, frzAr_n, frzAr_v, frzAr_s, hasS_n, hasS_v, hasS_s, vb_e, at4, at5, at6, at7, at8, at9, at10, at11, at12, atm1_1, atm1_2, atm1_3, atm1_4, atm1_5, atm1_6, atm1_7, atm1_8, ixq1_0, ixq2_0, ixq2_1, ixq3_0, ixq3_1, ixq3_2, ixq4_0, ixq4_1, ixq4_2, ixq4_3, ixq5_0, ixq5_1, ixq5_2, ixq5_3, ixq5_4, ixq6_0, ixq6_1, ixq6_2, ixq6_3, ixq6_4, ixq6_5, ixq7_0, ixq7_1, ixq7_2, ixq7_3, ixq7_4, ixq7_5, ixq7_6, ixq8_0, ixq8_1, ixq8_2, ixq8_3, ixq8_4, ixq8_5, ixq8_6, ixq8_7, Res.bind_ok, Res.bind_err, Res.bind_bad, List.getElem?_cons_zero, List.getElem?_cons_succ, List.set_cons_zero, List.set_cons_succ, List.map_cons, List.map_nil, List.cons_append, List.nil_append, List.append_nil, List.length_cons, List.length_nil, List.replicate, List.take, if_true, if_false, ite_true, ite_false, reduceIte, Nat.reduceAdd, Nat.reduceSub, Nat.reduceLeDiff, Bool.false_eq_true, Nat.reduceEqDiff, Nat.add_eq, Nat.add_zero, Nat.zero_add, Option.bind_some, Option.map_some, Nat.sub_self, eq_self, and_self, and_true, true_and, Bool.and_true, Bool.true_and, Bool.and_false, Bool.false_and, Bool.or_true, Bool.true_or, Bool.or_false, Bool.false_or, Bool.not_true, Bool.not_false, String.reduceBEq, decide_true, decide_false, List.reverse_cons, List.reverse_nil, List.isEmpty_cons, List.isEmpty_nil, Option.getD_some, Int.reduceLT, Int.reduceLE, Int.reduceEq, Int.reduceAdd, Int.reduceSub, Int.reduceMul, Int.reduceNeg, Nat.reduceLT, Nat.reduceMul, not_true_eq_false, not_false_eq_true, and_false, false_and, List.length_map, Int.natCast_zero, Int.reduceToNat, Int.cast_ofNat_Int, Int.reduceFDiv, Int.reduceFMod, Int.reduceBEq, Int.reduceBNe, Int.reduceNe, Nat.reduceBEq, Int.reducePow, L0, hk, hc, p18, gMod_i z1, gMod_i hm0, hq]
      · refine ⟨c.fmod m, [.lst (cs.map .int), .int (kn + 1), .int (c.fdiv m), .int t], ?_, ⟨cs, kn + 1, c.fdiv m, t, rfl, hl, by omega, by omega, t0, t1⟩, (fmod_range hm).1, (fmod_range hm).2⟩
        have c1 : 0 < c := by omega
        simp only [fn__law_take, den__law_take, mkFn_a, finF, I0, dC_a, dVar_a, dSlot_a, dMove_a, dLV_a, dFrz_a, frzE_val, frzE_mu, dVal_a, get_v, get_s, dBin_a, dNeg_a, dTB_a, dBT_a, dTru_a, dNotT_a, dAndT_a, dOrT_a, dAndV_a, dOrV_a, dNotL_a, dIf_a, dIfF_a, dChain_a, dVs_n, dVs_c, dArs_n, dArs_c, dTup_a, dLst_a, getAll_n, getAll_c, dCB_a, dCallR_a, dIsi_a, dSeq_a, dSkip_a, dIfS_a, dRet_a, dSet_a, dAsg_a, asN_a, asT_a, asT_l, asC_a, asNil_a, dPar_a, dPut_a, dExp_a, dApp_a, dFor_a, loopF_n, dIt_a, gDiv_i, gMul_i, gMod_i, gEq_int, gNe_int, at0, at1, at2, at3, gAdd_i, gSub_i, gLt_i, gLe_i, gGt_i, gGe_i, gInt_i, gLen_l, gLen_f, gLen_t, gAbs_i, its_l, its_t, its_f, mkFn_s, stF_rt, stF_nx, stF_er, dCall_s, dCall0_s, dCallK_s, dIsK_e, dAt_e, dRev_e, dPar3_e, dEnum_e, dZip_e, enumD_n, enumD_c, zipD_c, zipD_n, zipD_m, dRng1_e, dPs_e, dPn_e, dSl_e, frzS_e, noX_n, noX_v, noX_m, noX_u, noX_x, finX_s, finX_n, dBreak_e, dCont_e, rngD_z, rngD_s, dTrue_e, dLc_e, loopC_n, loopC_k, goC_s, goC_o, eleC_e, bindX_o, loopF_c, wipeE_n, wipeE_c, restE_n, restE_c, okOwn_n, okOwn_c, dTry_e, runH_n, runH_c, dRaise_e, dXf_e, shp_i, shp_b, shp_o, shp_s, shp_t, shp_l, shp_f, shps_n, shps_c, gEq_ci, gNe_ci, gEq_cb, gNe_cb, gEq_cs, gNe_cs, gEq_co, gNe_co, gEq_ct, gNe_ct, gEq_cl, gNe_cl, gEq_cf, gNe_cf, deq_ii, deq_bb, deq_bi, deq_ib, deq_ss, deq_tt, deq_ll, deq_lf, deq_fl, deq_ff, deq_oo, deqs_nn, deqs_cc, deqs_nc, deqs_cn, deq_oi, deq_io, deq_ob, deq_bo, deq_os, deq_so, deq_ot, deq_to, deq_ol, deq_lo, deq_it, deq_ti, deq_il, deq_li, deq_is, deq_si, deq_tl, deq_lt, deq_ts, deq_st, deq_ls, deq_sl, deq_bt, deq_tb, deq_bs, deq_sb, tru_b, tru_l, tru_t, tru_i, tru_o, ni_i, ni_b, ni_s, ni_o, ni_t, ni_l, ni_f, isTs_n, isTs_c, isT_i, isT_b, isT_s, isT_t, isT_l, isT_f, isT_o, gIs_n, gIs_bb, gIsNot_n, gIsNot_bb, isN_o, isN_i, isN_b, isN_s, isN_t, isN_l, isN_f, gList_t, gList_l, gList_f, gTuple_l, gTuple_f, gTuple_t, gIx_t, gIx_l, gIx_f, gSl_t, gSl_l, gSl_f, gEqS_e, gNeS_e, st_ok, st_err, st_bad, fl_m, fl_i, fl_b, fl_s, fl_o, fl_t, fl_l, fl_f, fl_n, fl_g, frzAr_n, frzAr_v, frzAr_s, hasS_n, hasS_v, hasS_s, vb_e, at4, at5, at6, at7, at8, at9, at10, at11, at12, atm1_1, atm1_2, atm1_3, atm1_4, atm1_5, atm1_6, atm1_7, atm1_8, ixq1_0, ixq2_0, ixq2_1, ixq3_0, ixq3_1, ixq3_2, ixq4_0, ixq4_1, ixq4_2, ixq4_3, ixq5_0, ixq5_1, ixq5_2, ixq5_3, ixq5_4, ixq6_0, ixq6_1, ixq6_2, ixq6_3, ixq6_4, ixq6_5, ixq7_0, ixq7_1, ixq7_2, ixq7_3, ixq7_4, ixq7_5, ixq7_6, ixq8_0, ixq8_1, ixq8_2, ixq8_3, ixq8_4, ixq8_5, ixq8_6, ixq8_7, Res.bind_ok, Res.bind_err, Res.bind_bad, List.getElem?_cons_zero, List.getElem?_cons_succ, List.set_cons_zero, List.set_cons_succ, List.map_cons, List.map_nil, List.cons_append, List.nil_append, List.append_nil, List.length_cons, List.length_nil, List.replicate, List.take, if_true, if_false, ite_true, ite_false, reduceIte, Nat.reduceAdd, Nat.reduceSub, Nat.reduceLeDiff, Bool.false_eq_true, Nat.reduceEqDiff, Nat.add_eq, Nat.add_zero, Nat.zero_add, Option.bind_some, Option.map_some, Nat.sub_self, eq_self, and_self, and_true, true_and, Bool.and_true, Bool.true_and, Bool.and_false, Bool.false_and, Bool.or_true, Bool.true_or, Bool.or_false, Bool.false_or, Bool.not_true, Bool.not_false, String.reduceBEq, decide_true, decide_false, List.reverse_cons, List.reverse_nil, List.isEmpty_cons, List.isEmpty_nil, Option.getD_some, Int.reduceLT, Int.reduceLE, Int.reduceEq, Int.reduceAdd, Int.reduceSub, Int.reduceMul, Int.reduceNeg, Nat.reduceLT, Nat.reduceMul, not_true_eq_false, not_false_eq_true, and_false, false_and, List.length_map, Int.natCast_zero, Int.reduceToNat, Int.cast_ofNat_Int, Int.reduceFDiv, Int.reduceFMod, Int.reduceBEq, Int.reduceBNe, Int.reduceNe, Nat.reduceBEq, Int.reducePow, L0, hk, hc, c1, p18, gDiv_i hd, gMod_i z1, gMod_i hm0]
    · obtain ⟨q, hq⟩ := mixed_ev ((t + 1).fmod 2147483549) k (Bd.ofR (b := 2147483549) (fmod_range (by decide)) (by decide)) bk
      have f1 := fmod_range (a := t + 1) (b := 2147483549) (by decide)
      refine ⟨q.fmod m, [.lst (cs.map .int), .int k, .int 0, .int ((t + 1).fmod 2147483549)], ?_, ⟨cs, k, 0, _, rfl, hl, k0, k1, f1.1, f1.2⟩, (fmod_range hm).1, (fmod_range hm).2⟩
      simp only [fn__law_take, den__law_take, mkFn_a, finF, dC_a, dVar_a, dSlot_a, dMove_a, dLV_a, dFrz_a, frzE_val, frzE_mu, dVal_a, get_v, get_s, dBin_a, dNeg_a, dTB_a, dBT_a, dTru_a, dNotT_a, dAndT_a, dOrT_a, dAndV_a, dOrV_a, dNotL_a, dIf_a, dIfF_a, dChain_a, dVs_n, dVs_c, dArs_n, dArs_c, dTup_a, dLst_a, getAll_n, getAll_c, dCB_a, dCallR_a, dIsi_a, dSeq_a, dSkip_a, dIfS_a, dRet_a, dSet_a, dAsg_a, asN_a, asT_a, asT_l, asC_a, asNil_a, dPar_a, dPut_a, dExp_a, dApp_a, dFor_a, loopF_n, dIt_a, gDiv_i, gMul_i, gMod_i, gEq_int, gNe_int, at0, at1, at2, at3, gAdd_i, gSub_i, gLt_i, gLe_i, gGt_i, gGe_i, gInt_i, gLen_l, gLen_f, gLen_t, gAbs_i, its_l, its_t, its_f, mkFn_s, stF_rt, stF_nx, stF_er, dCall_s, dCall0_s, dCallK_s, dIsK_e, dAt_e, dRev_e, dPar3_e, dEnum_e, dZip_e, enumD_n, enumD_c, zipD_c, zipD_n, zipD_m, dRng1_e, dPs_e, dPn_e, dSl_e, frzS_e, noX_n, noX_v, noX_m, noX_u, noX_x, finX_s, finX_n, dBreak_e, dCont_e, rngD_z, rngD_s, dTrue_e, dLc_e, loopC_n, loopC_k, goC_s, goC_o, eleC_e, bindX_o, loopF_c, wipeE_n, wipeE_c, restE_n, restE_c, okOwn_n, okOwn_c, dTry_e, runH_n, runH_c, dRaise_e, dXf_e, shp_i, shp_b, shp_o, shp_s, shp_t, shp_l, shp_f, shps_n, shps_c, gEq_ci, gNe_ci, gEq_cb, gNe_cb, gEq_cs, gNe_cs, gEq_co, gNe_co, gEq_ct, gNe_ct, gEq_cl, gNe_cl, gEq_cf, gNe_cf, deq_ii, deq_bb, deq_bi, deq_ib, deq_ss, deq_tt, deq_ll, deq_lf, deq_fl, deq_ff, deq_oo, deqs_nn, deqs_cc, deqs_nc, deqs_cn, deq_oi, deq_io, deq_ob, deq_bo, deq_os, deq_so, deq_ot, deq_to, deq_ol, deq_lo, deq_it, deq_ti, deq_il, deq_li, deq_is, deq_si, deq_tl, deq_lt, deq_ts, deq_st, deq_ls, deq_sl, deq_bt, deq_tb, deq_bs, deq_sb, tru_b, tru_l, tru_t, tru_i, tru_o, ni_i, ni_b, ni_s, ni_o, ni_t, ni_l, ni_f, isTs_n, isTs_c, isT_i, isT_b, isT_s, isT_t, isT_l, isT_f, isT_o, gIs_n, gIs_bb, gIsNot_n, gIsNot_bb, isN_o, isN_i, isN_b, isN_s, isN_t, isN_l, isN_f, gList_t, gList_l, gList_f, gTuple_l, gTuple_f, gTuple_t, gIx_t, gIx_l, gIx_f, gSl_t, gSl_l, gSl_f, gEqS_e, gNeS_e, st_ok, st_err, st_bad, fl_m, fl_i, fl_b, fl_s, fl_o, fl_t, fl_l, fl_f, fl_n, fl_g, frzAr_n, frzAr_v, frzAr_s, hasS_n, hasS_v, hasS_s, vb_e, at4, at5, at6, at7, at8, at9, at10, at11, at12, atm1_1, atm1_2, atm1_3, atm1_4, atm1_5, atm1_6, atm1_7, atm1_8, ixq1_0, ixq2_0, ixq2_1, ixq3_0, ixq3_1, ixq3_2, ixq4_0, ixq4_1, ixq4_2, ixq4_3, ixq5_0, ixq5_1, ixq5_2, ixq5_3, ixq5_4, ixq6_0, ixq6_1, ixq6_2, ixq6_3, ixq6_4, ixq6_5, ixq7_0, ixq7_1, ixq7_2, ixq7_3, ixq7_4, ixq7_5, ixq7_6, ixq8_0, ixq8_1, ixq8_2, ixq8_3, ixq8_4, ixq8_5, ixq8_6, ixq8_7, Res.bind_ok, Res.bind_err, Res.bind_bad, List.getElem?_cons_zero, List.getElem?_cons_succ, List.set_cons_zero, List.set_cons_succ, List.map_cons, List.map_nil, List.cons_append, List.nil_append, List.append_nil, List.length_cons, List.length_nil, List.replicate, List.take, if_true, if_false, ite_true, ite_false, reduceIte, Nat.reduceAdd, Nat.reduceSub, Nat.reduceLeDiff, Bool.false_eq_true, Nat.reduceEqDiff, Nat.add_eq, Nat.add_zero, Nat.zero_add, Option.bind_some, Option.map_some, Nat.sub_self, eq_self, and_self, and_true, true_and, Bool.and_true, Bool.true_and, Bool.and_false, Bool.false_and, Bool.or_true, Bool.true_or, Bool.or_false, Bool.false_or, Bool.not_true, Bool.not_false, String.reduceBEq, decide_true, decide_false, List.reverse_cons, List.reverse_nil, List.isEmpty_cons, List.isEmpty_nil, Option.getD_some, Int.reduceLT, Int.reduceLE, Int.reduceEq, Int.reduceAdd, Int.reduceSub, Int.reduceMul, Int.reduceNeg, Nat.reduceLT, Nat.reduceMul, not_true_eq_false, not_false_eq_true, and_false, false_and, List.length_map, Int.natCast_zero, Int.reduceToNat, Int.cast_ofNat_Int, Int.reduceFDiv, Int.reduceFMod, Int.reduceBEq, Int.reduceBNe, Int.reduceNe, Nat.reduceBEq, Int.reducePow, L0, hk, gMod_i z2, gMod_i hm0, hq]
  · by_cases hp : 0 < r
    · refine ⟨r.fmod m, [.lst (cs.map .int), .int k, .int (r.fdiv m), .int t], ?_, ⟨cs, k, _, t, rfl, hl, k0, k1, t0, t1⟩, (fmod_range hm).1, (fmod_range hm).2⟩
      simp only [fn__law_take, den__law_take, mkFn_a, finF, dC_a, dVar_a, dSlot_a, dMove_a, dLV_a, dFrz_a, frzE_val, frzE_mu, dVal_a, get_v, get_s, dBin_a, dNeg_a, dTB_a, dBT_a, dTru_a, dNotT_a, dAndT_a, dOrT_a, dAndV_a, dOrV_a, dNotL_a, dIf_a, dIfF_a, dChain_a, dVs_n, dVs_c, dArs_n, dArs_c, dTup_a, dLst_a, getAll_n, getAll_c, dCB_a, dCallR_a, dIsi_a, dSeq_a, dSkip_a, dIfS_a, dRet_a, dSet_a, dAsg_a, asN_a, asT_a, asT_l, asC_a, asNil_a, dPar_a, dPut_a, dExp_a, dApp_a, dFor_a, loopF_n, dIt_a, gDiv_i, gMul_i, gMod_i, gEq_int, gNe_int, at0, at1, at2, at3, gAdd_i, gSub_i, gLt_i, gLe_i, gGt_i, gGe_i, gInt_i, gLen_l, gLen_f, gLen_t, gAbs_i, its_l, its_t, its_f, mkFn_s, stF_rt, stF_nx, stF_er, dCall_s, dCall0_s, dCallK_s, dIsK_e, dAt_e, dRev_e, dPar3_e, dEnum_e, dZip_e, enumD_n, enumD_c, zipD_c, zipD_n, zipD_m, dRng1_e, dPs_e, dPn_e, dSl_e, frzS_e, noX_n, noX_v, noX_m, noX_u, noX_x, finX_s, finX_n, dBreak_e, dCont_e, rngD_z, rngD_s, dTrue_e, dLc_e, loopC_n, loopC_k, goC_s, goC_o, eleC_e, bindX_o, loopF_c, wipeE_n, wipeE_c, restE_n, restE_c, okOwn_n, okOwn_c, dTry_e, runH_n, runH_c, dRaise_e, dXf_e, shp_i, shp_b, shp_o, shp_s, shp_t, shp_l, shp_f, shps_n, shps_c, gEq_ci, gNe_ci, gEq_cb, gNe_cb, gEq_cs, gNe_cs, gEq_co, gNe_co, gEq_ct, gNe_ct, gEq_cl, gNe_cl, gEq_cf, gNe_cf, deq_ii, deq_bb, deq_bi, deq_ib, deq_ss, deq_tt, deq_ll, deq_lf, deq_fl, deq_ff, deq_oo, deqs_nn, deqs_cc, deqs_nc, deqs_cn, deq_oi, deq_io, deq_ob, deq_bo, deq_os, deq_so, deq_ot, deq_to, deq_ol, deq_lo, deq_it, deq_ti, deq_il, deq_li, deq_is, deq_si, deq_tl, deq_lt, deq_ts, deq_st, deq_ls, deq_sl, deq_bt, deq_tb, deq_bs, deq_sb, tru_b, tru_l, tru_t, tru_i, tru_o, ni_i, ni_b, ni_s, ni_o, ni_t, ni_l, ni_f, isTs_n, isTs_c, isT_i, isT_b, isT_s, isT_t, isT_l, isT_f, isT_o, gIs_n, gIs_bb, gIsNot_n, gIsNot_bb, isN_o, isN_i, isN_b, isN_s, isN_t, isN_l, isN_f, gList_t, gList_l, gList_f, gTuple_l, gTuple_f, gTuple_t, gIx_t, gIx_l, gIx_f, gSl_t, gSl_l, gSl_f, gEqS_e, gNeS_e, st_ok, st_err, st_bad, fl_m, fl_i, fl_b, fl_s, fl_o, fl_t, fl_l, fl_f, fl_n, fl_g, frzAr_n, frzAr_v, frzAr_s, hasS_n, hasS_v, hasS_s, vb_e, at4, at5, at6, at7, at8, at9, at10, at11, at12, atm1_1, atm1_2, atm1_3, atm1_4, atm1_5, atm1_6, atm1_7, atm1_8, ixq1_0, ixq2_0, ixq2_1, ixq3_0, ixq3_1, ixq3_2, ixq4_0, ixq4_1, ixq4_2, ixq4_3, ixq5_0, ixq5_1, ixq5_2, ixq5_3, ixq5_4, ixq6_0, ixq6_1, ixq6_2, ixq6_3, ixq6_4, ixq6_5, ixq7_0, ixq7_1, ixq7_2, ixq7_3, ixq7_4, ixq7_5, ixq7_6, ixq8_0, ixq8_1, ixq8_2, ixq8_3, ixq8_4, ixq8_5, ixq8_6, ixq8_7, Res.bind_ok, Res.bind_err, Res.bind_bad, List.getElem?_cons_zero, List.getElem?_cons_succ, List.set_cons_zero, List.set_cons_succ, List.map_cons, List.map_nil, List.cons_append, List.nil_append, List.append_nil, List.length_cons, List.length_nil, List.replicate, List.take, if_true, if_false, ite_true, ite_false, reduceIte, Nat.reduceAdd, Nat.reduceSub, Nat.reduceLeDiff, Bool.false_eq_true, Nat.reduceEqDiff, Nat.add_eq, Nat.add_zero, Nat.zero_add, Option.bind_some, Option.map_some, Nat.sub_self, eq_self, and_self, and_true, true_and, Bool.and_true, Bool.true_and, Bool.and_false, Bool.false_and, Bool.or_true, Bool.true_or, Bool.or_false, Bool.false_or, Bool.not_true, Bool.not_false, String.reduceBEq, decide_true, decide_false, List.reverse_cons, List.reverse_nil, List.isEmpty_cons, List.isEmpty_nil, Option.getD_some, Int.reduceLT, Int.reduceLE, Int.reduceEq, Int.reduceAdd, Int.reduceSub, Int.reduceMul, Int.reduceNeg, Nat.reduceLT, Nat.reduceMul, not_true_eq_false, not_false_eq_true, and_false, false_and, List.length_map, Int.natCast_zero, Int.reduceToNat, Int.cast_ofNat_Int, Int.reduceFDiv, Int.reduceFMod, Int.reduceBEq, Int.reduceBNe, Int.reduceNe, Nat.reduceBEq, Int.reducePow, L0, hr, hp, gDiv_i hd, gMod_i hm0]
    · obtain ⟨q, hq⟩ := mixed_ev ((t + 1).fmod 2147483549) k (Bd.ofR (b := 2147483549) (fmod_range (by decide)) (by decide)) bk
      have f1 := fmod_range (a := t + 1) (b := 2147483549) (by decide)
      refine ⟨q.fmod m, [.lst (cs.map .int), .int k, .int r, .int ((t + 1).fmod 2147483549)], ?_, ⟨cs, k, r, _, rfl, hl, k0, k1, f1.1, f1.2⟩, (fmod_range hm).1, (fmod_range hm).2⟩
      simp only [fn__law_take, den__law_take, mkFn_a, finF, dC_a, dVar_a, dSlot_a, dMove_a, dLV_a, dFrz_a, frzE_val, frzE_mu, dVal_a, get_v, get_s, dBin_a, dNeg_a, dTB_a, dBT_a, dTru_a, dNotT_a, dAndT_a, dOrT_a, dAndV_a, dOrV_a, dNotL_a, dIf_a, dIfF_a, dChain_a, dVs_n, dVs_c, dArs_n, dArs_c, dTup_a, dLst_a, getAll_n, getAll_c, dCB_a, dCallR_a, dIsi_a, dSeq_a, dSkip_a, dIfS_a, dRet_a, dSet_a, dAsg_a, asN_a, asT_a, asT_l, asC_a, asNil_a, dPar_a, dPut_a, dExp_a, dApp_a, dFor_a, loopF_n, dIt_a, gDiv_i, gMul_i, gMod_i, gEq_int, gNe_int, at0, at1, at2, at3, gAdd_i, gSub_i, gLt_i, gLe_i, gGt_i, gGe_i, gInt_i, gLen_l, gLen_f, gLen_t, gAbs_i, its_l, its_t, its_f, mkFn_s, stF_rt, stF_nx, stF_er, dCall_s, dCall0_s, dCallK_s, dIsK_e, dAt_e, dRev_e, dPar3_e, dEnum_e, dZip_e, enumD_n, enumD_c, zipD_c, zipD_n, zipD_m, dRng1_e, dPs_e, dPn_e, dSl_e, frzS_e, noX_n, noX_v, noX_m, noX_u, noX_x, finX_s, finX_n, dBreak_e, dCont_e, rngD_z, rngD_s, dTrue_e, dLc_e, loopC_n, loopC_k, goC_s, goC_o, eleC_e, bindX_o, loopF_c, wipeE_n, wipeE_c, restE_n, restE_c, okOwn_n, okOwn_c, dTry_e, runH_n, runH_c, dRaise_e, dXf_e, shp_i, shp_b, shp_o, shp_s, shp_t, shp_l, shp_f, shps_n, shps_c, gEq_ci, gNe_ci, gEq_cb, gNe_cb, gEq_cs, gNe_cs, gEq_co, gNe_co, gEq_ct, gNe_ct, gEq_cl, gNe_cl, gEq_cf, gNe_cf, deq_ii, deq_bb, deq_bi, deq_ib, deq_ss, deq_tt, deq_ll, deq_lf, deq_fl, deq_ff, deq_oo, deqs_nn, deqs_cc, deqs_nc, deqs_cn, deq_oi, deq_io, deq_ob, deq_bo, deq_os, deq_so, deq_ot, deq_to, deq_ol, deq_lo, deq_it, deq_ti, deq_il, deq_li, deq_is, deq_si, deq_tl, deq_lt, deq_ts, deq_st, deq_ls, deq_sl, deq_bt, deq_tb, deq_bs, deq_sb, tru_b, tru_l, tru_t, tru_i, tru_o, ni_i, ni_b, ni_s, ni_o, ni_t, ni_l, ni_f, isTs_n, isTs_c, isT_i, isT_b, isT_s, isT_t, isT_l, isT_f, isT_o, gIs_n, gIs_bb, gIsNot_n, gIsNot_bb, isN_o, isN_i, isN_b, isN_s, isN_t, isN_l, isN_f, gList_t, gList_l, gList_f, gTuple_l, gTuple_f, gTuple_t, gIx_t, gIx_l, gIx_f, gSl_t, gSl_l, gSl_f, gEqS_e, gNeS_e, st_ok, st_err, st_bad, fl_m, fl_i, fl_b, fl_s, fl_o, fl_t, fl_l, fl_f, fl_n, fl_g, frzAr_n, frzAr_v, frzAr_s, hasS_n, hasS_v, hasS_s, vb_e, at4, at5, at6, at7, at8, at9, at10, at11, at12, atm1_1, atm1_2, atm1_3, atm1_4, atm1_5, atm1_6, atm1_7, atm1_8, ixq1_0, ixq2_0, ixq2_1, ixq3_0, ixq3_1, ixq3_2, ixq4_0, ixq4_1, ixq4_2, ixq4_3, ixq5_0, ixq5_1, ixq5_2, ixq5_3, ixq5_4, ixq6_0, ixq6_1, ixq6_2, ixq6_3, ixq6_4, ixq6_5, ixq7_0, ixq7_1, ixq7_2, ixq7_3, ixq7_4, ixq7_5, ixq7_6, ixq8_0, ixq8_1, ixq8_2, ixq8_3, ixq8_4, ixq8_5, ixq8_6, ixq8_7, Res.bind_ok, Res.bind_err, Res.bind_bad, List.getElem?_cons_zero, List.getElem?_cons_succ, List.set_cons_zero, List.set_cons_succ, List.map_cons, List.map_nil, List.cons_append, List.nil_append, List.append_nil, List.length_cons, List.length_nil, List.replicate, List.take, if_true, if_false, ite_true, ite_false, reduceIte, Nat.reduceAdd, Nat.reduceSub, Nat.reduceLeDiff, Bool.false_eq_true, Nat.reduceEqDiff, Nat.add_eq, Nat.add_zero, Nat.zero_add, Option.bind_some, Option.map_some, Nat.sub_self, eq_self, and_self, and_true, true_and, Bool.and_true, Bool.true_and, Bool.and_false, Bool.false_and, Bool.or_true, Bool.true_or, Bool.or_false, Bool.false_or, Bool.not_true, Bool.not_false, String.reduceBEq, decide_true, decide_false, List.reverse_cons, List.reverse_nil, List.isEmpty_cons, List.isEmpty_nil, Option.getD_some, Int.reduceLT, Int.reduceLE, Int.reduceEq, Int.reduceAdd, Int.reduceSub, Int.reduceMul, Int.reduceNeg, Nat.reduceLT, Nat.reduceMul, not_true_eq_false, not_false_eq_true, and_false, false_and, List.length_map, Int.natCast_zero, Int.reduceToNat, Int.cast_ofNat_Int, Int.reduceFDiv, Int.reduceFMod, Int.reduceBEq, Int.reduceBNe, Int.reduceNe, Nat.reduceBEq, Int.reducePow, L0, hr, hp, gMod_i z2, gMod_i hm0, hq]
theorem hand_loop : ∀ (ns : List Int) (f e3 : Ent) (tot : Int) (acc : List Int), 0 ≤ tot → tot < 2147483549 → acc.length + ns.length ≤ 63 → ∃ (t : Int) (e : Ent), loopF (asN 3) bd__law_hand_1 (ns.map .int) [f, .val (.int tot), .mu (acc.map .int), e3] = .ok .nx [f, .val (.int t), .mu ((acc ++ ns.map fun z => (z.natAbs : Int)).map .int), e] ∧ 0 ≤ t ∧ t < 2147483549
  | [], f, e3, tot, acc, h0, h1, hl => ⟨tot, e3, by rw [List.map_nil, List.map_nil, List.append_nil]; rfl, h0, h1⟩
  | z :: ns, f, e3, tot, acc, h0, h1, hl => by
    rw [List.length_cons] at hl
    have r := fmod_range (a := tot * 1103 + z) (b := 2147483549) (by decide)
    obtain ⟨t, e, ih, t0, t1⟩ := hand_loop ns f (.val (.int z)) ((tot * 1103 + z).fmod 2147483549) (acc ++ [(z.natAbs : Int)]) r.1 r.2 (by rw [List.length_append, List.length_singleton]; omega)
    refine ⟨t, e, ?_, t0, t1⟩
    have m1 : mulOk tot 1103 = true := mulOk_of (k := 39) (m := 39) (Bd.ofR (b := 2147483549) ⟨h0, h1⟩ (by decide)) .lit (by decide)
    have z2 : (2147483549 : Int) ≠ 0 := by decide
    have l1 : acc.length < 1000000 := by omega
    rw [List.map_append, List.map_cons, List.map_nil, List.append_assoc] at ih
    rw [List.map_cons, loopF_c, List.map_cons]
    simp only [bd__law_hand_1, dC_a, dVar_a, dSlot_a, dMove_a, dLV_a, dFrz_a, frzE_val, frzE_mu, dVal_a, get_v, get_s, dBin_a, dNeg_a, dTB_a, dBT_a, dTru_a, dNotT_a, dAndT_a, dOrT_a, dAndV_a, dOrV_a, dNotL_a, dIf_a, dIfF_a, dChain_a, dVs_n, dVs_c, dArs_n, dArs_c, dTup_a, dLst_a, getAll_n, getAll_c, dCB_a, dCallR_a, dIsi_a, dSeq_a, dSkip_a, dIfS_a, dRet_a, dSet_a, dAsg_a, asN_a, asT_a, asT_l, asC_a, asNil_a, dPar_a, dPut_a, dExp_a, dApp_a, dFor_a, loopF_n, dIt_a, gDiv_i, gMul_i, gMod_i, gEq_int, gNe_int, at0, at1, at2, at3, gAdd_i, gSub_i, gLt_i, gLe_i, gGt_i, gGe_i, gInt_i, gLen_l, gLen_f, gLen_t, gAbs_i, its_l, its_t, its_f, mkFn_s, stF_rt, stF_nx, stF_er, dCall_s, dCall0_s, dCallK_s, dIsK_e, dAt_e, dRev_e, dPar3_e, dEnum_e, dZip_e, enumD_n, enumD_c, zipD_c, zipD_n, zipD_m, dRng1_e, dPs_e, dPn_e, dSl_e, frzS_e, noX_n, noX_v, noX_m, noX_u, noX_x, finX_s, finX_n, dBreak_e, dCont_e, rngD_z, rngD_s, dTrue_e, dLc_e, loopC_n, loopC_k, goC_s, goC_o, eleC_e, bindX_o, loopF_c, wipeE_n, wipeE_c, restE_n, restE_c, okOwn_n, okOwn_c, dTry_e, runH_n, runH_c, dRaise_e, dXf_e, shp_i, shp_b, shp_o, shp_s, shp_t, shp_l, shp_f, shps_n, shps_c, gEq_ci, gNe_ci, gEq_cb, gNe_cb, gEq_cs, gNe_cs, gEq_co, gNe_co, gEq_ct, gNe_ct, gEq_cl, gNe_cl, gEq_cf, gNe_cf, deq_ii, deq_bb, deq_bi, deq_ib, deq_ss, deq_tt, deq_ll, deq_lf, deq_fl, deq_ff, deq_oo, deqs_nn, deqs_cc, deqs_nc, deqs_cn, deq_oi, deq_io, deq_ob, deq_bo, deq_os, deq_so, deq_ot, deq_to, deq_ol, deq_lo, deq_it, deq_ti, deq_il, deq_li, deq_is, deq_si, deq_tl, deq_lt, deq_ts, deq_st, deq_ls, deq_sl, deq_bt, deq_tb, deq_bs, deq_sb, tru_b, tru_l, tru_t, tru_i, tru_o, ni_i, ni_b, ni_s, ni_o, ni_t, ni_l, ni_f, isTs_n, isTs_c, isT_i, isT_b, isT_s, isT_t, isT_l, isT_f, isT_o, gIs_n, gIs_bb, gIsNot_n, gIsNot_bb, isN_o, isN_i, isN_b, isN_s, isN_t, isN_l, isN_f, gList_t, gList_l, gList_f, gTuple_l, gTuple_f, gTuple_t, gIx_t, gIx_l, gIx_f, gSl_t, gSl_l, gSl_f, gEqS_e, gNeS_e, st_ok, st_err, st_bad, fl_m, fl_i, fl_b, fl_s, fl_o, fl_t, fl_l, fl_f, fl_n, fl_g, frzAr_n, frzAr_v, frzAr_s, hasS_n, hasS_v, hasS_s, vb_e, at4, at5, at6, at7, at8, at9, at10, at11, at12, atm1_1, atm1_2, atm1_3, atm1_4, atm1_5, atm1_6, atm1_7, atm1_8, ixq1_0, ixq2_0, ixq2_1, ixq3_0, ixq3_1, ixq3_2, ixq4_0, ixq4_1, ixq4_2, ixq4_3, ixq5_0, ixq5_1, ixq5_2, ixq5_3, ixq5_4, ixq6_0, ixq6_1, ixq6_2, ixq6_3, ixq6_4, ixq6_5, ixq7_0, ixq7_1, ixq7_2, ixq7_3, ixq7_4, ixq7_5, ixq7_6, ixq8_0, ixq8_1, ixq8_2, ixq8_3, ixq8_4, ixq8_5, ixq8_6, ixq8_7, Res.bind_ok, Res.bind_err, Res.bind_bad, List.getElem?_cons_zero, List.getElem?_cons_succ, List.set_cons_zero, List.set_cons_succ, List.map_cons, List.map_nil, List.cons_append, List.nil_append, List.append_nil, List.length_cons, List.length_nil, List.replicate, List.take, if_true, if_false, ite_true, ite_false, reduceIte, Nat.reduceAdd, Nat.reduceSub, Nat.reduceLeDiff, Bool.false_eq_true, Nat.reduceEqDiff, Nat.add_eq, Nat.add_zero, Nat.zero_add, Option.bind_some, Option.map_some, Nat.sub_self, eq_self, and_self, and_true, true_and, Bool.and_true, Bool.true_and, Bool.and_false, Bool.false_and, Bool.or_true, Bool.true_or, Bool.or_false, Bool.false_or, Bool.not_true, Bool.not_false, String.reduceBEq, decide_true, decide_false, List.reverse_cons, List.reverse_nil, List.isEmpty_cons, List.isEmpty_nil, Option.getD_some, Int.reduceLT, Int.reduceLE, Int.reduceEq, Int.reduceAdd, Int.reduceSub, Int.reduceMul, Int.reduceNeg, Nat.reduceLT, Nat.reduceMul, not_true_eq_false, not_false_eq_true, and_false, false_and, List.length_map, Int.natCast_zero, Int.reduceToNat, Int.cast_ofNat_Int, Int.reduceFDiv, Int.reduceFMod, Int.reduceBEq, Int.reduceBNe, Int.reduceNe, Nat.reduceBEq, Int.reducePow, gMul_i m1, gMod_i z2, l1]
    exact ih
theorem hand_ev (ns : List Int) (h : ns.length ≤ 63) : ∃ xs, (fn__law_hand [.val (.fl (ns.map .int))]).st = .ok (.mu xs) [] ∧ HandOk xs := by
  have m1 : mulOk 3 (ns.length : Int) = true := mulOk_of (k := 39) (m := 39) .lit (Bd.nat (Nat.lt_of_le_of_lt h (by decide))) (by decide)
  obtain ⟨t, e, hl, t0, t1⟩ := hand_loop ns (.val (.fl (ns.map .int))) .un (3 * (ns.length : Int) + 71) [] (by omega) (by omega) (by simpa using h)
  rw [List.nil_append, List.map_nil] at hl
  refine ⟨[.lst ((ns.map fun z => (z.natAbs : Int)).map .int), .int 0, .int 0, .int t], ?_, ns.map fun z => (z.natAbs : Int), 0, 0, t, rfl, by rw [List.length_map]; exact h, by omega, by omega, t0, t1⟩
  simp only [fn__law_hand, den__law_hand, dC_a, dVar_a, dSlot_a, dMove_a, dLV_a, dFrz_a, frzE_val, frzE_mu, dVal_a, get_v, get_s, dBin_a, dNeg_a, dTB_a, dBT_a, dTru_a, dNotT_a, dAndT_a, dOrT_a, dAndV_a, dOrV_a, dNotL_a, dIf_a, dIfF_a, dChain_a, dVs_n, dVs_c, dArs_n, dArs_c, dTup_a, dLst_a, getAll_n, getAll_c, dCB_a, dCallR_a, dIsi_a, dSeq_a, dSkip_a, dIfS_a, dRet_a, dSet_a, dAsg_a, asN_a, asT_a, asT_l, asC_a, asNil_a, dPar_a, dPut_a, dExp_a, dApp_a, dFor_a, loopF_n, dIt_a, gDiv_i, gMul_i, gMod_i, gEq_int, gNe_int, at0, at1, at2, at3, gAdd_i, gSub_i, gLt_i, gLe_i, gGt_i, gGe_i, gInt_i, gLen_l, gLen_f, gLen_t, gAbs_i, its_l, its_t, its_f, mkFn_s, stF_rt, stF_nx, stF_er, dCall_s, dCall0_s, dCallK_s, dIsK_e, dAt_e, dRev_e, dPar3_e, dEnum_e, dZip_e, enumD_n, enumD_c, zipD_c, zipD_n, zipD_m, dRng1_e, dPs_e, dPn_e, dSl_e, frzS_e, noX_n, noX_v, noX_m, noX_u, noX_x, finX_s, finX_n, dBreak_e, dCont_e, rngD_z, rngD_s, dTrue_e, dLc_e, loopC_n, loopC_k, goC_s, goC_o, eleC_e, bindX_o, loopF_c, wipeE_n, wipeE_c, restE_n, restE_c, okOwn_n, okOwn_c, dTry_e, runH_n, runH_c, dRaise_e, dXf_e, shp_i, shp_b, shp_o, shp_s, shp_t, shp_l, shp_f, shps_n, shps_c, gEq_ci, gNe_ci, gEq_cb, gNe_cb, gEq_cs, gNe_cs, gEq_co, gNe_co, gEq_ct, gNe_ct, gEq_cl, gNe_cl, gEq_cf, gNe_cf, deq_ii, deq_bb, deq_bi, deq_ib, deq_ss, deq_tt, deq_ll, deq_lf, deq_fl, deq_ff, deq_oo, deqs_nn, deqs_cc, deqs_nc, deqs_cn, deq_oi, deq_io, deq_ob, deq_bo, deq_os, deq_so, deq_ot, deq_to, deq_ol, deq_lo, deq_it, deq_ti, deq_il, deq_li, deq_is, deq_si, deq_tl, deq_lt, deq_ts, deq_st, deq_ls, deq_sl, deq_bt, deq_tb, deq_bs, deq_sb, tru_b, tru_l, tru_t, tru_i, tru_o, ni_i, ni_b, ni_s, ni_o, ni_t, ni_l, ni_f, isTs_n, isTs_c, isT_i, isT_b, isT_s, isT_t, isT_l, isT_f, isT_o, gIs_n, gIs_bb, gIsNot_n, gIsNot_bb, isN_o, isN_i, isN_b, isN_s, isN_t, isN_l, isN_f, gList_t, gList_l, gList_f, gTuple_l, gTuple_f, gTuple_t, gIx_t, gIx_l, gIx_f, gSl_t, gSl_l, gSl_f, gEqS_e, gNeS_e, st_ok, st_err, st_bad, fl_m, fl_i, fl_b, fl_s, fl_o, fl_t, fl_l, fl_f, fl_n, fl_g, frzAr_n, frzAr_v, frzAr_s, hasS_n, hasS_v, hasS_s, vb_e, at4, at5, at6, at7, at8, at9, at10, at11, at12, atm1_1, atm1_2, atm1_3, atm1_4, atm1_5, atm1_6, atm1_7, atm1_8, ixq1_0, ixq2_0, ixq2_1, ixq3_0, ixq3_1, ixq3_2, ixq4_0, ixq4_1, ixq4_2, ixq4_3, ixq5_0, ixq5_1, ixq5_2, ixq5_3, ixq5_4, ixq6_0, ixq6_1, ixq6_2, ixq6_3, ixq6_4, ixq6_5, ixq7_0, ixq7_1, ixq7_2, ixq7_3, ixq7_4, ixq7_5, ixq7_6, ixq8_0, ixq8_1, ixq8_2, ixq8_3, ixq8_4, ixq8_5, ixq8_6, ixq8_7, Res.bind_ok, Res.bind_err, Res.bind_bad, List.getElem?_cons_zero, List.getElem?_cons_succ, List.set_cons_zero, List.set_cons_succ, List.map_cons, List.map_nil, List.cons_append, List.nil_append, List.append_nil, List.length_cons, List.length_nil, List.replicate, List.take, if_true, if_false, ite_true, ite_false, reduceIte, Nat.reduceAdd, Nat.reduceSub, Nat.reduceLeDiff, Bool.false_eq_true, Nat.reduceEqDiff, Nat.add_eq, Nat.add_zero, Nat.zero_add, Option.bind_some, Option.map_some, Nat.sub_self, eq_self, and_self, and_true, true_and, Bool.and_true, Bool.true_and, Bool.and_false, Bool.false_and, Bool.or_true, Bool.true_or, Bool.or_false, Bool.false_or, Bool.not_true, Bool.not_false, String.reduceBEq, decide_true, decide_false, List.reverse_cons, List.reverse_nil, List.isEmpty_cons, List.isEmpty_nil, Option.getD_some, Int.reduceLT, Int.reduceLE, Int.reduceEq, Int.reduceAdd, Int.reduceSub, Int.reduceMul, Int.reduceNeg, Nat.reduceLT, Nat.reduceMul, not_true_eq_false, not_false_eq_true, and_false, false_and, List.length_map, Int.natCast_zero, Int.reduceToNat, Int.cast_ofNat_Int, Int.reduceFDiv, Int.reduceFMod, Int.reduceBEq, Int.reduceBNe, Int.reduceNe, Nat.reduceBEq, Int.reducePow, gMul_i m1, hl]
end Kx

set_option linter.all false
set_option maxRecDepth 100000
set_option maxHeartbeats 4000000
namespace Kx
open PySem PySem.Spec PyProof.Rows L2 Ev
theorem common_loop : ∀ (n y x : Nat), y ≤ n → ∃ z, dWhile cd__law_common_1 bd__law_common_2 [.val (.int x), .val (.int y)] = .ok .nx [.val (.int (Nat.gcd x y : Nat)), z]
  | n, 0, x, _ => by
    refine ⟨.val (.int 0), ?_⟩
    rw [dWhile_end (e := [.val (.int x), .val (.int 0)])]
    · rw [Nat.gcd_zero_right]
    · simp only [cd__law_common_1, dC_a, dVar_a, dSlot_a, dMove_a, dLV_a, dFrz_a, frzE_val, frzE_mu, dVal_a, get_v, get_s, dBin_a, dNeg_a, dTB_a, dBT_a, dTru_a, dNotT_a, dAndT_a, dOrT_a, dAndV_a, dOrV_a, dNotL_a, dIf_a, dIfF_a, dChain_a, dVs_n, dVs_c, dArs_n, dArs_c, dTup_a, dLst_a, getAll_n, getAll_c, dCB_a, dCallR_a, dIsi_a, dSeq_a, dSkip_a, dIfS_a, dRet_a, dSet_a, dAsg_a, asN_a, asT_a, asT_l, asC_a, asNil_a, dPar_a, dPut_a, dExp_a, dApp_a, dFor_a, loopF_n, dIt_a, gDiv_i, gMul_i, gMod_i, gEq_int, gNe_int, at0, at1, at2, at3, gAdd_i, gSub_i, gLt_i, gLe_i, gGt_i, gGe_i, gInt_i, gLen_l, gLen_f, gLen_t, gAbs_i, its_l, its_t, its_f, mkFn_s, stF_rt, stF_nx, stF_er, dCall_s, dCall0_s, dCallK_s, dIsK_e, dAt_e, dRev_e, dPar3_e, dEnum_e, dZip_e, enumD_n, enumD_c, zipD_c, zipD_n, zipD_m, dRng1_e, dPs_e, dPn_e, dSl_e, frzS_e, noX_n, noX_v, noX_m, noX_u, noX_x, finX_s, finX_n, dBreak_e, dCont_e, rngD_z, rngD_s, dTrue_e, dLc_e, loopC_n, loopC_k, goC_s, goC_o, eleC_e, bindX_o, loopF_c, wipeE_n, wipeE_c, restE_n, restE_c, okOwn_n, okOwn_c, dTry_e, runH_n, runH_c, dRaise_e, dXf_e, shp_i, shp_b, shp_o, shp_s, shp_t, shp_l, shp_f, shps_n, shps_c, gEq_ci, gNe_ci, gEq_cb, gNe_cb, gEq_cs, gNe_cs, gEq_co, gNe_co, gEq_ct, gNe_ct, gEq_cl, gNe_cl, gEq_cf, gNe_cf, deq_ii, deq_bb, deq_bi, deq_ib, deq_ss, deq_tt, deq_ll, deq_lf, deq_fl, deq_ff, deq_oo, deqs_nn, deqs_cc, deqs_nc, deqs_cn, deq_oi, deq_io, deq_ob, deq_bo, deq_os, deq_so, deq_ot, deq_to, deq_ol, deq_lo, deq_it, deq_ti, deq_il, deq_li, deq_is, deq_si, deq_tl, deq_lt, deq_ts, deq_st, deq_ls, deq_sl, deq_bt, deq_tb, deq_bs, deq_sb, tru_b, tru_l, tru_t, tru_i, tru_o, ni_i, ni_b, ni_s, ni_o, ni_t, ni_l, ni_f, isTs_n, isTs_c, isT_i, isT_b, isT_s, isT_t, isT_l, isT_f, isT_o, gIs_n, gIs_bb, gIsNot_n, gIsNot_bb, isN_o, isN_i, isN_b, isN_s, isN_t, isN_l, isN_f, gList_t, gList_l, gList_f, gTuple_l, gTuple_f, gTuple_t, gIx_t, gIx_l, gIx_f, gSl_t, gSl_l, gSl_f, gEqS_e, gNeS_e, st_ok, st_err, st_bad, fl_m, fl_i, fl_b, fl_s, fl_o, fl_t, fl_l, fl_f, fl_n, fl_g, frzAr_n, frzAr_v, frzAr_s, hasS_n, hasS_v, hasS_s, vb_e, at4, at5, at6, at7, at8, at9, at10, at11, at12, atm1_1, atm1_2, atm1_3, atm1_4, atm1_5, atm1_6, atm1_7, atm1_8, ixq1_0, ixq2_0, ixq2_1, ixq3_0, ixq3_1, ixq3_2, ixq4_0, ixq4_1, ixq4_2, ixq4_3, ixq5_0, ixq5_1, ixq5_2, ixq5_3, ixq5_4, ixq6_0, ixq6_1, ixq6_2, ixq6_3, ixq6_4, ixq6_5, ixq7_0, ixq7_1, ixq7_2, ixq7_3, ixq7_4, ixq7_5, ixq7_6, ixq8_0, ixq8_1, ixq8_2, ixq8_3, ixq8_4, ixq8_5, ixq8_6, ixq8_7, Res.bind_ok, Res.bind_err, Res.bind_bad, List.getElem?_cons_zero, List.getElem?_cons_succ, List.set_cons_zero, List.set_cons_succ, List.map_cons, List.map_nil, List.cons_append, List.nil_append, List.append_nil, List.length_cons, List.length_nil, List.replicate, List.take, if_true, if_false, ite_true, ite_false, reduceIte, Nat.reduceAdd, Nat.reduceSub, Nat.reduceLeDiff, Bool.false_eq_true, Nat.reduceEqDiff, Nat.add_eq, Nat.add_zero, Nat.zero_add, Option.bind_some, Option.map_some, Nat.sub_self, eq_self, and_self, and_true, true_and, Bool.and_true, Bool.true_and, Bool.and_false, Bool.false_and, Bool.or_true, Bool.true_or, Bool.or_false, Bool.false_or, Bool.not_true, Bool.not_false, String.reduceBEq, decide_true, decide_false, List.reverse_cons, List.reverse_nil, List.isEmpty_cons, List.isEmpty_nil, Option.getD_some, Int.reduceLT, Int.reduceLE, Int.reduceEq, Int.reduceAdd, Int.reduceSub, Int.reduceMul, Int.reduceNeg, Nat.reduceLT, Nat.reduceMul, not_true_eq_false, not_false_eq_true, and_false, false_and, List.length_map, Int.natCast_zero, Int.reduceToNat, Int.cast_ofNat_Int, Int.reduceFDiv, Int.reduceFMod, Int.reduceBEq, Int.reduceBNe, Int.reduceNe, Nat.reduceBEq, Int.reducePow, Int.lt_irrefl, Int.ofNat_zero]
  | 0, y + 1, x, h => absurd h (by omega)
  | n + 1, y + 1, x, h => by
    have z : ((y + 1 : Nat) : Int) ≠ 0 := by omega
    have p : (0 : Int) < ((y + 1 : Nat) : Int) := by omega
    have e : ((x : Int)).fmod ((y + 1 : Nat) : Int) = ((x % (y + 1) : Nat) : Int) := by
      rw [Int.fmod_eq_emod_of_nonneg _ (by omega)]
      exact (Int.natCast_emod x (y + 1)).symm
    obtain ⟨q, ih⟩ := common_loop n (x % (y + 1)) (y + 1) (by have := Nat.mod_lt x (y := y + 1) (by omega); omega)
    refine ⟨q, ?_⟩
    rw [dWhile_turn (e := [.val (.int x), .val (.int ((y + 1 : Nat) : Int))]) (e2 := [.val (.int ((y + 1 : Nat) : Int)), .val (.int ((x % (y + 1) : Nat) : Int))])]
    · rw [ih, Nat.gcd_comm (y + 1), ← Nat.gcd_rec, Nat.gcd_comm]
    · simp only [cd__law_common_1, dC_a, dVar_a, dSlot_a, dMove_a, dLV_a, dFrz_a, frzE_val, frzE_mu, dVal_a, get_v, get_s, dBin_a, dNeg_a, dTB_a, dBT_a, dTru_a, dNotT_a, dAndT_a, dOrT_a, dAndV_a, dOrV_a, dNotL_a, dIf_a, dIfF_a, dChain_a, dVs_n, dVs_c, dArs_n, dArs_c, dTup_a, dLst_a, getAll_n, getAll_c, dCB_a, dCallR_a, dIsi_a, dSeq_a, dSkip_a, dIfS_a, dRet_a, dSet_a, dAsg_a, asN_a, asT_a, asT_l, asC_a, asNil_a, dPar_a, dPut_a, dExp_a, dApp_a, dFor_a, loopF_n, dIt_a, gDiv_i, gMul_i, gMod_i, gEq_int, gNe_int, at0, at1, at2, at3, gAdd_i, gSub_i, gLt_i, gLe_i, gGt_i, gGe_i, gInt_i, gLen_l, gLen_f, gLen_t, gAbs_i, its_l, its_t, its_f, mkFn_s, stF_rt, stF_nx, stF_er, dCall_s, dCall0_s, dCallK_s, dIsK_e, dAt_e, dRev_e, dPar3_e, dEnum_e, dZip_e, enumD_n, enumD_c, zipD_c, zipD_n, zipD_m, dRng1_e, dPs_e, dPn_e, dSl_e, frzS_e, noX_n, noX_v, noX_m, noX_u, noX_x, finX_s, finX_n, dBreak_e, dCont_e, rngD_z, rngD_s, dTrue_e, dLc_e, loopC_n, loopC_k, goC_s, goC_o, eleC_e, bindX_o, loopF_c, wipeE_n, wipeE_c, restE_n, restE_c, okOwn_n, okOwn_c, dTry_e, runH_n, runH_c, dRaise_e, dXf_e, shp_i, shp_b, shp_o, shp_s, shp_t, shp_l, shp_f, shps_n, shps_c, gEq_ci, gNe_ci, gEq_cb, gNe_cb, gEq_cs, gNe_cs, gEq_co, gNe_co, gEq_ct, gNe_ct, gEq_cl, gNe_cl, gEq_cf, gNe_cf, deq_ii, deq_bb, deq_bi, deq_ib, deq_ss, deq_tt, deq_ll, deq_lf, deq_fl, deq_ff, deq_oo, deqs_nn, deqs_cc, deqs_nc, deqs_cn, deq_oi, deq_io, deq_ob, deq_bo, deq_os, deq_so, deq_ot, deq_to, deq_ol, deq_lo, deq_it, deq_ti, deq_il, deq_li, deq_is, deq_si, deq_tl, deq_lt, deq_ts, deq_st, deq_ls, deq_sl, deq_bt, deq_tb, deq_bs, deq_sb, tru_b, tru_l, tru_t, tru_i, tru_o, ni_i, ni_b, ni_s, ni_o, ni_t, ni_l, ni_f, isTs_n, isTs_c, isT_i, isT_b, isT_s, isT_t, isT_l, isT_f, isT_o, gIs_n, gIs_bb, gIsNot_n, gIsNot_bb, isN_o, isN_i, isN_b, isN_s, isN_t, isN_l, isN_f, gList_t, gList_l, gList_f, gTuple_l, gTuple_f, gTuple_t, gIx_t, gIx_l, gIx_f, gSl_t, gSl_l, gSl_f, gEqS_e, gNeS_e, st_ok, st_err, st_bad, fl_m, fl_i, fl_b, fl_s, fl_o, fl_t, fl_l, fl_f, fl_n, fl_g, frzAr_n, frzAr_v, frzAr_s, hasS_n, hasS_v, hasS_s, vb_e, at4, at5, at6, at7, at8, at9, at10, at11, at12, atm1_1, atm1_2, atm1_3, atm1_4, atm1_5, atm1_6, atm1_7, atm1_8, ixq1_0, ixq2_0, ixq2_1, ixq3_0, ixq3_1, ixq3_2, ixq4_0, ixq4_1, ixq4_2, ixq4_3, ixq5_0, ixq5_1, ixq5_2, ixq5_3, ixq5_4, ixq6_0, ixq6_1, ixq6_2, ixq6_3, ixq6_4, ixq6_5, ixq7_0, ixq7_1, ixq7_2, ixq7_3, ixq7_4, ixq7_5, ixq7_6, ixq8_0, ixq8_1, ixq8_2, ixq8_3, ixq8_4, ixq8_5, ixq8_6, ixq8_7, Res.bind_ok, Res.bind_err, Res.bind_bad, List.getElem?_cons_zero, List.getElem?_cons_succ, List.set_cons_zero, List.set_cons_succ, List.map_cons, List.map_nil, List.cons_append, List.nil_append, List.append_nil, List.length_cons, List.length_nil, List.replicate, List.take, if_true, if_false, ite_true, ite_false, reduceIte, Nat.reduceAdd, Nat.reduceSub, Nat.reduceLeDiff, Bool.false_eq_true, Nat.reduceEqDiff, Nat.add_eq, Nat.add_zero, Nat.zero_add, Option.bind_some, Option.map_some, Nat.sub_self, eq_self, and_self, and_true, true_and, Bool.and_true, Bool.true_and, Bool.and_false, Bool.false_and, Bool.or_true, Bool.true_or, Bool.or_false, Bool.false_or, Bool.not_true, Bool.not_false, String.reduceBEq, decide_true, decide_false, List.reverse_cons, List.reverse_nil, List.isEmpty_cons, List.isEmpty_nil, Option.getD_some, Int.reduceLT, Int.reduceLE, Int.reduceEq, Int.reduceAdd, Int.reduceSub, Int.reduceMul, Int.reduceNeg, Nat.reduceLT, Nat.reduceMul, not_true_eq_false, not_false_eq_true, and_false, false_and, List.length_map, Int.natCast_zero, Int.reduceToNat, Int.cast_ofNat_Int, Int.reduceFDiv, Int.reduceFMod, Int.reduceBEq, Int.reduceBNe, Int.reduceNe, Nat.reduceBEq, Int.reducePow, p]
    · refine .inl ?_
      simp only [bd__law_common_2, dC_a, dVar_a, dSlot_a, dMove_a, dLV_a, dFrz_a, frzE_val, frzE_mu, dVal_a, get_v, get_s, dBin_a, dNeg_a, dTB_a, dBT_a, dTru_a, dNotT_a, dAndT_a, dOrT_a, dAndV_a, dOrV_a, dNotL_a, dIf_a, dIfF_a, dChain_a, dVs_n, dVs_c, dArs_n, dArs_c, dTup_a, dLst_a, getAll_n, getAll_c, dCB_a, dCallR_a, dIsi_a, dSeq_a, dSkip_a, dIfS_a, dRet_a, dSet_a, dAsg_a, asN_a, asT_a, asT_l, asC_a, asNil_a, dPar_a, dPut_a, dExp_a, dApp_a, dFor_a, loopF_n, dIt_a, gDiv_i, gMul_i, gMod_i, gEq_int, gNe_int, at0, at1, at2, at3, gAdd_i, gSub_i, gLt_i, gLe_i, gGt_i, gGe_i, gInt_i, gLen_l, gLen_f, gLen_t, gAbs_i, its_l, its_t, its_f, mkFn_s, stF_rt, stF_nx, stF_er, dCall_s, dCall0_s, dCallK_s, dIsK_e, dAt_e, dRev_e, dPar3_e, dEnum_e, dZip_e, enumD_n, enumD_c, zipD_c, zipD_n, zipD_m, dRng1_e, dPs_e, dPn_e, dSl_e, frzS_e, noX_n, noX_v, noX_m, noX_u, noX_x, finX_s, finX_n, dBreak_e, dCont_e, rngD_z, rngD_s, dTrue_e, dLc_e, loopC_n, loopC_k, goC_s, goC_o, eleC_e, bindX_o, loopF_c, wipeE_n, wipeE_c, restE_n, restE_c, okOwn_n, okOwn_c, dTry_e, runH_n, runH_c, dRaise_e, dXf_e, shp_i, shp_b, shp_o, shp_s, shp_t, shp_l, shp_f, shps_n, shps_c, gEq_ci, gNe_ci, gEq_cb, gNe_cb, gEq_cs, gNe_cs, gEq_co, gNe_co, gEq_ct, gNe_ct, gEq_cl, gNe_cl, gEq_cf, gNe_cf, deq_ii, deq_bb, deq_bi, deq_ib, deq_ss, deq_tt, deq_ll, deq_lf, deq_fl, deq_ff, deq_oo, deqs_nn, deqs_cc, deqs_nc, deqs_cn, deq_oi, deq_io, deq_ob, deq_bo, deq_os, deq_so, deq_ot, deq_to, deq_ol, deq_lo, deq_it, deq_ti, deq_il, deq_li, deq_is, deq_si, deq_tl, deq_lt, deq_ts, deq_st, deq_ls, deq_sl, deq_bt, deq_tb, deq_bs, deq_sb, tru_b, tru_l, tru_t, tru_i, tru_o, ni_i, ni_b, ni_s, ni_o, ni_t, ni_l, ni_f, isTs_n, isTs_c, isT_i, isT_b, isT_s, isT_t, isT_l, isT_f, isT_o, gIs_n, gIs_bb, gIsNot_n, gIsNot_bb, isN_o, isN_i, isN_b, isN_s, isN_t, isN_l, isN_f, gList_t, gList_l, gList_f, gTuple_l, gTuple_f, gTuple_t, gIx_t, gIx_l, gIx_f, gSl_t, gSl_l, gSl_f, gEqS_e, gNeS_e, st_ok, st_err, st_bad, fl_m, fl_i, fl_b, fl_s, fl_o, fl_t, fl_l, fl_f, fl_n, fl_g, frzAr_n, frzAr_v, frzAr_s, hasS_n, hasS_v, hasS_s, vb_e, at4, at5, at6, at7, at8, at9, at10, at11, at12, atm1_1, atm1_2, atm1_3, atm1_4, atm1_5, atm1_6, atm1_7, atm1_8, ixq1_0, ixq2_0, ixq2_1, ixq3_0, ixq3_1, ixq3_2, ixq4_0, ixq4_1, ixq4_2, ixq4_3, ixq5_0, ixq5_1, ixq5_2, ixq5_3, ixq5_4, ixq6_0, ixq6_1, ixq6_2, ixq6_3, ixq6_4, ixq6_5, ixq7_0, ixq7_1, ixq7_2, ixq7_3, ixq7_4, ixq7_5, ixq7_6, ixq8_0, ixq8_1, ixq8_2, ixq8_3, ixq8_4, ixq8_5, ixq8_6, ixq8_7, Res.bind_ok, Res.bind_err, Res.bind_bad, List.getElem?_cons_zero, List.getElem?_cons_succ, List.set_cons_zero, List.set_cons_succ, List.map_cons, List.map_nil, List.cons_append, List.nil_append, List.append_nil, List.length_cons, List.length_nil, List.replicate, List.take, if_true, if_false, ite_true, ite_false, reduceIte, Nat.reduceAdd, Nat.reduceSub, Nat.reduceLeDiff, Bool.false_eq_true, Nat.reduceEqDiff, Nat.add_eq, Nat.add_zero, Nat.zero_add, Option.bind_some, Option.map_some, Nat.sub_self, eq_self, and_self, and_true, true_and, Bool.and_true, Bool.true_and, Bool.and_false, Bool.false_and, Bool.or_true, Bool.true_or, Bool.or_false, Bool.false_or, Bool.not_true, Bool.not_false, String.reduceBEq, decide_true, decide_false, List.reverse_cons, List.reverse_nil, List.isEmpty_cons, List.isEmpty_nil, Option.getD_some, Int.reduceLT, Int.reduceLE, Int.reduceEq, Int.reduceAdd, Int.reduceSub, Int.reduceMul, Int.reduceNeg, Nat.reduceLT, Nat.reduceMul, not_true_eq_false, not_false_eq_true, and_false, false_and, List.length_map, Int.natCast_zero, Int.reduceToNat, Int.cast_ofNat_Int, Int.reduceFDiv, Int.reduceFMod, Int.reduceBEq, Int.reduceBNe, Int.reduceNe, Nat.reduceBEq, Int.reducePow, gMod_i z, e]
theorem common_ev (a b : Int) : (fn__law_common [.val (.int a), .val (.int b)]).st = .ok (.val (.int (gc a b))) [] := by
  obtain ⟨z, h⟩ := common_loop b.natAbs b.natAbs a.natAbs (Nat.le_refl _)
  simp only [fn__law_common, den__law_common, dC_a, dVar_a, dSlot_a, dMove_a, dLV_a, dFrz_a, frzE_val, frzE_mu, dVal_a, get_v, get_s, dBin_a, dNeg_a, dTB_a, dBT_a, dTru_a, dNotT_a, dAndT_a, dOrT_a, dAndV_a, dOrV_a, dNotL_a, dIf_a, dIfF_a, dChain_a, dVs_n, dVs_c, dArs_n, dArs_c, dTup_a, dLst_a, getAll_n, getAll_c, dCB_a, dCallR_a, dIsi_a, dSeq_a, dSkip_a, dIfS_a, dRet_a, dSet_a, dAsg_a, asN_a, asT_a, asT_l, asC_a, asNil_a, dPar_a, dPut_a, dExp_a, dApp_a, dFor_a, loopF_n, dIt_a, gDiv_i, gMul_i, gMod_i, gEq_int, gNe_int, at0, at1, at2, at3, gAdd_i, gSub_i, gLt_i, gLe_i, gGt_i, gGe_i, gInt_i, gLen_l, gLen_f, gLen_t, gAbs_i, its_l, its_t, its_f, mkFn_s, stF_rt, stF_nx, stF_er, dCall_s, dCall0_s, dCallK_s, dIsK_e, dAt_e, dRev_e, dPar3_e, dEnum_e, dZip_e, enumD_n, enumD_c, zipD_c, zipD_n, zipD_m, dRng1_e, dPs_e, dPn_e, dSl_e, frzS_e, noX_n, noX_v, noX_m, noX_u, noX_x, finX_s, finX_n, dBreak_e, dCont_e, rngD_z, rngD_s, dTrue_e, dLc_e, loopC_n, loopC_k, goC_s, goC_o, eleC_e, bindX_o, loopF_c, wipeE_n, wipeE_c, restE_n, restE_c, okOwn_n, okOwn_c, dTry_e, runH_n, runH_c, dRaise_e, dXf_e, shp_i, shp_b, shp_o, shp_s, shp_t, shp_l, shp_f, shps_n, shps_c, gEq_ci, gNe_ci, gEq_cb, gNe_cb, gEq_cs, gNe_cs, gEq_co, gNe_co, gEq_ct, gNe_ct, gEq_cl, gNe_cl, gEq_cf, gNe_cf, deq_ii, deq_bb, deq_bi, deq_ib, deq_ss, deq_tt, deq_ll, deq_lf, deq_fl, deq_ff, deq_oo, deqs_nn, deqs_cc, deqs_nc, deqs_cn, deq_oi, deq_io, deq_ob, deq_bo, deq_os, deq_so, deq_ot, deq_to, deq_ol, deq_lo, deq_it, deq_ti, deq_il, deq_li, deq_is, deq_si, deq_tl, deq_lt, deq_ts, deq_st, deq_ls, deq_sl, deq_bt, deq_tb, deq_bs, deq_sb, tru_b, tru_l, tru_t, tru_i, tru_o, ni_i, ni_b, ni_s, ni_o, ni_t, ni_l, ni_f, isTs_n, isTs_c, isT_i, isT_b, isT_s, isT_t, isT_l, isT_f, isT_o, gIs_n, gIs_bb, gIsNot_n, gIsNot_bb, isN_o, isN_i, isN_b, isN_s, isN_t, isN_l, isN_f, gList_t, gList_l, gList_f, gTuple_l, gTuple_f, gTuple_t, gIx_t, gIx_l, gIx_f, gSl_t, gSl_l, gSl_f, gEqS_e, gNeS_e, st_ok, st_err, st_bad, fl_m, fl_i, fl_b, fl_s, fl_o, fl_t, fl_l, fl_f, fl_n, fl_g, frzAr_n, frzAr_v, frzAr_s, hasS_n, hasS_v, hasS_s, vb_e, at4, at5, at6, at7, at8, at9, at10, at11, at12, atm1_1, atm1_2, atm1_3, atm1_4, atm1_5, atm1_6, atm1_7, atm1_8, ixq1_0, ixq2_0, ixq2_1, ixq3_0, ixq3_1, ixq3_2, ixq4_0, ixq4_1, ixq4_2, ixq4_3, ixq5_0, ixq5_1, ixq5_2, ixq5_3, ixq5_4, ixq6_0, ixq6_1, ixq6_2, ixq6_3, ixq6_4, ixq6_5, ixq7_0, ixq7_1, ixq7_2, ixq7_3, ixq7_4, ixq7_5, ixq7_6, ixq8_0, ixq8_1, ixq8_2, ixq8_3, ixq8_4, ixq8_5, ixq8_6, ixq8_7, Res.bind_ok, Res.bind_err, Res.bind_bad, List.getElem?_cons_zero, List.getElem?_cons_succ, List.set_cons_zero, List.set_cons_succ, List.map_cons, List.map_nil, List.cons_append, List.nil_append, List.append_nil, List.length_cons, List.length_nil, List.replicate, List.take, if_true, if_false, ite_true, ite_false, reduceIte, Nat.reduceAdd, Nat.reduceSub, Nat.reduceLeDiff, Bool.false_eq_true, Nat.reduceEqDiff, Nat.add_eq, Nat.add_zero, Nat.zero_add, Option.bind_some, Option.map_some, Nat.sub_self, eq_self, and_self, and_true, true_and, Bool.and_true, Bool.true_and, Bool.and_false, Bool.false_and, Bool.or_true, Bool.true_or, Bool.or_false, Bool.false_or, Bool.not_true, Bool.not_false, String.reduceBEq, decide_true, decide_false, List.reverse_cons, List.reverse_nil, List.isEmpty_cons, List.isEmpty_nil, Option.getD_some, Int.reduceLT, Int.reduceLE, Int.reduceEq, Int.reduceAdd, Int.reduceSub, Int.reduceMul, Int.reduceNeg, Nat.reduceLT, Nat.reduceMul, not_true_eq_false, not_false_eq_true, and_false, false_and, List.length_map, Int.natCast_zero, Int.reduceToNat, Int.cast_ofNat_Int, Int.reduceFDiv, Int.reduceFMod, Int.reduceBEq, Int.reduceBNe, Int.reduceNe, Nat.reduceBEq, Int.reducePow, h]
theorem ratio_ev (a b : Int) (hb : 0 < b) (hk : BdL 3 b) : (fn__law_ratio [.val (.int a), .val (.int b)]).st = .ok (.val (rD (qv a b))) [] := by
  have h0 : b ≠ 0 := by omega
  simp only [fn__law_ratio, den__law_ratio, dC_a, dVar_a, dSlot_a, dMove_a, dLV_a, dFrz_a, frzE_val, frzE_mu, dVal_a, get_v, get_s, dBin_a, dNeg_a, dTB_a, dBT_a, dTru_a, dNotT_a, dAndT_a, dOrT_a, dAndV_a, dOrV_a, dNotL_a, dIf_a, dIfF_a, dChain_a, dVs_n, dVs_c, dArs_n, dArs_c, dTup_a, dLst_a, getAll_n, getAll_c, dCB_a, dCallR_a, dIsi_a, dSeq_a, dSkip_a, dIfS_a, dRet_a, dSet_a, dAsg_a, asN_a, asT_a, asT_l, asC_a, asNil_a, dPar_a, dPut_a, dExp_a, dApp_a, dFor_a, loopF_n, dIt_a, gDiv_i, gMul_i, gMod_i, gEq_int, gNe_int, at0, at1, at2, at3, gAdd_i, gSub_i, gLt_i, gLe_i, gGt_i, gGe_i, gInt_i, gLen_l, gLen_f, gLen_t, gAbs_i, its_l, its_t, its_f, mkFn_s, stF_rt, stF_nx, stF_er, dCall_s, dCall0_s, dCallK_s, dIsK_e, dAt_e, dRev_e, dPar3_e, dEnum_e, dZip_e, enumD_n, enumD_c, zipD_c, zipD_n, zipD_m, dRng1_e, dPs_e, dPn_e, dSl_e, frzS_e, noX_n, noX_v, noX_m, noX_u, noX_x, finX_s, finX_n, dBreak_e, dCont_e, rngD_z, rngD_s, dTrue_e, dLc_e, loopC_n, loopC_k, goC_s, goC_o, eleC_e, bindX_o, loopF_c, wipeE_n, wipeE_c, restE_n, restE_c, okOwn_n, okOwn_c, dTry_e, runH_n, runH_c, dRaise_e, dXf_e, shp_i, shp_b, shp_o, shp_s, shp_t, shp_l, shp_f, shps_n, shps_c, gEq_ci, gNe_ci, gEq_cb, gNe_cb, gEq_cs, gNe_cs, gEq_co, gNe_co, gEq_ct, gNe_ct, gEq_cl, gNe_cl, gEq_cf, gNe_cf, deq_ii, deq_bb, deq_bi, deq_ib, deq_ss, deq_tt, deq_ll, deq_lf, deq_fl, deq_ff, deq_oo, deqs_nn, deqs_cc, deqs_nc, deqs_cn, deq_oi, deq_io, deq_ob, deq_bo, deq_os, deq_so, deq_ot, deq_to, deq_ol, deq_lo, deq_it, deq_ti, deq_il, deq_li, deq_is, deq_si, deq_tl, deq_lt, deq_ts, deq_st, deq_ls, deq_sl, deq_bt, deq_tb, deq_bs, deq_sb, tru_b, tru_l, tru_t, tru_i, tru_o, ni_i, ni_b, ni_s, ni_o, ni_t, ni_l, ni_f, isTs_n, isTs_c, isT_i, isT_b, isT_s, isT_t, isT_l, isT_f, isT_o, gIs_n, gIs_bb, gIsNot_n, gIsNot_bb, isN_o, isN_i, isN_b, isN_s, isN_t, isN_l, isN_f, gList_t, gList_l, gList_f, gTuple_l, gTuple_f, gTuple_t, gIx_t, gIx_l, gIx_f, gSl_t, gSl_l, gSl_f, gEqS_e, gNeS_e, st_ok, st_err, st_bad, fl_m, fl_i, fl_b, fl_s, fl_o, fl_t, fl_l, fl_f, fl_n, fl_g, frzAr_n, frzAr_v, frzAr_s, hasS_n, hasS_v, hasS_s, vb_e, at4, at5, at6, at7, at8, at9, at10, at11, at12, atm1_1, atm1_2, atm1_3, atm1_4, atm1_5, atm1_6, atm1_7, atm1_8, ixq1_0, ixq2_0, ixq2_1, ixq3_0, ixq3_1, ixq3_2, ixq4_0, ixq4_1, ixq4_2, ixq4_3, ixq5_0, ixq5_1, ixq5_2, ixq5_3, ixq5_4, ixq6_0, ixq6_1, ixq6_2, ixq6_3, ixq6_4, ixq6_5, ixq7_0, ixq7_1, ixq7_2, ixq7_3, ixq7_4, ixq7_5, ixq7_6, ixq8_0, ixq8_1, ixq8_2, ixq8_3, ixq8_4, ixq8_5, ixq8_6, ixq8_7, Res.bind_ok, Res.bind_err, Res.bind_bad, List.getElem?_cons_zero, List.getElem?_cons_succ, List.set_cons_zero, List.set_cons_succ, List.map_cons, List.map_nil, List.cons_append, List.nil_append, List.append_nil, List.length_cons, List.length_nil, List.replicate, List.take, if_true, if_false, ite_true, ite_false, reduceIte, Nat.reduceAdd, Nat.reduceSub, Nat.reduceLeDiff, Bool.false_eq_true, Nat.reduceEqDiff, Nat.add_eq, Nat.add_zero, Nat.zero_add, Option.bind_some, Option.map_some, Nat.sub_self, eq_self, and_self, and_true, true_and, Bool.and_true, Bool.true_and, Bool.and_false, Bool.false_and, Bool.or_true, Bool.true_or, Bool.or_false, Bool.false_or, Bool.not_true, Bool.not_false, String.reduceBEq, decide_true, decide_false, List.reverse_cons, List.reverse_nil, List.isEmpty_cons, List.isEmpty_nil, Option.getD_some, Int.reduceLT, Int.reduceLE, Int.reduceEq, Int.reduceAdd, Int.reduceSub, Int.reduceMul, Int.reduceNeg, Nat.reduceLT, Nat.reduceMul, not_true_eq_false, not_false_eq_true, and_false, false_and, List.length_map, Int.natCast_zero, Int.reduceToNat, Int.cast_ofNat_Int, Int.reduceFDiv, Int.reduceFMod, Int.reduceBEq, Int.reduceBNe, Int.reduceNe, Nat.reduceBEq, Int.reducePow, common_ev, gDiv_i (gc_divL h0 hk (Nat.le_refl 3)), fdiv_pos (gc_pos h0), qr_eq hb]
theorem low_ev (a b : Int) (hb : 0 < b) (hk : BdL 3 b) : (fn_in_lowest [.val (.int a), .val (.int b)]).st = .ok (.val (rD (qv a b))) [] := by
  have hz : ¬ b < 0 := by omega
  have h0 : b ≠ 0 := by omega
  have g : gGcd [.int a, .int b] = some (.val (.int (gc a b))) := rfl
  simp only [fn_in_lowest, den_in_lowest, g, dC_a, dVar_a, dSlot_a, dMove_a, dLV_a, dFrz_a, frzE_val, frzE_mu, dVal_a, get_v, get_s, dBin_a, dNeg_a, dTB_a, dBT_a, dTru_a, dNotT_a, dAndT_a, dOrT_a, dAndV_a, dOrV_a, dNotL_a, dIf_a, dIfF_a, dChain_a, dVs_n, dVs_c, dArs_n, dArs_c, dTup_a, dLst_a, getAll_n, getAll_c, dCB_a, dCallR_a, dIsi_a, dSeq_a, dSkip_a, dIfS_a, dRet_a, dSet_a, dAsg_a, asN_a, asT_a, asT_l, asC_a, asNil_a, dPar_a, dPut_a, dExp_a, dApp_a, dFor_a, loopF_n, dIt_a, gDiv_i, gMul_i, gMod_i, gEq_int, gNe_int, at0, at1, at2, at3, gAdd_i, gSub_i, gLt_i, gLe_i, gGt_i, gGe_i, gInt_i, gLen_l, gLen_f, gLen_t, gAbs_i, its_l, its_t, its_f, mkFn_s, stF_rt, stF_nx, stF_er, dCall_s, dCall0_s, dCallK_s, dIsK_e, dAt_e, dRev_e, dPar3_e, dEnum_e, dZip_e, enumD_n, enumD_c, zipD_c, zipD_n, zipD_m, dRng1_e, dPs_e, dPn_e, dSl_e, frzS_e, noX_n, noX_v, noX_m, noX_u, noX_x, finX_s, finX_n, dBreak_e, dCont_e, rngD_z, rngD_s, dTrue_e, dLc_e, loopC_n, loopC_k, goC_s, goC_o, eleC_e, bindX_o, loopF_c, wipeE_n, wipeE_c, restE_n, restE_c, okOwn_n, okOwn_c, dTry_e, runH_n, runH_c, dRaise_e, dXf_e, shp_i, shp_b, shp_o, shp_s, shp_t, shp_l, shp_f, shps_n, shps_c, gEq_ci, gNe_ci, gEq_cb, gNe_cb, gEq_cs, gNe_cs, gEq_co, gNe_co, gEq_ct, gNe_ct, gEq_cl, gNe_cl, gEq_cf, gNe_cf, deq_ii, deq_bb, deq_bi, deq_ib, deq_ss, deq_tt, deq_ll, deq_lf, deq_fl, deq_ff, deq_oo, deqs_nn, deqs_cc, deqs_nc, deqs_cn, deq_oi, deq_io, deq_ob, deq_bo, deq_os, deq_so, deq_ot, deq_to, deq_ol, deq_lo, deq_it, deq_ti, deq_il, deq_li, deq_is, deq_si, deq_tl, deq_lt, deq_ts, deq_st, deq_ls, deq_sl, deq_bt, deq_tb, deq_bs, deq_sb, tru_b, tru_l, tru_t, tru_i, tru_o, ni_i, ni_b, ni_s, ni_o, ni_t, ni_l, ni_f, isTs_n, isTs_c, isT_i, isT_b, isT_s, isT_t, isT_l, isT_f, isT_o, gIs_n, gIs_bb, gIsNot_n, gIsNot_bb, isN_o, isN_i, isN_b, isN_s, isN_t, isN_l, isN_f, gList_t, gList_l, gList_f, gTuple_l, gTuple_f, gTuple_t, gIx_t, gIx_l, gIx_f, gSl_t, gSl_l, gSl_f, gEqS_e, gNeS_e, st_ok, st_err, st_bad, fl_m, fl_i, fl_b, fl_s, fl_o, fl_t, fl_l, fl_f, fl_n, fl_g, frzAr_n, frzAr_v, frzAr_s, hasS_n, hasS_v, hasS_s, vb_e, at4, at5, at6, at7, at8, at9, at10, at11, at12, atm1_1, atm1_2, atm1_3, atm1_4, atm1_5, atm1_6, atm1_7, atm1_8, ixq1_0, ixq2_0, ixq2_1, ixq3_0, ixq3_1, ixq3_2, ixq4_0, ixq4_1, ixq4_2, ixq4_3, ixq5_0, ixq5_1, ixq5_2, ixq5_3, ixq5_4, ixq6_0, ixq6_1, ixq6_2, ixq6_3, ixq6_4, ixq6_5, ixq7_0, ixq7_1, ixq7_2, ixq7_3, ixq7_4, ixq7_5, ixq7_6, ixq8_0, ixq8_1, ixq8_2, ixq8_3, ixq8_4, ixq8_5, ixq8_6, ixq8_7, Res.bind_ok, Res.bind_err, Res.bind_bad, List.getElem?_cons_zero, List.getElem?_cons_succ, List.set_cons_zero, List.set_cons_succ, List.map_cons, List.map_nil, List.cons_append, List.nil_append, List.append_nil, List.length_cons, List.length_nil, List.replicate, List.take, if_true, if_false, ite_true, ite_false, reduceIte, Nat.reduceAdd, Nat.reduceSub, Nat.reduceLeDiff, Bool.false_eq_true, Nat.reduceEqDiff, Nat.add_eq, Nat.add_zero, Nat.zero_add, Option.bind_some, Option.map_some, Nat.sub_self, eq_self, and_self, and_true, true_and, Bool.and_true, Bool.true_and, Bool.and_false, Bool.false_and, Bool.or_true, Bool.true_or, Bool.or_false, Bool.false_or, Bool.not_true, Bool.not_false, String.reduceBEq, decide_true, decide_false, List.reverse_cons, List.reverse_nil, List.isEmpty_cons, List.isEmpty_nil, Option.getD_some, Int.reduceLT, Int.reduceLE, Int.reduceEq, Int.reduceAdd, Int.reduceSub, Int.reduceMul, Int.reduceNeg, Nat.reduceLT, Nat.reduceMul, not_true_eq_false, not_false_eq_true, and_false, false_and, List.length_map, Int.natCast_zero, Int.reduceToNat, Int.cast_ofNat_Int, Int.reduceFDiv, Int.reduceFMod, Int.reduceBEq, Int.reduceBNe, Int.reduceNe, Nat.reduceBEq, Int.reducePow, hz, gDiv_i (gc_divL h0 hk (Nat.le_refl 3)), fdiv_pos (gc_pos h0), qr_eq hb]
end Kx

set_option linter.all false
set_option maxRecDepth 100000
set_option maxHeartbeats 4000000
namespace Kx
open PySem PySem.Spec PyProof.Rows L2 Ev
theorem bd_abs {n : Nat} {i j : Int} (h : BdL n j) (l : -j ≤ i ∧ i ≤ j) : BdL n i := Bd.of_le h (by omega)
theorem inv_loop (n M : Int) (hM : 0 < M) (bM : BdL 3 M) : ∀ (k l h : Nat) (one two : Int) (x6 : Ent), l ≤ k → l < h → (h : Int) ≤ M → Nat.gcd l h = 1 → M ∣ (l : Int) - one * n → M ∣ (h : Int) - two * n → (-M ≤ two ∧ two ≤ M) → ((0 ≤ one ∧ two ≤ 0 ∧ (h : Int) * one - (l : Int) * two = M) ∨ (one ≤ 0 ∧ 0 ≤ two ∧ (l : Int) * two - (h : Int) * one = M)) → ∃ z3 z4 t z6, dWhile cd_inverse_of_1 bd_inverse_of_2 [.val (.int n), .val (.int M), .val (.int l), .val (.int h), .val (.int one), .val (.int two), x6] = .ok .nx [.val (.int n), .val (.int M), .val (.int 0), z3, z4, .val (.int t), z6] ∧ M ∣ t * n - 1 ∧ -M ≤ t ∧ t ≤ M
  | k, 0, h, one, two, x6, _, _, _, hg, _, d2, b2, _ => by
    rw [Nat.gcd_zero_left] at hg
    subst hg
    refine ⟨.val (.int ((1 : Nat) : Int)), .val (.int one), two, x6, ?_, ?_, b2.1, b2.2⟩
    · rw [dWhile_end (e := [.val (.int n), .val (.int M), .val (.int 0), .val (.int ((1 : Nat) : Int)), .val (.int one), .val (.int two), x6])]
      simp (disch := first | assumption | decide | omega) only [cd_inverse_of_1, dC_a, dVar_a, dSlot_a, dMove_a, dLV_a, dFrz_a, frzE_val, frzE_mu, dVal_a, get_v, get_s, dBin_a, dNeg_a, dTB_a, dBT_a, dTru_a, dNotT_a, dAndT_a, dOrT_a, dAndV_a, dOrV_a, dNotL_a, dIf_a, dIfF_a, dChain_a, dVs_n, dVs_c, dArs_n, dArs_c, dTup_a, dLst_a, getAll_n, getAll_c, dCB_a, dCallR_a, dIsi_a, dSeq_a, dSkip_a, dIfS_a, dRet_a, dSet_a, dAsg_a, asN_a, asT_a, asT_l, asC_a, asNil_a, dPar_a, dPut_a, dExp_a, dApp_a, dFor_a, loopF_n, dIt_a, gDiv_i, gMul_i, gMod_i, gEq_int, gNe_int, at0, at1, at2, at3, gAdd_i, gSub_i, gLt_i, gLe_i, gGt_i, gGe_i, gInt_i, gLen_l, gLen_f, gLen_t, gAbs_i, its_l, its_t, its_f, mkFn_s, stF_rt, stF_nx, stF_er, dCall_s, dCall0_s, dCallK_s, dIsK_e, dAt_e, dRev_e, dPar3_e, dEnum_e, dZip_e, enumD_n, enumD_c, zipD_c, zipD_n, zipD_m, dRng1_e, dPs_e, dPn_e, dSl_e, frzS_e, noX_n, noX_v, noX_m, noX_u, noX_x, finX_s, finX_n, dBreak_e, dCont_e, rngD_z, rngD_s, dTrue_e, dLc_e, loopC_n, loopC_k, goC_s, goC_o, eleC_e, bindX_o, loopF_c, wipeE_n, wipeE_c, restE_n, restE_c, okOwn_n, okOwn_c, dTry_e, runH_n, runH_c, dRaise_e, dXf_e, shp_i, shp_b, shp_o, shp_s, shp_t, shp_l, shp_f, shps_n, shps_c, gEq_ci, gNe_ci, gEq_cb, gNe_cb, gEq_cs, gNe_cs, gEq_co, gNe_co, gEq_ct, gNe_ct, gEq_cl, gNe_cl, gEq_cf, gNe_cf, deq_ii, deq_bb, deq_bi, deq_ib, deq_ss, deq_tt, deq_ll, deq_lf, deq_fl, deq_ff, deq_oo, deqs_nn, deqs_cc, deqs_nc, deqs_cn, deq_oi, deq_io, deq_ob, deq_bo, deq_os, deq_so, deq_ot, deq_to, deq_ol, deq_lo, deq_it, deq_ti, deq_il, deq_li, deq_is, deq_si, deq_tl, deq_lt, deq_ts, deq_st, deq_ls, deq_sl, deq_bt, deq_tb, deq_bs, deq_sb, tru_b, tru_l, tru_t, tru_i, tru_o, ni_i, ni_b, ni_s, ni_o, ni_t, ni_l, ni_f, isTs_n, isTs_c, isT_i, isT_b, isT_s, isT_t, isT_l, isT_f, isT_o, gIs_n, gIs_bb, gIsNot_n, gIsNot_bb, isN_o, isN_i, isN_b, isN_s, isN_t, isN_l, isN_f, gList_t, gList_l, gList_f, gTuple_l, gTuple_f, gTuple_t, gIx_t, gIx_l, gIx_f, gSl_t, gSl_l, gSl_f, gEqS_e, gNeS_e, st_ok, st_err, st_bad, fl_m, fl_i, fl_b, fl_s, fl_o, fl_t, fl_l, fl_f, fl_n, fl_g, frzAr_n, frzAr_v, frzAr_s, hasS_n, hasS_v, hasS_s, vb_e, at4, at5, at6, at7, at8, at9, at10, at11, at12, atm1_1, atm1_2, atm1_3, atm1_4, atm1_5, atm1_6, atm1_7, atm1_8, ixq1_0, ixq2_0, ixq2_1, ixq3_0, ixq3_1, ixq3_2, ixq4_0, ixq4_1, ixq4_2, ixq4_3, ixq5_0, ixq5_1, ixq5_2, ixq5_3, ixq5_4, ixq6_0, ixq6_1, ixq6_2, ixq6_3, ixq6_4, ixq6_5, ixq7_0, ixq7_1, ixq7_2, ixq7_3, ixq7_4, ixq7_5, ixq7_6, ixq8_0, ixq8_1, ixq8_2, ixq8_3, ixq8_4, ixq8_5, ixq8_6, ixq8_7, Res.bind_ok, Res.bind_err, Res.bind_bad, List.getElem?_cons_zero, List.getElem?_cons_succ, List.set_cons_zero, List.set_cons_succ, List.map_cons, List.map_nil, List.cons_append, List.nil_append, List.append_nil, List.length_cons, List.length_nil, List.replicate, List.take, if_true, if_false, ite_true, ite_false, reduceIte, Nat.reduceAdd, Nat.reduceSub, Nat.reduceLeDiff, Bool.false_eq_true, Nat.reduceEqDiff, Nat.add_eq, Nat.add_zero, Nat.zero_add, Option.bind_some, Option.map_some, Nat.sub_self, eq_self, and_self, and_true, true_and, Bool.and_true, Bool.true_and, Bool.and_false, Bool.false_and, Bool.or_true, Bool.true_or, Bool.or_false, Bool.false_or, Bool.not_true, Bool.not_false, String.reduceBEq, decide_true, decide_false, List.reverse_cons, List.reverse_nil, List.isEmpty_cons, List.isEmpty_nil, Option.getD_some, Int.reduceLT, Int.reduceLE, Int.reduceEq, Int.reduceAdd, Int.reduceSub, Int.reduceMul, Int.reduceNeg, Nat.reduceLT, Nat.reduceMul, not_true_eq_false, not_false_eq_true, and_false, false_and, List.length_map, Int.natCast_zero, Int.reduceToNat, Int.cast_ofNat_Int, Int.reduceFDiv, Int.reduceFMod, Int.reduceBEq, Int.reduceBNe, Int.reduceNe, Nat.reduceBEq, Int.reducePow]
    · obtain ⟨q, hq⟩ := d2
      exact ⟨-q, by grind⟩
  | 0, l + 1, h, one, two, x6, hl, _, _, _, _, _, _, _ => absurd hl (by omega)
  | k + 1, l + 1, h, one, two, x6, hl, hh, hM2, hg, d1, d2, b2, sg => by
    have lp : (0 : Int) < ((l + 1 : Nat) : Int) := by omega
    have hdiv : ((h : Int)).fdiv ((l + 1 : Nat) : Int) = ((h / (l + 1) : Nat) : Int) := by
      rw [fdiv_pos lp]; exact (Int.natCast_ediv h (l + 1)).symm
    have hmod : (h : Int) - ((h / (l + 1) : Nat) : Int) * ((l + 1 : Nat) : Int) = ((h % (l + 1) : Nat) : Int) := by
      have := Nat.div_add_mod h (l + 1)
      have e : ((h / (l + 1) : Nat) : Int) * ((l + 1 : Nat) : Int) = (((l + 1) * (h / (l + 1)) : Nat) : Int) := by
        rw [Int.natCast_mul, Int.mul_comm]
      rw [e]
      omega
    have hlt := Nat.mod_lt h (y := l + 1) (by omega)
    have p1 : 0 < h / (l + 1) := Nat.div_pos (by omega) (by omega)
    have hp : ((h / (l + 1) : Nat) : Int) * ((l + 1 : Nat) : Int) ≤ h := by omega
    generalize hP : ((h / (l + 1) : Nat) : Int) = p at *
    have pp : 0 < p := by omega
    generalize hL : ((l + 1 : Nat) : Int) = L at *
    generalize hH : (h : Int) = H at *
    have pH : p ≤ H := by
      have : p * 1 ≤ p * L := Int.mul_le_mul_of_nonneg_left (by omega) (by omega)
      omega
    have b1 : -M ≤ one ∧ one ≤ M := by
      rcases sg with ⟨s1, s2, s3⟩ | ⟨s1, s2, s3⟩
      · have h1 : 1 * one ≤ H * one := Int.mul_le_mul_of_nonneg_right (by omega) s1
        have h2 : 0 ≤ L * (-two) := Int.mul_nonneg (by omega) (by omega)
        have h3 : L * (-two) = -(L * two) := by grind
        omega
      · have h1 : 1 * (-one) ≤ H * (-one) := Int.mul_le_mul_of_nonneg_right (by omega) (by omega)
        have h2 : 0 ≤ L * two := Int.mul_nonneg (by omega) (by omega)
        have h3 : H * (-one) = -(H * one) := by grind
        omega
    obtain ⟨z3, z4, t, z6, ih, r⟩ := inv_loop n M hM bM k (h % (l + 1)) (l + 1) (two - p * one) one (.val (.int p)) (by omega) hlt (by omega) (by rw [← Nat.gcd_rec]; exact hg) (by
        rw [← hmod]
        obtain ⟨x, hx⟩ := d1
        obtain ⟨y, hy⟩ := d2
        exact ⟨y - p * x, by grind⟩) (by rw [hL]; exact d1) b1 (by
        rw [hL, ← hmod]
        rcases sg with ⟨s1, s2, s3⟩ | ⟨s1, s2, s3⟩
        · have h2 : 0 ≤ p * one := Int.mul_nonneg (by omega) s1
          exact .inr ⟨by omega, s1, by grind⟩
        · have h2 : 0 ≤ p * (-one) := Int.mul_nonneg (by omega) (by omega)
          have h3 : p * (-one) = -(p * one) := by grind
          exact .inl ⟨by omega, s1, by grind⟩)
    refine ⟨z3, z4, t, z6, ?_, r⟩
    rw [hL] at ih
    have bL : BdL 3 L := bd_abs bM (by omega)
    have m1 := gMul_i (mulOk_L (BdL.up (bd_abs bM (by omega) : BdL 3 p) (by decide)) (bL.up (by decide)))
    have m2 := gMul_i (mulOk_L (BdL.up (bd_abs bM (by omega) : BdL 3 p) (by decide)) (BdL.up (bd_abs bM b1 : BdL 3 one) (by decide)))
    have dv := gDiv_i (i := H) (divOk_L bL (by omega))
    rw [hdiv] at dv
    have z : decide (L = 0) = false := decide_eq_false (by omega)
    rw [dWhile_turn (e := [.val (.int n), .val (.int M), .val (.int L), .val (.int H), .val (.int one), .val (.int two), x6]) (e2 := [.val (.int n), .val (.int M), .val (.int ((h % (l + 1) : Nat) : Int)), .val (.int L), .val (.int (two - p * one)), .val (.int one), .val (.int p)])]
    · exact ih
    · simp (disch := first | assumption | decide | omega) only [cd_inverse_of_1, z, dC_a, dVar_a, dSlot_a, dMove_a, dLV_a, dFrz_a, frzE_val, frzE_mu, dVal_a, get_v, get_s, dBin_a, dNeg_a, dTB_a, dBT_a, dTru_a, dNotT_a, dAndT_a, dOrT_a, dAndV_a, dOrV_a, dNotL_a, dIf_a, dIfF_a, dChain_a, dVs_n, dVs_c, dArs_n, dArs_c, dTup_a, dLst_a, getAll_n, getAll_c, dCB_a, dCallR_a, dIsi_a, dSeq_a, dSkip_a, dIfS_a, dRet_a, dSet_a, dAsg_a, asN_a, asT_a, asT_l, asC_a, asNil_a, dPar_a, dPut_a, dExp_a, dApp_a, dFor_a, loopF_n, dIt_a, gDiv_i, gMul_i, gMod_i, gEq_int, gNe_int, at0, at1, at2, at3, gAdd_i, gSub_i, gLt_i, gLe_i, gGt_i, gGe_i, gInt_i, gLen_l, gLen_f, gLen_t, gAbs_i, its_l, its_t, its_f, mkFn_s, stF_rt, stF_nx, stF_er, dCall_s, dCall0_s, dCallK_s, dIsK_e, dAt_e, dRev_e, dPar3_e, dEnum_e, dZip_e, enumD_n, enumD_c, zipD_c, zipD_n, zipD_m, dRng1_e, dPs_e, dPn_e, dSl_e, frzS_e, noX_n, noX_v, noX_m, noX_u, noX_x, finX_s, finX_n, dBreak_e, dCont_e, rngD_z, rngD_s, dTrue_e, dLc_e, loopC_n, loopC_k, goC_s, goC_o, eleC_e, bindX_o, loopF_c, wipeE_n, wipeE_c, restE_n, restE_c, okOwn_n, okOwn_c, dTry_e, runH_n, runH_c, dRaise_e, dXf_e, shp_i, shp_b, shp_o, shp_s, shp_t, shp_l, shp_f, shps_n, shps_c, gEq_ci, gNe_ci, gEq_cb, gNe_cb, gEq_cs, gNe_cs, gEq_co, gNe_co, gEq_ct, gNe_ct, gEq_cl, gNe_cl, gEq_cf, gNe_cf, deq_ii, deq_bb, deq_bi, deq_ib, deq_ss, deq_tt, deq_ll, deq_lf, deq_fl, deq_ff, deq_oo, deqs_nn, deqs_cc, deqs_nc, deqs_cn, deq_oi, deq_io, deq_ob, deq_bo, deq_os, deq_so, deq_ot, deq_to, deq_ol, deq_lo, deq_it, deq_ti, deq_il, deq_li, deq_is, deq_si, deq_tl, deq_lt, deq_ts, deq_st, deq_ls, deq_sl, deq_bt, deq_tb, deq_bs, deq_sb, tru_b, tru_l, tru_t, tru_i, tru_o, ni_i, ni_b, ni_s, ni_o, ni_t, ni_l, ni_f, isTs_n, isTs_c, isT_i, isT_b, isT_s, isT_t, isT_l, isT_f, isT_o, gIs_n, gIs_bb, gIsNot_n, gIsNot_bb, isN_o, isN_i, isN_b, isN_s, isN_t, isN_l, isN_f, gList_t, gList_l, gList_f, gTuple_l, gTuple_f, gTuple_t, gIx_t, gIx_l, gIx_f, gSl_t, gSl_l, gSl_f, gEqS_e, gNeS_e, st_ok, st_err, st_bad, fl_m, fl_i, fl_b, fl_s, fl_o, fl_t, fl_l, fl_f, fl_n, fl_g, frzAr_n, frzAr_v, frzAr_s, hasS_n, hasS_v, hasS_s, vb_e, at4, at5, at6, at7, at8, at9, at10, at11, at12, atm1_1, atm1_2, atm1_3, atm1_4, atm1_5, atm1_6, atm1_7, atm1_8, ixq1_0, ixq2_0, ixq2_1, ixq3_0, ixq3_1, ixq3_2, ixq4_0, ixq4_1, ixq4_2, ixq4_3, ixq5_0, ixq5_1, ixq5_2, ixq5_3, ixq5_4, ixq6_0, ixq6_1, ixq6_2, ixq6_3, ixq6_4, ixq6_5, ixq7_0, ixq7_1, ixq7_2, ixq7_3, ixq7_4, ixq7_5, ixq7_6, ixq8_0, ixq8_1, ixq8_2, ixq8_3, ixq8_4, ixq8_5, ixq8_6, ixq8_7, Res.bind_ok, Res.bind_err, Res.bind_bad, List.getElem?_cons_zero, List.getElem?_cons_succ, List.set_cons_zero, List.set_cons_succ, List.map_cons, List.map_nil, List.cons_append, List.nil_append, List.append_nil, List.length_cons, List.length_nil, List.replicate, List.take, if_true, if_false, ite_true, ite_false, reduceIte, Nat.reduceAdd, Nat.reduceSub, Nat.reduceLeDiff, Bool.false_eq_true, Nat.reduceEqDiff, Nat.add_eq, Nat.add_zero, Nat.zero_add, Option.bind_some, Option.map_some, Nat.sub_self, eq_self, and_self, and_true, true_and, Bool.and_true, Bool.true_and, Bool.and_false, Bool.false_and, Bool.or_true, Bool.true_or, Bool.or_false, Bool.false_or, Bool.not_true, Bool.not_false, String.reduceBEq, decide_true, decide_false, List.reverse_cons, List.reverse_nil, List.isEmpty_cons, List.isEmpty_nil, Option.getD_some, Int.reduceLT, Int.reduceLE, Int.reduceEq, Int.reduceAdd, Int.reduceSub, Int.reduceMul, Int.reduceNeg, Nat.reduceLT, Nat.reduceMul, not_true_eq_false, not_false_eq_true, and_false, false_and, List.length_map, Int.natCast_zero, Int.reduceToNat, Int.cast_ofNat_Int, Int.reduceFDiv, Int.reduceFMod, Int.reduceBEq, Int.reduceBNe, Int.reduceNe, Nat.reduceBEq, Int.reducePow]
    · refine .inl ?_
      simp (disch := first | assumption | decide | omega) only [bd_inverse_of_2, dv, m1, m2, hmod, dC_a, dVar_a, dSlot_a, dMove_a, dLV_a, dFrz_a, frzE_val, frzE_mu, dVal_a, get_v, get_s, dBin_a, dNeg_a, dTB_a, dBT_a, dTru_a, dNotT_a, dAndT_a, dOrT_a, dAndV_a, dOrV_a, dNotL_a, dIf_a, dIfF_a, dChain_a, dVs_n, dVs_c, dArs_n, dArs_c, dTup_a, dLst_a, getAll_n, getAll_c, dCB_a, dCallR_a, dIsi_a, dSeq_a, dSkip_a, dIfS_a, dRet_a, dSet_a, dAsg_a, asN_a, asT_a, asT_l, asC_a, asNil_a, dPar_a, dPut_a, dExp_a, dApp_a, dFor_a, loopF_n, dIt_a, gDiv_i, gMul_i, gMod_i, gEq_int, gNe_int, at0, at1, at2, at3, gAdd_i, gSub_i, gLt_i, gLe_i, gGt_i, gGe_i, gInt_i, gLen_l, gLen_f, gLen_t, gAbs_i, its_l, its_t, its_f, mkFn_s, stF_rt, stF_nx, stF_er, dCall_s, dCall0_s, dCallK_s, dIsK_e, dAt_e, dRev_e, dPar3_e, dEnum_e, dZip_e, enumD_n, enumD_c, zipD_c, zipD_n, zipD_m, dRng1_e, dPs_e, dPn_e, dSl_e, frzS_e, noX_n, noX_v, noX_m, noX_u, noX_x, finX_s, finX_n, dBreak_e, dCont_e, rngD_z, rngD_s, dTrue_e, dLc_e, loopC_n, loopC_k, goC_s, goC_o, eleC_e, bindX_o, loopF_c, wipeE_n, wipeE_c, restE_n, restE_c, okOwn_n, okOwn_c, dTry_e, runH_n, runH_c, dRaise_e, dXf_e, shp_i, shp_b, shp_o, shp_s, shp_t, shp_l, shp_f, shps_n, shps_c, gEq_ci, gNe_ci, gEq_cb, gNe_cb, gEq_cs, gNe_cs, gEq_co, gNe_co, gEq_ct, gNe_ct, gEq_cl, gNe_cl, gEq_cf, gNe_cf, deq_ii, deq_bb, deq_bi, deq_ib, deq_ss, deq_tt, deq_ll, deq_lf, deq_fl, deq_ff, deq_oo, deqs_nn, deqs_cc, deqs_nc, deqs_cn, deq_oi, deq_io, deq_ob, deq_bo, deq_os, deq_so, deq_ot, deq_to, deq_ol, deq_lo, deq_it, deq_ti, deq_il, deq_li, deq_is, deq_si, deq_tl, deq_lt, deq_ts, deq_st, deq_ls, deq_sl, deq_bt, deq_tb, deq_bs, deq_sb, tru_b, tru_l, tru_t, tru_i, tru_o, ni_i, ni_b, ni_s, ni_o, ni_t, ni_l, ni_f, isTs_n, isTs_c, isT_i, isT_b, isT_s, isT_t, isT_l, isT_f, isT_o, gIs_n, gIs_bb, gIsNot_n, gIsNot_bb, isN_o, isN_i, isN_b, isN_s, isN_t, isN_l, isN_f, gList_t, gList_l, gList_f, gTuple_l, gTuple_f, gTuple_t, gIx_t, gIx_l, gIx_f, gSl_t, gSl_l, gSl_f, gEqS_e, gNeS_e, st_ok, st_err, st_bad, fl_m, fl_i, fl_b, fl_s, fl_o, fl_t, fl_l, fl_f, fl_n, fl_g, frzAr_n, frzAr_v, frzAr_s, hasS_n, hasS_v, hasS_s, vb_e, at4, at5, at6, at7, at8, at9, at10, at11, at12, atm1_1, atm1_2, atm1_3, atm1_4, atm1_5, atm1_6, atm1_7, atm1_8, ixq1_0, ixq2_0, ixq2_1, ixq3_0, ixq3_1, ixq3_2, ixq4_0, ixq4_1, ixq4_2, ixq4_3, ixq5_0, ixq5_1, ixq5_2, ixq5_3, ixq5_4, ixq6_0, ixq6_1, ixq6_2, ixq6_3, ixq6_4, ixq6_5, ixq7_0, ixq7_1, ixq7_2, ixq7_3, ixq7_4, ixq7_5, ixq7_6, ixq8_0, ixq8_1, ixq8_2, ixq8_3, ixq8_4, ixq8_5, ixq8_6, ixq8_7, Res.bind_ok, Res.bind_err, Res.bind_bad, List.getElem?_cons_zero, List.getElem?_cons_succ, List.set_cons_zero, List.set_cons_succ, List.map_cons, List.map_nil, List.cons_append, List.nil_append, List.append_nil, List.length_cons, List.length_nil, List.replicate, List.take, if_true, if_false, ite_true, ite_false, reduceIte, Nat.reduceAdd, Nat.reduceSub, Nat.reduceLeDiff, Bool.false_eq_true, Nat.reduceEqDiff, Nat.add_eq, Nat.add_zero, Nat.zero_add, Option.bind_some, Option.map_some, Nat.sub_self, eq_self, and_self, and_true, true_and, Bool.and_true, Bool.true_and, Bool.and_false, Bool.false_and, Bool.or_true, Bool.true_or, Bool.or_false, Bool.false_or, Bool.not_true, Bool.not_false, String.reduceBEq, decide_true, decide_false, List.reverse_cons, List.reverse_nil, List.isEmpty_cons, List.isEmpty_nil, Option.getD_some, Int.reduceLT, Int.reduceLE, Int.reduceEq, Int.reduceAdd, Int.reduceSub, Int.reduceMul, Int.reduceNeg, Nat.reduceLT, Nat.reduceMul, not_true_eq_false, not_false_eq_true, and_false, false_and, List.length_map, Int.natCast_zero, Int.reduceToNat, Int.cast_ofNat_Int, Int.reduceFDiv, Int.reduceFMod, Int.reduceBEq, Int.reduceBNe, Int.reduceNe, Nat.reduceBEq, Int.reducePow]
theorem inverse_ev {n M : Int} (hn : 0 ≤ n) (hM : 0 < M) (bn : BdL 3 n) (bM : BdL 3 M) (hg : gc n M = 1) : ∃ r, (fn_inverse_of [.val (.int n), .val (.int M)]).st = .ok (.val (.int r)) [] ∧ 0 ≤ r ∧ r < M ∧ M ∣ n * r - 1 := by
  have e0 := Int.emod_def n M
  have l0 := Int.emod_nonneg n (show M ≠ 0 by omega)
  have l1 := Int.emod_lt_of_pos n hM
  have dn : gDiv (.int n) (.int M) = some (.val (.int (n / M))) := by rw [gDiv_i (divOk_L bM (by omega)), fdiv_pos hM]
  have mn := gMul_i (mulOk_L (BdL.up (bn.div (j := M)) (by decide)) (bM.up (by decide)))
  have hlow : n - n / M * M = ((n % M).toNat : Int) := by
    rw [Int.mul_comm] ; omega
  have hMn : M = (M.toNat : Int) := by omega
  have g : Nat.gcd (n % M).toNat M.toNat = 1 := by
    have h1 : Nat.gcd n.natAbs M.natAbs = 1 := by unfold gc at hg; omega
    have e1 : (n % M).toNat = n.toNat % M.toNat := by
      have : ((n % M).toNat : Int) = ((n.toNat % M.toNat : Nat) : Int) := by
        rw [Int.natCast_emod]
        have a1 : (n.toNat : Int) = n := by omega
        have a2 : (M.toNat : Int) = M := by omega
        rw [a1, a2]
        omega
      omega
    have e2 : n.natAbs = n.toNat := by omega
    have e3 : M.natAbs = M.toNat := by omega
    rw [e2, e3, Nat.gcd_comm, Nat.gcd_rec] at h1
    rw [e1]
    exact h1
  obtain ⟨z3, z4, t, z6, hw, d, b1, b2⟩ := inv_loop n M hM bM (n % M).toNat (n % M).toNat M.toNat 1 0 .un (Nat.le_refl _) (by omega) (by omega) g (by
      rw [← hlow]
      exact ⟨-(n / M), by grind⟩) (by
      rw [← hMn]
      exact ⟨1, by grind⟩) (by omega) (.inl ⟨by decide, by decide, by rw [← hMn]; omega⟩)
  rw [← hlow, ← hMn] at hw
  have t0 := Int.emod_def t M
  have tl := Int.emod_nonneg t (show M ≠ 0 by omega)
  have tu := Int.emod_lt_of_pos t hM
  have bt : BdL 3 t := bd_abs bM ⟨b1, b2⟩
  have dt : gDiv (.int t) (.int M) = some (.val (.int (t / M))) := by rw [gDiv_i (divOk_L bM (by omega)), fdiv_pos hM]
  have mt := gMul_i (mulOk_L (BdL.up (bt.div (j := M)) (by decide)) (bM.up (by decide)))
  refine ⟨t - t / M * M, ?_, by rw [Int.mul_comm]; omega, by rw [Int.mul_comm]; omega, ?_⟩
  · simp (disch := first | assumption | decide | omega) only [fn_inverse_of, den_inverse_of, dn, mn, hw, dt, mt, dC_a, dVar_a, dSlot_a, dMove_a, dLV_a, dFrz_a, frzE_val, frzE_mu, dVal_a, get_v, get_s, dBin_a, dNeg_a, dTB_a, dBT_a, dTru_a, dNotT_a, dAndT_a, dOrT_a, dAndV_a, dOrV_a, dNotL_a, dIf_a, dIfF_a, dChain_a, dVs_n, dVs_c, dArs_n, dArs_c, dTup_a, dLst_a, getAll_n, getAll_c, dCB_a, dCallR_a, dIsi_a, dSeq_a, dSkip_a, dIfS_a, dRet_a, dSet_a, dAsg_a, asN_a, asT_a, asT_l, asC_a, asNil_a, dPar_a, dPut_a, dExp_a, dApp_a, dFor_a, loopF_n, dIt_a, gDiv_i, gMul_i, gMod_i, gEq_int, gNe_int, at0, at1, at2, at3, gAdd_i, gSub_i, gLt_i, gLe_i, gGt_i, gGe_i, gInt_i, gLen_l, gLen_f, gLen_t, gAbs_i, its_l, its_t, its_f, mkFn_s, stF_rt, stF_nx, stF_er, dCall_s, dCall0_s, dCallK_s, dIsK_e, dAt_e, dRev_e, dPar3_e, dEnum_e, dZip_e, enumD_n, enumD_c, zipD_c, zipD_n, zipD_m, dRng1_e, dPs_e, dPn_e, dSl_e, frzS_e, noX_n, noX_v, noX_m, noX_u, noX_x, finX_s, finX_n, dBreak_e, dCont_e, rngD_z, rngD_s, dTrue_e, dLc_e, loopC_n, loopC_k, goC_s, goC_o, eleC_e, bindX_o, loopF_c, wipeE_n, wipeE_c, restE_n, restE_c, okOwn_n, okOwn_c, dTry_e, runH_n, runH_c, dRaise_e, dXf_e, shp_i, shp_b, shp_o, shp_s, shp_t, shp_l, shp_f, shps_n, shps_c, gEq_ci, gNe_ci, gEq_cb, gNe_cb, gEq_cs, gNe_cs, gEq_co, gNe_co, gEq_ct, gNe_ct, gEq_cl, gNe_cl, gEq_cf, gNe_cf, deq_ii, deq_bb, deq_bi, deq_ib, deq_ss, deq_tt, deq_ll, deq_lf, deq_fl, deq_ff, deq_oo, deqs_nn, deqs_cc, deqs_nc, deqs_cn, deq_oi, deq_io, deq_ob, deq_bo, deq_os, deq_so, deq_ot, deq_to, deq_ol, deq_lo, deq_it, deq_ti, deq_il, deq_li, deq_is, deq_si, deq_tl, deq_lt, deq_ts, deq_st, deq_ls, deq_sl, deq_bt, deq_tb, deq_bs, deq_sb, tru_b, tru_l, tru_t, tru_i, tru_o, ni_i, ni_b, ni_s, ni_o, ni_t, ni_l, ni_f, isTs_n, isTs_c, isT_i, isT_b, isT_s, isT_t, isT_l, isT_f, isT_o, gIs_n, gIs_bb, gIsNot_n, gIsNot_bb, isN_o, isN_i, isN_b, isN_s, isN_t, isN_l, isN_f, gList_t, gList_l, gList_f, gTuple_l, gTuple_f, gTuple_t, gIx_t, gIx_l, gIx_f, gSl_t, gSl_l, gSl_f, gEqS_e, gNeS_e, st_ok, st_err, st_bad, fl_m, fl_i, fl_b, fl_s, fl_o, fl_t, fl_l, fl_f, fl_n, fl_g, frzAr_n, frzAr_v, frzAr_s, hasS_n, hasS_v, hasS_s, vb_e, at4, at5, at6, at7, at8, at9, at10, at11, at12, atm1_1, atm1_2, atm1_3, atm1_4, atm1_5, atm1_6, atm1_7, atm1_8, ixq1_0, ixq2_0, ixq2_1, ixq3_0, ixq3_1, ixq3_2, ixq4_0, ixq4_1, ixq4_2, ixq4_3, ixq5_0, ixq5_1, ixq5_2, ixq5_3, ixq5_4, ixq6_0, ixq6_1, ixq6_2, ixq6_3, ixq6_4, ixq6_5, ixq7_0, ixq7_1, ixq7_2, ixq7_3, ixq7_4, ixq7_5, ixq7_6, ixq8_0, ixq8_1, ixq8_2, ixq8_3, ixq8_4, ixq8_5, ixq8_6, ixq8_7, Res.bind_ok, Res.bind_err, Res.bind_bad, List.getElem?_cons_zero, List.getElem?_cons_succ, List.set_cons_zero, List.set_cons_succ, List.map_cons, List.map_nil, List.cons_append, List.nil_append, List.append_nil, List.length_cons, List.length_nil, List.replicate, List.take, if_true, if_false, ite_true, ite_false, reduceIte, Nat.reduceAdd, Nat.reduceSub, Nat.reduceLeDiff, Bool.false_eq_true, Nat.reduceEqDiff, Nat.add_eq, Nat.add_zero, Nat.zero_add, Option.bind_some, Option.map_some, Nat.sub_self, eq_self, and_self, and_true, true_and, Bool.and_true, Bool.true_and, Bool.and_false, Bool.false_and, Bool.or_true, Bool.true_or, Bool.or_false, Bool.false_or, Bool.not_true, Bool.not_false, String.reduceBEq, decide_true, decide_false, List.reverse_cons, List.reverse_nil, List.isEmpty_cons, List.isEmpty_nil, Option.getD_some, Int.reduceLT, Int.reduceLE, Int.reduceEq, Int.reduceAdd, Int.reduceSub, Int.reduceMul, Int.reduceNeg, Nat.reduceLT, Nat.reduceMul, not_true_eq_false, not_false_eq_true, and_false, false_and, List.length_map, Int.natCast_zero, Int.reduceToNat, Int.cast_ofNat_Int, Int.reduceFDiv, Int.reduceFMod, Int.reduceBEq, Int.reduceBNe, Int.reduceNe, Nat.reduceBEq, Int.reducePow]
  · obtain ⟨q, hq⟩ := d
    exact ⟨q - n * (t / M), by grind⟩
end Kx

set_option linter.all false
set_option maxRecDepth 100000
set_option maxHeartbeats 4000000
namespace Kx
open PySem PySem.Spec PyProof.Rows L2 Ev
theorem gLcm_i {i j : Int} (h : BdL 2 i) (k : BdL 2 j) : gLcm [.int i, .int j] = some (.val (.int (lc i j))) := by
  have p : ∀ {z : Int}, BdL 2 z → z.natAbs.log2 < 6000 := fun {z} q => by
    have := Bd.log (k := 3999) (show Bd (3999 + 1) z from Bd.mono (show Bd (1000 * 2 ^ 2) z from q) (by decide))
    omega
  exact if_pos ⟨p h, p k⟩
theorem gGcd_i {i j : Int} : gGcd [.int i, .int j] = some (.val (.int (gc i j))) := rfl
/-- is there any time in both -/
def Exi (a e b s : Int) : Prop := if e = 0 then (if s = 0 then a = b ∧ 0 ≤ a else 0 ≤ a ∧ s ∣ a - b) else if s = 0 then 0 ≤ b ∧ e ∣ b - a else gc e s ∣ b - a
structure Inb (a e b s f : Int) : Prop where
  l : 0 ≤ f
  d1 : e ∣ f - a
  d2 : s ∣ f - b
  u : e ≠ 0 → s ≠ 0 → f < lc e s
def oD : Option Int → D
  | some i => .int i
  | none => .non
structure CW (a e b s : Int) (o : Option Int) : Prop where
  y : Exi a e b s → ∃ f, o = some f ∧ Inb a e b s f
  n : ¬ Exi a e b s → o = none
theorem dvd_fdiv {s x : Int} (hs : 0 < s) : (x.fdiv s * s = x) ↔ s ∣ x := by
  rw [fdiv_pos hs]
  exact ⟨fun h => ⟨x / s, by rw [Int.mul_comm]; exact h.symm⟩, fun h => Int.ediv_mul_cancel h⟩
theorem dvd_fmod {s x : Int} (hs : 0 < s) : (x.fmod s = 0) ↔ s ∣ x := by
  rw [Int.fmod_eq_emod_of_nonneg _ (by omega)]
  exact ⟨Int.dvd_of_emod_eq_zero, Int.emod_eq_zero_of_dvd⟩
theorem Inb.uniq {a e b s f g : Int} (h : Inb a e b s f) (k : Inb b s a e g) (he : 0 ≤ e) (hs : 0 ≤ s) : f = g := by
  by_cases ze : e = 0
  · have h1 := h.d1
    have k1 := k.d2
    rw [ze] at h1 k1
    have := Int.zero_dvd.mp h1
    have := Int.zero_dvd.mp k1
    omega
  · by_cases zs : s = 0
    · have h1 := h.d2
      have k1 := k.d1
      rw [zs] at h1 k1
      have := Int.zero_dvd.mp h1
      have := Int.zero_dvd.mp k1
      omega
    · exact InB.uniq (⟨h.l, h.u ze zs, h.d1, h.d2⟩ : InB a e b s f) (⟨k.l, k.u zs ze, k.d1, k.d2⟩ : InB b s a e g) (by omega) (by omega)
theorem Exi.swap {a e b s : Int} : Exi a e b s ↔ Exi b s a e := by
  unfold Exi
  have g : gc e s = gc s e := by unfold gc; rw [Nat.gcd_comm]
  have d : (gc s e ∣ b - a) ↔ (gc s e ∣ a - b) := by
    constructor <;> intro h
    · have := Int.dvd_neg.mpr h
      rwa [Int.neg_sub] at this
    · have := Int.dvd_neg.mpr h
      rwa [Int.neg_sub] at this
  by_cases ze : e = 0
  · by_cases zs : s = 0
    · rw [if_pos ze, if_pos zs, if_pos zs, if_pos ze]; omega
    · rw [if_pos ze, if_neg zs, if_neg zs, if_pos ze]
  · by_cases zs : s = 0
    · rw [if_neg ze, if_pos zs, if_pos zs, if_neg ze]
    · rw [if_neg ze, if_neg zs, if_neg zs, if_neg ze, g, d]
theorem cw_point (n : Nat) {a b s : Int} (hs : 0 ≤ s) (bs : BdL 0 s) (ba : BdL 0 a) (bb : BdL 0 b) : ∃ o, (recFn 4 9 den_common_whole (n + 1) [.val (.int a), .val (.int 0), .val (.int b), .val (.int s)]).st = .ok (.val (oD o)) [] ∧ CW a 0 b s o := by
  by_cases zs : s = 0
  · subst zs
    by_cases q : a = b ∧ 0 ≤ a
    · refine ⟨some a, ?_, ⟨fun _ => ⟨a, rfl, q.2, ⟨0, by omega⟩, ⟨0, by omega⟩, fun z => absurd rfl z⟩, fun h => absurd (show Exi a 0 b 0 by unfold Exi; rw [if_pos rfl, if_pos rfl]; exact q) h⟩⟩
      obtain ⟨rfl, q2⟩ := q
      simp (disch := first | assumption | decide | omega) only [recFn_st (n := n), den_common_whole, q2, oD, dC_a, dVar_a, dSlot_a, dMove_a, dLV_a, dFrz_a, frzE_val, frzE_mu, dVal_a, get_v, get_s, dBin_a, dNeg_a, dTB_a, dBT_a, dTru_a, dNotT_a, dAndT_a, dOrT_a, dAndV_a, dOrV_a, dNotL_a, dIf_a, dIfF_a, dChain_a, dVs_n, dVs_c, dArs_n, dArs_c, dTup_a, dLst_a, getAll_n, getAll_c, dCB_a, dCallR_a, dIsi_a, dSeq_a, dSkip_a, dIfS_a, dRet_a, dSet_a, dAsg_a, asN_a, asT_a, asT_l, asC_a, asNil_a, dPar_a, dPut_a, dExp_a, dApp_a, dFor_a, loopF_n, dIt_a, gDiv_i, gMul_i, gMod_i, gEq_int, gNe_int, at0, at1, at2, at3, gAdd_i, gSub_i, gLt_i, gLe_i, gGt_i, gGe_i, gInt_i, gLen_l, gLen_f, gLen_t, gAbs_i, its_l, its_t, its_f, mkFn_s, stF_rt, stF_nx, stF_er, dCall_s, dCall0_s, dCallK_s, dIsK_e, dAt_e, dRev_e, dPar3_e, dEnum_e, dZip_e, enumD_n, enumD_c, zipD_c, zipD_n, zipD_m, dRng1_e, dPs_e, dPn_e, dSl_e, frzS_e, noX_n, noX_v, noX_m, noX_u, noX_x, finX_s, finX_n, dBreak_e, dCont_e, rngD_z, rngD_s, dTrue_e, dLc_e, loopC_n, loopC_k, goC_s, goC_o, eleC_e, bindX_o, loopF_c, wipeE_n, wipeE_c, restE_n, restE_c, okOwn_n, okOwn_c, dTry_e, runH_n, runH_c, dRaise_e, dXf_e, shp_i, shp_b, shp_o, shp_s, shp_t, shp_l, shp_f, shps_n, shps_c, gEq_ci, gNe_ci, gEq_cb, gNe_cb, gEq_cs, gNe_cs, gEq_co, gNe_co, gEq_ct, gNe_ct, gEq_cl, gNe_cl, gEq_cf, gNe_cf, deq_ii, deq_bb, deq_bi, deq_ib, deq_ss, deq_tt, deq_ll, deq_lf, deq_fl, deq_ff, deq_oo, deqs_nn, deqs_cc, deqs_nc, deqs_cn, deq_oi, deq_io, deq_ob, deq_bo, deq_os, deq_so, deq_ot, deq_to, deq_ol, deq_lo, deq_it, deq_ti, deq_il, deq_li, deq_is, deq_si, deq_tl, deq_lt, deq_ts, deq_st, deq_ls, deq_sl, deq_bt, deq_tb, deq_bs, deq_sb, tru_b, tru_l, tru_t, tru_i, tru_o, ni_i, ni_b, ni_s, ni_o, ni_t, ni_l, ni_f, isTs_n, isTs_c, isT_i, isT_b, isT_s, isT_t, isT_l, isT_f, isT_o, gIs_n, gIs_bb, gIsNot_n, gIsNot_bb, isN_o, isN_i, isN_b, isN_s, isN_t, isN_l, isN_f, gList_t, gList_l, gList_f, gTuple_l, gTuple_f, gTuple_t, gIx_t, gIx_l, gIx_f, gSl_t, gSl_l, gSl_f, gEqS_e, gNeS_e, st_ok, st_err, st_bad, fl_m, fl_i, fl_b, fl_s, fl_o, fl_t, fl_l, fl_f, fl_n, fl_g, frzAr_n, frzAr_v, frzAr_s, hasS_n, hasS_v, hasS_s, vb_e, at4, at5, at6, at7, at8, at9, at10, at11, at12, atm1_1, atm1_2, atm1_3, atm1_4, atm1_5, atm1_6, atm1_7, atm1_8, ixq1_0, ixq2_0, ixq2_1, ixq3_0, ixq3_1, ixq3_2, ixq4_0, ixq4_1, ixq4_2, ixq4_3, ixq5_0, ixq5_1, ixq5_2, ixq5_3, ixq5_4, ixq6_0, ixq6_1, ixq6_2, ixq6_3, ixq6_4, ixq6_5, ixq7_0, ixq7_1, ixq7_2, ixq7_3, ixq7_4, ixq7_5, ixq7_6, ixq8_0, ixq8_1, ixq8_2, ixq8_3, ixq8_4, ixq8_5, ixq8_6, ixq8_7, Res.bind_ok, Res.bind_err, Res.bind_bad, List.getElem?_cons_zero, List.getElem?_cons_succ, List.set_cons_zero, List.set_cons_succ, List.map_cons, List.map_nil, List.cons_append, List.nil_append, List.append_nil, List.length_cons, List.length_nil, List.replicate, List.take, if_true, if_false, ite_true, ite_false, reduceIte, Nat.reduceAdd, Nat.reduceSub, Nat.reduceLeDiff, Bool.false_eq_true, Nat.reduceEqDiff, Nat.add_eq, Nat.add_zero, Nat.zero_add, Option.bind_some, Option.map_some, Nat.sub_self, eq_self, and_self, and_true, true_and, Bool.and_true, Bool.true_and, Bool.and_false, Bool.false_and, Bool.or_true, Bool.true_or, Bool.or_false, Bool.false_or, Bool.not_true, Bool.not_false, String.reduceBEq, decide_true, decide_false, List.reverse_cons, List.reverse_nil, List.isEmpty_cons, List.isEmpty_nil, Option.getD_some, Int.reduceLT, Int.reduceLE, Int.reduceEq, Int.reduceAdd, Int.reduceSub, Int.reduceMul, Int.reduceNeg, Nat.reduceLT, Nat.reduceMul, not_true_eq_false, not_false_eq_true, and_false, false_and, List.length_map, Int.natCast_zero, Int.reduceToNat, Int.cast_ofNat_Int, Int.reduceFDiv, Int.reduceFMod, Int.reduceBEq, Int.reduceBNe, Int.reduceNe, Nat.reduceBEq, Int.reducePow]
    · refine ⟨none, ?_, ⟨fun h => absurd (by unfold Exi at h; rw [if_pos rfl, if_pos rfl] at h; exact h) q, fun _ => rfl⟩⟩
      by_cases q1 : a = b
      · have q2 : ¬ 0 ≤ a := fun z => q ⟨q1, z⟩
        simp (disch := first | assumption | decide | omega) only [recFn_st (n := n), den_common_whole, decide_eq_true q1, q2, oD, dC_a, dVar_a, dSlot_a, dMove_a, dLV_a, dFrz_a, frzE_val, frzE_mu, dVal_a, get_v, get_s, dBin_a, dNeg_a, dTB_a, dBT_a, dTru_a, dNotT_a, dAndT_a, dOrT_a, dAndV_a, dOrV_a, dNotL_a, dIf_a, dIfF_a, dChain_a, dVs_n, dVs_c, dArs_n, dArs_c, dTup_a, dLst_a, getAll_n, getAll_c, dCB_a, dCallR_a, dIsi_a, dSeq_a, dSkip_a, dIfS_a, dRet_a, dSet_a, dAsg_a, asN_a, asT_a, asT_l, asC_a, asNil_a, dPar_a, dPut_a, dExp_a, dApp_a, dFor_a, loopF_n, dIt_a, gDiv_i, gMul_i, gMod_i, gEq_int, gNe_int, at0, at1, at2, at3, gAdd_i, gSub_i, gLt_i, gLe_i, gGt_i, gGe_i, gInt_i, gLen_l, gLen_f, gLen_t, gAbs_i, its_l, its_t, its_f, mkFn_s, stF_rt, stF_nx, stF_er, dCall_s, dCall0_s, dCallK_s, dIsK_e, dAt_e, dRev_e, dPar3_e, dEnum_e, dZip_e, enumD_n, enumD_c, zipD_c, zipD_n, zipD_m, dRng1_e, dPs_e, dPn_e, dSl_e, frzS_e, noX_n, noX_v, noX_m, noX_u, noX_x, finX_s, finX_n, dBreak_e, dCont_e, rngD_z, rngD_s, dTrue_e, dLc_e, loopC_n, loopC_k, goC_s, goC_o, eleC_e, bindX_o, loopF_c, wipeE_n, wipeE_c, restE_n, restE_c, okOwn_n, okOwn_c, dTry_e, runH_n, runH_c, dRaise_e, dXf_e, shp_i, shp_b, shp_o, shp_s, shp_t, shp_l, shp_f, shps_n, shps_c, gEq_ci, gNe_ci, gEq_cb, gNe_cb, gEq_cs, gNe_cs, gEq_co, gNe_co, gEq_ct, gNe_ct, gEq_cl, gNe_cl, gEq_cf, gNe_cf, deq_ii, deq_bb, deq_bi, deq_ib, deq_ss, deq_tt, deq_ll, deq_lf, deq_fl, deq_ff, deq_oo, deqs_nn, deqs_cc, deqs_nc, deqs_cn, deq_oi, deq_io, deq_ob, deq_bo, deq_os, deq_so, deq_ot, deq_to, deq_ol, deq_lo, deq_it, deq_ti, deq_il, deq_li, deq_is, deq_si, deq_tl, deq_lt, deq_ts, deq_st, deq_ls, deq_sl, deq_bt, deq_tb, deq_bs, deq_sb, tru_b, tru_l, tru_t, tru_i, tru_o, ni_i, ni_b, ni_s, ni_o, ni_t, ni_l, ni_f, isTs_n, isTs_c, isT_i, isT_b, isT_s, isT_t, isT_l, isT_f, isT_o, gIs_n, gIs_bb, gIsNot_n, gIsNot_bb, isN_o, isN_i, isN_b, isN_s, isN_t, isN_l, isN_f, gList_t, gList_l, gList_f, gTuple_l, gTuple_f, gTuple_t, gIx_t, gIx_l, gIx_f, gSl_t, gSl_l, gSl_f, gEqS_e, gNeS_e, st_ok, st_err, st_bad, fl_m, fl_i, fl_b, fl_s, fl_o, fl_t, fl_l, fl_f, fl_n, fl_g, frzAr_n, frzAr_v, frzAr_s, hasS_n, hasS_v, hasS_s, vb_e, at4, at5, at6, at7, at8, at9, at10, at11, at12, atm1_1, atm1_2, atm1_3, atm1_4, atm1_5, atm1_6, atm1_7, atm1_8, ixq1_0, ixq2_0, ixq2_1, ixq3_0, ixq3_1, ixq3_2, ixq4_0, ixq4_1, ixq4_2, ixq4_3, ixq5_0, ixq5_1, ixq5_2, ixq5_3, ixq5_4, ixq6_0, ixq6_1, ixq6_2, ixq6_3, ixq6_4, ixq6_5, ixq7_0, ixq7_1, ixq7_2, ixq7_3, ixq7_4, ixq7_5, ixq7_6, ixq8_0, ixq8_1, ixq8_2, ixq8_3, ixq8_4, ixq8_5, ixq8_6, ixq8_7, Res.bind_ok, Res.bind_err, Res.bind_bad, List.getElem?_cons_zero, List.getElem?_cons_succ, List.set_cons_zero, List.set_cons_succ, List.map_cons, List.map_nil, List.cons_append, List.nil_append, List.append_nil, List.length_cons, List.length_nil, List.replicate, List.take, if_true, if_false, ite_true, ite_false, reduceIte, Nat.reduceAdd, Nat.reduceSub, Nat.reduceLeDiff, Bool.false_eq_true, Nat.reduceEqDiff, Nat.add_eq, Nat.add_zero, Nat.zero_add, Option.bind_some, Option.map_some, Nat.sub_self, eq_self, and_self, and_true, true_and, Bool.and_true, Bool.true_and, Bool.and_false, Bool.false_and, Bool.or_true, Bool.true_or, Bool.or_false, Bool.false_or, Bool.not_true, Bool.not_false, String.reduceBEq, decide_true, decide_false, List.reverse_cons, List.reverse_nil, List.isEmpty_cons, List.isEmpty_nil, Option.getD_some, Int.reduceLT, Int.reduceLE, Int.reduceEq, Int.reduceAdd, Int.reduceSub, Int.reduceMul, Int.reduceNeg, Nat.reduceLT, Nat.reduceMul, not_true_eq_false, not_false_eq_true, and_false, false_and, List.length_map, Int.natCast_zero, Int.reduceToNat, Int.cast_ofNat_Int, Int.reduceFDiv, Int.reduceFMod, Int.reduceBEq, Int.reduceBNe, Int.reduceNe, Nat.reduceBEq, Int.reducePow]
      · simp (disch := first | assumption | decide | omega) only [recFn_st (n := n), den_common_whole, q1, oD, dC_a, dVar_a, dSlot_a, dMove_a, dLV_a, dFrz_a, frzE_val, frzE_mu, dVal_a, get_v, get_s, dBin_a, dNeg_a, dTB_a, dBT_a, dTru_a, dNotT_a, dAndT_a, dOrT_a, dAndV_a, dOrV_a, dNotL_a, dIf_a, dIfF_a, dChain_a, dVs_n, dVs_c, dArs_n, dArs_c, dTup_a, dLst_a, getAll_n, getAll_c, dCB_a, dCallR_a, dIsi_a, dSeq_a, dSkip_a, dIfS_a, dRet_a, dSet_a, dAsg_a, asN_a, asT_a, asT_l, asC_a, asNil_a, dPar_a, dPut_a, dExp_a, dApp_a, dFor_a, loopF_n, dIt_a, gDiv_i, gMul_i, gMod_i, gEq_int, gNe_int, at0, at1, at2, at3, gAdd_i, gSub_i, gLt_i, gLe_i, gGt_i, gGe_i, gInt_i, gLen_l, gLen_f, gLen_t, gAbs_i, its_l, its_t, its_f, mkFn_s, stF_rt, stF_nx, stF_er, dCall_s, dCall0_s, dCallK_s, dIsK_e, dAt_e, dRev_e, dPar3_e, dEnum_e, dZip_e, enumD_n, enumD_c, zipD_c, zipD_n, zipD_m, dRng1_e, dPs_e, dPn_e, dSl_e, frzS_e, noX_n, noX_v, noX_m, noX_u, noX_x, finX_s, finX_n, dBreak_e, dCont_e, rngD_z, rngD_s, dTrue_e, dLc_e, loopC_n, loopC_k, goC_s, goC_o, eleC_e, bindX_o, loopF_c, wipeE_n, wipeE_c, restE_n, restE_c, okOwn_n, okOwn_c, dTry_e, runH_n, runH_c, dRaise_e, dXf_e, shp_i, shp_b, shp_o, shp_s, shp_t, shp_l, shp_f, shps_n, shps_c, gEq_ci, gNe_ci, gEq_cb, gNe_cb, gEq_cs, gNe_cs, gEq_co, gNe_co, gEq_ct, gNe_ct, gEq_cl, gNe_cl, gEq_cf, gNe_cf, deq_ii, deq_bb, deq_bi, deq_ib, deq_ss, deq_tt, deq_ll, deq_lf, deq_fl, deq_ff, deq_oo, deqs_nn, deqs_cc, deqs_nc, deqs_cn, deq_oi, deq_io, deq_ob, deq_bo, deq_os, deq_so, deq_ot, deq_to, deq_ol, deq_lo, deq_it, deq_ti, deq_il, deq_li, deq_is, deq_si, deq_tl, deq_lt, deq_ts, deq_st, deq_ls, deq_sl, deq_bt, deq_tb, deq_bs, deq_sb, tru_b, tru_l, tru_t, tru_i, tru_o, ni_i, ni_b, ni_s, ni_o, ni_t, ni_l, ni_f, isTs_n, isTs_c, isT_i, isT_b, isT_s, isT_t, isT_l, isT_f, isT_o, gIs_n, gIs_bb, gIsNot_n, gIsNot_bb, isN_o, isN_i, isN_b, isN_s, isN_t, isN_l, isN_f, gList_t, gList_l, gList_f, gTuple_l, gTuple_f, gTuple_t, gIx_t, gIx_l, gIx_f, gSl_t, gSl_l, gSl_f, gEqS_e, gNeS_e, st_ok, st_err, st_bad, fl_m, fl_i, fl_b, fl_s, fl_o, fl_t, fl_l, fl_f, fl_n, fl_g, frzAr_n, frzAr_v, frzAr_s, hasS_n, hasS_v, hasS_s, vb_e, at4, at5, at6, at7, at8, at9, at10, at11, at12, atm1_1, atm1_2, atm1_3, atm1_4, atm1_5, atm1_6, atm1_7, atm1_8, ixq1_0, ixq2_0, ixq2_1, ixq3_0, ixq3_1, ixq3_2, ixq4_0, ixq4_1, ixq4_2, ixq4_3, ixq5_0, ixq5_1, ixq5_2, ixq5_3, ixq5_4, ixq6_0, ixq6_1, ixq6_2, ixq6_3, ixq6_4, ixq6_5, ixq7_0, ixq7_1, ixq7_2, ixq7_3, ixq7_4, ixq7_5, ixq7_6, ixq8_0, ixq8_1, ixq8_2, ixq8_3, ixq8_4, ixq8_5, ixq8_6, ixq8_7, Res.bind_ok, Res.bind_err, Res.bind_bad, List.getElem?_cons_zero, List.getElem?_cons_succ, List.set_cons_zero, List.set_cons_succ, List.map_cons, List.map_nil, List.cons_append, List.nil_append, List.append_nil, List.length_cons, List.length_nil, List.replicate, List.take, if_true, if_false, ite_true, ite_false, reduceIte, Nat.reduceAdd, Nat.reduceSub, Nat.reduceLeDiff, Bool.false_eq_true, Nat.reduceEqDiff, Nat.add_eq, Nat.add_zero, Nat.zero_add, Option.bind_some, Option.map_some, Nat.sub_self, eq_self, and_self, and_true, true_and, Bool.and_true, Bool.true_and, Bool.and_false, Bool.false_and, Bool.or_true, Bool.true_or, Bool.or_false, Bool.false_or, Bool.not_true, Bool.not_false, String.reduceBEq, decide_true, decide_false, List.reverse_cons, List.reverse_nil, List.isEmpty_cons, List.isEmpty_nil, Option.getD_some, Int.reduceLT, Int.reduceLE, Int.reduceEq, Int.reduceAdd, Int.reduceSub, Int.reduceMul, Int.reduceNeg, Nat.reduceLT, Nat.reduceMul, not_true_eq_false, not_false_eq_true, and_false, false_and, List.length_map, Int.natCast_zero, Int.reduceToNat, Int.cast_ofNat_Int, Int.reduceFDiv, Int.reduceFMod, Int.reduceBEq, Int.reduceBNe, Int.reduceNe, Nat.reduceBEq, Int.reducePow]
  · have sp : 0 < s := by omega
    have z : decide (s = 0) = false := decide_eq_false zs
    have dv := gDiv_i (i := a - b) (divOk_L (bs.up (by decide)) zs)
    have bq : BdL 1 ((a - b).fdiv s) := by rw [fdiv_pos sp]; exact (ba.sub bb).div
    have ml := gMul_i (mulOk_L (bq.up (by decide)) (bs.up (by decide)))
    by_cases q1 : 0 ≤ a
    · by_cases q2 : s ∣ a - b
      · have t : decide ((a - b).fdiv s * s = a - b) = true := decide_eq_true ((dvd_fdiv sp).mpr q2)
        refine ⟨some a, ?_, ⟨fun _ => ⟨a, rfl, q1, ⟨0, by omega⟩, q2, fun z => absurd rfl z⟩, fun h => absurd (show Exi a 0 b s by unfold Exi; rw [if_pos rfl, if_neg zs]; exact ⟨q1, q2⟩) h⟩⟩
        simp (disch := first | assumption | decide | omega) only [recFn_st (n := n), den_common_whole, z, q1, dv, ml, t, oD, dC_a, dVar_a, dSlot_a, dMove_a, dLV_a, dFrz_a, frzE_val, frzE_mu, dVal_a, get_v, get_s, dBin_a, dNeg_a, dTB_a, dBT_a, dTru_a, dNotT_a, dAndT_a, dOrT_a, dAndV_a, dOrV_a, dNotL_a, dIf_a, dIfF_a, dChain_a, dVs_n, dVs_c, dArs_n, dArs_c, dTup_a, dLst_a, getAll_n, getAll_c, dCB_a, dCallR_a, dIsi_a, dSeq_a, dSkip_a, dIfS_a, dRet_a, dSet_a, dAsg_a, asN_a, asT_a, asT_l, asC_a, asNil_a, dPar_a, dPut_a, dExp_a, dApp_a, dFor_a, loopF_n, dIt_a, gDiv_i, gMul_i, gMod_i, gEq_int, gNe_int, at0, at1, at2, at3, gAdd_i, gSub_i, gLt_i, gLe_i, gGt_i, gGe_i, gInt_i, gLen_l, gLen_f, gLen_t, gAbs_i, its_l, its_t, its_f, mkFn_s, stF_rt, stF_nx, stF_er, dCall_s, dCall0_s, dCallK_s, dIsK_e, dAt_e, dRev_e, dPar3_e, dEnum_e, dZip_e, enumD_n, enumD_c, zipD_c, zipD_n, zipD_m, dRng1_e, dPs_e, dPn_e, dSl_e, frzS_e, noX_n, noX_v, noX_m, noX_u, noX_x, finX_s, finX_n, dBreak_e, dCont_e, rngD_z, rngD_s, dTrue_e, dLc_e, loopC_n, loopC_k, goC_s, goC_o, eleC_e, bindX_o, loopF_c, wipeE_n, wipeE_c, restE_n, restE_c, okOwn_n, okOwn_c, dTry_e, runH_n, runH_c, dRaise_e, dXf_e, shp_i, shp_b, shp_o, shp_s, shp_t, shp_l, shp_f, shps_n, shps_c, gEq_ci, gNe_ci, gEq_cb, gNe_cb, gEq_cs, gNe_cs, gEq_co, gNe_co, gEq_ct, gNe_ct, gEq_cl, gNe_cl, gEq_cf, gNe_cf, deq_ii, deq_bb, deq_bi, deq_ib, deq_ss, deq_tt, deq_ll, deq_lf, deq_fl, deq_ff, deq_oo, deqs_nn, deqs_cc, deqs_nc, deqs_cn, deq_oi, deq_io, deq_ob, deq_bo, deq_os, deq_so, deq_ot, deq_to, deq_ol, deq_lo, deq_it, deq_ti, deq_il, deq_li, deq_is, deq_si, deq_tl, deq_lt, deq_ts, deq_st, deq_ls, deq_sl, deq_bt, deq_tb, deq_bs, deq_sb, tru_b, tru_l, tru_t, tru_i, tru_o, ni_i, ni_b, ni_s, ni_o, ni_t, ni_l, ni_f, isTs_n, isTs_c, isT_i, isT_b, isT_s, isT_t, isT_l, isT_f, isT_o, gIs_n, gIs_bb, gIsNot_n, gIsNot_bb, isN_o, isN_i, isN_b, isN_s, isN_t, isN_l, isN_f, gList_t, gList_l, gList_f, gTuple_l, gTuple_f, gTuple_t, gIx_t, gIx_l, gIx_f, gSl_t, gSl_l, gSl_f, gEqS_e, gNeS_e, st_ok, st_err, st_bad, fl_m, fl_i, fl_b, fl_s, fl_o, fl_t, fl_l, fl_f, fl_n, fl_g, frzAr_n, frzAr_v, frzAr_s, hasS_n, hasS_v, hasS_s, vb_e, at4, at5, at6, at7, at8, at9, at10, at11, at12, atm1_1, atm1_2, atm1_3, atm1_4, atm1_5, atm1_6, atm1_7, atm1_8, ixq1_0, ixq2_0, ixq2_1, ixq3_0, ixq3_1, ixq3_2, ixq4_0, ixq4_1, ixq4_2, ixq4_3, ixq5_0, ixq5_1, ixq5_2, ixq5_3, ixq5_4, ixq6_0, ixq6_1, ixq6_2, ixq6_3, ixq6_4, ixq6_5, ixq7_0, ixq7_1, ixq7_2, ixq7_3, ixq7_4, ixq7_5, ixq7_6, ixq8_0, ixq8_1, ixq8_2, ixq8_3, ixq8_4, ixq8_5, ixq8_6, ixq8_7, Res.bind_ok, Res.bind_err, Res.bind_bad, List.getElem?_cons_zero, List.getElem?_cons_succ, List.set_cons_zero, List.set_cons_succ, List.map_cons, List.map_nil, List.cons_append, List.nil_append, List.append_nil, List.length_cons, List.length_nil, List.replicate, List.take, if_true, if_false, ite_true, ite_false, reduceIte, Nat.reduceAdd, Nat.reduceSub, Nat.reduceLeDiff, Bool.false_eq_true, Nat.reduceEqDiff, Nat.add_eq, Nat.add_zero, Nat.zero_add, Option.bind_some, Option.map_some, Nat.sub_self, eq_self, and_self, and_true, true_and, Bool.and_true, Bool.true_and, Bool.and_false, Bool.false_and, Bool.or_true, Bool.true_or, Bool.or_false, Bool.false_or, Bool.not_true, Bool.not_false, String.reduceBEq, decide_true, decide_false, List.reverse_cons, List.reverse_nil, List.isEmpty_cons, List.isEmpty_nil, Option.getD_some, Int.reduceLT, Int.reduceLE, Int.reduceEq, Int.reduceAdd, Int.reduceSub, Int.reduceMul, Int.reduceNeg, Nat.reduceLT, Nat.reduceMul, not_true_eq_false, not_false_eq_true, and_false, false_and, List.length_map, Int.natCast_zero, Int.reduceToNat, Int.cast_ofNat_Int, Int.reduceFDiv, Int.reduceFMod, Int.reduceBEq, Int.reduceBNe, Int.reduceNe, Nat.reduceBEq, Int.reducePow]
      · have t : decide ((a - b).fdiv s * s = a - b) = false := decide_eq_false fun h => q2 ((dvd_fdiv sp).mp h)
        refine ⟨none, ?_, ⟨fun h => absurd (by unfold Exi at h; rw [if_pos rfl, if_neg zs] at h; exact h.2) q2, fun _ => rfl⟩⟩
        simp (disch := first | assumption | decide | omega) only [recFn_st (n := n), den_common_whole, z, q1, dv, ml, t, oD, dC_a, dVar_a, dSlot_a, dMove_a, dLV_a, dFrz_a, frzE_val, frzE_mu, dVal_a, get_v, get_s, dBin_a, dNeg_a, dTB_a, dBT_a, dTru_a, dNotT_a, dAndT_a, dOrT_a, dAndV_a, dOrV_a, dNotL_a, dIf_a, dIfF_a, dChain_a, dVs_n, dVs_c, dArs_n, dArs_c, dTup_a, dLst_a, getAll_n, getAll_c, dCB_a, dCallR_a, dIsi_a, dSeq_a, dSkip_a, dIfS_a, dRet_a, dSet_a, dAsg_a, asN_a, asT_a, asT_l, asC_a, asNil_a, dPar_a, dPut_a, dExp_a, dApp_a, dFor_a, loopF_n, dIt_a, gDiv_i, gMul_i, gMod_i, gEq_int, gNe_int, at0, at1, at2, at3, gAdd_i, gSub_i, gLt_i, gLe_i, gGt_i, gGe_i, gInt_i, gLen_l, gLen_f, gLen_t, gAbs_i, its_l, its_t, its_f, mkFn_s, stF_rt, stF_nx, stF_er, dCall_s, dCall0_s, dCallK_s, dIsK_e, dAt_e, dRev_e, dPar3_e, dEnum_e, dZip_e, enumD_n, enumD_c, zipD_c, zipD_n, zipD_m, dRng1_e, dPs_e, dPn_e, dSl_e, frzS_e, noX_n, noX_v, noX_m, noX_u, noX_x, finX_s, finX_n, dBreak_e, dCont_e, rngD_z, rngD_s, dTrue_e, dLc_e, loopC_n, loopC_k, goC_s, goC_o, eleC_e, bindX_o, loopF_c, wipeE_n, wipeE_c, restE_n, restE_c, okOwn_n, okOwn_c, dTry_e, runH_n, runH_c, dRaise_e, dXf_e, shp_i, shp_b, shp_o, shp_s, shp_t, shp_l, shp_f, shps_n, shps_c, gEq_ci, gNe_ci, gEq_cb, gNe_cb, gEq_cs, gNe_cs, gEq_co, gNe_co, gEq_ct, gNe_ct, gEq_cl, gNe_cl, gEq_cf, gNe_cf, deq_ii, deq_bb, deq_bi, deq_ib, deq_ss, deq_tt, deq_ll, deq_lf, deq_fl, deq_ff, deq_oo, deqs_nn, deqs_cc, deqs_nc, deqs_cn, deq_oi, deq_io, deq_ob, deq_bo, deq_os, deq_so, deq_ot, deq_to, deq_ol, deq_lo, deq_it, deq_ti, deq_il, deq_li, deq_is, deq_si, deq_tl, deq_lt, deq_ts, deq_st, deq_ls, deq_sl, deq_bt, deq_tb, deq_bs, deq_sb, tru_b, tru_l, tru_t, tru_i, tru_o, ni_i, ni_b, ni_s, ni_o, ni_t, ni_l, ni_f, isTs_n, isTs_c, isT_i, isT_b, isT_s, isT_t, isT_l, isT_f, isT_o, gIs_n, gIs_bb, gIsNot_n, gIsNot_bb, isN_o, isN_i, isN_b, isN_s, isN_t, isN_l, isN_f, gList_t, gList_l, gList_f, gTuple_l, gTuple_f, gTuple_t, gIx_t, gIx_l, gIx_f, gSl_t, gSl_l, gSl_f, gEqS_e, gNeS_e, st_ok, st_err, st_bad, fl_m, fl_i, fl_b, fl_s, fl_o, fl_t, fl_l, fl_f, fl_n, fl_g, frzAr_n, frzAr_v, frzAr_s, hasS_n, hasS_v, hasS_s, vb_e, at4, at5, at6, at7, at8, at9, at10, at11, at12, atm1_1, atm1_2, atm1_3, atm1_4, atm1_5, atm1_6, atm1_7, atm1_8, ixq1_0, ixq2_0, ixq2_1, ixq3_0, ixq3_1, ixq3_2, ixq4_0, ixq4_1, ixq4_2, ixq4_3, ixq5_0, ixq5_1, ixq5_2, ixq5_3, ixq5_4, ixq6_0, ixq6_1, ixq6_2, ixq6_3, ixq6_4, ixq6_5, ixq7_0, ixq7_1, ixq7_2, ixq7_3, ixq7_4, ixq7_5, ixq7_6, ixq8_0, ixq8_1, ixq8_2, ixq8_3, ixq8_4, ixq8_5, ixq8_6, ixq8_7, Res.bind_ok, Res.bind_err, Res.bind_bad, List.getElem?_cons_zero, List.getElem?_cons_succ, List.set_cons_zero, List.set_cons_succ, List.map_cons, List.map_nil, List.cons_append, List.nil_append, List.append_nil, List.length_cons, List.length_nil, List.replicate, List.take, if_true, if_false, ite_true, ite_false, reduceIte, Nat.reduceAdd, Nat.reduceSub, Nat.reduceLeDiff, Bool.false_eq_true, Nat.reduceEqDiff, Nat.add_eq, Nat.add_zero, Nat.zero_add, Option.bind_some, Option.map_some, Nat.sub_self, eq_self, and_self, and_true, true_and, Bool.and_true, Bool.true_and, Bool.and_false, Bool.false_and, Bool.or_true, Bool.true_or, Bool.or_false, Bool.false_or, Bool.not_true, Bool.not_false, String.reduceBEq, decide_true, decide_false, List.reverse_cons, List.reverse_nil, List.isEmpty_cons, List.isEmpty_nil, Option.getD_some, Int.reduceLT, Int.reduceLE, Int.reduceEq, Int.reduceAdd, Int.reduceSub, Int.reduceMul, Int.reduceNeg, Nat.reduceLT, Nat.reduceMul, not_true_eq_false, not_false_eq_true, and_false, false_and, List.length_map, Int.natCast_zero, Int.reduceToNat, Int.cast_ofNat_Int, Int.reduceFDiv, Int.reduceFMod, Int.reduceBEq, Int.reduceBNe, Int.reduceNe, Nat.reduceBEq, Int.reducePow]
    · refine ⟨none, ?_, ⟨fun h => absurd (by unfold Exi at h; rw [if_pos rfl, if_neg zs] at h; exact h.1) q1, fun _ => rfl⟩⟩
      simp (disch := first | assumption | decide | omega) only [recFn_st (n := n), den_common_whole, z, q1, oD, dC_a, dVar_a, dSlot_a, dMove_a, dLV_a, dFrz_a, frzE_val, frzE_mu, dVal_a, get_v, get_s, dBin_a, dNeg_a, dTB_a, dBT_a, dTru_a, dNotT_a, dAndT_a, dOrT_a, dAndV_a, dOrV_a, dNotL_a, dIf_a, dIfF_a, dChain_a, dVs_n, dVs_c, dArs_n, dArs_c, dTup_a, dLst_a, getAll_n, getAll_c, dCB_a, dCallR_a, dIsi_a, dSeq_a, dSkip_a, dIfS_a, dRet_a, dSet_a, dAsg_a, asN_a, asT_a, asT_l, asC_a, asNil_a, dPar_a, dPut_a, dExp_a, dApp_a, dFor_a, loopF_n, dIt_a, gDiv_i, gMul_i, gMod_i, gEq_int, gNe_int, at0, at1, at2, at3, gAdd_i, gSub_i, gLt_i, gLe_i, gGt_i, gGe_i, gInt_i, gLen_l, gLen_f, gLen_t, gAbs_i, its_l, its_t, its_f, mkFn_s, stF_rt, stF_nx, stF_er, dCall_s, dCall0_s, dCallK_s, dIsK_e, dAt_e, dRev_e, dPar3_e, dEnum_e, dZip_e, enumD_n, enumD_c, zipD_c, zipD_n, zipD_m, dRng1_e, dPs_e, dPn_e, dSl_e, frzS_e, noX_n, noX_v, noX_m, noX_u, noX_x, finX_s, finX_n, dBreak_e, dCont_e, rngD_z, rngD_s, dTrue_e, dLc_e, loopC_n, loopC_k, goC_s, goC_o, eleC_e, bindX_o, loopF_c, wipeE_n, wipeE_c, restE_n, restE_c, okOwn_n, okOwn_c, dTry_e, runH_n, runH_c, dRaise_e, dXf_e, shp_i, shp_b, shp_o, shp_s, shp_t, shp_l, shp_f, shps_n, shps_c, gEq_ci, gNe_ci, gEq_cb, gNe_cb, gEq_cs, gNe_cs, gEq_co, gNe_co, gEq_ct, gNe_ct, gEq_cl, gNe_cl, gEq_cf, gNe_cf, deq_ii, deq_bb, deq_bi, deq_ib, deq_ss, deq_tt, deq_ll, deq_lf, deq_fl, deq_ff, deq_oo, deqs_nn, deqs_cc, deqs_nc, deqs_cn, deq_oi, deq_io, deq_ob, deq_bo, deq_os, deq_so, deq_ot, deq_to, deq_ol, deq_lo, deq_it, deq_ti, deq_il, deq_li, deq_is, deq_si, deq_tl, deq_lt, deq_ts, deq_st, deq_ls, deq_sl, deq_bt, deq_tb, deq_bs, deq_sb, tru_b, tru_l, tru_t, tru_i, tru_o, ni_i, ni_b, ni_s, ni_o, ni_t, ni_l, ni_f, isTs_n, isTs_c, isT_i, isT_b, isT_s, isT_t, isT_l, isT_f, isT_o, gIs_n, gIs_bb, gIsNot_n, gIsNot_bb, isN_o, isN_i, isN_b, isN_s, isN_t, isN_l, isN_f, gList_t, gList_l, gList_f, gTuple_l, gTuple_f, gTuple_t, gIx_t, gIx_l, gIx_f, gSl_t, gSl_l, gSl_f, gEqS_e, gNeS_e, st_ok, st_err, st_bad, fl_m, fl_i, fl_b, fl_s, fl_o, fl_t, fl_l, fl_f, fl_n, fl_g, frzAr_n, frzAr_v, frzAr_s, hasS_n, hasS_v, hasS_s, vb_e, at4, at5, at6, at7, at8, at9, at10, at11, at12, atm1_1, atm1_2, atm1_3, atm1_4, atm1_5, atm1_6, atm1_7, atm1_8, ixq1_0, ixq2_0, ixq2_1, ixq3_0, ixq3_1, ixq3_2, ixq4_0, ixq4_1, ixq4_2, ixq4_3, ixq5_0, ixq5_1, ixq5_2, ixq5_3, ixq5_4, ixq6_0, ixq6_1, ixq6_2, ixq6_3, ixq6_4, ixq6_5, ixq7_0, ixq7_1, ixq7_2, ixq7_3, ixq7_4, ixq7_5, ixq7_6, ixq8_0, ixq8_1, ixq8_2, ixq8_3, ixq8_4, ixq8_5, ixq8_6, ixq8_7, Res.bind_ok, Res.bind_err, Res.bind_bad, List.getElem?_cons_zero, List.getElem?_cons_succ, List.set_cons_zero, List.set_cons_succ, List.map_cons, List.map_nil, List.cons_append, List.nil_append, List.append_nil, List.length_cons, List.length_nil, List.replicate, List.take, if_true, if_false, ite_true, ite_false, reduceIte, Nat.reduceAdd, Nat.reduceSub, Nat.reduceLeDiff, Bool.false_eq_true, Nat.reduceEqDiff, Nat.add_eq, Nat.add_zero, Nat.zero_add, Option.bind_some, Option.map_some, Nat.sub_self, eq_self, and_self, and_true, true_and, Bool.and_true, Bool.true_and, Bool.and_false, Bool.false_and, Bool.or_true, Bool.true_or, Bool.or_false, Bool.false_or, Bool.not_true, Bool.not_false, String.reduceBEq, decide_true, decide_false, List.reverse_cons, List.reverse_nil, List.isEmpty_cons, List.isEmpty_nil, Option.getD_some, Int.reduceLT, Int.reduceLE, Int.reduceEq, Int.reduceAdd, Int.reduceSub, Int.reduceMul, Int.reduceNeg, Nat.reduceLT, Nat.reduceMul, not_true_eq_false, not_false_eq_true, and_false, false_and, List.length_map, Int.natCast_zero, Int.reduceToNat, Int.cast_ofNat_Int, Int.reduceFDiv, Int.reduceFMod, Int.reduceBEq, Int.reduceBNe, Int.reduceNe, Nat.reduceBEq, Int.reducePow]
theorem cw_ev {a e b s : Int} (he : 0 ≤ e) (hs : 0 ≤ s) (be : BdL 0 e) (bs : BdL 0 s) (ba : BdL 0 a) (bb : BdL 0 b) : ∃ o, (fn_common_whole [.val (.int a), .val (.int e), .val (.int b), .val (.int s)]).st = .ok (.val (oD o)) [] ∧ CW a e b s o := by
  show ∃ o, (recFn 4 9 den_common_whole (11 + 1) _).st = .ok (.val (oD o)) [] ∧ _
  by_cases ze : e = 0
  · subst ze
    exact cw_point 11 hs bs ba bb
  · have z1 : decide (e = 0) = false := decide_eq_false ze
    by_cases zs : s = 0
    · subst zs
      obtain ⟨o, h1, h2⟩ := cw_point 10 (a := b) (b := a) he be bb ba
      have hs' : ∀ f, Inb b 0 a e f → Inb a e b 0 f := fun f h => ⟨h.l, h.d2, h.d1, fun _ z => absurd rfl z⟩
      refine ⟨o, ?_, ⟨fun h => ?_, fun h => h2.n fun q => h (Exi.swap.mp q)⟩⟩
      · cases o <;> simp only [oD] at h1 ⊢ <;> simp (disch := first | assumption | decide | omega) only [recFn_st (n := 11), den_common_whole, z1, h1, dC_a, dVar_a, dSlot_a, dMove_a, dLV_a, dFrz_a, frzE_val, frzE_mu, dVal_a, get_v, get_s, dBin_a, dNeg_a, dTB_a, dBT_a, dTru_a, dNotT_a, dAndT_a, dOrT_a, dAndV_a, dOrV_a, dNotL_a, dIf_a, dIfF_a, dChain_a, dVs_n, dVs_c, dArs_n, dArs_c, dTup_a, dLst_a, getAll_n, getAll_c, dCB_a, dCallR_a, dIsi_a, dSeq_a, dSkip_a, dIfS_a, dRet_a, dSet_a, dAsg_a, asN_a, asT_a, asT_l, asC_a, asNil_a, dPar_a, dPut_a, dExp_a, dApp_a, dFor_a, loopF_n, dIt_a, gDiv_i, gMul_i, gMod_i, gEq_int, gNe_int, at0, at1, at2, at3, gAdd_i, gSub_i, gLt_i, gLe_i, gGt_i, gGe_i, gInt_i, gLen_l, gLen_f, gLen_t, gAbs_i, its_l, its_t, its_f, mkFn_s, stF_rt, stF_nx, stF_er, dCall_s, dCall0_s, dCallK_s, dIsK_e, dAt_e, dRev_e, dPar3_e, dEnum_e, dZip_e, enumD_n, enumD_c, zipD_c, zipD_n, zipD_m, dRng1_e, dPs_e, dPn_e, dSl_e, frzS_e, noX_n, noX_v, noX_m, noX_u, noX_x, finX_s, finX_n, dBreak_e, dCont_e, rngD_z, rngD_s, dTrue_e, dLc_e, loopC_n, loopC_k, goC_s, goC_o, eleC_e, bindX_o, loopF_c, wipeE_n, wipeE_c, restE_n, restE_c, okOwn_n, okOwn_c, dTry_e, runH_n, runH_c, dRaise_e, dXf_e, shp_i, shp_b, shp_o, shp_s, shp_t, shp_l, shp_f, shps_n, shps_c, gEq_ci, gNe_ci, gEq_cb, gNe_cb, gEq_cs, gNe_cs, gEq_co, gNe_co, gEq_ct, gNe_ct, gEq_cl, gNe_cl, gEq_cf, gNe_cf, deq_ii, deq_bb, deq_bi, deq_ib, deq_ss, deq_tt, deq_ll, deq_lf, deq_fl, deq_ff, deq_oo, deqs_nn, deqs_cc, deqs_nc, deqs_cn, deq_oi, deq_io, deq_ob, deq_bo, deq_os, deq_so, deq_ot, deq_to, deq_ol, deq_lo, deq_it, deq_ti, deq_il, deq_li, deq_is, deq_si, deq_tl, deq_lt, deq_ts, deq_st, deq_ls, deq_sl, deq_bt, deq_tb, deq_bs, deq_sb, tru_b, tru_l, tru_t, tru_i, tru_o, ni_i, ni_b, ni_s, ni_o, ni_t, ni_l, ni_f, isTs_n, isTs_c, isT_i, isT_b, isT_s, isT_t, isT_l, isT_f, isT_o, gIs_n, gIs_bb, gIsNot_n, gIsNot_bb, isN_o, isN_i, isN_b, isN_s, isN_t, isN_l, isN_f, gList_t, gList_l, gList_f, gTuple_l, gTuple_f, gTuple_t, gIx_t, gIx_l, gIx_f, gSl_t, gSl_l, gSl_f, gEqS_e, gNeS_e, st_ok, st_err, st_bad, fl_m, fl_i, fl_b, fl_s, fl_o, fl_t, fl_l, fl_f, fl_n, fl_g, frzAr_n, frzAr_v, frzAr_s, hasS_n, hasS_v, hasS_s, vb_e, at4, at5, at6, at7, at8, at9, at10, at11, at12, atm1_1, atm1_2, atm1_3, atm1_4, atm1_5, atm1_6, atm1_7, atm1_8, ixq1_0, ixq2_0, ixq2_1, ixq3_0, ixq3_1, ixq3_2, ixq4_0, ixq4_1, ixq4_2, ixq4_3, ixq5_0, ixq5_1, ixq5_2, ixq5_3, ixq5_4, ixq6_0, ixq6_1, ixq6_2, ixq6_3, ixq6_4, ixq6_5, ixq7_0, ixq7_1, ixq7_2, ixq7_3, ixq7_4, ixq7_5, ixq7_6, ixq8_0, ixq8_1, ixq8_2, ixq8_3, ixq8_4, ixq8_5, ixq8_6, ixq8_7, Res.bind_ok, Res.bind_err, Res.bind_bad, List.getElem?_cons_zero, List.getElem?_cons_succ, List.set_cons_zero, List.set_cons_succ, List.map_cons, List.map_nil, List.cons_append, List.nil_append, List.append_nil, List.length_cons, List.length_nil, List.replicate, List.take, if_true, if_false, ite_true, ite_false, reduceIte, Nat.reduceAdd, Nat.reduceSub, Nat.reduceLeDiff, Bool.false_eq_true, Nat.reduceEqDiff, Nat.add_eq, Nat.add_zero, Nat.zero_add, Option.bind_some, Option.map_some, Nat.sub_self, eq_self, and_self, and_true, true_and, Bool.and_true, Bool.true_and, Bool.and_false, Bool.false_and, Bool.or_true, Bool.true_or, Bool.or_false, Bool.false_or, Bool.not_true, Bool.not_false, String.reduceBEq, decide_true, decide_false, List.reverse_cons, List.reverse_nil, List.isEmpty_cons, List.isEmpty_nil, Option.getD_some, Int.reduceLT, Int.reduceLE, Int.reduceEq, Int.reduceAdd, Int.reduceSub, Int.reduceMul, Int.reduceNeg, Nat.reduceLT, Nat.reduceMul, not_true_eq_false, not_false_eq_true, and_false, false_and, List.length_map, Int.natCast_zero, Int.reduceToNat, Int.cast_ofNat_Int, Int.reduceFDiv, Int.reduceFMod, Int.reduceBEq, Int.reduceBNe, Int.reduceNe, Nat.reduceBEq, Int.reducePow]
      · obtain ⟨f, e1, e2⟩ := h2.y (Exi.swap.mpr h)
        exact ⟨f, e1, hs' f e2⟩
    · have z2 : decide (s = 0) = false := decide_eq_false zs
      have ep : 0 < e := by omega
      have sp : 0 < s := by omega
      have cp := gc_pos1 (b := s) ep
      have cl : gc e s ≤ e := Int.le_of_dvd ep (gc_dvd1 e s)
      have bc : BdL 0 (gc e s) := bd_abs be (by omega)
      have dc := fun i => gDiv_i (i := i) (divOk_L (bc.up (by decide)) (show gc e s ≠ 0 by omega))
      have bt : BdL 1 ((b - a) / gc e s) := (bb.sub ba).div
      have m1 := gMul_i (mulOk_L (bt.up (by decide)) (bc.up (by decide)))
      have d1 := dc (b - a)
      have d2 := dc e
      have d3 := dc s
      rw [fdiv_pos cp] at d1 d2 d3
      by_cases q : gc e s ∣ b - a
      · have t : decide ((b - a) / gc e s * gc e s = b - a) = true := decide_eq_true (Int.ediv_mul_cancel q)
        have E0 : 0 ≤ e / gc e s := Int.ediv_nonneg he (by omega)
        have S0 : 0 < s / gc e s := by
          have h1 : s / gc e s * gc e s = s := Int.ediv_mul_cancel (gc_dvd2 e s)
          rcases Int.lt_or_le 0 (s / gc e s) with h2 | h2
          · exact h2
          · have := Int.mul_le_mul_of_nonneg_right h2 (show 0 ≤ gc e s by omega)
            omega
        obtain ⟨r, hr, r0, r1, r2⟩ := inverse_ev E0 S0 (be.div.up (by decide)) (bs.div.up (by decide)) (div_one_gc ep)
        have Sle : s / gc e s ≤ s := Int.ediv_le_self _ hs
        have br : BdL 0 r := bd_abs bs (by omega)
        have m2 := gMul_i (mulOk_L (bt.up (by decide)) (br.up (by decide)))
        have bm : BdL 2 ((b - a) / gc e s * r) := bt.mul (br.up (by decide))
        have m3 := gMul_i (mulOk_L (bm.up (by decide)) (be.up (by decide)))
        have bF : BdL 4 (a + (b - a) / gc e s * r * e) := BdL.add (ba.up (by decide)) (bm.mul (be.up (by decide)))
        have lp := lc_pos ep sp
        have bL : BdL 1 (lc e s) := bd_abs (be.mul bs) ⟨by have := Int.mul_pos ep sp; omega, lc_le ep sp⟩
        have hl := gLcm_i (i := e) (j := s) (be.up (by decide)) (bs.up (by decide))
        have hc := crt ep sp q r2
        have d4 := gDiv_i (i := a + (b - a) / gc e s * r * e) (divOk_L (bL.up (by decide)) (show lc e s ≠ 0 by omega))
        rw [fdiv_pos lp] at d4
        have m4 := gMul_i (mulOk_L (bF.div (j := lc e s) |>.up (by decide)) (bL.up (by decide)))
        have em := Int.emod_def (a + (b - a) / gc e s * r * e) (lc e s)
        rw [Int.fmod_eq_emod_of_nonneg _ (by omega), em, Int.mul_comm (lc e s)] at hc
        refine ⟨some _, ?_, ⟨fun _ => ⟨_, rfl, ⟨hc.l, hc.d1, hc.d2, fun _ _ => hc.u⟩⟩, fun h => absurd (show Exi a e b s by unfold Exi; rw [if_neg ze, if_neg zs]; exact q) h⟩⟩
        clear hc em
        have hg := gGcd_i (i := e) (j := s)
        generalize gc e s = c at *
        generalize lc e s = L at *
        simp (disch := first | assumption | decide | omega) only [recFn_st (n := 11), den_common_whole, z1, z2, hg, d1, d2, d3, m1, t, hr, m2, m3, hl, d4, m4, oD, dC_a, dVar_a, dSlot_a, dMove_a, dLV_a, dFrz_a, frzE_val, frzE_mu, dVal_a, get_v, get_s, dBin_a, dNeg_a, dTB_a, dBT_a, dTru_a, dNotT_a, dAndT_a, dOrT_a, dAndV_a, dOrV_a, dNotL_a, dIf_a, dIfF_a, dChain_a, dVs_n, dVs_c, dArs_n, dArs_c, dTup_a, dLst_a, getAll_n, getAll_c, dCB_a, dCallR_a, dIsi_a, dSeq_a, dSkip_a, dIfS_a, dRet_a, dSet_a, dAsg_a, asN_a, asT_a, asT_l, asC_a, asNil_a, dPar_a, dPut_a, dExp_a, dApp_a, dFor_a, loopF_n, dIt_a, gDiv_i, gMul_i, gMod_i, gEq_int, gNe_int, at0, at1, at2, at3, gAdd_i, gSub_i, gLt_i, gLe_i, gGt_i, gGe_i, gInt_i, gLen_l, gLen_f, gLen_t, gAbs_i, its_l, its_t, its_f, mkFn_s, stF_rt, stF_nx, stF_er, dCall_s, dCall0_s, dCallK_s, dIsK_e, dAt_e, dRev_e, dPar3_e, dEnum_e, dZip_e, enumD_n, enumD_c, zipD_c, zipD_n, zipD_m, dRng1_e, dPs_e, dPn_e, dSl_e, frzS_e, noX_n, noX_v, noX_m, noX_u, noX_x, finX_s, finX_n, dBreak_e, dCont_e, rngD_z, rngD_s, dTrue_e, dLc_e, loopC_n, loopC_k, goC_s, goC_o, eleC_e, bindX_o, loopF_c, wipeE_n, wipeE_c, restE_n, restE_c, okOwn_n, okOwn_c, dTry_e, runH_n, runH_c, dRaise_e, dXf_e, shp_i, shp_b, shp_o, shp_s, shp_t, shp_l, shp_f, shps_n, shps_c, gEq_ci, gNe_ci, gEq_cb, gNe_cb, gEq_cs, gNe_cs, gEq_co, gNe_co, gEq_ct, gNe_ct, gEq_cl, gNe_cl, gEq_cf, gNe_cf, deq_ii, deq_bb, deq_bi, deq_ib, deq_ss, deq_tt, deq_ll, deq_lf, deq_fl, deq_ff, deq_oo, deqs_nn, deqs_cc, deqs_nc, deqs_cn, deq_oi, deq_io, deq_ob, deq_bo, deq_os, deq_so, deq_ot, deq_to, deq_ol, deq_lo, deq_it, deq_ti, deq_il, deq_li, deq_is, deq_si, deq_tl, deq_lt, deq_ts, deq_st, deq_ls, deq_sl, deq_bt, deq_tb, deq_bs, deq_sb, tru_b, tru_l, tru_t, tru_i, tru_o, ni_i, ni_b, ni_s, ni_o, ni_t, ni_l, ni_f, isTs_n, isTs_c, isT_i, isT_b, isT_s, isT_t, isT_l, isT_f, isT_o, gIs_n, gIs_bb, gIsNot_n, gIsNot_bb, isN_o, isN_i, isN_b, isN_s, isN_t, isN_l, isN_f, gList_t, gList_l, gList_f, gTuple_l, gTuple_f, gTuple_t, gIx_t, gIx_l, gIx_f, gSl_t, gSl_l, gSl_f, gEqS_e, gNeS_e, st_ok, st_err, st_bad, fl_m, fl_i, fl_b, fl_s, fl_o, fl_t, fl_l, fl_f, fl_n, fl_g, frzAr_n, frzAr_v, frzAr_s, hasS_n, hasS_v, hasS_s, vb_e, at4, at5, at6, at7, at8, at9, at10, at11, at12, atm1_1, atm1_2, atm1_3, atm1_4, atm1_5, atm1_6, atm1_7, atm1_8, ixq1_0, ixq2_0, ixq2_1, ixq3_0, ixq3_1, ixq3_2, ixq4_0, ixq4_1, ixq4_2, ixq4_3, ixq5_0, ixq5_1, ixq5_2, ixq5_3, ixq5_4, ixq6_0, ixq6_1, ixq6_2, ixq6_3, ixq6_4, ixq6_5, ixq7_0, ixq7_1, ixq7_2, ixq7_3, ixq7_4, ixq7_5, ixq7_6, ixq8_0, ixq8_1, ixq8_2, ixq8_3, ixq8_4, ixq8_5, ixq8_6, ixq8_7, Res.bind_ok, Res.bind_err, Res.bind_bad, List.getElem?_cons_zero, List.getElem?_cons_succ, List.set_cons_zero, List.set_cons_succ, List.map_cons, List.map_nil, List.cons_append, List.nil_append, List.append_nil, List.length_cons, List.length_nil, List.replicate, List.take, if_true, if_false, ite_true, ite_false, reduceIte, Nat.reduceAdd, Nat.reduceSub, Nat.reduceLeDiff, Bool.false_eq_true, Nat.reduceEqDiff, Nat.add_eq, Nat.add_zero, Nat.zero_add, Option.bind_some, Option.map_some, Nat.sub_self, eq_self, and_self, and_true, true_and, Bool.and_true, Bool.true_and, Bool.and_false, Bool.false_and, Bool.or_true, Bool.true_or, Bool.or_false, Bool.false_or, Bool.not_true, Bool.not_false, String.reduceBEq, decide_true, decide_false, List.reverse_cons, List.reverse_nil, List.isEmpty_cons, List.isEmpty_nil, Option.getD_some, Int.reduceLT, Int.reduceLE, Int.reduceEq, Int.reduceAdd, Int.reduceSub, Int.reduceMul, Int.reduceNeg, Nat.reduceLT, Nat.reduceMul, not_true_eq_false, not_false_eq_true, and_false, false_and, List.length_map, Int.natCast_zero, Int.reduceToNat, Int.cast_ofNat_Int, Int.reduceFDiv, Int.reduceFMod, Int.reduceBEq, Int.reduceBNe, Int.reduceNe, Nat.reduceBEq, Int.reducePow]
      · have t : decide ((b - a) / gc e s * gc e s = b - a) = false := decide_eq_false fun h => q ⟨(b - a) / gc e s, by rw [Int.mul_comm]; exact h.symm⟩
        refine ⟨none, ?_, ⟨fun h => absurd (by unfold Exi at h; rw [if_neg ze, if_neg zs] at h; exact h) q, fun _ => rfl⟩⟩
        have hg := gGcd_i (i := e) (j := s)
        generalize gc e s = c at *
        simp (disch := first | assumption | decide | omega) only [recFn_st (n := 11), den_common_whole, z1, z2, hg, d1, m1, t, oD, dC_a, dVar_a, dSlot_a, dMove_a, dLV_a, dFrz_a, frzE_val, frzE_mu, dVal_a, get_v, get_s, dBin_a, dNeg_a, dTB_a, dBT_a, dTru_a, dNotT_a, dAndT_a, dOrT_a, dAndV_a, dOrV_a, dNotL_a, dIf_a, dIfF_a, dChain_a, dVs_n, dVs_c, dArs_n, dArs_c, dTup_a, dLst_a, getAll_n, getAll_c, dCB_a, dCallR_a, dIsi_a, dSeq_a, dSkip_a, dIfS_a, dRet_a, dSet_a, dAsg_a, asN_a, asT_a, asT_l, asC_a, asNil_a, dPar_a, dPut_a, dExp_a, dApp_a, dFor_a, loopF_n, dIt_a, gDiv_i, gMul_i, gMod_i, gEq_int, gNe_int, at0, at1, at2, at3, gAdd_i, gSub_i, gLt_i, gLe_i, gGt_i, gGe_i, gInt_i, gLen_l, gLen_f, gLen_t, gAbs_i, its_l, its_t, its_f, mkFn_s, stF_rt, stF_nx, stF_er, dCall_s, dCall0_s, dCallK_s, dIsK_e, dAt_e, dRev_e, dPar3_e, dEnum_e, dZip_e, enumD_n, enumD_c, zipD_c, zipD_n, zipD_m, dRng1_e, dPs_e, dPn_e, dSl_e, frzS_e, noX_n, noX_v, noX_m, noX_u, noX_x, finX_s, finX_n, dBreak_e, dCont_e, rngD_z, rngD_s, dTrue_e, dLc_e, loopC_n, loopC_k, goC_s, goC_o, eleC_e, bindX_o, loopF_c, wipeE_n, wipeE_c, restE_n, restE_c, okOwn_n, okOwn_c, dTry_e, runH_n, runH_c, dRaise_e, dXf_e, shp_i, shp_b, shp_o, shp_s, shp_t, shp_l, shp_f, shps_n, shps_c, gEq_ci, gNe_ci, gEq_cb, gNe_cb, gEq_cs, gNe_cs, gEq_co, gNe_co, gEq_ct, gNe_ct, gEq_cl, gNe_cl, gEq_cf, gNe_cf, deq_ii, deq_bb, deq_bi, deq_ib, deq_ss, deq_tt, deq_ll, deq_lf, deq_fl, deq_ff, deq_oo, deqs_nn, deqs_cc, deqs_nc, deqs_cn, deq_oi, deq_io, deq_ob, deq_bo, deq_os, deq_so, deq_ot, deq_to, deq_ol, deq_lo, deq_it, deq_ti, deq_il, deq_li, deq_is, deq_si, deq_tl, deq_lt, deq_ts, deq_st, deq_ls, deq_sl, deq_bt, deq_tb, deq_bs, deq_sb, tru_b, tru_l, tru_t, tru_i, tru_o, ni_i, ni_b, ni_s, ni_o, ni_t, ni_l, ni_f, isTs_n, isTs_c, isT_i, isT_b, isT_s, isT_t, isT_l, isT_f, isT_o, gIs_n, gIs_bb, gIsNot_n, gIsNot_bb, isN_o, isN_i, isN_b, isN_s, isN_t, isN_l, isN_f, gList_t, gList_l, gList_f, gTuple_l, gTuple_f, gTuple_t, gIx_t, gIx_l, gIx_f, gSl_t, gSl_l, gSl_f, gEqS_e, gNeS_e, st_ok, st_err, st_bad, fl_m, fl_i, fl_b, fl_s, fl_o, fl_t, fl_l, fl_f, fl_n, fl_g, frzAr_n, frzAr_v, frzAr_s, hasS_n, hasS_v, hasS_s, vb_e, at4, at5, at6, at7, at8, at9, at10, at11, at12, atm1_1, atm1_2, atm1_3, atm1_4, atm1_5, atm1_6, atm1_7, atm1_8, ixq1_0, ixq2_0, ixq2_1, ixq3_0, ixq3_1, ixq3_2, ixq4_0, ixq4_1, ixq4_2, ixq4_3, ixq5_0, ixq5_1, ixq5_2, ixq5_3, ixq5_4, ixq6_0, ixq6_1, ixq6_2, ixq6_3, ixq6_4, ixq6_5, ixq7_0, ixq7_1, ixq7_2, ixq7_3, ixq7_4, ixq7_5, ixq7_6, ixq8_0, ixq8_1, ixq8_2, ixq8_3, ixq8_4, ixq8_5, ixq8_6, ixq8_7, Res.bind_ok, Res.bind_err, Res.bind_bad, List.getElem?_cons_zero, List.getElem?_cons_succ, List.set_cons_zero, List.set_cons_succ, List.map_cons, List.map_nil, List.cons_append, List.nil_append, List.append_nil, List.length_cons, List.length_nil, List.replicate, List.take, if_true, if_false, ite_true, ite_false, reduceIte, Nat.reduceAdd, Nat.reduceSub, Nat.reduceLeDiff, Bool.false_eq_true, Nat.reduceEqDiff, Nat.add_eq, Nat.add_zero, Nat.zero_add, Option.bind_some, Option.map_some, Nat.sub_self, eq_self, and_self, and_true, true_and, Bool.and_true, Bool.true_and, Bool.and_false, Bool.false_and, Bool.or_true, Bool.true_or, Bool.or_false, Bool.false_or, Bool.not_true, Bool.not_false, String.reduceBEq, decide_true, decide_false, List.reverse_cons, List.reverse_nil, List.isEmpty_cons, List.isEmpty_nil, Option.getD_some, Int.reduceLT, Int.reduceLE, Int.reduceEq, Int.reduceAdd, Int.reduceSub, Int.reduceMul, Int.reduceNeg, Nat.reduceLT, Nat.reduceMul, not_true_eq_false, not_false_eq_true, and_false, false_and, List.length_map, Int.natCast_zero, Int.reduceToNat, Int.cast_ofNat_Int, Int.reduceFDiv, Int.reduceFMod, Int.reduceBEq, Int.reduceBNe, Int.reduceNe, Nat.reduceBEq, Int.reducePow]
end Kx

set_option linter.all false
set_option maxRecDepth 100000
set_option maxHeartbeats 4000000
namespace Kx
open PySem PySem.Spec PyProof.Rows L2 Ev
structure RK (k : Nat) (r : Rat) : Prop where
  n : Bd k r.num
  d : Bd k (r.den : Int)
theorem RK.mono {j k : Nat} {r : Rat} (h : RK j r) (l : j ≤ k) : RK k r := ⟨h.n.mono l, h.d.mono l⟩
theorem RK.qv {k : Nat} {a b : Int} (h : 0 < b) (ha : Bd k a) (hb : Bd k b) : RK k (qv a b) := ⟨by rw [qv_num h]; exact ha.div, by rw [qv_den h]; exact hb.div⟩
abbrev rL (r : Rat) : D := .lst [.int r.num, .int (r.den : Int)]
def Rs (d : D) (r : Rat) : Prop := d = rD r ∨ d = rL r
theorem gc_rat (r : Rat) : gc r.num (r.den : Int) = 1 := by
  have := r.reduced
  show ((Nat.gcd r.num.natAbs ((r.den : Int)).natAbs : Nat) : Int) = 1
  rw [Int.natAbs_natCast]
  exact congrArg (fun n : Nat => (n : Int)) this
theorem whole_n (i : Int) : (fn_is_whole [.val (.int i), .val .non, .val .non]).st = .ok (.val (.bl true)) [] := by simp (disch := first | assumption | decide | omega) only [fn_is_whole, den_is_whole, dC_a, dVar_a, dSlot_a, dMove_a, dLV_a, dFrz_a, frzE_val, frzE_mu, dVal_a, get_v, get_s, dBin_a, dNeg_a, dTB_a, dBT_a, dTru_a, dNotT_a, dAndT_a, dOrT_a, dAndV_a, dOrV_a, dNotL_a, dIf_a, dIfF_a, dChain_a, dVs_n, dVs_c, dArs_n, dArs_c, dTup_a, dLst_a, getAll_n, getAll_c, dCB_a, dCallR_a, dIsi_a, dSeq_a, dSkip_a, dIfS_a, dRet_a, dSet_a, dAsg_a, asN_a, asT_a, asT_l, asC_a, asNil_a, dPar_a, dPut_a, dExp_a, dApp_a, dFor_a, loopF_n, dIt_a, gDiv_i, gMul_i, gMod_i, gEq_int, gNe_int, at0, at1, at2, at3, gAdd_i, gSub_i, gLt_i, gLe_i, gGt_i, gGe_i, gInt_i, gLen_l, gLen_f, gLen_t, gAbs_i, its_l, its_t, its_f, mkFn_s, stF_rt, stF_nx, stF_er, dCall_s, dCall0_s, dCallK_s, dIsK_e, dAt_e, dRev_e, dPar3_e, dEnum_e, dZip_e, enumD_n, enumD_c, zipD_c, zipD_n, zipD_m, dRng1_e, dPs_e, dPn_e, dSl_e, frzS_e, noX_n, noX_v, noX_m, noX_u, noX_x, finX_s, finX_n, dBreak_e, dCont_e, rngD_z, rngD_s, dTrue_e, dLc_e, loopC_n, loopC_k, goC_s, goC_o, eleC_e, bindX_o, loopF_c, wipeE_n, wipeE_c, restE_n, restE_c, okOwn_n, okOwn_c, dTry_e, runH_n, runH_c, dRaise_e, dXf_e, shp_i, shp_b, shp_o, shp_s, shp_t, shp_l, shp_f, shps_n, shps_c, gEq_ci, gNe_ci, gEq_cb, gNe_cb, gEq_cs, gNe_cs, gEq_co, gNe_co, gEq_ct, gNe_ct, gEq_cl, gNe_cl, gEq_cf, gNe_cf, deq_ii, deq_bb, deq_bi, deq_ib, deq_ss, deq_tt, deq_ll, deq_lf, deq_fl, deq_ff, deq_oo, deqs_nn, deqs_cc, deqs_nc, deqs_cn, deq_oi, deq_io, deq_ob, deq_bo, deq_os, deq_so, deq_ot, deq_to, deq_ol, deq_lo, deq_it, deq_ti, deq_il, deq_li, deq_is, deq_si, deq_tl, deq_lt, deq_ts, deq_st, deq_ls, deq_sl, deq_bt, deq_tb, deq_bs, deq_sb, tru_b, tru_l, tru_t, tru_i, tru_o, ni_i, ni_b, ni_s, ni_o, ni_t, ni_l, ni_f, isTs_n, isTs_c, isT_i, isT_b, isT_s, isT_t, isT_l, isT_f, isT_o, gIs_n, gIs_bb, gIsNot_n, gIsNot_bb, isN_o, isN_i, isN_b, isN_s, isN_t, isN_l, isN_f, gList_t, gList_l, gList_f, gTuple_l, gTuple_f, gTuple_t, gIx_t, gIx_l, gIx_f, gSl_t, gSl_l, gSl_f, gEqS_e, gNeS_e, st_ok, st_err, st_bad, fl_m, fl_i, fl_b, fl_s, fl_o, fl_t, fl_l, fl_f, fl_n, fl_g, frzAr_n, frzAr_v, frzAr_s, hasS_n, hasS_v, hasS_s, vb_e, at4, at5, at6, at7, at8, at9, at10, at11, at12, atm1_1, atm1_2, atm1_3, atm1_4, atm1_5, atm1_6, atm1_7, atm1_8, ixq1_0, ixq2_0, ixq2_1, ixq3_0, ixq3_1, ixq3_2, ixq4_0, ixq4_1, ixq4_2, ixq4_3, ixq5_0, ixq5_1, ixq5_2, ixq5_3, ixq5_4, ixq6_0, ixq6_1, ixq6_2, ixq6_3, ixq6_4, ixq6_5, ixq7_0, ixq7_1, ixq7_2, ixq7_3, ixq7_4, ixq7_5, ixq7_6, ixq8_0, ixq8_1, ixq8_2, ixq8_3, ixq8_4, ixq8_5, ixq8_6, ixq8_7, Res.bind_ok, Res.bind_err, Res.bind_bad, List.getElem?_cons_zero, List.getElem?_cons_succ, List.set_cons_zero, List.set_cons_succ, List.map_cons, List.map_nil, List.cons_append, List.nil_append, List.append_nil, List.length_cons, List.length_nil, List.replicate, List.take, if_true, if_false, ite_true, ite_false, reduceIte, Nat.reduceAdd, Nat.reduceSub, Nat.reduceLeDiff, Bool.false_eq_true, Nat.reduceEqDiff, Nat.add_eq, Nat.add_zero, Nat.zero_add, Option.bind_some, Option.map_some, Nat.sub_self, eq_self, and_self, and_true, true_and, Bool.and_true, Bool.true_and, Bool.and_false, Bool.false_and, Bool.or_true, Bool.true_or, Bool.or_false, Bool.false_or, Bool.not_true, Bool.not_false, String.reduceBEq, decide_true, decide_false, List.reverse_cons, List.reverse_nil, List.isEmpty_cons, List.isEmpty_nil, Option.getD_some, Int.reduceLT, Int.reduceLE, Int.reduceEq, Int.reduceAdd, Int.reduceSub, Int.reduceMul, Int.reduceNeg, Nat.reduceLT, Nat.reduceMul, not_true_eq_false, not_false_eq_true, and_false, false_and, List.length_map, Int.natCast_zero, Int.reduceToNat, Int.cast_ofNat_Int, Int.reduceFDiv, Int.reduceFMod, Int.reduceBEq, Int.reduceBNe, Int.reduceNe, Nat.reduceBEq, Int.reducePow, ite_self]
theorem whole_1 {i : Int} (h : 1 ≤ i) : (fn_is_whole [.val (.int i), .val (.int 1), .val .non]).st = .ok (.val (.bl true)) [] := by simp (disch := first | assumption | decide | omega) only [fn_is_whole, den_is_whole, h, dC_a, dVar_a, dSlot_a, dMove_a, dLV_a, dFrz_a, frzE_val, frzE_mu, dVal_a, get_v, get_s, dBin_a, dNeg_a, dTB_a, dBT_a, dTru_a, dNotT_a, dAndT_a, dOrT_a, dAndV_a, dOrV_a, dNotL_a, dIf_a, dIfF_a, dChain_a, dVs_n, dVs_c, dArs_n, dArs_c, dTup_a, dLst_a, getAll_n, getAll_c, dCB_a, dCallR_a, dIsi_a, dSeq_a, dSkip_a, dIfS_a, dRet_a, dSet_a, dAsg_a, asN_a, asT_a, asT_l, asC_a, asNil_a, dPar_a, dPut_a, dExp_a, dApp_a, dFor_a, loopF_n, dIt_a, gDiv_i, gMul_i, gMod_i, gEq_int, gNe_int, at0, at1, at2, at3, gAdd_i, gSub_i, gLt_i, gLe_i, gGt_i, gGe_i, gInt_i, gLen_l, gLen_f, gLen_t, gAbs_i, its_l, its_t, its_f, mkFn_s, stF_rt, stF_nx, stF_er, dCall_s, dCall0_s, dCallK_s, dIsK_e, dAt_e, dRev_e, dPar3_e, dEnum_e, dZip_e, enumD_n, enumD_c, zipD_c, zipD_n, zipD_m, dRng1_e, dPs_e, dPn_e, dSl_e, frzS_e, noX_n, noX_v, noX_m, noX_u, noX_x, finX_s, finX_n, dBreak_e, dCont_e, rngD_z, rngD_s, dTrue_e, dLc_e, loopC_n, loopC_k, goC_s, goC_o, eleC_e, bindX_o, loopF_c, wipeE_n, wipeE_c, restE_n, restE_c, okOwn_n, okOwn_c, dTry_e, runH_n, runH_c, dRaise_e, dXf_e, shp_i, shp_b, shp_o, shp_s, shp_t, shp_l, shp_f, shps_n, shps_c, gEq_ci, gNe_ci, gEq_cb, gNe_cb, gEq_cs, gNe_cs, gEq_co, gNe_co, gEq_ct, gNe_ct, gEq_cl, gNe_cl, gEq_cf, gNe_cf, deq_ii, deq_bb, deq_bi, deq_ib, deq_ss, deq_tt, deq_ll, deq_lf, deq_fl, deq_ff, deq_oo, deqs_nn, deqs_cc, deqs_nc, deqs_cn, deq_oi, deq_io, deq_ob, deq_bo, deq_os, deq_so, deq_ot, deq_to, deq_ol, deq_lo, deq_it, deq_ti, deq_il, deq_li, deq_is, deq_si, deq_tl, deq_lt, deq_ts, deq_st, deq_ls, deq_sl, deq_bt, deq_tb, deq_bs, deq_sb, tru_b, tru_l, tru_t, tru_i, tru_o, ni_i, ni_b, ni_s, ni_o, ni_t, ni_l, ni_f, isTs_n, isTs_c, isT_i, isT_b, isT_s, isT_t, isT_l, isT_f, isT_o, gIs_n, gIs_bb, gIsNot_n, gIsNot_bb, isN_o, isN_i, isN_b, isN_s, isN_t, isN_l, isN_f, gList_t, gList_l, gList_f, gTuple_l, gTuple_f, gTuple_t, gIx_t, gIx_l, gIx_f, gSl_t, gSl_l, gSl_f, gEqS_e, gNeS_e, st_ok, st_err, st_bad, fl_m, fl_i, fl_b, fl_s, fl_o, fl_t, fl_l, fl_f, fl_n, fl_g, frzAr_n, frzAr_v, frzAr_s, hasS_n, hasS_v, hasS_s, vb_e, at4, at5, at6, at7, at8, at9, at10, at11, at12, atm1_1, atm1_2, atm1_3, atm1_4, atm1_5, atm1_6, atm1_7, atm1_8, ixq1_0, ixq2_0, ixq2_1, ixq3_0, ixq3_1, ixq3_2, ixq4_0, ixq4_1, ixq4_2, ixq4_3, ixq5_0, ixq5_1, ixq5_2, ixq5_3, ixq5_4, ixq6_0, ixq6_1, ixq6_2, ixq6_3, ixq6_4, ixq6_5, ixq7_0, ixq7_1, ixq7_2, ixq7_3, ixq7_4, ixq7_5, ixq7_6, ixq8_0, ixq8_1, ixq8_2, ixq8_3, ixq8_4, ixq8_5, ixq8_6, ixq8_7, Res.bind_ok, Res.bind_err, Res.bind_bad, List.getElem?_cons_zero, List.getElem?_cons_succ, List.set_cons_zero, List.set_cons_succ, List.map_cons, List.map_nil, List.cons_append, List.nil_append, List.append_nil, List.length_cons, List.length_nil, List.replicate, List.take, if_true, if_false, ite_true, ite_false, reduceIte, Nat.reduceAdd, Nat.reduceSub, Nat.reduceLeDiff, Bool.false_eq_true, Nat.reduceEqDiff, Nat.add_eq, Nat.add_zero, Nat.zero_add, Option.bind_some, Option.map_some, Nat.sub_self, eq_self, and_self, and_true, true_and, Bool.and_true, Bool.true_and, Bool.and_false, Bool.false_and, Bool.or_true, Bool.true_or, Bool.or_false, Bool.false_or, Bool.not_true, Bool.not_false, String.reduceBEq, decide_true, decide_false, List.reverse_cons, List.reverse_nil, List.isEmpty_cons, List.isEmpty_nil, Option.getD_some, Int.reduceLT, Int.reduceLE, Int.reduceEq, Int.reduceAdd, Int.reduceSub, Int.reduceMul, Int.reduceNeg, Nat.reduceLT, Nat.reduceMul, not_true_eq_false, not_false_eq_true, and_false, false_and, List.length_map, Int.natCast_zero, Int.reduceToNat, Int.cast_ofNat_Int, Int.reduceFDiv, Int.reduceFMod, Int.reduceBEq, Int.reduceBNe, Int.reduceNe, Nat.reduceBEq, Int.reducePow, ite_self]
theorem is_ratio_ev {d : D} {r : Rat} (h : Rs d r) : (fn_is_ratio [.val d]).st = .ok (.val (.bl true)) [] := by
  have p := den_pos r
  have g : gGcd [.int r.num, .int (r.den : Int)] = some (.val (.int 1)) := by rw [gGcd_i, gc_rat]
  rcases h with rfl | rfl <;> simp (disch := first | assumption | decide | omega) only [fn_is_ratio, den_is_ratio, whole_n, whole_1 (show 1 ≤ (r.den : Int) by omega), g, dC_a, dVar_a, dSlot_a, dMove_a, dLV_a, dFrz_a, frzE_val, frzE_mu, dVal_a, get_v, get_s, dBin_a, dNeg_a, dTB_a, dBT_a, dTru_a, dNotT_a, dAndT_a, dOrT_a, dAndV_a, dOrV_a, dNotL_a, dIf_a, dIfF_a, dChain_a, dVs_n, dVs_c, dArs_n, dArs_c, dTup_a, dLst_a, getAll_n, getAll_c, dCB_a, dCallR_a, dIsi_a, dSeq_a, dSkip_a, dIfS_a, dRet_a, dSet_a, dAsg_a, asN_a, asT_a, asT_l, asC_a, asNil_a, dPar_a, dPut_a, dExp_a, dApp_a, dFor_a, loopF_n, dIt_a, gDiv_i, gMul_i, gMod_i, gEq_int, gNe_int, at0, at1, at2, at3, gAdd_i, gSub_i, gLt_i, gLe_i, gGt_i, gGe_i, gInt_i, gLen_l, gLen_f, gLen_t, gAbs_i, its_l, its_t, its_f, mkFn_s, stF_rt, stF_nx, stF_er, dCall_s, dCall0_s, dCallK_s, dIsK_e, dAt_e, dRev_e, dPar3_e, dEnum_e, dZip_e, enumD_n, enumD_c, zipD_c, zipD_n, zipD_m, dRng1_e, dPs_e, dPn_e, dSl_e, frzS_e, noX_n, noX_v, noX_m, noX_u, noX_x, finX_s, finX_n, dBreak_e, dCont_e, rngD_z, rngD_s, dTrue_e, dLc_e, loopC_n, loopC_k, goC_s, goC_o, eleC_e, bindX_o, loopF_c, wipeE_n, wipeE_c, restE_n, restE_c, okOwn_n, okOwn_c, dTry_e, runH_n, runH_c, dRaise_e, dXf_e, shp_i, shp_b, shp_o, shp_s, shp_t, shp_l, shp_f, shps_n, shps_c, gEq_ci, gNe_ci, gEq_cb, gNe_cb, gEq_cs, gNe_cs, gEq_co, gNe_co, gEq_ct, gNe_ct, gEq_cl, gNe_cl, gEq_cf, gNe_cf, deq_ii, deq_bb, deq_bi, deq_ib, deq_ss, deq_tt, deq_ll, deq_lf, deq_fl, deq_ff, deq_oo, deqs_nn, deqs_cc, deqs_nc, deqs_cn, deq_oi, deq_io, deq_ob, deq_bo, deq_os, deq_so, deq_ot, deq_to, deq_ol, deq_lo, deq_it, deq_ti, deq_il, deq_li, deq_is, deq_si, deq_tl, deq_lt, deq_ts, deq_st, deq_ls, deq_sl, deq_bt, deq_tb, deq_bs, deq_sb, tru_b, tru_l, tru_t, tru_i, tru_o, ni_i, ni_b, ni_s, ni_o, ni_t, ni_l, ni_f, isTs_n, isTs_c, isT_i, isT_b, isT_s, isT_t, isT_l, isT_f, isT_o, gIs_n, gIs_bb, gIsNot_n, gIsNot_bb, isN_o, isN_i, isN_b, isN_s, isN_t, isN_l, isN_f, gList_t, gList_l, gList_f, gTuple_l, gTuple_f, gTuple_t, gIx_t, gIx_l, gIx_f, gSl_t, gSl_l, gSl_f, gEqS_e, gNeS_e, st_ok, st_err, st_bad, fl_m, fl_i, fl_b, fl_s, fl_o, fl_t, fl_l, fl_f, fl_n, fl_g, frzAr_n, frzAr_v, frzAr_s, hasS_n, hasS_v, hasS_s, vb_e, at4, at5, at6, at7, at8, at9, at10, at11, at12, atm1_1, atm1_2, atm1_3, atm1_4, atm1_5, atm1_6, atm1_7, atm1_8, ixq1_0, ixq2_0, ixq2_1, ixq3_0, ixq3_1, ixq3_2, ixq4_0, ixq4_1, ixq4_2, ixq4_3, ixq5_0, ixq5_1, ixq5_2, ixq5_3, ixq5_4, ixq6_0, ixq6_1, ixq6_2, ixq6_3, ixq6_4, ixq6_5, ixq7_0, ixq7_1, ixq7_2, ixq7_3, ixq7_4, ixq7_5, ixq7_6, ixq8_0, ixq8_1, ixq8_2, ixq8_3, ixq8_4, ixq8_5, ixq8_6, ixq8_7, Res.bind_ok, Res.bind_err, Res.bind_bad, List.getElem?_cons_zero, List.getElem?_cons_succ, List.set_cons_zero, List.set_cons_succ, List.map_cons, List.map_nil, List.cons_append, List.nil_append, List.append_nil, List.length_cons, List.length_nil, List.replicate, List.take, if_true, if_false, ite_true, ite_false, reduceIte, Nat.reduceAdd, Nat.reduceSub, Nat.reduceLeDiff, Bool.false_eq_true, Nat.reduceEqDiff, Nat.add_eq, Nat.add_zero, Nat.zero_add, Option.bind_some, Option.map_some, Nat.sub_self, eq_self, and_self, and_true, true_and, Bool.and_true, Bool.true_and, Bool.and_false, Bool.false_and, Bool.or_true, Bool.true_or, Bool.or_false, Bool.false_or, Bool.not_true, Bool.not_false, String.reduceBEq, decide_true, decide_false, List.reverse_cons, List.reverse_nil, List.isEmpty_cons, List.isEmpty_nil, Option.getD_some, Int.reduceLT, Int.reduceLE, Int.reduceEq, Int.reduceAdd, Int.reduceSub, Int.reduceMul, Int.reduceNeg, Nat.reduceLT, Nat.reduceMul, not_true_eq_false, not_false_eq_true, and_false, false_and, List.length_map, Int.natCast_zero, Int.reduceToNat, Int.cast_ofNat_Int, Int.reduceFDiv, Int.reduceFMod, Int.reduceBEq, Int.reduceBNe, Int.reduceNe, Nat.reduceBEq, Int.reducePow, ite_self]
structure Bt (d : D) (x y : Rat) : Prop where
  s : ∃ p q, (d = .tup [p, q] ∨ d = .lst [p, q]) ∧ Rs p x ∧ Rs q y
  p : 0 ≤ y.num
  bx : RK 120 x
  by_ : RK 120 y
theorem check_beat_ev {d : D} {x y : Rat} (h : Bt d x y) (i : Int) : (fn_check_beat [.val d, .val (.int i)]).st = .ok (.val (.tup [rD x, rD y])) [] := by
  obtain ⟨p, q, hd, hp, hq⟩ := h.s
  have e1 := is_ratio_ev hp
  have e2 := is_ratio_ev hq
  have nn : ¬ y.num < 0 := by have := h.p; omega
  have t1 : gTuple [p] = some (.val (rD x)) := by rcases hp with rfl | rfl <;> rfl
  have t2 : gTuple [q] = some (.val (rD y)) := by rcases hq with rfl | rfl <;> rfl
  have i0 : gIx q (.int 0) = some (.val (.int y.num)) := by rcases hq with rfl | rfl <;> rfl
  rcases hd with rfl | rfl <;> simp (disch := first | assumption | decide | omega) only [fn_check_beat, den_check_beat, e1, e2, t1, t2, i0, nn, dC_a, dVar_a, dSlot_a, dMove_a, dLV_a, dFrz_a, frzE_val, frzE_mu, dVal_a, get_v, get_s, dBin_a, dNeg_a, dTB_a, dBT_a, dTru_a, dNotT_a, dAndT_a, dOrT_a, dAndV_a, dOrV_a, dNotL_a, dIf_a, dIfF_a, dChain_a, dVs_n, dVs_c, dArs_n, dArs_c, dTup_a, dLst_a, getAll_n, getAll_c, dCB_a, dCallR_a, dIsi_a, dSeq_a, dSkip_a, dIfS_a, dRet_a, dSet_a, dAsg_a, asN_a, asT_a, asT_l, asC_a, asNil_a, dPar_a, dPut_a, dExp_a, dApp_a, dFor_a, loopF_n, dIt_a, gDiv_i, gMul_i, gMod_i, gEq_int, gNe_int, at0, at1, at2, at3, gAdd_i, gSub_i, gLt_i, gLe_i, gGt_i, gGe_i, gInt_i, gLen_l, gLen_f, gLen_t, gAbs_i, its_l, its_t, its_f, mkFn_s, stF_rt, stF_nx, stF_er, dCall_s, dCall0_s, dCallK_s, dIsK_e, dAt_e, dRev_e, dPar3_e, dEnum_e, dZip_e, enumD_n, enumD_c, zipD_c, zipD_n, zipD_m, dRng1_e, dPs_e, dPn_e, dSl_e, frzS_e, noX_n, noX_v, noX_m, noX_u, noX_x, finX_s, finX_n, dBreak_e, dCont_e, rngD_z, rngD_s, dTrue_e, dLc_e, loopC_n, loopC_k, goC_s, goC_o, eleC_e, bindX_o, loopF_c, wipeE_n, wipeE_c, restE_n, restE_c, okOwn_n, okOwn_c, dTry_e, runH_n, runH_c, dRaise_e, dXf_e, shp_i, shp_b, shp_o, shp_s, shp_t, shp_l, shp_f, shps_n, shps_c, gEq_ci, gNe_ci, gEq_cb, gNe_cb, gEq_cs, gNe_cs, gEq_co, gNe_co, gEq_ct, gNe_ct, gEq_cl, gNe_cl, gEq_cf, gNe_cf, deq_ii, deq_bb, deq_bi, deq_ib, deq_ss, deq_tt, deq_ll, deq_lf, deq_fl, deq_ff, deq_oo, deqs_nn, deqs_cc, deqs_nc, deqs_cn, deq_oi, deq_io, deq_ob, deq_bo, deq_os, deq_so, deq_ot, deq_to, deq_ol, deq_lo, deq_it, deq_ti, deq_il, deq_li, deq_is, deq_si, deq_tl, deq_lt, deq_ts, deq_st, deq_ls, deq_sl, deq_bt, deq_tb, deq_bs, deq_sb, tru_b, tru_l, tru_t, tru_i, tru_o, ni_i, ni_b, ni_s, ni_o, ni_t, ni_l, ni_f, isTs_n, isTs_c, isT_i, isT_b, isT_s, isT_t, isT_l, isT_f, isT_o, gIs_n, gIs_bb, gIsNot_n, gIsNot_bb, isN_o, isN_i, isN_b, isN_s, isN_t, isN_l, isN_f, gList_t, gList_l, gList_f, gTuple_l, gTuple_f, gTuple_t, gIx_t, gIx_l, gIx_f, gSl_t, gSl_l, gSl_f, gEqS_e, gNeS_e, st_ok, st_err, st_bad, fl_m, fl_i, fl_b, fl_s, fl_o, fl_t, fl_l, fl_f, fl_n, fl_g, frzAr_n, frzAr_v, frzAr_s, hasS_n, hasS_v, hasS_s, vb_e, at4, at5, at6, at7, at8, at9, at10, at11, at12, atm1_1, atm1_2, atm1_3, atm1_4, atm1_5, atm1_6, atm1_7, atm1_8, ixq1_0, ixq2_0, ixq2_1, ixq3_0, ixq3_1, ixq3_2, ixq4_0, ixq4_1, ixq4_2, ixq4_3, ixq5_0, ixq5_1, ixq5_2, ixq5_3, ixq5_4, ixq6_0, ixq6_1, ixq6_2, ixq6_3, ixq6_4, ixq6_5, ixq7_0, ixq7_1, ixq7_2, ixq7_3, ixq7_4, ixq7_5, ixq7_6, ixq8_0, ixq8_1, ixq8_2, ixq8_3, ixq8_4, ixq8_5, ixq8_6, ixq8_7, Res.bind_ok, Res.bind_err, Res.bind_bad, List.getElem?_cons_zero, List.getElem?_cons_succ, List.set_cons_zero, List.set_cons_succ, List.map_cons, List.map_nil, List.cons_append, List.nil_append, List.append_nil, List.length_cons, List.length_nil, List.replicate, List.take, if_true, if_false, ite_true, ite_false, reduceIte, Nat.reduceAdd, Nat.reduceSub, Nat.reduceLeDiff, Bool.false_eq_true, Nat.reduceEqDiff, Nat.add_eq, Nat.add_zero, Nat.zero_add, Option.bind_some, Option.map_some, Nat.sub_self, eq_self, and_self, and_true, true_and, Bool.and_true, Bool.true_and, Bool.and_false, Bool.false_and, Bool.or_true, Bool.true_or, Bool.or_false, Bool.false_or, Bool.not_true, Bool.not_false, String.reduceBEq, decide_true, decide_false, List.reverse_cons, List.reverse_nil, List.isEmpty_cons, List.isEmpty_nil, Option.getD_some, Int.reduceLT, Int.reduceLE, Int.reduceEq, Int.reduceAdd, Int.reduceSub, Int.reduceMul, Int.reduceNeg, Nat.reduceLT, Nat.reduceMul, not_true_eq_false, not_false_eq_true, and_false, false_and, List.length_map, Int.natCast_zero, Int.reduceToNat, Int.cast_ofNat_Int, Int.reduceFDiv, Int.reduceFMod, Int.reduceBEq, Int.reduceBNe, Int.reduceNe, Nat.reduceBEq, Int.reducePow, ite_self]
/-- the numbers of two beats over one bottom -/
structure Nm (x0 x1 y0 y1 : Rat) (W n0 n1 n2 n3 : Int) : Prop where
  w : 0 < W
  e0 : n0 * x0.den = x0.num * W
  e1 : n1 * x1.den = x1.num * W
  e2 : n2 * y0.den = y0.num * W
  e3 : n3 * y1.den = y1.num * W
  bw : Bd 500 W
  b0 : Bd 700 n0
  b1 : Bd 700 n1
  b2 : Bd 700 n2
  b3 : Bd 700 n3
theorem over_bot {x : Rat} {W : Int} (h : (x.den : Int) ∣ W) : x.num * (W / x.den) * x.den = x.num * W := by
  rw [Int.mul_assoc, Int.ediv_mul_cancel h]
theorem lc_bd {j k : Nat} {a b : Int} (h : 0 < a) (g : 0 < b) (p : Bd j a) (q : Bd k b) : Bd (j + k) (lc a b) := Bd.of_le (p.mul q) (by
  have := lc_le h g
  have := lc_pos h g
  omega)
def tD (W : Int) : Option Int → D
  | some f => rD (qv f W)
  | none => .non
structure Sz (x0 x1 y0 y1 : Rat) : Prop where
  a : RK 120 x0
  b : RK 120 x1
  c : RK 120 y0
  d : RK 120 y1
  p : 0 ≤ x1.num
  q : 0 ≤ y1.num
theorem Nm.n1 {x0 x1 y0 y1 : Rat} {W n0 n1 n2 n3 : Int} (h : Nm x0 x1 y0 y1 W n0 n1 n2 n3) (p : 0 ≤ x1.num) : 0 ≤ n1 :=
  Int.nonneg_of_mul_nonneg_left (by rw [h.e1]; exact Int.mul_nonneg p (Int.le_of_lt h.w) : 0 ≤ n1 * (x1.den : Int)) (den_pos _)
theorem Nm.n3 {x0 x1 y0 y1 : Rat} {W n0 n1 n2 n3 : Int} (h : Nm x0 x1 y0 y1 W n0 n1 n2 n3) (p : 0 ≤ y1.num) : 0 ≤ n3 :=
  Int.nonneg_of_mul_nonneg_left (by rw [h.e3]; exact Int.mul_nonneg p (Int.le_of_lt h.w) : 0 ≤ n3 * (y1.den : Int)) (den_pos _)
abbrev WW (x0 x1 y0 y1 : Rat) : Int := lc (lc x0.den x1.den) (lc y0.den y1.den)
theorem WW_comm (x0 x1 y0 y1 : Rat) : WW x0 x1 y0 y1 = WW y0 y1 x0 x1 := lc_comm _ _
theorem nm_prog {x0 x1 y0 y1 : Rat} (z : Sz x0 x1 y0 y1) : Nm x0 x1 y0 y1 (WW x0 x1 y0 y1) (x0.num * (WW x0 x1 y0 y1 / x0.den)) (x1.num * (WW x0 x1 y0 y1 / x1.den)) (y0.num * (WW x0 x1 y0 y1 / y0.den)) (y1.num * (WW x0 x1 y0 y1 / y1.den)) := by
  have p1 := lc_pos (den_pos x0) (den_pos x1)
  have p2 := lc_pos (den_pos y0) (den_pos y1)
  have bW : Bd 480 (WW x0 x1 y0 y1) := lc_bd p1 p2 (lc_bd (den_pos x0) (den_pos x1) z.a.d z.b.d) (lc_bd (den_pos y0) (den_pos y1) z.c.d z.d.d)
  exact ⟨lc_pos p1 p2, over_bot (Int.dvd_trans (lc_dvd1 _ _) (lc_dvd1 _ _)), over_bot (Int.dvd_trans (lc_dvd2 _ _) (lc_dvd1 _ _)), over_bot (Int.dvd_trans (lc_dvd1 _ _) (lc_dvd2 _ _)), over_bot (Int.dvd_trans (lc_dvd2 _ _) (lc_dvd2 _ _)), bW.mono (by decide), (z.a.n.mul bW.div).mono (by decide), (z.b.n.mul bW.div).mono (by decide), (z.c.n.mul bW.div).mono (by decide), (z.d.n.mul bW.div).mono (by decide)⟩
theorem least_ev {x0 x1 y0 y1 : Rat} (z : Sz x0 x1 y0 y1) : ∃ n0 n1 n2 n3 o, (fn_least_common [.val (.tup [rD x0, rD x1]), .val (.tup [rD y0, rD y1])]).st = .ok (.val (tD (WW x0 x1 y0 y1) o)) [] ∧ CW n0 n1 n2 n3 o ∧ Nm x0 x1 y0 y1 (WW x0 x1 y0 y1) n0 n1 n2 n3 := by
  have N := nm_prog z
  have l1 := gLcm_i (i := x0.den) (j := x1.den) (BdL.of z.a.d (by decide)) (BdL.of z.b.d (by decide))
  have l2 := gLcm_i (i := y0.den) (j := y1.den) (BdL.of z.c.d (by decide)) (BdL.of z.d.d (by decide))
  have l3 : gLcm [.int (lc x0.den x1.den), .int (lc y0.den y1.den)] = some (.val (.int (WW x0 x1 y0 y1))) := gLcm_i (i := lc x0.den x1.den) (j := lc y0.den y1.den) (BdL.of (lc_bd (den_pos x0) (den_pos x1) z.a.d z.b.d) (by decide)) (BdL.of (lc_bd (den_pos y0) (den_pos y1) z.c.d z.d.d) (by decide))
  have dv : ∀ {r : Rat} {i : Int}, RK 120 r → gDiv (.int i) (.int (r.den : Int)) = some (.val (.int (i / r.den))) := fun {r} {i} h => by
    rw [gDiv_i (divOk_L (BdL.of h.d (by decide)) (den_ne r)), fdiv_pos (den_pos r)]
  have d0 := dv (i := WW x0 x1 y0 y1) z.a
  have d1 := dv (i := WW x0 x1 y0 y1) z.b
  have d2 := dv (i := WW x0 x1 y0 y1) z.c
  have d3 := dv (i := WW x0 x1 y0 y1) z.d
  have ml : ∀ {r : Rat} {i : Int}, RK 120 r → Bd 500 i → gMul (.int r.num) (.int (i / r.den)) = some (.val (.int (r.num * (i / r.den)))) := fun {r} {i} h g => gMul_i (mulOk_L (BdL.of h.n (by decide)) (BdL.of (Bd.div g) (by decide)))
  have m0 := ml z.a N.bw
  have m1 := ml z.b N.bw
  have m2 := ml z.c N.bw
  have m3 := ml z.d N.bw
  obtain ⟨o, c1, c2⟩ := cw_ev (N.n1 z.p) (N.n3 z.q) (BdL.of N.b1 (by decide)) (BdL.of N.b3 (by decide)) (BdL.of N.b0 (by decide)) (BdL.of N.b2 (by decide))
  refine ⟨_, _, _, _, o, ?_, c2, N⟩
  have wp := N.w
  have wb := N.bw
  clear c2 N dv ml
  generalize WW x0 x1 y0 y1 = W at *
  generalize x0.num * (W / x0.den) = n0 at *
  generalize x1.num * (W / x1.den) = n1 at *
  generalize y0.num * (W / y0.den) = n2 at *
  generalize y1.num * (W / y1.den) = n3 at *
  cases o with
  | none =>
    simp only [oD] at c1
    simp (disch := first | assumption | decide | omega) only [fn_least_common, den_least_common, el_least_common_1, l1, l2, l3, d0, d1, d2, d3, m0, m1, m2, m3, c1, tD, dC_a, dVar_a, dSlot_a, dMove_a, dLV_a, dFrz_a, frzE_val, frzE_mu, dVal_a, get_v, get_s, dBin_a, dNeg_a, dTB_a, dBT_a, dTru_a, dNotT_a, dAndT_a, dOrT_a, dAndV_a, dOrV_a, dNotL_a, dIf_a, dIfF_a, dChain_a, dVs_n, dVs_c, dArs_n, dArs_c, dTup_a, dLst_a, getAll_n, getAll_c, dCB_a, dCallR_a, dIsi_a, dSeq_a, dSkip_a, dIfS_a, dRet_a, dSet_a, dAsg_a, asN_a, asT_a, asT_l, asC_a, asNil_a, dPar_a, dPut_a, dExp_a, dApp_a, dFor_a, loopF_n, dIt_a, gDiv_i, gMul_i, gMod_i, gEq_int, gNe_int, at0, at1, at2, at3, gAdd_i, gSub_i, gLt_i, gLe_i, gGt_i, gGe_i, gInt_i, gLen_l, gLen_f, gLen_t, gAbs_i, its_l, its_t, its_f, mkFn_s, stF_rt, stF_nx, stF_er, dCall_s, dCall0_s, dCallK_s, dIsK_e, dAt_e, dRev_e, dPar3_e, dEnum_e, dZip_e, enumD_n, enumD_c, zipD_c, zipD_n, zipD_m, dRng1_e, dPs_e, dPn_e, dSl_e, frzS_e, noX_n, noX_v, noX_m, noX_u, noX_x, finX_s, finX_n, dBreak_e, dCont_e, rngD_z, rngD_s, dTrue_e, dLc_e, loopC_n, loopC_k, goC_s, goC_o, eleC_e, bindX_o, loopF_c, wipeE_n, wipeE_c, restE_n, restE_c, okOwn_n, okOwn_c, dTry_e, runH_n, runH_c, dRaise_e, dXf_e, shp_i, shp_b, shp_o, shp_s, shp_t, shp_l, shp_f, shps_n, shps_c, gEq_ci, gNe_ci, gEq_cb, gNe_cb, gEq_cs, gNe_cs, gEq_co, gNe_co, gEq_ct, gNe_ct, gEq_cl, gNe_cl, gEq_cf, gNe_cf, deq_ii, deq_bb, deq_bi, deq_ib, deq_ss, deq_tt, deq_ll, deq_lf, deq_fl, deq_ff, deq_oo, deqs_nn, deqs_cc, deqs_nc, deqs_cn, deq_oi, deq_io, deq_ob, deq_bo, deq_os, deq_so, deq_ot, deq_to, deq_ol, deq_lo, deq_it, deq_ti, deq_il, deq_li, deq_is, deq_si, deq_tl, deq_lt, deq_ts, deq_st, deq_ls, deq_sl, deq_bt, deq_tb, deq_bs, deq_sb, tru_b, tru_l, tru_t, tru_i, tru_o, ni_i, ni_b, ni_s, ni_o, ni_t, ni_l, ni_f, isTs_n, isTs_c, isT_i, isT_b, isT_s, isT_t, isT_l, isT_f, isT_o, gIs_n, gIs_bb, gIsNot_n, gIsNot_bb, isN_o, isN_i, isN_b, isN_s, isN_t, isN_l, isN_f, gList_t, gList_l, gList_f, gTuple_l, gTuple_f, gTuple_t, gIx_t, gIx_l, gIx_f, gSl_t, gSl_l, gSl_f, gEqS_e, gNeS_e, st_ok, st_err, st_bad, fl_m, fl_i, fl_b, fl_s, fl_o, fl_t, fl_l, fl_f, fl_n, fl_g, frzAr_n, frzAr_v, frzAr_s, hasS_n, hasS_v, hasS_s, vb_e, at4, at5, at6, at7, at8, at9, at10, at11, at12, atm1_1, atm1_2, atm1_3, atm1_4, atm1_5, atm1_6, atm1_7, atm1_8, ixq1_0, ixq2_0, ixq2_1, ixq3_0, ixq3_1, ixq3_2, ixq4_0, ixq4_1, ixq4_2, ixq4_3, ixq5_0, ixq5_1, ixq5_2, ixq5_3, ixq5_4, ixq6_0, ixq6_1, ixq6_2, ixq6_3, ixq6_4, ixq6_5, ixq7_0, ixq7_1, ixq7_2, ixq7_3, ixq7_4, ixq7_5, ixq7_6, ixq8_0, ixq8_1, ixq8_2, ixq8_3, ixq8_4, ixq8_5, ixq8_6, ixq8_7, Res.bind_ok, Res.bind_err, Res.bind_bad, List.getElem?_cons_zero, List.getElem?_cons_succ, List.set_cons_zero, List.set_cons_succ, List.map_cons, List.map_nil, List.cons_append, List.nil_append, List.append_nil, List.length_cons, List.length_nil, List.replicate, List.take, if_true, if_false, ite_true, ite_false, reduceIte, Nat.reduceAdd, Nat.reduceSub, Nat.reduceLeDiff, Bool.false_eq_true, Nat.reduceEqDiff, Nat.add_eq, Nat.add_zero, Nat.zero_add, Option.bind_some, Option.map_some, Nat.sub_self, eq_self, and_self, and_true, true_and, Bool.and_true, Bool.true_and, Bool.and_false, Bool.false_and, Bool.or_true, Bool.true_or, Bool.or_false, Bool.false_or, Bool.not_true, Bool.not_false, String.reduceBEq, decide_true, decide_false, List.reverse_cons, List.reverse_nil, List.isEmpty_cons, List.isEmpty_nil, Option.getD_some, Int.reduceLT, Int.reduceLE, Int.reduceEq, Int.reduceAdd, Int.reduceSub, Int.reduceMul, Int.reduceNeg, Nat.reduceLT, Nat.reduceMul, not_true_eq_false, not_false_eq_true, and_false, false_and, List.length_map, Int.natCast_zero, Int.reduceToNat, Int.cast_ofNat_Int, Int.reduceFDiv, Int.reduceFMod, Int.reduceBEq, Int.reduceBNe, Int.reduceNe, Nat.reduceBEq, Int.reducePow, ite_self]
  | some f =>
    simp only [oD] at c1
    have lo := low_ev f W wp (BdL.of wb (by decide))
    simp (disch := first | assumption | decide | omega) only [fn_least_common, den_least_common, el_least_common_1, l1, l2, l3, d0, d1, d2, d3, m0, m1, m2, m3, c1, tD, lo, dC_a, dVar_a, dSlot_a, dMove_a, dLV_a, dFrz_a, frzE_val, frzE_mu, dVal_a, get_v, get_s, dBin_a, dNeg_a, dTB_a, dBT_a, dTru_a, dNotT_a, dAndT_a, dOrT_a, dAndV_a, dOrV_a, dNotL_a, dIf_a, dIfF_a, dChain_a, dVs_n, dVs_c, dArs_n, dArs_c, dTup_a, dLst_a, getAll_n, getAll_c, dCB_a, dCallR_a, dIsi_a, dSeq_a, dSkip_a, dIfS_a, dRet_a, dSet_a, dAsg_a, asN_a, asT_a, asT_l, asC_a, asNil_a, dPar_a, dPut_a, dExp_a, dApp_a, dFor_a, loopF_n, dIt_a, gDiv_i, gMul_i, gMod_i, gEq_int, gNe_int, at0, at1, at2, at3, gAdd_i, gSub_i, gLt_i, gLe_i, gGt_i, gGe_i, gInt_i, gLen_l, gLen_f, gLen_t, gAbs_i, its_l, its_t, its_f, mkFn_s, stF_rt, stF_nx, stF_er, dCall_s, dCall0_s, dCallK_s, dIsK_e, dAt_e, dRev_e, dPar3_e, dEnum_e, dZip_e, enumD_n, enumD_c, zipD_c, zipD_n, zipD_m, dRng1_e, dPs_e, dPn_e, dSl_e, frzS_e, noX_n, noX_v, noX_m, noX_u, noX_x, finX_s, finX_n, dBreak_e, dCont_e, rngD_z, rngD_s, dTrue_e, dLc_e, loopC_n, loopC_k, goC_s, goC_o, eleC_e, bindX_o, loopF_c, wipeE_n, wipeE_c, restE_n, restE_c, okOwn_n, okOwn_c, dTry_e, runH_n, runH_c, dRaise_e, dXf_e, shp_i, shp_b, shp_o, shp_s, shp_t, shp_l, shp_f, shps_n, shps_c, gEq_ci, gNe_ci, gEq_cb, gNe_cb, gEq_cs, gNe_cs, gEq_co, gNe_co, gEq_ct, gNe_ct, gEq_cl, gNe_cl, gEq_cf, gNe_cf, deq_ii, deq_bb, deq_bi, deq_ib, deq_ss, deq_tt, deq_ll, deq_lf, deq_fl, deq_ff, deq_oo, deqs_nn, deqs_cc, deqs_nc, deqs_cn, deq_oi, deq_io, deq_ob, deq_bo, deq_os, deq_so, deq_ot, deq_to, deq_ol, deq_lo, deq_it, deq_ti, deq_il, deq_li, deq_is, deq_si, deq_tl, deq_lt, deq_ts, deq_st, deq_ls, deq_sl, deq_bt, deq_tb, deq_bs, deq_sb, tru_b, tru_l, tru_t, tru_i, tru_o, ni_i, ni_b, ni_s, ni_o, ni_t, ni_l, ni_f, isTs_n, isTs_c, isT_i, isT_b, isT_s, isT_t, isT_l, isT_f, isT_o, gIs_n, gIs_bb, gIsNot_n, gIsNot_bb, isN_o, isN_i, isN_b, isN_s, isN_t, isN_l, isN_f, gList_t, gList_l, gList_f, gTuple_l, gTuple_f, gTuple_t, gIx_t, gIx_l, gIx_f, gSl_t, gSl_l, gSl_f, gEqS_e, gNeS_e, st_ok, st_err, st_bad, fl_m, fl_i, fl_b, fl_s, fl_o, fl_t, fl_l, fl_f, fl_n, fl_g, frzAr_n, frzAr_v, frzAr_s, hasS_n, hasS_v, hasS_s, vb_e, at4, at5, at6, at7, at8, at9, at10, at11, at12, atm1_1, atm1_2, atm1_3, atm1_4, atm1_5, atm1_6, atm1_7, atm1_8, ixq1_0, ixq2_0, ixq2_1, ixq3_0, ixq3_1, ixq3_2, ixq4_0, ixq4_1, ixq4_2, ixq4_3, ixq5_0, ixq5_1, ixq5_2, ixq5_3, ixq5_4, ixq6_0, ixq6_1, ixq6_2, ixq6_3, ixq6_4, ixq6_5, ixq7_0, ixq7_1, ixq7_2, ixq7_3, ixq7_4, ixq7_5, ixq7_6, ixq8_0, ixq8_1, ixq8_2, ixq8_3, ixq8_4, ixq8_5, ixq8_6, ixq8_7, Res.bind_ok, Res.bind_err, Res.bind_bad, List.getElem?_cons_zero, List.getElem?_cons_succ, List.set_cons_zero, List.set_cons_succ, List.map_cons, List.map_nil, List.cons_append, List.nil_append, List.append_nil, List.length_cons, List.length_nil, List.replicate, List.take, if_true, if_false, ite_true, ite_false, reduceIte, Nat.reduceAdd, Nat.reduceSub, Nat.reduceLeDiff, Bool.false_eq_true, Nat.reduceEqDiff, Nat.add_eq, Nat.add_zero, Nat.zero_add, Option.bind_some, Option.map_some, Nat.sub_self, eq_self, and_self, and_true, true_and, Bool.and_true, Bool.true_and, Bool.and_false, Bool.false_and, Bool.or_true, Bool.true_or, Bool.or_false, Bool.false_or, Bool.not_true, Bool.not_false, String.reduceBEq, decide_true, decide_false, List.reverse_cons, List.reverse_nil, List.isEmpty_cons, List.isEmpty_nil, Option.getD_some, Int.reduceLT, Int.reduceLE, Int.reduceEq, Int.reduceAdd, Int.reduceSub, Int.reduceMul, Int.reduceNeg, Nat.reduceLT, Nat.reduceMul, not_true_eq_false, not_false_eq_true, and_false, false_and, List.length_map, Int.natCast_zero, Int.reduceToNat, Int.cast_ofNat_Int, Int.reduceFDiv, Int.reduceFMod, Int.reduceBEq, Int.reduceBNe, Int.reduceNe, Nat.reduceBEq, Int.reducePow, ite_self]
theorem time_ev {d e : D} {x0 x1 y0 y1 : Rat} (h : Bt d x0 x1) (k : Bt e y0 y1) : ∃ n0 n1 n2 n3 o, (fn_common_time [.val d, .val e]).st = .ok (.val (tD (WW x0 x1 y0 y1) o)) [] ∧ CW n0 n1 n2 n3 o ∧ Nm x0 x1 y0 y1 (WW x0 x1 y0 y1) n0 n1 n2 n3 := by
  obtain ⟨n0, n1, n2, n3, o, e1, r⟩ := least_ev (⟨h.bx, h.by_, k.bx, k.by_, h.p, k.p⟩ : Sz x0 x1 y0 y1)
  refine ⟨n0, n1, n2, n3, o, ?_, r⟩
  simp (disch := first | assumption | decide | omega) only [fn_common_time, den_common_time, check_beat_ev h, check_beat_ev k, e1, dC_a, dVar_a, dSlot_a, dMove_a, dLV_a, dFrz_a, frzE_val, frzE_mu, dVal_a, get_v, get_s, dBin_a, dNeg_a, dTB_a, dBT_a, dTru_a, dNotT_a, dAndT_a, dOrT_a, dAndV_a, dOrV_a, dNotL_a, dIf_a, dIfF_a, dChain_a, dVs_n, dVs_c, dArs_n, dArs_c, dTup_a, dLst_a, getAll_n, getAll_c, dCB_a, dCallR_a, dIsi_a, dSeq_a, dSkip_a, dIfS_a, dRet_a, dSet_a, dAsg_a, asN_a, asT_a, asT_l, asC_a, asNil_a, dPar_a, dPut_a, dExp_a, dApp_a, dFor_a, loopF_n, dIt_a, gDiv_i, gMul_i, gMod_i, gEq_int, gNe_int, at0, at1, at2, at3, gAdd_i, gSub_i, gLt_i, gLe_i, gGt_i, gGe_i, gInt_i, gLen_l, gLen_f, gLen_t, gAbs_i, its_l, its_t, its_f, mkFn_s, stF_rt, stF_nx, stF_er, dCall_s, dCall0_s, dCallK_s, dIsK_e, dAt_e, dRev_e, dPar3_e, dEnum_e, dZip_e, enumD_n, enumD_c, zipD_c, zipD_n, zipD_m, dRng1_e, dPs_e, dPn_e, dSl_e, frzS_e, noX_n, noX_v, noX_m, noX_u, noX_x, finX_s, finX_n, dBreak_e, dCont_e, rngD_z, rngD_s, dTrue_e, dLc_e, loopC_n, loopC_k, goC_s, goC_o, eleC_e, bindX_o, loopF_c, wipeE_n, wipeE_c, restE_n, restE_c, okOwn_n, okOwn_c, dTry_e, runH_n, runH_c, dRaise_e, dXf_e, shp_i, shp_b, shp_o, shp_s, shp_t, shp_l, shp_f, shps_n, shps_c, gEq_ci, gNe_ci, gEq_cb, gNe_cb, gEq_cs, gNe_cs, gEq_co, gNe_co, gEq_ct, gNe_ct, gEq_cl, gNe_cl, gEq_cf, gNe_cf, deq_ii, deq_bb, deq_bi, deq_ib, deq_ss, deq_tt, deq_ll, deq_lf, deq_fl, deq_ff, deq_oo, deqs_nn, deqs_cc, deqs_nc, deqs_cn, deq_oi, deq_io, deq_ob, deq_bo, deq_os, deq_so, deq_ot, deq_to, deq_ol, deq_lo, deq_it, deq_ti, deq_il, deq_li, deq_is, deq_si, deq_tl, deq_lt, deq_ts, deq_st, deq_ls, deq_sl, deq_bt, deq_tb, deq_bs, deq_sb, tru_b, tru_l, tru_t, tru_i, tru_o, ni_i, ni_b, ni_s, ni_o, ni_t, ni_l, ni_f, isTs_n, isTs_c, isT_i, isT_b, isT_s, isT_t, isT_l, isT_f, isT_o, gIs_n, gIs_bb, gIsNot_n, gIsNot_bb, isN_o, isN_i, isN_b, isN_s, isN_t, isN_l, isN_f, gList_t, gList_l, gList_f, gTuple_l, gTuple_f, gTuple_t, gIx_t, gIx_l, gIx_f, gSl_t, gSl_l, gSl_f, gEqS_e, gNeS_e, st_ok, st_err, st_bad, fl_m, fl_i, fl_b, fl_s, fl_o, fl_t, fl_l, fl_f, fl_n, fl_g, frzAr_n, frzAr_v, frzAr_s, hasS_n, hasS_v, hasS_s, vb_e, at4, at5, at6, at7, at8, at9, at10, at11, at12, atm1_1, atm1_2, atm1_3, atm1_4, atm1_5, atm1_6, atm1_7, atm1_8, ixq1_0, ixq2_0, ixq2_1, ixq3_0, ixq3_1, ixq3_2, ixq4_0, ixq4_1, ixq4_2, ixq4_3, ixq5_0, ixq5_1, ixq5_2, ixq5_3, ixq5_4, ixq6_0, ixq6_1, ixq6_2, ixq6_3, ixq6_4, ixq6_5, ixq7_0, ixq7_1, ixq7_2, ixq7_3, ixq7_4, ixq7_5, ixq7_6, ixq8_0, ixq8_1, ixq8_2, ixq8_3, ixq8_4, ixq8_5, ixq8_6, ixq8_7, Res.bind_ok, Res.bind_err, Res.bind_bad, List.getElem?_cons_zero, List.getElem?_cons_succ, List.set_cons_zero, List.set_cons_succ, List.map_cons, List.map_nil, List.cons_append, List.nil_append, List.append_nil, List.length_cons, List.length_nil, List.replicate, List.take, if_true, if_false, ite_true, ite_false, reduceIte, Nat.reduceAdd, Nat.reduceSub, Nat.reduceLeDiff, Bool.false_eq_true, Nat.reduceEqDiff, Nat.add_eq, Nat.add_zero, Nat.zero_add, Option.bind_some, Option.map_some, Nat.sub_self, eq_self, and_self, and_true, true_and, Bool.and_true, Bool.true_and, Bool.and_false, Bool.false_and, Bool.or_true, Bool.true_or, Bool.or_false, Bool.false_or, Bool.not_true, Bool.not_false, String.reduceBEq, decide_true, decide_false, List.reverse_cons, List.reverse_nil, List.isEmpty_cons, List.isEmpty_nil, Option.getD_some, Int.reduceLT, Int.reduceLE, Int.reduceEq, Int.reduceAdd, Int.reduceSub, Int.reduceMul, Int.reduceNeg, Nat.reduceLT, Nat.reduceMul, not_true_eq_false, not_false_eq_true, and_false, false_and, List.length_map, Int.natCast_zero, Int.reduceToNat, Int.cast_ofNat_Int, Int.reduceFDiv, Int.reduceFMod, Int.reduceBEq, Int.reduceBNe, Int.reduceNe, Nat.reduceBEq, Int.reducePow, ite_self]
end Kx

set_option linter.all false
set_option maxRecDepth 100000
set_option maxHeartbeats 4000000
namespace Kx
open PySem PySem.Spec PyProof.Rows L2 Ev
theorem Nm.sc {x0 x1 y0 y1 : Rat} {W n0 n1 n2 n3 B m0 m1 m2 m3 : Int} (h : Nm x0 x1 y0 y1 W n0 n1 n2 n3) (k : Nm x0 x1 y0 y1 B m0 m1 m2 m3) : n0 * B = m0 * W ∧ n1 * B = m1 * W ∧ n2 * B = m2 * W ∧ n3 * B = m3 * W := by
  have g : ∀ {n m d t : Int}, d ≠ 0 → n * d = t * W → m * d = t * B → n * B = m * W := fun {n m d t} z a b => Int.eq_of_mul_eq_mul_right z (by grind)
  exact ⟨g (den_ne _) h.e0 k.e0, g (den_ne _) h.e1 k.e1, g (den_ne _) h.e2 k.e2, g (den_ne _) h.e3 k.e3⟩
theorem exi_sc {a e b s a' e' b' s' B W : Int} (hB : 0 < B) (hW : 0 < W) (h0 : a * B = a' * W) (h1 : e * B = e' * W) (h2 : b * B = b' * W) (h3 : s * B = s' * W) : Exi a e b s ↔ Exi a' e' b' s' := by
  have z1 := sc_zero hB hW h1
  have z3 := sc_zero hB hW h3
  unfold Exi
  by_cases ze : e = 0
  · by_cases zs : s = 0
    · rw [if_pos ze, if_pos zs, if_pos (z1.mp ze), if_pos (z3.mp zs), sc_eq hB hW h0 h2, sc_nonneg hB hW h0]
    · rw [if_pos ze, if_neg zs, if_pos (z1.mp ze), if_neg fun q => zs (z3.mpr q), sc_nonneg hB hW h0, sc_dvd hB hW h3 (sc_sub h0 h2)]
  · by_cases zs : s = 0
    · rw [if_neg ze, if_pos zs, if_neg fun q => ze (z1.mpr q), if_pos (z3.mp zs), sc_nonneg hB hW h2, sc_dvd hB hW h1 (sc_sub h2 h0)]
    · rw [if_neg ze, if_neg zs, if_neg fun q => ze (z1.mpr q), if_neg fun q => zs (z3.mpr q), sc_dvd hB hW (sc_gc hB hW h1 h3) (sc_sub h2 h0)]
theorem num_zero {x : Rat} {W n : Int} (hW : 0 < W) (h : n * x.den = x.num * W) : n = 0 ↔ x.num = 0 := sc_zero (den_pos x) hW h
theorem rat_of {x : Rat} {W n : Int} (hW : 0 < W) (h : n * x.den = x.num * W) : (n : Rat) = x * (W : Rat) := by
  have h1 := num_eq x
  have h2 : ((n * x.den : Int) : Rat) = ((x.num * W : Int) : Rat) := by rw [h]
  rw [Rat.intCast_mul, Rat.intCast_mul, h1] at h2
  have z := cast_ne (den_ne x)
  grind
/-- a time told is in a beat -/
theorem apart_k {x0 x1 : Rat} {W n0 n1 f : Int} (hW : 0 < W) (e0 : n0 * x0.den = x0.num * W) (e1 : n1 * x1.den = x1.num * W) (d : n1 ∣ f - n0) : ∃ k : Int, qv f W - x0 = (k : Rat) * x1 := by
  obtain ⟨k, hk⟩ := d
  refine ⟨k, ?_⟩
  have r0 := rat_of hW e0
  have r1 := rat_of hW e1
  have w := cast_ne (show W ≠ 0 by omega)
  have hk2 : ((f : Rat)) = (n0 : Rat) + (n1 : Rat) * (k : Rat) := by
    rw [← Rat.intCast_mul, ← Rat.intCast_add]
    congr 1
    omega
  unfold Ev.qv
  rw [hk2, r0, r1]
  grind
theorem num_mul {A x : Rat} {k : Int} (h : A = (k : Rat) * x) : A.num * x.den = A.den * x.num * k := by
  have h1 := num_eq A
  have h2 := num_eq x
  have : ((A.num * x.den : Int) : Rat) = ((A.den * x.num * k : Int) : Rat) := by
    rw [Rat.intCast_mul, Rat.intCast_mul, Rat.intCast_mul, h1, h2]
    grind
  exact Rat.intCast_inj.mp this
theorem lminus_ev {x y : Rat} {n : Nat} (h : RB 2 x) (k : RB 2 y) : (fn__law_minus [.val (rD x), .val (rD y)]).st = .ok (.val (rD (x - y))) [] := by
  have m1 := gMul_i (mulOk_L (h.1.up (by decide)) (k.2.up (by decide)))
  have m2 := gMul_i (mulOk_L (k.1.up (by decide)) (h.2.up (by decide)))
  have m3 := gMul_i (mulOk_L (h.2.up (by decide)) (k.2.up (by decide)))
  have r := ratio_ev (x.num * y.den - y.num * x.den) (x.den * y.den) (Int.mul_pos (den_pos _) (den_pos _)) (h.2.mul k.2)
  rw [qv_sub] at r
  simp (disch := first | assumption | decide | omega) only [fn__law_minus, den__law_minus, m1, m2, m3, r, dC_a, dVar_a, dSlot_a, dMove_a, dLV_a, dFrz_a, frzE_val, frzE_mu, dVal_a, get_v, get_s, dBin_a, dNeg_a, dTB_a, dBT_a, dTru_a, dNotT_a, dAndT_a, dOrT_a, dAndV_a, dOrV_a, dNotL_a, dIf_a, dIfF_a, dChain_a, dVs_n, dVs_c, dArs_n, dArs_c, dTup_a, dLst_a, getAll_n, getAll_c, dCB_a, dCallR_a, dIsi_a, dSeq_a, dSkip_a, dIfS_a, dRet_a, dSet_a, dAsg_a, asN_a, asT_a, asT_l, asC_a, asNil_a, dPar_a, dPut_a, dExp_a, dApp_a, dFor_a, loopF_n, dIt_a, gDiv_i, gMul_i, gMod_i, gEq_int, gNe_int, at0, at1, at2, at3, gAdd_i, gSub_i, gLt_i, gLe_i, gGt_i, gGe_i, gInt_i, gLen_l, gLen_f, gLen_t, gAbs_i, its_l, its_t, its_f, mkFn_s, stF_rt, stF_nx, stF_er, dCall_s, dCall0_s, dCallK_s, dIsK_e, dAt_e, dRev_e, dPar3_e, dEnum_e, dZip_e, enumD_n, enumD_c, zipD_c, zipD_n, zipD_m, dRng1_e, dPs_e, dPn_e, dSl_e, frzS_e, noX_n, noX_v, noX_m, noX_u, noX_x, finX_s, finX_n, dBreak_e, dCont_e, rngD_z, rngD_s, dTrue_e, dLc_e, loopC_n, loopC_k, goC_s, goC_o, eleC_e, bindX_o, loopF_c, wipeE_n, wipeE_c, restE_n, restE_c, okOwn_n, okOwn_c, dTry_e, runH_n, runH_c, dRaise_e, dXf_e, shp_i, shp_b, shp_o, shp_s, shp_t, shp_l, shp_f, shps_n, shps_c, gEq_ci, gNe_ci, gEq_cb, gNe_cb, gEq_cs, gNe_cs, gEq_co, gNe_co, gEq_ct, gNe_ct, gEq_cl, gNe_cl, gEq_cf, gNe_cf, deq_ii, deq_bb, deq_bi, deq_ib, deq_ss, deq_tt, deq_ll, deq_lf, deq_fl, deq_ff, deq_oo, deqs_nn, deqs_cc, deqs_nc, deqs_cn, deq_oi, deq_io, deq_ob, deq_bo, deq_os, deq_so, deq_ot, deq_to, deq_ol, deq_lo, deq_it, deq_ti, deq_il, deq_li, deq_is, deq_si, deq_tl, deq_lt, deq_ts, deq_st, deq_ls, deq_sl, deq_bt, deq_tb, deq_bs, deq_sb, tru_b, tru_l, tru_t, tru_i, tru_o, ni_i, ni_b, ni_s, ni_o, ni_t, ni_l, ni_f, isTs_n, isTs_c, isT_i, isT_b, isT_s, isT_t, isT_l, isT_f, isT_o, gIs_n, gIs_bb, gIsNot_n, gIsNot_bb, isN_o, isN_i, isN_b, isN_s, isN_t, isN_l, isN_f, gList_t, gList_l, gList_f, gTuple_l, gTuple_f, gTuple_t, gIx_t, gIx_l, gIx_f, gSl_t, gSl_l, gSl_f, gEqS_e, gNeS_e, st_ok, st_err, st_bad, fl_m, fl_i, fl_b, fl_s, fl_o, fl_t, fl_l, fl_f, fl_n, fl_g, frzAr_n, frzAr_v, frzAr_s, hasS_n, hasS_v, hasS_s, vb_e, at4, at5, at6, at7, at8, at9, at10, at11, at12, atm1_1, atm1_2, atm1_3, atm1_4, atm1_5, atm1_6, atm1_7, atm1_8, ixq1_0, ixq2_0, ixq2_1, ixq3_0, ixq3_1, ixq3_2, ixq4_0, ixq4_1, ixq4_2, ixq4_3, ixq5_0, ixq5_1, ixq5_2, ixq5_3, ixq5_4, ixq6_0, ixq6_1, ixq6_2, ixq6_3, ixq6_4, ixq6_5, ixq7_0, ixq7_1, ixq7_2, ixq7_3, ixq7_4, ixq7_5, ixq7_6, ixq8_0, ixq8_1, ixq8_2, ixq8_3, ixq8_4, ixq8_5, ixq8_6, ixq8_7, Res.bind_ok, Res.bind_err, Res.bind_bad, List.getElem?_cons_zero, List.getElem?_cons_succ, List.set_cons_zero, List.set_cons_succ, List.map_cons, List.map_nil, List.cons_append, List.nil_append, List.append_nil, List.length_cons, List.length_nil, List.replicate, List.take, if_true, if_false, ite_true, ite_false, reduceIte, Nat.reduceAdd, Nat.reduceSub, Nat.reduceLeDiff, Bool.false_eq_true, Nat.reduceEqDiff, Nat.add_eq, Nat.add_zero, Nat.zero_add, Option.bind_some, Option.map_some, Nat.sub_self, eq_self, and_self, and_true, true_and, Bool.and_true, Bool.true_and, Bool.and_false, Bool.false_and, Bool.or_true, Bool.true_or, Bool.or_false, Bool.false_or, Bool.not_true, Bool.not_false, String.reduceBEq, decide_true, decide_false, List.reverse_cons, List.reverse_nil, List.isEmpty_cons, List.isEmpty_nil, Option.getD_some, Int.reduceLT, Int.reduceLE, Int.reduceEq, Int.reduceAdd, Int.reduceSub, Int.reduceMul, Int.reduceNeg, Nat.reduceLT, Nat.reduceMul, not_true_eq_false, not_false_eq_true, and_false, false_and, List.length_map, Int.natCast_zero, Int.reduceToNat, Int.cast_ofNat_Int, Int.reduceFDiv, Int.reduceFMod, Int.reduceBEq, Int.reduceBNe, Int.reduceNe, Nat.reduceBEq, Int.reducePow, ite_self]
theorem belongs_ev {x0 x1 T : Rat} {k : Int} (hT : RB 2 T) (h0 : RK 120 x0) (h1 : RK 120 x1) (p : 0 ≤ x1.num) (hk : T - x0 = (k : Rat) * x1) (b : D) (hb : b = .lst [rD x0, rD x1]) : (fn__law_belongs [.val (rD T), .val b]).st = .ok (.val (.bl true)) [] := by
  subst hb
  have e1 := lminus_ev (n := 0) hT (⟨BdL.of h0.n (by decide), BdL.of h0.d (by decide)⟩ : RB 2 x0)
  have bA : RB 4 (T - x0) := RB.sub hT (⟨BdL.of h0.n (by decide), BdL.of h0.d (by decide)⟩ : RB 2 x0)
  have nm := num_mul hk
  generalize hA : T - x0 = A at *
  by_cases z : x1.num = 0
  · have z2 : decide (A.num = 0) = true := by
      refine decide_eq_true ?_
      rw [z, Int.mul_zero, Int.zero_mul] at nm
      rcases Int.mul_eq_zero.mp nm with q | q
      · exact q
      · exact absurd q (den_ne x1)
    simp (disch := first | assumption | decide | omega) only [fn__law_belongs, den__law_belongs, e1, z2, decide_eq_true z, dC_a, dVar_a, dSlot_a, dMove_a, dLV_a, dFrz_a, frzE_val, frzE_mu, dVal_a, get_v, get_s, dBin_a, dNeg_a, dTB_a, dBT_a, dTru_a, dNotT_a, dAndT_a, dOrT_a, dAndV_a, dOrV_a, dNotL_a, dIf_a, dIfF_a, dChain_a, dVs_n, dVs_c, dArs_n, dArs_c, dTup_a, dLst_a, getAll_n, getAll_c, dCB_a, dCallR_a, dIsi_a, dSeq_a, dSkip_a, dIfS_a, dRet_a, dSet_a, dAsg_a, asN_a, asT_a, asT_l, asC_a, asNil_a, dPar_a, dPut_a, dExp_a, dApp_a, dFor_a, loopF_n, dIt_a, gDiv_i, gMul_i, gMod_i, gEq_int, gNe_int, at0, at1, at2, at3, gAdd_i, gSub_i, gLt_i, gLe_i, gGt_i, gGe_i, gInt_i, gLen_l, gLen_f, gLen_t, gAbs_i, its_l, its_t, its_f, mkFn_s, stF_rt, stF_nx, stF_er, dCall_s, dCall0_s, dCallK_s, dIsK_e, dAt_e, dRev_e, dPar3_e, dEnum_e, dZip_e, enumD_n, enumD_c, zipD_c, zipD_n, zipD_m, dRng1_e, dPs_e, dPn_e, dSl_e, frzS_e, noX_n, noX_v, noX_m, noX_u, noX_x, finX_s, finX_n, dBreak_e, dCont_e, rngD_z, rngD_s, dTrue_e, dLc_e, loopC_n, loopC_k, goC_s, goC_o, eleC_e, bindX_o, loopF_c, wipeE_n, wipeE_c, restE_n, restE_c, okOwn_n, okOwn_c, dTry_e, runH_n, runH_c, dRaise_e, dXf_e, shp_i, shp_b, shp_o, shp_s, shp_t, shp_l, shp_f, shps_n, shps_c, gEq_ci, gNe_ci, gEq_cb, gNe_cb, gEq_cs, gNe_cs, gEq_co, gNe_co, gEq_ct, gNe_ct, gEq_cl, gNe_cl, gEq_cf, gNe_cf, deq_ii, deq_bb, deq_bi, deq_ib, deq_ss, deq_tt, deq_ll, deq_lf, deq_fl, deq_ff, deq_oo, deqs_nn, deqs_cc, deqs_nc, deqs_cn, deq_oi, deq_io, deq_ob, deq_bo, deq_os, deq_so, deq_ot, deq_to, deq_ol, deq_lo, deq_it, deq_ti, deq_il, deq_li, deq_is, deq_si, deq_tl, deq_lt, deq_ts, deq_st, deq_ls, deq_sl, deq_bt, deq_tb, deq_bs, deq_sb, tru_b, tru_l, tru_t, tru_i, tru_o, ni_i, ni_b, ni_s, ni_o, ni_t, ni_l, ni_f, isTs_n, isTs_c, isT_i, isT_b, isT_s, isT_t, isT_l, isT_f, isT_o, gIs_n, gIs_bb, gIsNot_n, gIsNot_bb, isN_o, isN_i, isN_b, isN_s, isN_t, isN_l, isN_f, gList_t, gList_l, gList_f, gTuple_l, gTuple_f, gTuple_t, gIx_t, gIx_l, gIx_f, gSl_t, gSl_l, gSl_f, gEqS_e, gNeS_e, st_ok, st_err, st_bad, fl_m, fl_i, fl_b, fl_s, fl_o, fl_t, fl_l, fl_f, fl_n, fl_g, frzAr_n, frzAr_v, frzAr_s, hasS_n, hasS_v, hasS_s, vb_e, at4, at5, at6, at7, at8, at9, at10, at11, at12, atm1_1, atm1_2, atm1_3, atm1_4, atm1_5, atm1_6, atm1_7, atm1_8, ixq1_0, ixq2_0, ixq2_1, ixq3_0, ixq3_1, ixq3_2, ixq4_0, ixq4_1, ixq4_2, ixq4_3, ixq5_0, ixq5_1, ixq5_2, ixq5_3, ixq5_4, ixq6_0, ixq6_1, ixq6_2, ixq6_3, ixq6_4, ixq6_5, ixq7_0, ixq7_1, ixq7_2, ixq7_3, ixq7_4, ixq7_5, ixq7_6, ixq8_0, ixq8_1, ixq8_2, ixq8_3, ixq8_4, ixq8_5, ixq8_6, ixq8_7, Res.bind_ok, Res.bind_err, Res.bind_bad, List.getElem?_cons_zero, List.getElem?_cons_succ, List.set_cons_zero, List.set_cons_succ, List.map_cons, List.map_nil, List.cons_append, List.nil_append, List.append_nil, List.length_cons, List.length_nil, List.replicate, List.take, if_true, if_false, ite_true, ite_false, reduceIte, Nat.reduceAdd, Nat.reduceSub, Nat.reduceLeDiff, Bool.false_eq_true, Nat.reduceEqDiff, Nat.add_eq, Nat.add_zero, Nat.zero_add, Option.bind_some, Option.map_some, Nat.sub_self, eq_self, and_self, and_true, true_and, Bool.and_true, Bool.true_and, Bool.and_false, Bool.false_and, Bool.or_true, Bool.true_or, Bool.or_false, Bool.false_or, Bool.not_true, Bool.not_false, String.reduceBEq, decide_true, decide_false, List.reverse_cons, List.reverse_nil, List.isEmpty_cons, List.isEmpty_nil, Option.getD_some, Int.reduceLT, Int.reduceLE, Int.reduceEq, Int.reduceAdd, Int.reduceSub, Int.reduceMul, Int.reduceNeg, Nat.reduceLT, Nat.reduceMul, not_true_eq_false, not_false_eq_true, and_false, false_and, List.length_map, Int.natCast_zero, Int.reduceToNat, Int.cast_ofNat_Int, Int.reduceFDiv, Int.reduceFMod, Int.reduceBEq, Int.reduceBNe, Int.reduceNe, Nat.reduceBEq, Int.reducePow, ite_self]
  · have m1 := gMul_i (mulOk_L (bA.1.up (by decide)) (BdL.of h1.d (by decide)))
    have m2 := gMul_i (mulOk_L (bA.2.up (by decide)) (BdL.of h1.n (by decide)))
    have pz : 0 < (A.den : Int) * x1.num := Int.mul_pos (den_pos _) (by omega)
    have md := gMod_i (i := A.num * x1.den) (show (A.den : Int) * x1.num ≠ 0 by omega)
    have t : decide ((A.num * x1.den).fmod (A.den * x1.num) = 0) = true := decide_eq_true ((dvd_fmod pz).mpr ⟨k, nm⟩)
    simp (disch := first | assumption | decide | omega) only [fn__law_belongs, den__law_belongs, e1, decide_eq_false z, m1, m2, md, t, dC_a, dVar_a, dSlot_a, dMove_a, dLV_a, dFrz_a, frzE_val, frzE_mu, dVal_a, get_v, get_s, dBin_a, dNeg_a, dTB_a, dBT_a, dTru_a, dNotT_a, dAndT_a, dOrT_a, dAndV_a, dOrV_a, dNotL_a, dIf_a, dIfF_a, dChain_a, dVs_n, dVs_c, dArs_n, dArs_c, dTup_a, dLst_a, getAll_n, getAll_c, dCB_a, dCallR_a, dIsi_a, dSeq_a, dSkip_a, dIfS_a, dRet_a, dSet_a, dAsg_a, asN_a, asT_a, asT_l, asC_a, asNil_a, dPar_a, dPut_a, dExp_a, dApp_a, dFor_a, loopF_n, dIt_a, gDiv_i, gMul_i, gMod_i, gEq_int, gNe_int, at0, at1, at2, at3, gAdd_i, gSub_i, gLt_i, gLe_i, gGt_i, gGe_i, gInt_i, gLen_l, gLen_f, gLen_t, gAbs_i, its_l, its_t, its_f, mkFn_s, stF_rt, stF_nx, stF_er, dCall_s, dCall0_s, dCallK_s, dIsK_e, dAt_e, dRev_e, dPar3_e, dEnum_e, dZip_e, enumD_n, enumD_c, zipD_c, zipD_n, zipD_m, dRng1_e, dPs_e, dPn_e, dSl_e, frzS_e, noX_n, noX_v, noX_m, noX_u, noX_x, finX_s, finX_n, dBreak_e, dCont_e, rngD_z, rngD_s, dTrue_e, dLc_e, loopC_n, loopC_k, goC_s, goC_o, eleC_e, bindX_o, loopF_c, wipeE_n, wipeE_c, restE_n, restE_c, okOwn_n, okOwn_c, dTry_e, runH_n, runH_c, dRaise_e, dXf_e, shp_i, shp_b, shp_o, shp_s, shp_t, shp_l, shp_f, shps_n, shps_c, gEq_ci, gNe_ci, gEq_cb, gNe_cb, gEq_cs, gNe_cs, gEq_co, gNe_co, gEq_ct, gNe_ct, gEq_cl, gNe_cl, gEq_cf, gNe_cf, deq_ii, deq_bb, deq_bi, deq_ib, deq_ss, deq_tt, deq_ll, deq_lf, deq_fl, deq_ff, deq_oo, deqs_nn, deqs_cc, deqs_nc, deqs_cn, deq_oi, deq_io, deq_ob, deq_bo, deq_os, deq_so, deq_ot, deq_to, deq_ol, deq_lo, deq_it, deq_ti, deq_il, deq_li, deq_is, deq_si, deq_tl, deq_lt, deq_ts, deq_st, deq_ls, deq_sl, deq_bt, deq_tb, deq_bs, deq_sb, tru_b, tru_l, tru_t, tru_i, tru_o, ni_i, ni_b, ni_s, ni_o, ni_t, ni_l, ni_f, isTs_n, isTs_c, isT_i, isT_b, isT_s, isT_t, isT_l, isT_f, isT_o, gIs_n, gIs_bb, gIsNot_n, gIsNot_bb, isN_o, isN_i, isN_b, isN_s, isN_t, isN_l, isN_f, gList_t, gList_l, gList_f, gTuple_l, gTuple_f, gTuple_t, gIx_t, gIx_l, gIx_f, gSl_t, gSl_l, gSl_f, gEqS_e, gNeS_e, st_ok, st_err, st_bad, fl_m, fl_i, fl_b, fl_s, fl_o, fl_t, fl_l, fl_f, fl_n, fl_g, frzAr_n, frzAr_v, frzAr_s, hasS_n, hasS_v, hasS_s, vb_e, at4, at5, at6, at7, at8, at9, at10, at11, at12, atm1_1, atm1_2, atm1_3, atm1_4, atm1_5, atm1_6, atm1_7, atm1_8, ixq1_0, ixq2_0, ixq2_1, ixq3_0, ixq3_1, ixq3_2, ixq4_0, ixq4_1, ixq4_2, ixq4_3, ixq5_0, ixq5_1, ixq5_2, ixq5_3, ixq5_4, ixq6_0, ixq6_1, ixq6_2, ixq6_3, ixq6_4, ixq6_5, ixq7_0, ixq7_1, ixq7_2, ixq7_3, ixq7_4, ixq7_5, ixq7_6, ixq8_0, ixq8_1, ixq8_2, ixq8_3, ixq8_4, ixq8_5, ixq8_6, ixq8_7, Res.bind_ok, Res.bind_err, Res.bind_bad, List.getElem?_cons_zero, List.getElem?_cons_succ, List.set_cons_zero, List.set_cons_succ, List.map_cons, List.map_nil, List.cons_append, List.nil_append, List.append_nil, List.length_cons, List.length_nil, List.replicate, List.take, if_true, if_false, ite_true, ite_false, reduceIte, Nat.reduceAdd, Nat.reduceSub, Nat.reduceLeDiff, Bool.false_eq_true, Nat.reduceEqDiff, Nat.add_eq, Nat.add_zero, Nat.zero_add, Option.bind_some, Option.map_some, Nat.sub_self, eq_self, and_self, and_true, true_and, Bool.and_true, Bool.true_and, Bool.and_false, Bool.false_and, Bool.or_true, Bool.true_or, Bool.or_false, Bool.false_or, Bool.not_true, Bool.not_false, String.reduceBEq, decide_true, decide_false, List.reverse_cons, List.reverse_nil, List.isEmpty_cons, List.isEmpty_nil, Option.getD_some, Int.reduceLT, Int.reduceLE, Int.reduceEq, Int.reduceAdd, Int.reduceSub, Int.reduceMul, Int.reduceNeg, Nat.reduceLT, Nat.reduceMul, not_true_eq_false, not_false_eq_true, and_false, false_and, List.length_map, Int.natCast_zero, Int.reduceToNat, Int.cast_ofNat_Int, Int.reduceFDiv, Int.reduceFMod, Int.reduceBEq, Int.reduceBNe, Int.reduceNe, Nat.reduceBEq, Int.reducePow, ite_self]
theorem nm_law {x0 x1 y0 y1 : Rat} (z : Sz x0 x1 y0 y1) : ∃ B m0 m1 m2 m3, (fn__law_scaled_beats [.val (.lst [rD x0, rD x1]), .val (.lst [rD y0, rD y1])]).st = .ok (.mu [.int m0, .int m1, .int m2, .int m3, .int B]) [] ∧ Nm x0 x1 y0 y1 B m0 m1 m2 m3 := by
  have bB : Bd 480 ((x0.den : Int) * x1.den * y0.den * y1.den) := ((z.a.d.mul z.b.d).mul z.c.d).mul z.d.d
  have pB : 0 < (x0.den : Int) * x1.den * y0.den * y1.den := Int.mul_pos (Int.mul_pos (Int.mul_pos (den_pos _) (den_pos _)) (den_pos _)) (den_pos _)
  have v0 : (x0.den : Int) ∣ (x0.den : Int) * x1.den * y0.den * y1.den := ⟨(x1.den : Int) * y0.den * y1.den, by grind⟩
  have v1 : (x1.den : Int) ∣ (x0.den : Int) * x1.den * y0.den * y1.den := ⟨(x0.den : Int) * y0.den * y1.den, by grind⟩
  have v2 : (y0.den : Int) ∣ (x0.den : Int) * x1.den * y0.den * y1.den := ⟨(x0.den : Int) * x1.den * y1.den, by grind⟩
  have v3 : (y1.den : Int) ∣ (x0.den : Int) * x1.den * y0.den * y1.den := ⟨(x0.den : Int) * x1.den * y0.den, by grind⟩
  have q1 := gMul_i (mulOk_L (BdL.of z.a.d (by decide)) (BdL.of z.b.d (by decide)))
  have q2 := gMul_i (mulOk_L (BdL.of (z.a.d.mul z.b.d) (by decide)) (BdL.of z.c.d (by decide)))
  have q3 := gMul_i (mulOk_L (BdL.of ((z.a.d.mul z.b.d).mul z.c.d) (by decide)) (BdL.of z.d.d (by decide)))
  generalize hB : (x0.den : Int) * x1.den * y0.den * y1.den = B at *
  have dv : ∀ {r : Rat} {i : Int}, RK 120 r → gDiv (.int i) (.int (r.den : Int)) = some (.val (.int (i / r.den))) := fun {r} {i} h => by
    rw [gDiv_i (divOk_L (BdL.of h.d (by decide)) (den_ne r)), fdiv_pos (den_pos r)]
  have d0 := dv (i := B) z.a
  have d1 := dv (i := B) z.b
  have d2 := dv (i := B) z.c
  have d3 := dv (i := B) z.d
  have ml : ∀ {r : Rat}, RK 120 r → gMul (.int r.num) (.int (B / r.den)) = some (.val (.int (r.num * (B / r.den)))) := fun {r} h => gMul_i (mulOk_L (BdL.of h.n (by decide)) (BdL.of (Bd.div bB) (by decide)))
  have m0 := ml z.a
  have m1 := ml z.b
  have m2 := ml z.c
  have m3 := ml z.d
  refine ⟨B, _, _, _, _, ?_, ⟨pB, over_bot v0, over_bot v1, over_bot v2, over_bot v3, bB.mono (by decide), (z.a.n.mul bB.div).mono (by decide), (z.b.n.mul bB.div).mono (by decide), (z.c.n.mul bB.div).mono (by decide), (z.d.n.mul bB.div).mono (by decide)⟩⟩
  clear ml dv
  have ad : ∀ {a b c d e : D}, gAdd (.lst [a, b, c, d]) (.lst [e]) = some (.mu [a, b, c, d, e]) := rfl
  simp (disch := first | assumption | decide | omega) only [ad, fn__law_scaled_beats, den__law_scaled_beats, el__law_scaled_beats_1, q1, q2, q3, d0, d1, d2, d3, m0, m1, m2, m3, dC_a, dVar_a, dSlot_a, dMove_a, dLV_a, dFrz_a, frzE_val, frzE_mu, dVal_a, get_v, get_s, dBin_a, dNeg_a, dTB_a, dBT_a, dTru_a, dNotT_a, dAndT_a, dOrT_a, dAndV_a, dOrV_a, dNotL_a, dIf_a, dIfF_a, dChain_a, dVs_n, dVs_c, dArs_n, dArs_c, dTup_a, dLst_a, getAll_n, getAll_c, dCB_a, dCallR_a, dIsi_a, dSeq_a, dSkip_a, dIfS_a, dRet_a, dSet_a, dAsg_a, asN_a, asT_a, asT_l, asC_a, asNil_a, dPar_a, dPut_a, dExp_a, dApp_a, dFor_a, loopF_n, dIt_a, gDiv_i, gMul_i, gMod_i, gEq_int, gNe_int, at0, at1, at2, at3, gAdd_i, gSub_i, gLt_i, gLe_i, gGt_i, gGe_i, gInt_i, gLen_l, gLen_f, gLen_t, gAbs_i, its_l, its_t, its_f, mkFn_s, stF_rt, stF_nx, stF_er, dCall_s, dCall0_s, dCallK_s, dIsK_e, dAt_e, dRev_e, dPar3_e, dEnum_e, dZip_e, enumD_n, enumD_c, zipD_c, zipD_n, zipD_m, dRng1_e, dPs_e, dPn_e, dSl_e, frzS_e, noX_n, noX_v, noX_m, noX_u, noX_x, finX_s, finX_n, dBreak_e, dCont_e, rngD_z, rngD_s, dTrue_e, dLc_e, loopC_n, loopC_k, goC_s, goC_o, eleC_e, bindX_o, loopF_c, wipeE_n, wipeE_c, restE_n, restE_c, okOwn_n, okOwn_c, dTry_e, runH_n, runH_c, dRaise_e, dXf_e, shp_i, shp_b, shp_o, shp_s, shp_t, shp_l, shp_f, shps_n, shps_c, gEq_ci, gNe_ci, gEq_cb, gNe_cb, gEq_cs, gNe_cs, gEq_co, gNe_co, gEq_ct, gNe_ct, gEq_cl, gNe_cl, gEq_cf, gNe_cf, deq_ii, deq_bb, deq_bi, deq_ib, deq_ss, deq_tt, deq_ll, deq_lf, deq_fl, deq_ff, deq_oo, deqs_nn, deqs_cc, deqs_nc, deqs_cn, deq_oi, deq_io, deq_ob, deq_bo, deq_os, deq_so, deq_ot, deq_to, deq_ol, deq_lo, deq_it, deq_ti, deq_il, deq_li, deq_is, deq_si, deq_tl, deq_lt, deq_ts, deq_st, deq_ls, deq_sl, deq_bt, deq_tb, deq_bs, deq_sb, tru_b, tru_l, tru_t, tru_i, tru_o, ni_i, ni_b, ni_s, ni_o, ni_t, ni_l, ni_f, isTs_n, isTs_c, isT_i, isT_b, isT_s, isT_t, isT_l, isT_f, isT_o, gIs_n, gIs_bb, gIsNot_n, gIsNot_bb, isN_o, isN_i, isN_b, isN_s, isN_t, isN_l, isN_f, gList_t, gList_l, gList_f, gTuple_l, gTuple_f, gTuple_t, gIx_t, gIx_l, gIx_f, gSl_t, gSl_l, gSl_f, gEqS_e, gNeS_e, st_ok, st_err, st_bad, fl_m, fl_i, fl_b, fl_s, fl_o, fl_t, fl_l, fl_f, fl_n, fl_g, frzAr_n, frzAr_v, frzAr_s, hasS_n, hasS_v, hasS_s, vb_e, at4, at5, at6, at7, at8, at9, at10, at11, at12, atm1_1, atm1_2, atm1_3, atm1_4, atm1_5, atm1_6, atm1_7, atm1_8, ixq1_0, ixq2_0, ixq2_1, ixq3_0, ixq3_1, ixq3_2, ixq4_0, ixq4_1, ixq4_2, ixq4_3, ixq5_0, ixq5_1, ixq5_2, ixq5_3, ixq5_4, ixq6_0, ixq6_1, ixq6_2, ixq6_3, ixq6_4, ixq6_5, ixq7_0, ixq7_1, ixq7_2, ixq7_3, ixq7_4, ixq7_5, ixq7_6, ixq8_0, ixq8_1, ixq8_2, ixq8_3, ixq8_4, ixq8_5, ixq8_6, ixq8_7, Res.bind_ok, Res.bind_err, Res.bind_bad, List.getElem?_cons_zero, List.getElem?_cons_succ, List.set_cons_zero, List.set_cons_succ, List.map_cons, List.map_nil, List.cons_append, List.nil_append, List.append_nil, List.length_cons, List.length_nil, List.replicate, List.take, if_true, if_false, ite_true, ite_false, reduceIte, Nat.reduceAdd, Nat.reduceSub, Nat.reduceLeDiff, Bool.false_eq_true, Nat.reduceEqDiff, Nat.add_eq, Nat.add_zero, Nat.zero_add, Option.bind_some, Option.map_some, Nat.sub_self, eq_self, and_self, and_true, true_and, Bool.and_true, Bool.true_and, Bool.and_false, Bool.false_and, Bool.or_true, Bool.true_or, Bool.or_false, Bool.false_or, Bool.not_true, Bool.not_false, String.reduceBEq, decide_true, decide_false, List.reverse_cons, List.reverse_nil, List.isEmpty_cons, List.isEmpty_nil, Option.getD_some, Int.reduceLT, Int.reduceLE, Int.reduceEq, Int.reduceAdd, Int.reduceSub, Int.reduceMul, Int.reduceNeg, Nat.reduceLT, Nat.reduceMul, not_true_eq_false, not_false_eq_true, and_false, false_and, List.length_map, Int.natCast_zero, Int.reduceToNat, Int.cast_ofNat_Int, Int.reduceFDiv, Int.reduceFMod, Int.reduceBEq, Int.reduceBNe, Int.reduceNe, Nat.reduceBEq, Int.reducePow, ite_self]
end Kx

set_option linter.all false
set_option maxRecDepth 100000
set_option maxHeartbeats 4000000
namespace Kx
open PySem PySem.Spec PyProof.Rows L2 Ev
theorem exists_ev {x0 x1 y0 y1 : Rat} (z : Sz x0 x1 y0 y1) {W n0 n1 n2 n3 : Int} (N : Nm x0 x1 y0 y1 W n0 n1 n2 n3) : ∃ c : Bool, (fn__law_exists [.val (.lst [rD x0, rD x1]), .val (.lst [rD y0, rD y1])]).st = .ok (.val (.bl c)) [] ∧ (c = true ↔ Exi n0 n1 n2 n3) := by
  obtain ⟨B, m0, m1, m2, m3, e, M⟩ := nm_law z
  obtain ⟨s0, s1, s2, s3⟩ := N.sc M
  have hx := exi_sc M.w N.w s0 s1 s2 s3
  have p1 := M.n1 z.p
  have p3 := M.n3 z.q
  clear N s0 s1 s2 s3
  rw [hx]
  clear hx
  unfold Exi
  by_cases z1 : m1 = 0
  · by_cases z3 : m3 = 0
    · refine ⟨decide (m0 = m2 ∧ 0 ≤ m0), ?_, ?_⟩
      · by_cases c1 : m0 = m2
        · by_cases c2 : 0 ≤ m0
          · simp (disch := first | assumption | decide | omega) only [fn__law_exists, den__law_exists, e, decide_eq_true z1, decide_eq_true z3, decide_eq_true c1, decide_eq_true c2, decide_eq_true (And.intro c1 c2), dC_a, dVar_a, dSlot_a, dMove_a, dLV_a, dFrz_a, frzE_val, frzE_mu, dVal_a, get_v, get_s, dBin_a, dNeg_a, dTB_a, dBT_a, dTru_a, dNotT_a, dAndT_a, dOrT_a, dAndV_a, dOrV_a, dNotL_a, dIf_a, dIfF_a, dChain_a, dVs_n, dVs_c, dArs_n, dArs_c, dTup_a, dLst_a, getAll_n, getAll_c, dCB_a, dCallR_a, dIsi_a, dSeq_a, dSkip_a, dIfS_a, dRet_a, dSet_a, dAsg_a, asN_a, asT_a, asT_l, asC_a, asNil_a, dPar_a, dPut_a, dExp_a, dApp_a, dFor_a, loopF_n, dIt_a, gDiv_i, gMul_i, gMod_i, gEq_int, gNe_int, at0, at1, at2, at3, gAdd_i, gSub_i, gLt_i, gLe_i, gGt_i, gGe_i, gInt_i, gLen_l, gLen_f, gLen_t, gAbs_i, its_l, its_t, its_f, mkFn_s, stF_rt, stF_nx, stF_er, dCall_s, dCall0_s, dCallK_s, dIsK_e, dAt_e, dRev_e, dPar3_e, dEnum_e, dZip_e, enumD_n, enumD_c, zipD_c, zipD_n, zipD_m, dRng1_e, dPs_e, dPn_e, dSl_e, frzS_e, noX_n, noX_v, noX_m, noX_u, noX_x, finX_s, finX_n, dBreak_e, dCont_e, rngD_z, rngD_s, dTrue_e, dLc_e, loopC_n, loopC_k, goC_s, goC_o, eleC_e, bindX_o, loopF_c, wipeE_n, wipeE_c, restE_n, restE_c, okOwn_n, okOwn_c, dTry_e, runH_n, runH_c, dRaise_e, dXf_e, shp_i, shp_b, shp_o, shp_s, shp_t, shp_l, shp_f, shps_n, shps_c, gEq_ci, gNe_ci, gEq_cb, gNe_cb, gEq_cs, gNe_cs, gEq_co, gNe_co, gEq_ct, gNe_ct, gEq_cl, gNe_cl, gEq_cf, gNe_cf, deq_ii, deq_bb, deq_bi, deq_ib, deq_ss, deq_tt, deq_ll, deq_lf, deq_fl, deq_ff, deq_oo, deqs_nn, deqs_cc, deqs_nc, deqs_cn, deq_oi, deq_io, deq_ob, deq_bo, deq_os, deq_so, deq_ot, deq_to, deq_ol, deq_lo, deq_it, deq_ti, deq_il, deq_li, deq_is, deq_si, deq_tl, deq_lt, deq_ts, deq_st, deq_ls, deq_sl, deq_bt, deq_tb, deq_bs, deq_sb, tru_b, tru_l, tru_t, tru_i, tru_o, ni_i, ni_b, ni_s, ni_o, ni_t, ni_l, ni_f, isTs_n, isTs_c, isT_i, isT_b, isT_s, isT_t, isT_l, isT_f, isT_o, gIs_n, gIs_bb, gIsNot_n, gIsNot_bb, isN_o, isN_i, isN_b, isN_s, isN_t, isN_l, isN_f, gList_t, gList_l, gList_f, gTuple_l, gTuple_f, gTuple_t, gIx_t, gIx_l, gIx_f, gSl_t, gSl_l, gSl_f, gEqS_e, gNeS_e, st_ok, st_err, st_bad, fl_m, fl_i, fl_b, fl_s, fl_o, fl_t, fl_l, fl_f, fl_n, fl_g, frzAr_n, frzAr_v, frzAr_s, hasS_n, hasS_v, hasS_s, vb_e, at4, at5, at6, at7, at8, at9, at10, at11, at12, atm1_1, atm1_2, atm1_3, atm1_4, atm1_5, atm1_6, atm1_7, atm1_8, ixq1_0, ixq2_0, ixq2_1, ixq3_0, ixq3_1, ixq3_2, ixq4_0, ixq4_1, ixq4_2, ixq4_3, ixq5_0, ixq5_1, ixq5_2, ixq5_3, ixq5_4, ixq6_0, ixq6_1, ixq6_2, ixq6_3, ixq6_4, ixq6_5, ixq7_0, ixq7_1, ixq7_2, ixq7_3, ixq7_4, ixq7_5, ixq7_6, ixq8_0, ixq8_1, ixq8_2, ixq8_3, ixq8_4, ixq8_5, ixq8_6, ixq8_7, Res.bind_ok, Res.bind_err, Res.bind_bad, List.getElem?_cons_zero, List.getElem?_cons_succ, List.set_cons_zero, List.set_cons_succ, List.map_cons, List.map_nil, List.cons_append, List.nil_append, List.append_nil, List.length_cons, List.length_nil, List.replicate, List.take, if_true, if_false, ite_true, ite_false, reduceIte, Nat.reduceAdd, Nat.reduceSub, Nat.reduceLeDiff, Bool.false_eq_true, Nat.reduceEqDiff, Nat.add_eq, Nat.add_zero, Nat.zero_add, Option.bind_some, Option.map_some, Nat.sub_self, eq_self, and_self, and_true, true_and, Bool.and_true, Bool.true_and, Bool.and_false, Bool.false_and, Bool.or_true, Bool.true_or, Bool.or_false, Bool.false_or, Bool.not_true, Bool.not_false, String.reduceBEq, decide_true, decide_false, List.reverse_cons, List.reverse_nil, List.isEmpty_cons, List.isEmpty_nil, Option.getD_some, Int.reduceLT, Int.reduceLE, Int.reduceEq, Int.reduceAdd, Int.reduceSub, Int.reduceMul, Int.reduceNeg, Nat.reduceLT, Nat.reduceMul, not_true_eq_false, not_false_eq_true, and_false, false_and, List.length_map, Int.natCast_zero, Int.reduceToNat, Int.cast_ofNat_Int, Int.reduceFDiv, Int.reduceFMod, Int.reduceBEq, Int.reduceBNe, Int.reduceNe, Nat.reduceBEq, Int.reducePow, ite_self]
          · simp (disch := first | assumption | decide | omega) only [fn__law_exists, den__law_exists, e, decide_eq_true z1, decide_eq_true z3, decide_eq_true c1, decide_eq_false c2, decide_eq_false (fun h : m0 = m2 ∧ 0 ≤ m0 => c2 h.2), dC_a, dVar_a, dSlot_a, dMove_a, dLV_a, dFrz_a, frzE_val, frzE_mu, dVal_a, get_v, get_s, dBin_a, dNeg_a, dTB_a, dBT_a, dTru_a, dNotT_a, dAndT_a, dOrT_a, dAndV_a, dOrV_a, dNotL_a, dIf_a, dIfF_a, dChain_a, dVs_n, dVs_c, dArs_n, dArs_c, dTup_a, dLst_a, getAll_n, getAll_c, dCB_a, dCallR_a, dIsi_a, dSeq_a, dSkip_a, dIfS_a, dRet_a, dSet_a, dAsg_a, asN_a, asT_a, asT_l, asC_a, asNil_a, dPar_a, dPut_a, dExp_a, dApp_a, dFor_a, loopF_n, dIt_a, gDiv_i, gMul_i, gMod_i, gEq_int, gNe_int, at0, at1, at2, at3, gAdd_i, gSub_i, gLt_i, gLe_i, gGt_i, gGe_i, gInt_i, gLen_l, gLen_f, gLen_t, gAbs_i, its_l, its_t, its_f, mkFn_s, stF_rt, stF_nx, stF_er, dCall_s, dCall0_s, dCallK_s, dIsK_e, dAt_e, dRev_e, dPar3_e, dEnum_e, dZip_e, enumD_n, enumD_c, zipD_c, zipD_n, zipD_m, dRng1_e, dPs_e, dPn_e, dSl_e, frzS_e, noX_n, noX_v, noX_m, noX_u, noX_x, finX_s, finX_n, dBreak_e, dCont_e, rngD_z, rngD_s, dTrue_e, dLc_e, loopC_n, loopC_k, goC_s, goC_o, eleC_e, bindX_o, loopF_c, wipeE_n, wipeE_c, restE_n, restE_c, okOwn_n, okOwn_c, dTry_e, runH_n, runH_c, dRaise_e, dXf_e, shp_i, shp_b, shp_o, shp_s, shp_t, shp_l, shp_f, shps_n, shps_c, gEq_ci, gNe_ci, gEq_cb, gNe_cb, gEq_cs, gNe_cs, gEq_co, gNe_co, gEq_ct, gNe_ct, gEq_cl, gNe_cl, gEq_cf, gNe_cf, deq_ii, deq_bb, deq_bi, deq_ib, deq_ss, deq_tt, deq_ll, deq_lf, deq_fl, deq_ff, deq_oo, deqs_nn, deqs_cc, deqs_nc, deqs_cn, deq_oi, deq_io, deq_ob, deq_bo, deq_os, deq_so, deq_ot, deq_to, deq_ol, deq_lo, deq_it, deq_ti, deq_il, deq_li, deq_is, deq_si, deq_tl, deq_lt, deq_ts, deq_st, deq_ls, deq_sl, deq_bt, deq_tb, deq_bs, deq_sb, tru_b, tru_l, tru_t, tru_i, tru_o, ni_i, ni_b, ni_s, ni_o, ni_t, ni_l, ni_f, isTs_n, isTs_c, isT_i, isT_b, isT_s, isT_t, isT_l, isT_f, isT_o, gIs_n, gIs_bb, gIsNot_n, gIsNot_bb, isN_o, isN_i, isN_b, isN_s, isN_t, isN_l, isN_f, gList_t, gList_l, gList_f, gTuple_l, gTuple_f, gTuple_t, gIx_t, gIx_l, gIx_f, gSl_t, gSl_l, gSl_f, gEqS_e, gNeS_e, st_ok, st_err, st_bad, fl_m, fl_i, fl_b, fl_s, fl_o, fl_t, fl_l, fl_f, fl_n, fl_g, frzAr_n, frzAr_v, frzAr_s, hasS_n, hasS_v, hasS_s, vb_e, at4, at5, at6, at7, at8, at9, at10, at11, at12, atm1_1, atm1_2, atm1_3, atm1_4, atm1_5, atm1_6, atm1_7, atm1_8, ixq1_0, ixq2_0, ixq2_1, ixq3_0, ixq3_1, ixq3_2, ixq4_0, ixq4_1, ixq4_2, ixq4_3, ixq5_0, ixq5_1, ixq5_2, ixq5_3, ixq5_4, ixq6_0, ixq6_1, ixq6_2, ixq6_3, ixq6_4, ixq6_5, ixq7_0, ixq7_1, ixq7_2, ixq7_3, ixq7_4, ixq7_5, ixq7_6, ixq8_0, ixq8_1, ixq8_2, ixq8_3, ixq8_4, ixq8_5, ixq8_6, ixq8_7, Res.bind_ok, Res.bind_err, Res.bind_bad, List.getElem?_cons_zero, List.getElem?_cons_succ, List.set_cons_zero, List.set_cons_succ, List.map_cons, List.map_nil, List.cons_append, List.nil_append, List.append_nil, List.length_cons, List.length_nil, List.replicate, List.take, if_true, if_false, ite_true, ite_false, reduceIte, Nat.reduceAdd, Nat.reduceSub, Nat.reduceLeDiff, Bool.false_eq_true, Nat.reduceEqDiff, Nat.add_eq, Nat.add_zero, Nat.zero_add, Option.bind_some, Option.map_some, Nat.sub_self, eq_self, and_self, and_true, true_and, Bool.and_true, Bool.true_and, Bool.and_false, Bool.false_and, Bool.or_true, Bool.true_or, Bool.or_false, Bool.false_or, Bool.not_true, Bool.not_false, String.reduceBEq, decide_true, decide_false, List.reverse_cons, List.reverse_nil, List.isEmpty_cons, List.isEmpty_nil, Option.getD_some, Int.reduceLT, Int.reduceLE, Int.reduceEq, Int.reduceAdd, Int.reduceSub, Int.reduceMul, Int.reduceNeg, Nat.reduceLT, Nat.reduceMul, not_true_eq_false, not_false_eq_true, and_false, false_and, List.length_map, Int.natCast_zero, Int.reduceToNat, Int.cast_ofNat_Int, Int.reduceFDiv, Int.reduceFMod, Int.reduceBEq, Int.reduceBNe, Int.reduceNe, Nat.reduceBEq, Int.reducePow, ite_self]
        · simp (disch := first | assumption | decide | omega) only [fn__law_exists, den__law_exists, e, decide_eq_true z1, decide_eq_true z3, decide_eq_false c1, decide_eq_false (fun h : m0 = m2 ∧ 0 ≤ m0 => c1 h.1), dC_a, dVar_a, dSlot_a, dMove_a, dLV_a, dFrz_a, frzE_val, frzE_mu, dVal_a, get_v, get_s, dBin_a, dNeg_a, dTB_a, dBT_a, dTru_a, dNotT_a, dAndT_a, dOrT_a, dAndV_a, dOrV_a, dNotL_a, dIf_a, dIfF_a, dChain_a, dVs_n, dVs_c, dArs_n, dArs_c, dTup_a, dLst_a, getAll_n, getAll_c, dCB_a, dCallR_a, dIsi_a, dSeq_a, dSkip_a, dIfS_a, dRet_a, dSet_a, dAsg_a, asN_a, asT_a, asT_l, asC_a, asNil_a, dPar_a, dPut_a, dExp_a, dApp_a, dFor_a, loopF_n, dIt_a, gDiv_i, gMul_i, gMod_i, gEq_int, gNe_int, at0, at1, at2, at3, gAdd_i, gSub_i, gLt_i, gLe_i, gGt_i, gGe_i, gInt_i, gLen_l, gLen_f, gLen_t, gAbs_i, its_l, its_t, its_f, mkFn_s, stF_rt, stF_nx, stF_er, dCall_s, dCall0_s, dCallK_s, dIsK_e, dAt_e, dRev_e, dPar3_e, dEnum_e, dZip_e, enumD_n, enumD_c, zipD_c, zipD_n, zipD_m, dRng1_e, dPs_e, dPn_e, dSl_e, frzS_e, noX_n, noX_v, noX_m, noX_u, noX_x, finX_s, finX_n, dBreak_e, dCont_e, rngD_z, rngD_s, dTrue_e, dLc_e, loopC_n, loopC_k, goC_s, goC_o, eleC_e, bindX_o, loopF_c, wipeE_n, wipeE_c, restE_n, restE_c, okOwn_n, okOwn_c, dTry_e, runH_n, runH_c, dRaise_e, dXf_e, shp_i, shp_b, shp_o, shp_s, shp_t, shp_l, shp_f, shps_n, shps_c, gEq_ci, gNe_ci, gEq_cb, gNe_cb, gEq_cs, gNe_cs, gEq_co, gNe_co, gEq_ct, gNe_ct, gEq_cl, gNe_cl, gEq_cf, gNe_cf, deq_ii, deq_bb, deq_bi, deq_ib, deq_ss, deq_tt, deq_ll, deq_lf, deq_fl, deq_ff, deq_oo, deqs_nn, deqs_cc, deqs_nc, deqs_cn, deq_oi, deq_io, deq_ob, deq_bo, deq_os, deq_so, deq_ot, deq_to, deq_ol, deq_lo, deq_it, deq_ti, deq_il, deq_li, deq_is, deq_si, deq_tl, deq_lt, deq_ts, deq_st, deq_ls, deq_sl, deq_bt, deq_tb, deq_bs, deq_sb, tru_b, tru_l, tru_t, tru_i, tru_o, ni_i, ni_b, ni_s, ni_o, ni_t, ni_l, ni_f, isTs_n, isTs_c, isT_i, isT_b, isT_s, isT_t, isT_l, isT_f, isT_o, gIs_n, gIs_bb, gIsNot_n, gIsNot_bb, isN_o, isN_i, isN_b, isN_s, isN_t, isN_l, isN_f, gList_t, gList_l, gList_f, gTuple_l, gTuple_f, gTuple_t, gIx_t, gIx_l, gIx_f, gSl_t, gSl_l, gSl_f, gEqS_e, gNeS_e, st_ok, st_err, st_bad, fl_m, fl_i, fl_b, fl_s, fl_o, fl_t, fl_l, fl_f, fl_n, fl_g, frzAr_n, frzAr_v, frzAr_s, hasS_n, hasS_v, hasS_s, vb_e, at4, at5, at6, at7, at8, at9, at10, at11, at12, atm1_1, atm1_2, atm1_3, atm1_4, atm1_5, atm1_6, atm1_7, atm1_8, ixq1_0, ixq2_0, ixq2_1, ixq3_0, ixq3_1, ixq3_2, ixq4_0, ixq4_1, ixq4_2, ixq4_3, ixq5_0, ixq5_1, ixq5_2, ixq5_3, ixq5_4, ixq6_0, ixq6_1, ixq6_2, ixq6_3, ixq6_4, ixq6_5, ixq7_0, ixq7_1, ixq7_2, ixq7_3, ixq7_4, ixq7_5, ixq7_6, ixq8_0, ixq8_1, ixq8_2, ixq8_3, ixq8_4, ixq8_5, ixq8_6, ixq8_7, Res.bind_ok, Res.bind_err, Res.bind_bad, List.getElem?_cons_zero, List.getElem?_cons_succ, List.set_cons_zero, List.set_cons_succ, List.map_cons, List.map_nil, List.cons_append, List.nil_append, List.append_nil, List.length_cons, List.length_nil, List.replicate, List.take, if_true, if_false, ite_true, ite_false, reduceIte, Nat.reduceAdd, Nat.reduceSub, Nat.reduceLeDiff, Bool.false_eq_true, Nat.reduceEqDiff, Nat.add_eq, Nat.add_zero, Nat.zero_add, Option.bind_some, Option.map_some, Nat.sub_self, eq_self, and_self, and_true, true_and, Bool.and_true, Bool.true_and, Bool.and_false, Bool.false_and, Bool.or_true, Bool.true_or, Bool.or_false, Bool.false_or, Bool.not_true, Bool.not_false, String.reduceBEq, decide_true, decide_false, List.reverse_cons, List.reverse_nil, List.isEmpty_cons, List.isEmpty_nil, Option.getD_some, Int.reduceLT, Int.reduceLE, Int.reduceEq, Int.reduceAdd, Int.reduceSub, Int.reduceMul, Int.reduceNeg, Nat.reduceLT, Nat.reduceMul, not_true_eq_false, not_false_eq_true, and_false, false_and, List.length_map, Int.natCast_zero, Int.reduceToNat, Int.cast_ofNat_Int, Int.reduceFDiv, Int.reduceFMod, Int.reduceBEq, Int.reduceBNe, Int.reduceNe, Nat.reduceBEq, Int.reducePow, ite_self]
      · rw [if_pos z1, if_pos z3, decide_eq_true_iff]
    · have md := gMod_i (i := m0 - m2) z3
      have dd := dvd_fmod (x := m0 - m2) (show 0 < m3 by omega)
      refine ⟨decide (0 ≤ m0 ∧ m3 ∣ m0 - m2), ?_, ?_⟩
      · by_cases c1 : 0 ≤ m0
        · by_cases c2 : m3 ∣ m0 - m2
          · simp (disch := first | assumption | decide | omega) only [fn__law_exists, den__law_exists, e, decide_eq_true z1, decide_eq_false z3, decide_eq_true c1, md, decide_eq_true (dd.mpr c2), decide_eq_true (And.intro c1 c2), dC_a, dVar_a, dSlot_a, dMove_a, dLV_a, dFrz_a, frzE_val, frzE_mu, dVal_a, get_v, get_s, dBin_a, dNeg_a, dTB_a, dBT_a, dTru_a, dNotT_a, dAndT_a, dOrT_a, dAndV_a, dOrV_a, dNotL_a, dIf_a, dIfF_a, dChain_a, dVs_n, dVs_c, dArs_n, dArs_c, dTup_a, dLst_a, getAll_n, getAll_c, dCB_a, dCallR_a, dIsi_a, dSeq_a, dSkip_a, dIfS_a, dRet_a, dSet_a, dAsg_a, asN_a, asT_a, asT_l, asC_a, asNil_a, dPar_a, dPut_a, dExp_a, dApp_a, dFor_a, loopF_n, dIt_a, gDiv_i, gMul_i, gMod_i, gEq_int, gNe_int, at0, at1, at2, at3, gAdd_i, gSub_i, gLt_i, gLe_i, gGt_i, gGe_i, gInt_i, gLen_l, gLen_f, gLen_t, gAbs_i, its_l, its_t, its_f, mkFn_s, stF_rt, stF_nx, stF_er, dCall_s, dCall0_s, dCallK_s, dIsK_e, dAt_e, dRev_e, dPar3_e, dEnum_e, dZip_e, enumD_n, enumD_c, zipD_c, zipD_n, zipD_m, dRng1_e, dPs_e, dPn_e, dSl_e, frzS_e, noX_n, noX_v, noX_m, noX_u, noX_x, finX_s, finX_n, dBreak_e, dCont_e, rngD_z, rngD_s, dTrue_e, dLc_e, loopC_n, loopC_k, goC_s, goC_o, eleC_e, bindX_o, loopF_c, wipeE_n, wipeE_c, restE_n, restE_c, okOwn_n, okOwn_c, dTry_e, runH_n, runH_c, dRaise_e, dXf_e, shp_i, shp_b, shp_o, shp_s, shp_t, shp_l, shp_f, shps_n, shps_c, gEq_ci, gNe_ci, gEq_cb, gNe_cb, gEq_cs, gNe_cs, gEq_co, gNe_co, gEq_ct, gNe_ct, gEq_cl, gNe_cl, gEq_cf, gNe_cf, deq_ii, deq_bb, deq_bi, deq_ib, deq_ss, deq_tt, deq_ll, deq_lf, deq_fl, deq_ff, deq_oo, deqs_nn, deqs_cc, deqs_nc, deqs_cn, deq_oi, deq_io, deq_ob, deq_bo, deq_os, deq_so, deq_ot, deq_to, deq_ol, deq_lo, deq_it, deq_ti, deq_il, deq_li, deq_is, deq_si, deq_tl, deq_lt, deq_ts, deq_st, deq_ls, deq_sl, deq_bt, deq_tb, deq_bs, deq_sb, tru_b, tru_l, tru_t, tru_i, tru_o, ni_i, ni_b, ni_s, ni_o, ni_t, ni_l, ni_f, isTs_n, isTs_c, isT_i, isT_b, isT_s, isT_t, isT_l, isT_f, isT_o, gIs_n, gIs_bb, gIsNot_n, gIsNot_bb, isN_o, isN_i, isN_b, isN_s, isN_t, isN_l, isN_f, gList_t, gList_l, gList_f, gTuple_l, gTuple_f, gTuple_t, gIx_t, gIx_l, gIx_f, gSl_t, gSl_l, gSl_f, gEqS_e, gNeS_e, st_ok, st_err, st_bad, fl_m, fl_i, fl_b, fl_s, fl_o, fl_t, fl_l, fl_f, fl_n, fl_g, frzAr_n, frzAr_v, frzAr_s, hasS_n, hasS_v, hasS_s, vb_e, at4, at5, at6, at7, at8, at9, at10, at11, at12, atm1_1, atm1_2, atm1_3, atm1_4, atm1_5, atm1_6, atm1_7, atm1_8, ixq1_0, ixq2_0, ixq2_1, ixq3_0, ixq3_1, ixq3_2, ixq4_0, ixq4_1, ixq4_2, ixq4_3, ixq5_0, ixq5_1, ixq5_2, ixq5_3, ixq5_4, ixq6_0, ixq6_1, ixq6_2, ixq6_3, ixq6_4, ixq6_5, ixq7_0, ixq7_1, ixq7_2, ixq7_3, ixq7_4, ixq7_5, ixq7_6, ixq8_0, ixq8_1, ixq8_2, ixq8_3, ixq8_4, ixq8_5, ixq8_6, ixq8_7, Res.bind_ok, Res.bind_err, Res.bind_bad, List.getElem?_cons_zero, List.getElem?_cons_succ, List.set_cons_zero, List.set_cons_succ, List.map_cons, List.map_nil, List.cons_append, List.nil_append, List.append_nil, List.length_cons, List.length_nil, List.replicate, List.take, if_true, if_false, ite_true, ite_false, reduceIte, Nat.reduceAdd, Nat.reduceSub, Nat.reduceLeDiff, Bool.false_eq_true, Nat.reduceEqDiff, Nat.add_eq, Nat.add_zero, Nat.zero_add, Option.bind_some, Option.map_some, Nat.sub_self, eq_self, and_self, and_true, true_and, Bool.and_true, Bool.true_and, Bool.and_false, Bool.false_and, Bool.or_true, Bool.true_or, Bool.or_false, Bool.false_or, Bool.not_true, Bool.not_false, String.reduceBEq, decide_true, decide_false, List.reverse_cons, List.reverse_nil, List.isEmpty_cons, List.isEmpty_nil, Option.getD_some, Int.reduceLT, Int.reduceLE, Int.reduceEq, Int.reduceAdd, Int.reduceSub, Int.reduceMul, Int.reduceNeg, Nat.reduceLT, Nat.reduceMul, not_true_eq_false, not_false_eq_true, and_false, false_and, List.length_map, Int.natCast_zero, Int.reduceToNat, Int.cast_ofNat_Int, Int.reduceFDiv, Int.reduceFMod, Int.reduceBEq, Int.reduceBNe, Int.reduceNe, Nat.reduceBEq, Int.reducePow, ite_self]
          · simp (disch := first | assumption | decide | omega) only [fn__law_exists, den__law_exists, e, decide_eq_true z1, decide_eq_false z3, decide_eq_true c1, md, decide_eq_false (fun h => c2 (dd.mp h)), decide_eq_false (fun h : 0 ≤ m0 ∧ m3 ∣ m0 - m2 => c2 h.2), dC_a, dVar_a, dSlot_a, dMove_a, dLV_a, dFrz_a, frzE_val, frzE_mu, dVal_a, get_v, get_s, dBin_a, dNeg_a, dTB_a, dBT_a, dTru_a, dNotT_a, dAndT_a, dOrT_a, dAndV_a, dOrV_a, dNotL_a, dIf_a, dIfF_a, dChain_a, dVs_n, dVs_c, dArs_n, dArs_c, dTup_a, dLst_a, getAll_n, getAll_c, dCB_a, dCallR_a, dIsi_a, dSeq_a, dSkip_a, dIfS_a, dRet_a, dSet_a, dAsg_a, asN_a, asT_a, asT_l, asC_a, asNil_a, dPar_a, dPut_a, dExp_a, dApp_a, dFor_a, loopF_n, dIt_a, gDiv_i, gMul_i, gMod_i, gEq_int, gNe_int, at0, at1, at2, at3, gAdd_i, gSub_i, gLt_i, gLe_i, gGt_i, gGe_i, gInt_i, gLen_l, gLen_f, gLen_t, gAbs_i, its_l, its_t, its_f, mkFn_s, stF_rt, stF_nx, stF_er, dCall_s, dCall0_s, dCallK_s, dIsK_e, dAt_e, dRev_e, dPar3_e, dEnum_e, dZip_e, enumD_n, enumD_c, zipD_c, zipD_n, zipD_m, dRng1_e, dPs_e, dPn_e, dSl_e, frzS_e, noX_n, noX_v, noX_m, noX_u, noX_x, finX_s, finX_n, dBreak_e, dCont_e, rngD_z, rngD_s, dTrue_e, dLc_e, loopC_n, loopC_k, goC_s, goC_o, eleC_e, bindX_o, loopF_c, wipeE_n, wipeE_c, restE_n, restE_c, okOwn_n, okOwn_c, dTry_e, runH_n, runH_c, dRaise_e, dXf_e, shp_i, shp_b, shp_o, shp_s, shp_t, shp_l, shp_f, shps_n, shps_c, gEq_ci, gNe_ci, gEq_cb, gNe_cb, gEq_cs, gNe_cs, gEq_co, gNe_co, gEq_ct, gNe_ct, gEq_cl, gNe_cl, gEq_cf, gNe_cf, deq_ii, deq_bb, deq_bi, deq_ib, deq_ss, deq_tt, deq_ll, deq_lf, deq_fl, deq_ff, deq_oo, deqs_nn, deqs_cc, deqs_nc, deqs_cn, deq_oi, deq_io, deq_ob, deq_bo, deq_os, deq_so, deq_ot, deq_to, deq_ol, deq_lo, deq_it, deq_ti, deq_il, deq_li, deq_is, deq_si, deq_tl, deq_lt, deq_ts, deq_st, deq_ls, deq_sl, deq_bt, deq_tb, deq_bs, deq_sb, tru_b, tru_l, tru_t, tru_i, tru_o, ni_i, ni_b, ni_s, ni_o, ni_t, ni_l, ni_f, isTs_n, isTs_c, isT_i, isT_b, isT_s, isT_t, isT_l, isT_f, isT_o, gIs_n, gIs_bb, gIsNot_n, gIsNot_bb, isN_o, isN_i, isN_b, isN_s, isN_t, isN_l, isN_f, gList_t, gList_l, gList_f, gTuple_l, gTuple_f, gTuple_t, gIx_t, gIx_l, gIx_f, gSl_t, gSl_l, gSl_f, gEqS_e, gNeS_e, st_ok, st_err, st_bad, fl_m, fl_i, fl_b, fl_s, fl_o, fl_t, fl_l, fl_f, fl_n, fl_g, frzAr_n, frzAr_v, frzAr_s, hasS_n, hasS_v, hasS_s, vb_e, at4, at5, at6, at7, at8, at9, at10, at11, at12, atm1_1, atm1_2, atm1_3, atm1_4, atm1_5, atm1_6, atm1_7, atm1_8, ixq1_0, ixq2_0, ixq2_1, ixq3_0, ixq3_1, ixq3_2, ixq4_0, ixq4_1, ixq4_2, ixq4_3, ixq5_0, ixq5_1, ixq5_2, ixq5_3, ixq5_4, ixq6_0, ixq6_1, ixq6_2, ixq6_3, ixq6_4, ixq6_5, ixq7_0, ixq7_1, ixq7_2, ixq7_3, ixq7_4, ixq7_5, ixq7_6, ixq8_0, ixq8_1, ixq8_2, ixq8_3, ixq8_4, ixq8_5, ixq8_6, ixq8_7, Res.bind_ok, Res.bind_err, Res.bind_bad, List.getElem?_cons_zero, List.getElem?_cons_succ, List.set_cons_zero, List.set_cons_succ, List.map_cons, List.map_nil, List.cons_append, List.nil_append, List.append_nil, List.length_cons, List.length_nil, List.replicate, List.take, if_true, if_false, ite_true, ite_false, reduceIte, Nat.reduceAdd, Nat.reduceSub, Nat.reduceLeDiff, Bool.false_eq_true, Nat.reduceEqDiff, Nat.add_eq, Nat.add_zero, Nat.zero_add, Option.bind_some, Option.map_some, Nat.sub_self, eq_self, and_self, and_true, true_and, Bool.and_true, Bool.true_and, Bool.and_false, Bool.false_and, Bool.or_true, Bool.true_or, Bool.or_false, Bool.false_or, Bool.not_true, Bool.not_false, String.reduceBEq, decide_true, decide_false, List.reverse_cons, List.reverse_nil, List.isEmpty_cons, List.isEmpty_nil, Option.getD_some, Int.reduceLT, Int.reduceLE, Int.reduceEq, Int.reduceAdd, Int.reduceSub, Int.reduceMul, Int.reduceNeg, Nat.reduceLT, Nat.reduceMul, not_true_eq_false, not_false_eq_true, and_false, false_and, List.length_map, Int.natCast_zero, Int.reduceToNat, Int.cast_ofNat_Int, Int.reduceFDiv, Int.reduceFMod, Int.reduceBEq, Int.reduceBNe, Int.reduceNe, Nat.reduceBEq, Int.reducePow, ite_self]
        · simp (disch := first | assumption | decide | omega) only [fn__law_exists, den__law_exists, e, decide_eq_true z1, decide_eq_false z3, decide_eq_false c1, decide_eq_false (fun h : 0 ≤ m0 ∧ m3 ∣ m0 - m2 => c1 h.1), dC_a, dVar_a, dSlot_a, dMove_a, dLV_a, dFrz_a, frzE_val, frzE_mu, dVal_a, get_v, get_s, dBin_a, dNeg_a, dTB_a, dBT_a, dTru_a, dNotT_a, dAndT_a, dOrT_a, dAndV_a, dOrV_a, dNotL_a, dIf_a, dIfF_a, dChain_a, dVs_n, dVs_c, dArs_n, dArs_c, dTup_a, dLst_a, getAll_n, getAll_c, dCB_a, dCallR_a, dIsi_a, dSeq_a, dSkip_a, dIfS_a, dRet_a, dSet_a, dAsg_a, asN_a, asT_a, asT_l, asC_a, asNil_a, dPar_a, dPut_a, dExp_a, dApp_a, dFor_a, loopF_n, dIt_a, gDiv_i, gMul_i, gMod_i, gEq_int, gNe_int, at0, at1, at2, at3, gAdd_i, gSub_i, gLt_i, gLe_i, gGt_i, gGe_i, gInt_i, gLen_l, gLen_f, gLen_t, gAbs_i, its_l, its_t, its_f, mkFn_s, stF_rt, stF_nx, stF_er, dCall_s, dCall0_s, dCallK_s, dIsK_e, dAt_e, dRev_e, dPar3_e, dEnum_e, dZip_e, enumD_n, enumD_c, zipD_c, zipD_n, zipD_m, dRng1_e, dPs_e, dPn_e, dSl_e, frzS_e, noX_n, noX_v, noX_m, noX_u, noX_x, finX_s, finX_n, dBreak_e, dCont_e, rngD_z, rngD_s, dTrue_e, dLc_e, loopC_n, loopC_k, goC_s, goC_o, eleC_e, bindX_o, loopF_c, wipeE_n, wipeE_c, restE_n, restE_c, okOwn_n, okOwn_c, dTry_e, runH_n, runH_c, dRaise_e, dXf_e, shp_i, shp_b, shp_o, shp_s, shp_t, shp_l, shp_f, shps_n, shps_c, gEq_ci, gNe_ci, gEq_cb, gNe_cb, gEq_cs, gNe_cs, gEq_co, gNe_co, gEq_ct, gNe_ct, gEq_cl, gNe_cl, gEq_cf, gNe_cf, deq_ii, deq_bb, deq_bi, deq_ib, deq_ss, deq_tt, deq_ll, deq_lf, deq_fl, deq_ff, deq_oo, deqs_nn, deqs_cc, deqs_nc, deqs_cn, deq_oi, deq_io, deq_ob, deq_bo, deq_os, deq_so, deq_ot, deq_to, deq_ol, deq_lo, deq_it, deq_ti, deq_il, deq_li, deq_is, deq_si, deq_tl, deq_lt, deq_ts, deq_st, deq_ls, deq_sl, deq_bt, deq_tb, deq_bs, deq_sb, tru_b, tru_l, tru_t, tru_i, tru_o, ni_i, ni_b, ni_s, ni_o, ni_t, ni_l, ni_f, isTs_n, isTs_c, isT_i, isT_b, isT_s, isT_t, isT_l, isT_f, isT_o, gIs_n, gIs_bb, gIsNot_n, gIsNot_bb, isN_o, isN_i, isN_b, isN_s, isN_t, isN_l, isN_f, gList_t, gList_l, gList_f, gTuple_l, gTuple_f, gTuple_t, gIx_t, gIx_l, gIx_f, gSl_t, gSl_l, gSl_f, gEqS_e, gNeS_e, st_ok, st_err, st_bad, fl_m, fl_i, fl_b, fl_s, fl_o, fl_t, fl_l, fl_f, fl_n, fl_g, frzAr_n, frzAr_v, frzAr_s, hasS_n, hasS_v, hasS_s, vb_e, at4, at5, at6, at7, at8, at9, at10, at11, at12, atm1_1, atm1_2, atm1_3, atm1_4, atm1_5, atm1_6, atm1_7, atm1_8, ixq1_0, ixq2_0, ixq2_1, ixq3_0, ixq3_1, ixq3_2, ixq4_0, ixq4_1, ixq4_2, ixq4_3, ixq5_0, ixq5_1, ixq5_2, ixq5_3, ixq5_4, ixq6_0, ixq6_1, ixq6_2, ixq6_3, ixq6_4, ixq6_5, ixq7_0, ixq7_1, ixq7_2, ixq7_3, ixq7_4, ixq7_5, ixq7_6, ixq8_0, ixq8_1, ixq8_2, ixq8_3, ixq8_4, ixq8_5, ixq8_6, ixq8_7, Res.bind_ok, Res.bind_err, Res.bind_bad, List.getElem?_cons_zero, List.getElem?_cons_succ, List.set_cons_zero, List.set_cons_succ, List.map_cons, List.map_nil, List.cons_append, List.nil_append, List.append_nil, List.length_cons, List.length_nil, List.replicate, List.take, if_true, if_false, ite_true, ite_false, reduceIte, Nat.reduceAdd, Nat.reduceSub, Nat.reduceLeDiff, Bool.false_eq_true, Nat.reduceEqDiff, Nat.add_eq, Nat.add_zero, Nat.zero_add, Option.bind_some, Option.map_some, Nat.sub_self, eq_self, and_self, and_true, true_and, Bool.and_true, Bool.true_and, Bool.and_false, Bool.false_and, Bool.or_true, Bool.true_or, Bool.or_false, Bool.false_or, Bool.not_true, Bool.not_false, String.reduceBEq, decide_true, decide_false, List.reverse_cons, List.reverse_nil, List.isEmpty_cons, List.isEmpty_nil, Option.getD_some, Int.reduceLT, Int.reduceLE, Int.reduceEq, Int.reduceAdd, Int.reduceSub, Int.reduceMul, Int.reduceNeg, Nat.reduceLT, Nat.reduceMul, not_true_eq_false, not_false_eq_true, and_false, false_and, List.length_map, Int.natCast_zero, Int.reduceToNat, Int.cast_ofNat_Int, Int.reduceFDiv, Int.reduceFMod, Int.reduceBEq, Int.reduceBNe, Int.reduceNe, Nat.reduceBEq, Int.reducePow, ite_self]
      · rw [if_pos z1, if_neg z3, decide_eq_true_iff]
  · by_cases z3 : m3 = 0
    · have md := gMod_i (i := m2 - m0) z1
      have dd := dvd_fmod (x := m2 - m0) (show 0 < m1 by omega)
      refine ⟨decide (0 ≤ m2 ∧ m1 ∣ m2 - m0), ?_, ?_⟩
      · by_cases c1 : 0 ≤ m2
        · by_cases c2 : m1 ∣ m2 - m0
          · simp (disch := first | assumption | decide | omega) only [fn__law_exists, den__law_exists, e, decide_eq_false z1, decide_eq_true z3, decide_eq_true c1, md, decide_eq_true (dd.mpr c2), decide_eq_true (And.intro c1 c2), dC_a, dVar_a, dSlot_a, dMove_a, dLV_a, dFrz_a, frzE_val, frzE_mu, dVal_a, get_v, get_s, dBin_a, dNeg_a, dTB_a, dBT_a, dTru_a, dNotT_a, dAndT_a, dOrT_a, dAndV_a, dOrV_a, dNotL_a, dIf_a, dIfF_a, dChain_a, dVs_n, dVs_c, dArs_n, dArs_c, dTup_a, dLst_a, getAll_n, getAll_c, dCB_a, dCallR_a, dIsi_a, dSeq_a, dSkip_a, dIfS_a, dRet_a, dSet_a, dAsg_a, asN_a, asT_a, asT_l, asC_a, asNil_a, dPar_a, dPut_a, dExp_a, dApp_a, dFor_a, loopF_n, dIt_a, gDiv_i, gMul_i, gMod_i, gEq_int, gNe_int, at0, at1, at2, at3, gAdd_i, gSub_i, gLt_i, gLe_i, gGt_i, gGe_i, gInt_i, gLen_l, gLen_f, gLen_t, gAbs_i, its_l, its_t, its_f, mkFn_s, stF_rt, stF_nx, stF_er, dCall_s, dCall0_s, dCallK_s, dIsK_e, dAt_e, dRev_e, dPar3_e, dEnum_e, dZip_e, enumD_n, enumD_c, zipD_c, zipD_n, zipD_m, dRng1_e, dPs_e, dPn_e, dSl_e, frzS_e, noX_n, noX_v, noX_m, noX_u, noX_x, finX_s, finX_n, dBreak_e, dCont_e, rngD_z, rngD_s, dTrue_e, dLc_e, loopC_n, loopC_k, goC_s, goC_o, eleC_e, bindX_o, loopF_c, wipeE_n, wipeE_c, restE_n, restE_c, okOwn_n, okOwn_c, dTry_e, runH_n, runH_c, dRaise_e, dXf_e, shp_i, shp_b, shp_o, shp_s, shp_t, shp_l, shp_f, shps_n, shps_c, gEq_ci, gNe_ci, gEq_cb, gNe_cb, gEq_cs, gNe_cs, gEq_co, gNe_co, gEq_ct, gNe_ct, gEq_cl, gNe_cl, gEq_cf, gNe_cf, deq_ii, deq_bb, deq_bi, deq_ib, deq_ss, deq_tt, deq_ll, deq_lf, deq_fl, deq_ff, deq_oo, deqs_nn, deqs_cc, deqs_nc, deqs_cn, deq_oi, deq_io, deq_ob, deq_bo, deq_os, deq_so, deq_ot, deq_to, deq_ol, deq_lo, deq_it, deq_ti, deq_il, deq_li, deq_is, deq_si, deq_tl, deq_lt, deq_ts, deq_st, deq_ls, deq_sl, deq_bt, deq_tb, deq_bs, deq_sb, tru_b, tru_l, tru_t, tru_i, tru_o, ni_i, ni_b, ni_s, ni_o, ni_t, ni_l, ni_f, isTs_n, isTs_c, isT_i, isT_b, isT_s, isT_t, isT_l, isT_f, isT_o, gIs_n, gIs_bb, gIsNot_n, gIsNot_bb, isN_o, isN_i, isN_b, isN_s, isN_t, isN_l, isN_f, gList_t, gList_l, gList_f, gTuple_l, gTuple_f, gTuple_t, gIx_t, gIx_l, gIx_f, gSl_t, gSl_l, gSl_f, gEqS_e, gNeS_e, st_ok, st_err, st_bad, fl_m, fl_i, fl_b, fl_s, fl_o, fl_t, fl_l, fl_f, fl_n, fl_g, frzAr_n, frzAr_v, frzAr_s, hasS_n, hasS_v, hasS_s, vb_e, at4, at5, at6, at7, at8, at9, at10, at11, at12, atm1_1, atm1_2, atm1_3, atm1_4, atm1_5, atm1_6, atm1_7, atm1_8, ixq1_0, ixq2_0, ixq2_1, ixq3_0, ixq3_1, ixq3_2, ixq4_0, ixq4_1, ixq4_2, ixq4_3, ixq5_0, ixq5_1, ixq5_2, ixq5_3, ixq5_4, ixq6_0, ixq6_1, ixq6_2, ixq6_3, ixq6_4, ixq6_5, ixq7_0, ixq7_1, ixq7_2, ixq7_3, ixq7_4, ixq7_5, ixq7_6, ixq8_0, ixq8_1, ixq8_2, ixq8_3, ixq8_4, ixq8_5, ixq8_6, ixq8_7, Res.bind_ok, Res.bind_err, Res.bind_bad, List.getElem?_cons_zero, List.getElem?_cons_succ, List.set_cons_zero, List.set_cons_succ, List.map_cons, List.map_nil, List.cons_append, List.nil_append, List.append_nil, List.length_cons, List.length_nil, List.replicate, List.take, if_true, if_false, ite_true, ite_false, reduceIte, Nat.reduceAdd, Nat.reduceSub, Nat.reduceLeDiff, Bool.false_eq_true, Nat.reduceEqDiff, Nat.add_eq, Nat.add_zero, Nat.zero_add, Option.bind_some, Option.map_some, Nat.sub_self, eq_self, and_self, and_true, true_and, Bool.and_true, Bool.true_and, Bool.and_false, Bool.false_and, Bool.or_true, Bool.true_or, Bool.or_false, Bool.false_or, Bool.not_true, Bool.not_false, String.reduceBEq, decide_true, decide_false, List.reverse_cons, List.reverse_nil, List.isEmpty_cons, List.isEmpty_nil, Option.getD_some, Int.reduceLT, Int.reduceLE, Int.reduceEq, Int.reduceAdd, Int.reduceSub, Int.reduceMul, Int.reduceNeg, Nat.reduceLT, Nat.reduceMul, not_true_eq_false, not_false_eq_true, and_false, false_and, List.length_map, Int.natCast_zero, Int.reduceToNat, Int.cast_ofNat_Int, Int.reduceFDiv, Int.reduceFMod, Int.reduceBEq, Int.reduceBNe, Int.reduceNe, Nat.reduceBEq, Int.reducePow, ite_self]
          · simp (disch := first | assumption | decide | omega) only [fn__law_exists, den__law_exists, e, decide_eq_false z1, decide_eq_true z3, decide_eq_true c1, md, decide_eq_false (fun h => c2 (dd.mp h)), decide_eq_false (fun h : 0 ≤ m2 ∧ m1 ∣ m2 - m0 => c2 h.2), dC_a, dVar_a, dSlot_a, dMove_a, dLV_a, dFrz_a, frzE_val, frzE_mu, dVal_a, get_v, get_s, dBin_a, dNeg_a, dTB_a, dBT_a, dTru_a, dNotT_a, dAndT_a, dOrT_a, dAndV_a, dOrV_a, dNotL_a, dIf_a, dIfF_a, dChain_a, dVs_n, dVs_c, dArs_n, dArs_c, dTup_a, dLst_a, getAll_n, getAll_c, dCB_a, dCallR_a, dIsi_a, dSeq_a, dSkip_a, dIfS_a, dRet_a, dSet_a, dAsg_a, asN_a, asT_a, asT_l, asC_a, asNil_a, dPar_a, dPut_a, dExp_a, dApp_a, dFor_a, loopF_n, dIt_a, gDiv_i, gMul_i, gMod_i, gEq_int, gNe_int, at0, at1, at2, at3, gAdd_i, gSub_i, gLt_i, gLe_i, gGt_i, gGe_i, gInt_i, gLen_l, gLen_f, gLen_t, gAbs_i, its_l, its_t, its_f, mkFn_s, stF_rt, stF_nx, stF_er, dCall_s, dCall0_s, dCallK_s, dIsK_e, dAt_e, dRev_e, dPar3_e, dEnum_e, dZip_e, enumD_n, enumD_c, zipD_c, zipD_n, zipD_m, dRng1_e, dPs_e, dPn_e, dSl_e, frzS_e, noX_n, noX_v, noX_m, noX_u, noX_x, finX_s, finX_n, dBreak_e, dCont_e, rngD_z, rngD_s, dTrue_e, dLc_e, loopC_n, loopC_k, goC_s, goC_o, eleC_e, bindX_o, loopF_c, wipeE_n, wipeE_c, restE_n, restE_c, okOwn_n, okOwn_c, dTry_e, runH_n, runH_c, dRaise_e, dXf_e, shp_i, shp_b, shp_o, shp_s, shp_t, shp_l, shp_f, shps_n, shps_c, gEq_ci, gNe_ci, gEq_cb, gNe_cb, gEq_cs, gNe_cs, gEq_co, gNe_co, gEq_ct, gNe_ct, gEq_cl, gNe_cl, gEq_cf, gNe_cf, deq_ii, deq_bb, deq_bi, deq_ib, deq_ss, deq_tt, deq_ll, deq_lf, deq_fl, deq_ff, deq_oo, deqs_nn, deqs_cc, deqs_nc, deqs_cn, deq_oi, deq_io, deq_ob, deq_bo, deq_os, deq_so, deq_ot, deq_to, deq_ol, deq_lo, deq_it, deq_ti, deq_il, deq_li, deq_is, deq_si, deq_tl, deq_lt, deq_ts, deq_st, deq_ls, deq_sl, deq_bt, deq_tb, deq_bs, deq_sb, tru_b, tru_l, tru_t, tru_i, tru_o, ni_i, ni_b, ni_s, ni_o, ni_t, ni_l, ni_f, isTs_n, isTs_c, isT_i, isT_b, isT_s, isT_t, isT_l, isT_f, isT_o, gIs_n, gIs_bb, gIsNot_n, gIsNot_bb, isN_o, isN_i, isN_b, isN_s, isN_t, isN_l, isN_f, gList_t, gList_l, gList_f, gTuple_l, gTuple_f, gTuple_t, gIx_t, gIx_l, gIx_f, gSl_t, gSl_l, gSl_f, gEqS_e, gNeS_e, st_ok, st_err, st_bad, fl_m, fl_i, fl_b, fl_s, fl_o, fl_t, fl_l, fl_f, fl_n, fl_g, frzAr_n, frzAr_v, frzAr_s, hasS_n, hasS_v, hasS_s, vb_e, at4, at5, at6, at7, at8, at9, at10, at11, at12, atm1_1, atm1_2, atm1_3, atm1_4, atm1_5, atm1_6, atm1_7, atm1_8, ixq1_0, ixq2_0, ixq2_1, ixq3_0, ixq3_1, ixq3_2, ixq4_0, ixq4_1, ixq4_2, ixq4_3, ixq5_0, ixq5_1, ixq5_2, ixq5_3, ixq5_4, ixq6_0, ixq6_1, ixq6_2, ixq6_3, ixq6_4, ixq6_5, ixq7_0, ixq7_1, ixq7_2, ixq7_3, ixq7_4, ixq7_5, ixq7_6, ixq8_0, ixq8_1, ixq8_2, ixq8_3, ixq8_4, ixq8_5, ixq8_6, ixq8_7, Res.bind_ok, Res.bind_err, Res.bind_bad, List.getElem?_cons_zero, List.getElem?_cons_succ, List.set_cons_zero, List.set_cons_succ, List.map_cons, List.map_nil, List.cons_append, List.nil_append, List.append_nil, List.length_cons, List.length_nil, List.replicate, List.take, if_true, if_false, ite_true, ite_false, reduceIte, Nat.reduceAdd, Nat.reduceSub, Nat.reduceLeDiff, Bool.false_eq_true, Nat.reduceEqDiff, Nat.add_eq, Nat.add_zero, Nat.zero_add, Option.bind_some, Option.map_some, Nat.sub_self, eq_self, and_self, and_true, true_and, Bool.and_true, Bool.true_and, Bool.and_false, Bool.false_and, Bool.or_true, Bool.true_or, Bool.or_false, Bool.false_or, Bool.not_true, Bool.not_false, String.reduceBEq, decide_true, decide_false, List.reverse_cons, List.reverse_nil, List.isEmpty_cons, List.isEmpty_nil, Option.getD_some, Int.reduceLT, Int.reduceLE, Int.reduceEq, Int.reduceAdd, Int.reduceSub, Int.reduceMul, Int.reduceNeg, Nat.reduceLT, Nat.reduceMul, not_true_eq_false, not_false_eq_true, and_false, false_and, List.length_map, Int.natCast_zero, Int.reduceToNat, Int.cast_ofNat_Int, Int.reduceFDiv, Int.reduceFMod, Int.reduceBEq, Int.reduceBNe, Int.reduceNe, Nat.reduceBEq, Int.reducePow, ite_self]
        · simp (disch := first | assumption | decide | omega) only [fn__law_exists, den__law_exists, e, decide_eq_false z1, decide_eq_true z3, decide_eq_false c1, decide_eq_false (fun h : 0 ≤ m2 ∧ m1 ∣ m2 - m0 => c1 h.1), dC_a, dVar_a, dSlot_a, dMove_a, dLV_a, dFrz_a, frzE_val, frzE_mu, dVal_a, get_v, get_s, dBin_a, dNeg_a, dTB_a, dBT_a, dTru_a, dNotT_a, dAndT_a, dOrT_a, dAndV_a, dOrV_a, dNotL_a, dIf_a, dIfF_a, dChain_a, dVs_n, dVs_c, dArs_n, dArs_c, dTup_a, dLst_a, getAll_n, getAll_c, dCB_a, dCallR_a, dIsi_a, dSeq_a, dSkip_a, dIfS_a, dRet_a, dSet_a, dAsg_a, asN_a, asT_a, asT_l, asC_a, asNil_a, dPar_a, dPut_a, dExp_a, dApp_a, dFor_a, loopF_n, dIt_a, gDiv_i, gMul_i, gMod_i, gEq_int, gNe_int, at0, at1, at2, at3, gAdd_i, gSub_i, gLt_i, gLe_i, gGt_i, gGe_i, gInt_i, gLen_l, gLen_f, gLen_t, gAbs_i, its_l, its_t, its_f, mkFn_s, stF_rt, stF_nx, stF_er, dCall_s, dCall0_s, dCallK_s, dIsK_e, dAt_e, dRev_e, dPar3_e, dEnum_e, dZip_e, enumD_n, enumD_c, zipD_c, zipD_n, zipD_m, dRng1_e, dPs_e, dPn_e, dSl_e, frzS_e, noX_n, noX_v, noX_m, noX_u, noX_x, finX_s, finX_n, dBreak_e, dCont_e, rngD_z, rngD_s, dTrue_e, dLc_e, loopC_n, loopC_k, goC_s, goC_o, eleC_e, bindX_o, loopF_c, wipeE_n, wipeE_c, restE_n, restE_c, okOwn_n, okOwn_c, dTry_e, runH_n, runH_c, dRaise_e, dXf_e, shp_i, shp_b, shp_o, shp_s, shp_t, shp_l, shp_f, shps_n, shps_c, gEq_ci, gNe_ci, gEq_cb, gNe_cb, gEq_cs, gNe_cs, gEq_co, gNe_co, gEq_ct, gNe_ct, gEq_cl, gNe_cl, gEq_cf, gNe_cf, deq_ii, deq_bb, deq_bi, deq_ib, deq_ss, deq_tt, deq_ll, deq_lf, deq_fl, deq_ff, deq_oo, deqs_nn, deqs_cc, deqs_nc, deqs_cn, deq_oi, deq_io, deq_ob, deq_bo, deq_os, deq_so, deq_ot, deq_to, deq_ol, deq_lo, deq_it, deq_ti, deq_il, deq_li, deq_is, deq_si, deq_tl, deq_lt, deq_ts, deq_st, deq_ls, deq_sl, deq_bt, deq_tb, deq_bs, deq_sb, tru_b, tru_l, tru_t, tru_i, tru_o, ni_i, ni_b, ni_s, ni_o, ni_t, ni_l, ni_f, isTs_n, isTs_c, isT_i, isT_b, isT_s, isT_t, isT_l, isT_f, isT_o, gIs_n, gIs_bb, gIsNot_n, gIsNot_bb, isN_o, isN_i, isN_b, isN_s, isN_t, isN_l, isN_f, gList_t, gList_l, gList_f, gTuple_l, gTuple_f, gTuple_t, gIx_t, gIx_l, gIx_f, gSl_t, gSl_l, gSl_f, gEqS_e, gNeS_e, st_ok, st_err, st_bad, fl_m, fl_i, fl_b, fl_s, fl_o, fl_t, fl_l, fl_f, fl_n, fl_g, frzAr_n, frzAr_v, frzAr_s, hasS_n, hasS_v, hasS_s, vb_e, at4, at5, at6, at7, at8, at9, at10, at11, at12, atm1_1, atm1_2, atm1_3, atm1_4, atm1_5, atm1_6, atm1_7, atm1_8, ixq1_0, ixq2_0, ixq2_1, ixq3_0, ixq3_1, ixq3_2, ixq4_0, ixq4_1, ixq4_2, ixq4_3, ixq5_0, ixq5_1, ixq5_2, ixq5_3, ixq5_4, ixq6_0, ixq6_1, ixq6_2, ixq6_3, ixq6_4, ixq6_5, ixq7_0, ixq7_1, ixq7_2, ixq7_3, ixq7_4, ixq7_5, ixq7_6, ixq8_0, ixq8_1, ixq8_2, ixq8_3, ixq8_4, ixq8_5, ixq8_6, ixq8_7, Res.bind_ok, Res.bind_err, Res.bind_bad, List.getElem?_cons_zero, List.getElem?_cons_succ, List.set_cons_zero, List.set_cons_succ, List.map_cons, List.map_nil, List.cons_append, List.nil_append, List.append_nil, List.length_cons, List.length_nil, List.replicate, List.take, if_true, if_false, ite_true, ite_false, reduceIte, Nat.reduceAdd, Nat.reduceSub, Nat.reduceLeDiff, Bool.false_eq_true, Nat.reduceEqDiff, Nat.add_eq, Nat.add_zero, Nat.zero_add, Option.bind_some, Option.map_some, Nat.sub_self, eq_self, and_self, and_true, true_and, Bool.and_true, Bool.true_and, Bool.and_false, Bool.false_and, Bool.or_true, Bool.true_or, Bool.or_false, Bool.false_or, Bool.not_true, Bool.not_false, String.reduceBEq, decide_true, decide_false, List.reverse_cons, List.reverse_nil, List.isEmpty_cons, List.isEmpty_nil, Option.getD_some, Int.reduceLT, Int.reduceLE, Int.reduceEq, Int.reduceAdd, Int.reduceSub, Int.reduceMul, Int.reduceNeg, Nat.reduceLT, Nat.reduceMul, not_true_eq_false, not_false_eq_true, and_false, false_and, List.length_map, Int.natCast_zero, Int.reduceToNat, Int.cast_ofNat_Int, Int.reduceFDiv, Int.reduceFMod, Int.reduceBEq, Int.reduceBNe, Int.reduceNe, Nat.reduceBEq, Int.reducePow, ite_self]
      · rw [if_neg z1, if_pos z3, decide_eq_true_iff]
    · have cp := gc_pos1 (a := m1) (b := m3) (by omega)
      have ce := common_ev m1 m3
      have md := gMod_i (i := m0 - m2) (show gc m1 m3 ≠ 0 by omega)
      have dd := dvd_fmod (x := m0 - m2) cp
      have sw : gc m1 m3 ∣ m0 - m2 ↔ gc m1 m3 ∣ m2 - m0 := by
        constructor <;> intro h
        · have := Int.dvd_neg.mpr h
          rwa [Int.neg_sub] at this
        · have := Int.dvd_neg.mpr h
          rwa [Int.neg_sub] at this
      refine ⟨decide ((m0 - m2).fmod (gc m1 m3) = 0), ?_, ?_⟩
      · generalize gc m1 m3 = c at *
        simp (disch := first | assumption | decide | omega) only [fn__law_exists, den__law_exists, e, decide_eq_false z1, decide_eq_false z3, ce, md, dC_a, dVar_a, dSlot_a, dMove_a, dLV_a, dFrz_a, frzE_val, frzE_mu, dVal_a, get_v, get_s, dBin_a, dNeg_a, dTB_a, dBT_a, dTru_a, dNotT_a, dAndT_a, dOrT_a, dAndV_a, dOrV_a, dNotL_a, dIf_a, dIfF_a, dChain_a, dVs_n, dVs_c, dArs_n, dArs_c, dTup_a, dLst_a, getAll_n, getAll_c, dCB_a, dCallR_a, dIsi_a, dSeq_a, dSkip_a, dIfS_a, dRet_a, dSet_a, dAsg_a, asN_a, asT_a, asT_l, asC_a, asNil_a, dPar_a, dPut_a, dExp_a, dApp_a, dFor_a, loopF_n, dIt_a, gDiv_i, gMul_i, gMod_i, gEq_int, gNe_int, at0, at1, at2, at3, gAdd_i, gSub_i, gLt_i, gLe_i, gGt_i, gGe_i, gInt_i, gLen_l, gLen_f, gLen_t, gAbs_i, its_l, its_t, its_f, mkFn_s, stF_rt, stF_nx, stF_er, dCall_s, dCall0_s, dCallK_s, dIsK_e, dAt_e, dRev_e, dPar3_e, dEnum_e, dZip_e, enumD_n, enumD_c, zipD_c, zipD_n, zipD_m, dRng1_e, dPs_e, dPn_e, dSl_e, frzS_e, noX_n, noX_v, noX_m, noX_u, noX_x, finX_s, finX_n, dBreak_e, dCont_e, rngD_z, rngD_s, dTrue_e, dLc_e, loopC_n, loopC_k, goC_s, goC_o, eleC_e, bindX_o, loopF_c, wipeE_n, wipeE_c, restE_n, restE_c, okOwn_n, okOwn_c, dTry_e, runH_n, runH_c, dRaise_e, dXf_e, shp_i, shp_b, shp_o, shp_s, shp_t, shp_l, shp_f, shps_n, shps_c, gEq_ci, gNe_ci, gEq_cb, gNe_cb, gEq_cs, gNe_cs, gEq_co, gNe_co, gEq_ct, gNe_ct, gEq_cl, gNe_cl, gEq_cf, gNe_cf, deq_ii, deq_bb, deq_bi, deq_ib, deq_ss, deq_tt, deq_ll, deq_lf, deq_fl, deq_ff, deq_oo, deqs_nn, deqs_cc, deqs_nc, deqs_cn, deq_oi, deq_io, deq_ob, deq_bo, deq_os, deq_so, deq_ot, deq_to, deq_ol, deq_lo, deq_it, deq_ti, deq_il, deq_li, deq_is, deq_si, deq_tl, deq_lt, deq_ts, deq_st, deq_ls, deq_sl, deq_bt, deq_tb, deq_bs, deq_sb, tru_b, tru_l, tru_t, tru_i, tru_o, ni_i, ni_b, ni_s, ni_o, ni_t, ni_l, ni_f, isTs_n, isTs_c, isT_i, isT_b, isT_s, isT_t, isT_l, isT_f, isT_o, gIs_n, gIs_bb, gIsNot_n, gIsNot_bb, isN_o, isN_i, isN_b, isN_s, isN_t, isN_l, isN_f, gList_t, gList_l, gList_f, gTuple_l, gTuple_f, gTuple_t, gIx_t, gIx_l, gIx_f, gSl_t, gSl_l, gSl_f, gEqS_e, gNeS_e, st_ok, st_err, st_bad, fl_m, fl_i, fl_b, fl_s, fl_o, fl_t, fl_l, fl_f, fl_n, fl_g, frzAr_n, frzAr_v, frzAr_s, hasS_n, hasS_v, hasS_s, vb_e, at4, at5, at6, at7, at8, at9, at10, at11, at12, atm1_1, atm1_2, atm1_3, atm1_4, atm1_5, atm1_6, atm1_7, atm1_8, ixq1_0, ixq2_0, ixq2_1, ixq3_0, ixq3_1, ixq3_2, ixq4_0, ixq4_1, ixq4_2, ixq4_3, ixq5_0, ixq5_1, ixq5_2, ixq5_3, ixq5_4, ixq6_0, ixq6_1, ixq6_2, ixq6_3, ixq6_4, ixq6_5, ixq7_0, ixq7_1, ixq7_2, ixq7_3, ixq7_4, ixq7_5, ixq7_6, ixq8_0, ixq8_1, ixq8_2, ixq8_3, ixq8_4, ixq8_5, ixq8_6, ixq8_7, Res.bind_ok, Res.bind_err, Res.bind_bad, List.getElem?_cons_zero, List.getElem?_cons_succ, List.set_cons_zero, List.set_cons_succ, List.map_cons, List.map_nil, List.cons_append, List.nil_append, List.append_nil, List.length_cons, List.length_nil, List.replicate, List.take, if_true, if_false, ite_true, ite_false, reduceIte, Nat.reduceAdd, Nat.reduceSub, Nat.reduceLeDiff, Bool.false_eq_true, Nat.reduceEqDiff, Nat.add_eq, Nat.add_zero, Nat.zero_add, Option.bind_some, Option.map_some, Nat.sub_self, eq_self, and_self, and_true, true_and, Bool.and_true, Bool.true_and, Bool.and_false, Bool.false_and, Bool.or_true, Bool.true_or, Bool.or_false, Bool.false_or, Bool.not_true, Bool.not_false, String.reduceBEq, decide_true, decide_false, List.reverse_cons, List.reverse_nil, List.isEmpty_cons, List.isEmpty_nil, Option.getD_some, Int.reduceLT, Int.reduceLE, Int.reduceEq, Int.reduceAdd, Int.reduceSub, Int.reduceMul, Int.reduceNeg, Nat.reduceLT, Nat.reduceMul, not_true_eq_false, not_false_eq_true, and_false, false_and, List.length_map, Int.natCast_zero, Int.reduceToNat, Int.cast_ofNat_Int, Int.reduceFDiv, Int.reduceFMod, Int.reduceBEq, Int.reduceBNe, Int.reduceNe, Nat.reduceBEq, Int.reducePow, ite_self]
      · rw [if_neg z1, if_neg z3, decide_eq_true_iff, dd, sw]
theorem lc_mul (a b : Int) {B : Int} (hB : 0 < B) : lc (a * B) (b * B) = lc a b * B := by
  unfold lc
  rw [Int.natAbs_mul, Int.natAbs_mul, Nat.lcm_mul_right, Int.natCast_mul]
  congr 1
  omega
theorem is_least_ev {x0 x1 y0 y1 : Rat} (z : Sz x0 x1 y0 y1) {W n0 n1 n2 n3 : Int} (N : Nm x0 x1 y0 y1 W n0 n1 n2 n3) {f : Int} (h : Inb n0 n1 n2 n3 f) (bT : RB 2 (qv f W)) : (fn__law_is_least [.val (rD (qv f W)), .val (.lst [rD x0, rD x1]), .val (.lst [rD y0, rD y1])]).st = .ok (.val (.bl true)) [] := by
  obtain ⟨B, m0, m1, m2, m3, e, M⟩ := nm_law z
  obtain ⟨s0, s1, s2, s3⟩ := N.sc M
  have q1 := N.n1 z.p
  have q3 := N.n3 z.q
  have p1 := M.n1 z.p
  have p3 := M.n3 z.q
  by_cases z1 : m1 = 0
  · simp (disch := first | assumption | decide | omega) only [fn__law_is_least, den__law_is_least, e, decide_eq_true z1, dC_a, dVar_a, dSlot_a, dMove_a, dLV_a, dFrz_a, frzE_val, frzE_mu, dVal_a, get_v, get_s, dBin_a, dNeg_a, dTB_a, dBT_a, dTru_a, dNotT_a, dAndT_a, dOrT_a, dAndV_a, dOrV_a, dNotL_a, dIf_a, dIfF_a, dChain_a, dVs_n, dVs_c, dArs_n, dArs_c, dTup_a, dLst_a, getAll_n, getAll_c, dCB_a, dCallR_a, dIsi_a, dSeq_a, dSkip_a, dIfS_a, dRet_a, dSet_a, dAsg_a, asN_a, asT_a, asT_l, asC_a, asNil_a, dPar_a, dPut_a, dExp_a, dApp_a, dFor_a, loopF_n, dIt_a, gDiv_i, gMul_i, gMod_i, gEq_int, gNe_int, at0, at1, at2, at3, gAdd_i, gSub_i, gLt_i, gLe_i, gGt_i, gGe_i, gInt_i, gLen_l, gLen_f, gLen_t, gAbs_i, its_l, its_t, its_f, mkFn_s, stF_rt, stF_nx, stF_er, dCall_s, dCall0_s, dCallK_s, dIsK_e, dAt_e, dRev_e, dPar3_e, dEnum_e, dZip_e, enumD_n, enumD_c, zipD_c, zipD_n, zipD_m, dRng1_e, dPs_e, dPn_e, dSl_e, frzS_e, noX_n, noX_v, noX_m, noX_u, noX_x, finX_s, finX_n, dBreak_e, dCont_e, rngD_z, rngD_s, dTrue_e, dLc_e, loopC_n, loopC_k, goC_s, goC_o, eleC_e, bindX_o, loopF_c, wipeE_n, wipeE_c, restE_n, restE_c, okOwn_n, okOwn_c, dTry_e, runH_n, runH_c, dRaise_e, dXf_e, shp_i, shp_b, shp_o, shp_s, shp_t, shp_l, shp_f, shps_n, shps_c, gEq_ci, gNe_ci, gEq_cb, gNe_cb, gEq_cs, gNe_cs, gEq_co, gNe_co, gEq_ct, gNe_ct, gEq_cl, gNe_cl, gEq_cf, gNe_cf, deq_ii, deq_bb, deq_bi, deq_ib, deq_ss, deq_tt, deq_ll, deq_lf, deq_fl, deq_ff, deq_oo, deqs_nn, deqs_cc, deqs_nc, deqs_cn, deq_oi, deq_io, deq_ob, deq_bo, deq_os, deq_so, deq_ot, deq_to, deq_ol, deq_lo, deq_it, deq_ti, deq_il, deq_li, deq_is, deq_si, deq_tl, deq_lt, deq_ts, deq_st, deq_ls, deq_sl, deq_bt, deq_tb, deq_bs, deq_sb, tru_b, tru_l, tru_t, tru_i, tru_o, ni_i, ni_b, ni_s, ni_o, ni_t, ni_l, ni_f, isTs_n, isTs_c, isT_i, isT_b, isT_s, isT_t, isT_l, isT_f, isT_o, gIs_n, gIs_bb, gIsNot_n, gIsNot_bb, isN_o, isN_i, isN_b, isN_s, isN_t, isN_l, isN_f, gList_t, gList_l, gList_f, gTuple_l, gTuple_f, gTuple_t, gIx_t, gIx_l, gIx_f, gSl_t, gSl_l, gSl_f, gEqS_e, gNeS_e, st_ok, st_err, st_bad, fl_m, fl_i, fl_b, fl_s, fl_o, fl_t, fl_l, fl_f, fl_n, fl_g, frzAr_n, frzAr_v, frzAr_s, hasS_n, hasS_v, hasS_s, vb_e, at4, at5, at6, at7, at8, at9, at10, at11, at12, atm1_1, atm1_2, atm1_3, atm1_4, atm1_5, atm1_6, atm1_7, atm1_8, ixq1_0, ixq2_0, ixq2_1, ixq3_0, ixq3_1, ixq3_2, ixq4_0, ixq4_1, ixq4_2, ixq4_3, ixq5_0, ixq5_1, ixq5_2, ixq5_3, ixq5_4, ixq6_0, ixq6_1, ixq6_2, ixq6_3, ixq6_4, ixq6_5, ixq7_0, ixq7_1, ixq7_2, ixq7_3, ixq7_4, ixq7_5, ixq7_6, ixq8_0, ixq8_1, ixq8_2, ixq8_3, ixq8_4, ixq8_5, ixq8_6, ixq8_7, Res.bind_ok, Res.bind_err, Res.bind_bad, List.getElem?_cons_zero, List.getElem?_cons_succ, List.set_cons_zero, List.set_cons_succ, List.map_cons, List.map_nil, List.cons_append, List.nil_append, List.append_nil, List.length_cons, List.length_nil, List.replicate, List.take, if_true, if_false, ite_true, ite_false, reduceIte, Nat.reduceAdd, Nat.reduceSub, Nat.reduceLeDiff, Bool.false_eq_true, Nat.reduceEqDiff, Nat.add_eq, Nat.add_zero, Nat.zero_add, Option.bind_some, Option.map_some, Nat.sub_self, eq_self, and_self, and_true, true_and, Bool.and_true, Bool.true_and, Bool.and_false, Bool.false_and, Bool.or_true, Bool.true_or, Bool.or_false, Bool.false_or, Bool.not_true, Bool.not_false, String.reduceBEq, decide_true, decide_false, List.reverse_cons, List.reverse_nil, List.isEmpty_cons, List.isEmpty_nil, Option.getD_some, Int.reduceLT, Int.reduceLE, Int.reduceEq, Int.reduceAdd, Int.reduceSub, Int.reduceMul, Int.reduceNeg, Nat.reduceLT, Nat.reduceMul, not_true_eq_false, not_false_eq_true, and_false, false_and, List.length_map, Int.natCast_zero, Int.reduceToNat, Int.cast_ofNat_Int, Int.reduceFDiv, Int.reduceFMod, Int.reduceBEq, Int.reduceBNe, Int.reduceNe, Nat.reduceBEq, Int.reducePow, ite_self]
  · by_cases z3 : m3 = 0
    · simp (disch := first | assumption | decide | omega) only [fn__law_is_least, den__law_is_least, e, decide_eq_false z1, decide_eq_true z3, dC_a, dVar_a, dSlot_a, dMove_a, dLV_a, dFrz_a, frzE_val, frzE_mu, dVal_a, get_v, get_s, dBin_a, dNeg_a, dTB_a, dBT_a, dTru_a, dNotT_a, dAndT_a, dOrT_a, dAndV_a, dOrV_a, dNotL_a, dIf_a, dIfF_a, dChain_a, dVs_n, dVs_c, dArs_n, dArs_c, dTup_a, dLst_a, getAll_n, getAll_c, dCB_a, dCallR_a, dIsi_a, dSeq_a, dSkip_a, dIfS_a, dRet_a, dSet_a, dAsg_a, asN_a, asT_a, asT_l, asC_a, asNil_a, dPar_a, dPut_a, dExp_a, dApp_a, dFor_a, loopF_n, dIt_a, gDiv_i, gMul_i, gMod_i, gEq_int, gNe_int, at0, at1, at2, at3, gAdd_i, gSub_i, gLt_i, gLe_i, gGt_i, gGe_i, gInt_i, gLen_l, gLen_f, gLen_t, gAbs_i, its_l, its_t, its_f, mkFn_s, stF_rt, stF_nx, stF_er, dCall_s, dCall0_s, dCallK_s, dIsK_e, dAt_e, dRev_e, dPar3_e, dEnum_e, dZip_e, enumD_n, enumD_c, zipD_c, zipD_n, zipD_m, dRng1_e, dPs_e, dPn_e, dSl_e, frzS_e, noX_n, noX_v, noX_m, noX_u, noX_x, finX_s, finX_n, dBreak_e, dCont_e, rngD_z, rngD_s, dTrue_e, dLc_e, loopC_n, loopC_k, goC_s, goC_o, eleC_e, bindX_o, loopF_c, wipeE_n, wipeE_c, restE_n, restE_c, okOwn_n, okOwn_c, dTry_e, runH_n, runH_c, dRaise_e, dXf_e, shp_i, shp_b, shp_o, shp_s, shp_t, shp_l, shp_f, shps_n, shps_c, gEq_ci, gNe_ci, gEq_cb, gNe_cb, gEq_cs, gNe_cs, gEq_co, gNe_co, gEq_ct, gNe_ct, gEq_cl, gNe_cl, gEq_cf, gNe_cf, deq_ii, deq_bb, deq_bi, deq_ib, deq_ss, deq_tt, deq_ll, deq_lf, deq_fl, deq_ff, deq_oo, deqs_nn, deqs_cc, deqs_nc, deqs_cn, deq_oi, deq_io, deq_ob, deq_bo, deq_os, deq_so, deq_ot, deq_to, deq_ol, deq_lo, deq_it, deq_ti, deq_il, deq_li, deq_is, deq_si, deq_tl, deq_lt, deq_ts, deq_st, deq_ls, deq_sl, deq_bt, deq_tb, deq_bs, deq_sb, tru_b, tru_l, tru_t, tru_i, tru_o, ni_i, ni_b, ni_s, ni_o, ni_t, ni_l, ni_f, isTs_n, isTs_c, isT_i, isT_b, isT_s, isT_t, isT_l, isT_f, isT_o, gIs_n, gIs_bb, gIsNot_n, gIsNot_bb, isN_o, isN_i, isN_b, isN_s, isN_t, isN_l, isN_f, gList_t, gList_l, gList_f, gTuple_l, gTuple_f, gTuple_t, gIx_t, gIx_l, gIx_f, gSl_t, gSl_l, gSl_f, gEqS_e, gNeS_e, st_ok, st_err, st_bad, fl_m, fl_i, fl_b, fl_s, fl_o, fl_t, fl_l, fl_f, fl_n, fl_g, frzAr_n, frzAr_v, frzAr_s, hasS_n, hasS_v, hasS_s, vb_e, at4, at5, at6, at7, at8, at9, at10, at11, at12, atm1_1, atm1_2, atm1_3, atm1_4, atm1_5, atm1_6, atm1_7, atm1_8, ixq1_0, ixq2_0, ixq2_1, ixq3_0, ixq3_1, ixq3_2, ixq4_0, ixq4_1, ixq4_2, ixq4_3, ixq5_0, ixq5_1, ixq5_2, ixq5_3, ixq5_4, ixq6_0, ixq6_1, ixq6_2, ixq6_3, ixq6_4, ixq6_5, ixq7_0, ixq7_1, ixq7_2, ixq7_3, ixq7_4, ixq7_5, ixq7_6, ixq8_0, ixq8_1, ixq8_2, ixq8_3, ixq8_4, ixq8_5, ixq8_6, ixq8_7, Res.bind_ok, Res.bind_err, Res.bind_bad, List.getElem?_cons_zero, List.getElem?_cons_succ, List.set_cons_zero, List.set_cons_succ, List.map_cons, List.map_nil, List.cons_append, List.nil_append, List.append_nil, List.length_cons, List.length_nil, List.replicate, List.take, if_true, if_false, ite_true, ite_false, reduceIte, Nat.reduceAdd, Nat.reduceSub, Nat.reduceLeDiff, Bool.false_eq_true, Nat.reduceEqDiff, Nat.add_eq, Nat.add_zero, Nat.zero_add, Option.bind_some, Option.map_some, Nat.sub_self, eq_self, and_self, and_true, true_and, Bool.and_true, Bool.true_and, Bool.and_false, Bool.false_and, Bool.or_true, Bool.true_or, Bool.or_false, Bool.false_or, Bool.not_true, Bool.not_false, String.reduceBEq, decide_true, decide_false, List.reverse_cons, List.reverse_nil, List.isEmpty_cons, List.isEmpty_nil, Option.getD_some, Int.reduceLT, Int.reduceLE, Int.reduceEq, Int.reduceAdd, Int.reduceSub, Int.reduceMul, Int.reduceNeg, Nat.reduceLT, Nat.reduceMul, not_true_eq_false, not_false_eq_true, and_false, false_and, List.length_map, Int.natCast_zero, Int.reduceToNat, Int.cast_ofNat_Int, Int.reduceFDiv, Int.reduceFMod, Int.reduceBEq, Int.reduceBNe, Int.reduceNe, Nat.reduceBEq, Int.reducePow, ite_self]
    · have zn1 : n1 ≠ 0 := fun q => z1 ((sc_zero M.w N.w s1).mp q)
      have zn3 : n3 ≠ 0 := fun q => z3 ((sc_zero M.w N.w s3).mp q)
      have u := h.u zn1 zn3
      have cp := gc_pos1 (a := m1) (b := m3) (by omega)
      have cl : gc m1 m3 ≤ m1 := Int.le_of_dvd (by omega) (gc_dvd1 m1 m3)
      have bc : BdL 0 (gc m1 m3) := bd_abs (BdL.of M.b1 (by decide)) (by omega)
      have ce := common_ev m1 m3
      have dv := gDiv_i (i := m1) (divOk_L (bc.up (by decide)) (show gc m1 m3 ≠ 0 by omega))
      rw [fdiv_pos cp] at dv
      have bq : BdL 0 (m1 / gc m1 m3) := BdL.of (Bd.div M.b1) (by decide)
      have l1 := gMul_i (mulOk_L (bq.up (by decide)) (BdL.of M.b3 (by decide)))
      have bl : BdL 1 (m1 / gc m1 m3 * m3) := bq.mul (BdL.of M.b3 (by decide))
      have l2 := gMul_i (mulOk_L (bT.1.up (by decide)) (BdL.of M.bw (by decide)))
      have l3 := gMul_i (mulOk_L (bT.2.up (by decide)) (bl.up (by decide)))
      have key : (qv f W).num * B < ((qv f W).den : Int) * (m1 / gc m1 m3 * m3) := by
        rw [← lc_eq (by omega) (by omega)]
        have sl : lc n1 n3 * B = lc m1 m3 * W := by rw [← lc_mul _ _ M.w, ← lc_mul _ _ N.w, s1, s3]
        have tn : (qv f W).num * W = f * (qv f W).den := by
          have h1 := num_eq (qv f W)
          have w := cast_ne (show W ≠ 0 by have := N.w; omega)
          have : (((qv f W).num * W : Int) : Rat) = ((f * (qv f W).den : Int) : Rat) := by
            rw [Rat.intCast_mul, Rat.intCast_mul, h1]
            unfold Ev.qv
            grind
          exact Rat.intCast_inj.mp this
        have pd := den_pos (qv f W)
        generalize (qv f W).num = tnum at *
        generalize ((qv f W).den : Int) = tden at *
        refine Int.lt_of_mul_lt_mul_right (a := W) ?_ (Int.le_of_lt N.w)
        have a1 : tnum * B * W = f * (tden * B) := by grind
        have a2 : tden * lc m1 m3 * W = lc n1 n3 * (tden * B) := by grind
        rw [a1, a2]
        exact Int.mul_lt_mul_of_pos_right u (Int.mul_pos pd M.w)
      have kd := decide_eq_true key
      generalize qv f W = T at *
      clear key
      generalize gc m1 m3 = c at *
      simp (disch := first | assumption | decide | omega) only [fn__law_is_least, den__law_is_least, e, decide_eq_false z1, decide_eq_false z3, ce, dv, l1, l2, l3, kd, dC_a, dVar_a, dSlot_a, dMove_a, dLV_a, dFrz_a, frzE_val, frzE_mu, dVal_a, get_v, get_s, dBin_a, dNeg_a, dTB_a, dBT_a, dTru_a, dNotT_a, dAndT_a, dOrT_a, dAndV_a, dOrV_a, dNotL_a, dIf_a, dIfF_a, dChain_a, dVs_n, dVs_c, dArs_n, dArs_c, dTup_a, dLst_a, getAll_n, getAll_c, dCB_a, dCallR_a, dIsi_a, dSeq_a, dSkip_a, dIfS_a, dRet_a, dSet_a, dAsg_a, asN_a, asT_a, asT_l, asC_a, asNil_a, dPar_a, dPut_a, dExp_a, dApp_a, dFor_a, loopF_n, dIt_a, gDiv_i, gMul_i, gMod_i, gEq_int, gNe_int, at0, at1, at2, at3, gAdd_i, gSub_i, gLt_i, gLe_i, gGt_i, gGe_i, gInt_i, gLen_l, gLen_f, gLen_t, gAbs_i, its_l, its_t, its_f, mkFn_s, stF_rt, stF_nx, stF_er, dCall_s, dCall0_s, dCallK_s, dIsK_e, dAt_e, dRev_e, dPar3_e, dEnum_e, dZip_e, enumD_n, enumD_c, zipD_c, zipD_n, zipD_m, dRng1_e, dPs_e, dPn_e, dSl_e, frzS_e, noX_n, noX_v, noX_m, noX_u, noX_x, finX_s, finX_n, dBreak_e, dCont_e, rngD_z, rngD_s, dTrue_e, dLc_e, loopC_n, loopC_k, goC_s, goC_o, eleC_e, bindX_o, loopF_c, wipeE_n, wipeE_c, restE_n, restE_c, okOwn_n, okOwn_c, dTry_e, runH_n, runH_c, dRaise_e, dXf_e, shp_i, shp_b, shp_o, shp_s, shp_t, shp_l, shp_f, shps_n, shps_c, gEq_ci, gNe_ci, gEq_cb, gNe_cb, gEq_cs, gNe_cs, gEq_co, gNe_co, gEq_ct, gNe_ct, gEq_cl, gNe_cl, gEq_cf, gNe_cf, deq_ii, deq_bb, deq_bi, deq_ib, deq_ss, deq_tt, deq_ll, deq_lf, deq_fl, deq_ff, deq_oo, deqs_nn, deqs_cc, deqs_nc, deqs_cn, deq_oi, deq_io, deq_ob, deq_bo, deq_os, deq_so, deq_ot, deq_to, deq_ol, deq_lo, deq_it, deq_ti, deq_il, deq_li, deq_is, deq_si, deq_tl, deq_lt, deq_ts, deq_st, deq_ls, deq_sl, deq_bt, deq_tb, deq_bs, deq_sb, tru_b, tru_l, tru_t, tru_i, tru_o, ni_i, ni_b, ni_s, ni_o, ni_t, ni_l, ni_f, isTs_n, isTs_c, isT_i, isT_b, isT_s, isT_t, isT_l, isT_f, isT_o, gIs_n, gIs_bb, gIsNot_n, gIsNot_bb, isN_o, isN_i, isN_b, isN_s, isN_t, isN_l, isN_f, gList_t, gList_l, gList_f, gTuple_l, gTuple_f, gTuple_t, gIx_t, gIx_l, gIx_f, gSl_t, gSl_l, gSl_f, gEqS_e, gNeS_e, st_ok, st_err, st_bad, fl_m, fl_i, fl_b, fl_s, fl_o, fl_t, fl_l, fl_f, fl_n, fl_g, frzAr_n, frzAr_v, frzAr_s, hasS_n, hasS_v, hasS_s, vb_e, at4, at5, at6, at7, at8, at9, at10, at11, at12, atm1_1, atm1_2, atm1_3, atm1_4, atm1_5, atm1_6, atm1_7, atm1_8, ixq1_0, ixq2_0, ixq2_1, ixq3_0, ixq3_1, ixq3_2, ixq4_0, ixq4_1, ixq4_2, ixq4_3, ixq5_0, ixq5_1, ixq5_2, ixq5_3, ixq5_4, ixq6_0, ixq6_1, ixq6_2, ixq6_3, ixq6_4, ixq6_5, ixq7_0, ixq7_1, ixq7_2, ixq7_3, ixq7_4, ixq7_5, ixq7_6, ixq8_0, ixq8_1, ixq8_2, ixq8_3, ixq8_4, ixq8_5, ixq8_6, ixq8_7, Res.bind_ok, Res.bind_err, Res.bind_bad, List.getElem?_cons_zero, List.getElem?_cons_succ, List.set_cons_zero, List.set_cons_succ, List.map_cons, List.map_nil, List.cons_append, List.nil_append, List.append_nil, List.length_cons, List.length_nil, List.replicate, List.take, if_true, if_false, ite_true, ite_false, reduceIte, Nat.reduceAdd, Nat.reduceSub, Nat.reduceLeDiff, Bool.false_eq_true, Nat.reduceEqDiff, Nat.add_eq, Nat.add_zero, Nat.zero_add, Option.bind_some, Option.map_some, Nat.sub_self, eq_self, and_self, and_true, true_and, Bool.and_true, Bool.true_and, Bool.and_false, Bool.false_and, Bool.or_true, Bool.true_or, Bool.or_false, Bool.false_or, Bool.not_true, Bool.not_false, String.reduceBEq, decide_true, decide_false, List.reverse_cons, List.reverse_nil, List.isEmpty_cons, List.isEmpty_nil, Option.getD_some, Int.reduceLT, Int.reduceLE, Int.reduceEq, Int.reduceAdd, Int.reduceSub, Int.reduceMul, Int.reduceNeg, Nat.reduceLT, Nat.reduceMul, not_true_eq_false, not_false_eq_true, and_false, false_and, List.length_map, Int.natCast_zero, Int.reduceToNat, Int.cast_ofNat_Int, Int.reduceFDiv, Int.reduceFMod, Int.reduceBEq, Int.reduceBNe, Int.reduceNe, Nat.reduceBEq, Int.reducePow, ite_self]
end Kx

set_option linter.all false
set_option maxRecDepth 100000
set_option maxHeartbeats 4000000
namespace Kx
open PySem PySem.Spec PyProof.Rows L2 Ev
theorem num_nonneg {a b : Int} (h : 0 < b) (k : 0 ≤ a) : 0 ≤ (qv a b).num := by
  rw [qv_num h]
  exact Int.ediv_nonneg k (Int.le_of_lt (gc_pos (by omega)))
theorem number_ev (xs : List D) (h : HandOk xs) : ∃ r ys, fn__law_number [.mu xs] = .ok (.val (rD r)) [.mu ys] ∧ HandOk ys ∧ RK 50 r ∧ 0 ≤ r.num := by
  obtain ⟨v1, y1, e1, h1, a1, _⟩ := take_ev xs h 8 (by decide) (by decide)
  have p9 : gPow (.int 10) (.int 9) = some (.val (.int 1000000000)) := by rfl
  have p14 : gPow (.int 10) (.int 14) = some (.val (.int 100000000000000)) := by rfl
  have key : ∀ m : Int, 0 < m → m ≤ 1000000000 → divOk m = true → ∃ v2 y2 v3 y3, fn__law_take [.mu y1, .val (.int m)] = .ok (.val (.int v2)) [.mu y2, .val (.int m)] ∧ fn__law_take [.mu y2, .val (.int 8)] = .ok (.val (.int v3)) [.mu y3, .val (.int 8)] ∧ 0 ≤ v3 ∧ HandOk y3 ∧ (0 < 1 + v2 ∧ Bd 50 (1 + v2)) := by
    intro m m0 m1 md
    obtain ⟨v2, y2, e2, h2, r0, r1⟩ := take_ev y1 h1 m m0 md
    obtain ⟨v3, y3, e3, h3, s0, s1⟩ := take_ev y2 h2 8 (by decide) (by decide)
    exact ⟨v2, y2, v3, y3, e2, e3, s0, h3, by omega, Bd.ofR (b := 1000000001) ⟨by omega, by omega⟩ (by decide)⟩
  have fin : ∀ (y3 : List D) (b m : Int), HandOk y3 → (0 < b ∧ Bd 50 b) → 0 < m → m ≤ 100000000000000 → divOk m = true → ∃ v4 y4 r, fn__law_take [.mu y3, .val (.int m)] = .ok (.val (.int v4)) [.mu y4, .val (.int m)] ∧ (fn__law_ratio [.val (.int v4), .val (.int b)]).st = .ok (.val (rD r)) [] ∧ HandOk y4 ∧ RK 50 r ∧ 0 ≤ r.num := by
    intro y3 b m h3 hb m0 m1 md
    obtain ⟨v4, y4, e4, h4, r0, r1⟩ := take_ev y3 h3 m m0 md
    exact ⟨v4, y4, _, e4, ratio_ev v4 b hb.1 (BdL.of hb.2 (by decide)), h4, RK.qv hb.1 (Bd.ofR (b := 100000000000001) ⟨r0, by omega⟩ (by decide)) hb.2, num_nonneg hb.1 r0⟩
  by_cases z : 0 < v1
  · obtain ⟨v2, y2, v3, y3, e2, e3, s0, h3, hb⟩ := key 12 (by decide) (by decide) (by decide)
    by_cases z3 : 0 < v3
    · obtain ⟨v4, y4, r, e4, e5, h4, hr⟩ := fin y3 _ 61 h3 hb (by decide) (by decide) (by decide)
      refine ⟨r, y4, ?_, h4, hr⟩
      simp only [fn__law_number, den__law_number, mkFn_a, finF, dC_a, dVar_a, dSlot_a, dMove_a, dLV_a, dFrz_a, frzE_val, frzE_mu, dVal_a, get_v, get_s, dBin_a, dNeg_a, dTB_a, dBT_a, dTru_a, dNotT_a, dAndT_a, dOrT_a, dAndV_a, dOrV_a, dNotL_a, dIf_a, dIfF_a, dChain_a, dVs_n, dVs_c, dArs_n, dArs_c, dTup_a, dLst_a, getAll_n, getAll_c, dCB_a, dCallR_a, dIsi_a, dSeq_a, dSkip_a, dIfS_a, dRet_a, dSet_a, dAsg_a, asN_a, asT_a, asT_l, asC_a, asNil_a, dPar_a, dPut_a, dExp_a, dApp_a, dFor_a, loopF_n, dIt_a, gDiv_i, gMul_i, gMod_i, gEq_int, gNe_int, at0, at1, at2, at3, gAdd_i, gSub_i, gLt_i, gLe_i, gGt_i, gGe_i, gInt_i, gLen_l, gLen_f, gLen_t, gAbs_i, its_l, its_t, its_f, mkFn_s, stF_rt, stF_nx, stF_er, dCall_s, dCall0_s, dCallK_s, dIsK_e, dAt_e, dRev_e, dPar3_e, dEnum_e, dZip_e, enumD_n, enumD_c, zipD_c, zipD_n, zipD_m, dRng1_e, dPs_e, dPn_e, dSl_e, frzS_e, noX_n, noX_v, noX_m, noX_u, noX_x, finX_s, finX_n, dBreak_e, dCont_e, rngD_z, rngD_s, dTrue_e, dLc_e, loopC_n, loopC_k, goC_s, goC_o, eleC_e, bindX_o, loopF_c, wipeE_n, wipeE_c, restE_n, restE_c, okOwn_n, okOwn_c, dTry_e, runH_n, runH_c, dRaise_e, dXf_e, shp_i, shp_b, shp_o, shp_s, shp_t, shp_l, shp_f, shps_n, shps_c, gEq_ci, gNe_ci, gEq_cb, gNe_cb, gEq_cs, gNe_cs, gEq_co, gNe_co, gEq_ct, gNe_ct, gEq_cl, gNe_cl, gEq_cf, gNe_cf, deq_ii, deq_bb, deq_bi, deq_ib, deq_ss, deq_tt, deq_ll, deq_lf, deq_fl, deq_ff, deq_oo, deqs_nn, deqs_cc, deqs_nc, deqs_cn, deq_oi, deq_io, deq_ob, deq_bo, deq_os, deq_so, deq_ot, deq_to, deq_ol, deq_lo, deq_it, deq_ti, deq_il, deq_li, deq_is, deq_si, deq_tl, deq_lt, deq_ts, deq_st, deq_ls, deq_sl, deq_bt, deq_tb, deq_bs, deq_sb, tru_b, tru_l, tru_t, tru_i, tru_o, ni_i, ni_b, ni_s, ni_o, ni_t, ni_l, ni_f, isTs_n, isTs_c, isT_i, isT_b, isT_s, isT_t, isT_l, isT_f, isT_o, gIs_n, gIs_bb, gIsNot_n, gIsNot_bb, isN_o, isN_i, isN_b, isN_s, isN_t, isN_l, isN_f, gList_t, gList_l, gList_f, gTuple_l, gTuple_f, gTuple_t, gIx_t, gIx_l, gIx_f, gSl_t, gSl_l, gSl_f, gEqS_e, gNeS_e, st_ok, st_err, st_bad, fl_m, fl_i, fl_b, fl_s, fl_o, fl_t, fl_l, fl_f, fl_n, fl_g, frzAr_n, frzAr_v, frzAr_s, hasS_n, hasS_v, hasS_s, vb_e, at4, at5, at6, at7, at8, at9, at10, at11, at12, atm1_1, atm1_2, atm1_3, atm1_4, atm1_5, atm1_6, atm1_7, atm1_8, ixq1_0, ixq2_0, ixq2_1, ixq3_0, ixq3_1, ixq3_2, ixq4_0, ixq4_1, ixq4_2, ixq4_3, ixq5_0, ixq5_1, ixq5_2, ixq5_3, ixq5_4, ixq6_0, ixq6_1, ixq6_2, ixq6_3, ixq6_4, ixq6_5, ixq7_0, ixq7_1, ixq7_2, ixq7_3, ixq7_4, ixq7_5, ixq7_6, ixq8_0, ixq8_1, ixq8_2, ixq8_3, ixq8_4, ixq8_5, ixq8_6, ixq8_7, Res.bind_ok, Res.bind_err, Res.bind_bad, List.getElem?_cons_zero, List.getElem?_cons_succ, List.set_cons_zero, List.set_cons_succ, List.map_cons, List.map_nil, List.cons_append, List.nil_append, List.append_nil, List.length_cons, List.length_nil, List.replicate, List.take, if_true, if_false, ite_true, ite_false, reduceIte, Nat.reduceAdd, Nat.reduceSub, Nat.reduceLeDiff, Bool.false_eq_true, Nat.reduceEqDiff, Nat.add_eq, Nat.add_zero, Nat.zero_add, Option.bind_some, Option.map_some, Nat.sub_self, eq_self, and_self, and_true, true_and, Bool.and_true, Bool.true_and, Bool.and_false, Bool.false_and, Bool.or_true, Bool.true_or, Bool.or_false, Bool.false_or, Bool.not_true, Bool.not_false, String.reduceBEq, decide_true, decide_false, List.reverse_cons, List.reverse_nil, List.isEmpty_cons, List.isEmpty_nil, Option.getD_some, Int.reduceLT, Int.reduceLE, Int.reduceEq, Int.reduceAdd, Int.reduceSub, Int.reduceMul, Int.reduceNeg, Nat.reduceLT, Nat.reduceMul, not_true_eq_false, not_false_eq_true, and_false, false_and, List.length_map, Int.natCast_zero, Int.reduceToNat, Int.cast_ofNat_Int, Int.reduceFDiv, Int.reduceFMod, Int.reduceBEq, Int.reduceBNe, Int.reduceNe, Nat.reduceBEq, Int.reducePow, ite_self, e1, e2, e3, e4, e5, z, z3]
    · obtain ⟨v4, y4, r, e4, e5, h4, hr⟩ := fin y3 _ 100000000000000 h3 hb (by decide) (by decide) (by decide)
      refine ⟨r, y4, ?_, h4, hr⟩
      simp only [fn__law_number, den__law_number, mkFn_a, finF, dC_a, dVar_a, dSlot_a, dMove_a, dLV_a, dFrz_a, frzE_val, frzE_mu, dVal_a, get_v, get_s, dBin_a, dNeg_a, dTB_a, dBT_a, dTru_a, dNotT_a, dAndT_a, dOrT_a, dAndV_a, dOrV_a, dNotL_a, dIf_a, dIfF_a, dChain_a, dVs_n, dVs_c, dArs_n, dArs_c, dTup_a, dLst_a, getAll_n, getAll_c, dCB_a, dCallR_a, dIsi_a, dSeq_a, dSkip_a, dIfS_a, dRet_a, dSet_a, dAsg_a, asN_a, asT_a, asT_l, asC_a, asNil_a, dPar_a, dPut_a, dExp_a, dApp_a, dFor_a, loopF_n, dIt_a, gDiv_i, gMul_i, gMod_i, gEq_int, gNe_int, at0, at1, at2, at3, gAdd_i, gSub_i, gLt_i, gLe_i, gGt_i, gGe_i, gInt_i, gLen_l, gLen_f, gLen_t, gAbs_i, its_l, its_t, its_f, mkFn_s, stF_rt, stF_nx, stF_er, dCall_s, dCall0_s, dCallK_s, dIsK_e, dAt_e, dRev_e, dPar3_e, dEnum_e, dZip_e, enumD_n, enumD_c, zipD_c, zipD_n, zipD_m, dRng1_e, dPs_e, dPn_e, dSl_e, frzS_e, noX_n, noX_v, noX_m, noX_u, noX_x, finX_s, finX_n, dBreak_e, dCont_e, rngD_z, rngD_s, dTrue_e, dLc_e, loopC_n, loopC_k, goC_s, goC_o, eleC_e, bindX_o, loopF_c, wipeE_n, wipeE_c, restE_n, restE_c, okOwn_n, okOwn_c, dTry_e, runH_n, runH_c, dRaise_e, dXf_e, shp_i, shp_b, shp_o, shp_s, shp_t, shp_l, shp_f, shps_n, shps_c, gEq_ci, gNe_ci, gEq_cb, gNe_cb, gEq_cs, gNe_cs, gEq_co, gNe_co, gEq_ct, gNe_ct, gEq_cl, gNe_cl, gEq_cf, gNe_cf, deq_ii, deq_bb, deq_bi, deq_ib, deq_ss, deq_tt, deq_ll, deq_lf, deq_fl, deq_ff, deq_oo, deqs_nn, deqs_cc, deqs_nc, deqs_cn, deq_oi, deq_io, deq_ob, deq_bo, deq_os, deq_so, deq_ot, deq_to, deq_ol, deq_lo, deq_it, deq_ti, deq_il, deq_li, deq_is, deq_si, deq_tl, deq_lt, deq_ts, deq_st, deq_ls, deq_sl, deq_bt, deq_tb, deq_bs, deq_sb, tru_b, tru_l, tru_t, tru_i, tru_o, ni_i, ni_b, ni_s, ni_o, ni_t, ni_l, ni_f, isTs_n, isTs_c, isT_i, isT_b, isT_s, isT_t, isT_l, isT_f, isT_o, gIs_n, gIs_bb, gIsNot_n, gIsNot_bb, isN_o, isN_i, isN_b, isN_s, isN_t, isN_l, isN_f, gList_t, gList_l, gList_f, gTuple_l, gTuple_f, gTuple_t, gIx_t, gIx_l, gIx_f, gSl_t, gSl_l, gSl_f, gEqS_e, gNeS_e, st_ok, st_err, st_bad, fl_m, fl_i, fl_b, fl_s, fl_o, fl_t, fl_l, fl_f, fl_n, fl_g, frzAr_n, frzAr_v, frzAr_s, hasS_n, hasS_v, hasS_s, vb_e, at4, at5, at6, at7, at8, at9, at10, at11, at12, atm1_1, atm1_2, atm1_3, atm1_4, atm1_5, atm1_6, atm1_7, atm1_8, ixq1_0, ixq2_0, ixq2_1, ixq3_0, ixq3_1, ixq3_2, ixq4_0, ixq4_1, ixq4_2, ixq4_3, ixq5_0, ixq5_1, ixq5_2, ixq5_3, ixq5_4, ixq6_0, ixq6_1, ixq6_2, ixq6_3, ixq6_4, ixq6_5, ixq7_0, ixq7_1, ixq7_2, ixq7_3, ixq7_4, ixq7_5, ixq7_6, ixq8_0, ixq8_1, ixq8_2, ixq8_3, ixq8_4, ixq8_5, ixq8_6, ixq8_7, Res.bind_ok, Res.bind_err, Res.bind_bad, List.getElem?_cons_zero, List.getElem?_cons_succ, List.set_cons_zero, List.set_cons_succ, List.map_cons, List.map_nil, List.cons_append, List.nil_append, List.append_nil, List.length_cons, List.length_nil, List.replicate, List.take, if_true, if_false, ite_true, ite_false, reduceIte, Nat.reduceAdd, Nat.reduceSub, Nat.reduceLeDiff, Bool.false_eq_true, Nat.reduceEqDiff, Nat.add_eq, Nat.add_zero, Nat.zero_add, Option.bind_some, Option.map_some, Nat.sub_self, eq_self, and_self, and_true, true_and, Bool.and_true, Bool.true_and, Bool.and_false, Bool.false_and, Bool.or_true, Bool.true_or, Bool.or_false, Bool.false_or, Bool.not_true, Bool.not_false, String.reduceBEq, decide_true, decide_false, List.reverse_cons, List.reverse_nil, List.isEmpty_cons, List.isEmpty_nil, Option.getD_some, Int.reduceLT, Int.reduceLE, Int.reduceEq, Int.reduceAdd, Int.reduceSub, Int.reduceMul, Int.reduceNeg, Nat.reduceLT, Nat.reduceMul, not_true_eq_false, not_false_eq_true, and_false, false_and, List.length_map, Int.natCast_zero, Int.reduceToNat, Int.cast_ofNat_Int, Int.reduceFDiv, Int.reduceFMod, Int.reduceBEq, Int.reduceBNe, Int.reduceNe, Nat.reduceBEq, Int.reducePow, ite_self, e1, e2, e3, e4, e5, z, z3, p14]
  · obtain ⟨v2, y2, v3, y3, e2, e3, s0, h3, hb⟩ := key 1000000000 (by decide) (by decide) (by decide)
    by_cases z3 : 0 < v3
    · obtain ⟨v4, y4, r, e4, e5, h4, hr⟩ := fin y3 _ 61 h3 hb (by decide) (by decide) (by decide)
      refine ⟨r, y4, ?_, h4, hr⟩
      simp only [fn__law_number, den__law_number, mkFn_a, finF, dC_a, dVar_a, dSlot_a, dMove_a, dLV_a, dFrz_a, frzE_val, frzE_mu, dVal_a, get_v, get_s, dBin_a, dNeg_a, dTB_a, dBT_a, dTru_a, dNotT_a, dAndT_a, dOrT_a, dAndV_a, dOrV_a, dNotL_a, dIf_a, dIfF_a, dChain_a, dVs_n, dVs_c, dArs_n, dArs_c, dTup_a, dLst_a, getAll_n, getAll_c, dCB_a, dCallR_a, dIsi_a, dSeq_a, dSkip_a, dIfS_a, dRet_a, dSet_a, dAsg_a, asN_a, asT_a, asT_l, asC_a, asNil_a, dPar_a, dPut_a, dExp_a, dApp_a, dFor_a, loopF_n, dIt_a, gDiv_i, gMul_i, gMod_i, gEq_int, gNe_int, at0, at1, at2, at3, gAdd_i, gSub_i, gLt_i, gLe_i, gGt_i, gGe_i, gInt_i, gLen_l, gLen_f, gLen_t, gAbs_i, its_l, its_t, its_f, mkFn_s, stF_rt, stF_nx, stF_er, dCall_s, dCall0_s, dCallK_s, dIsK_e, dAt_e, dRev_e, dPar3_e, dEnum_e, dZip_e, enumD_n, enumD_c, zipD_c, zipD_n, zipD_m, dRng1_e, dPs_e, dPn_e, dSl_e, frzS_e, noX_n, noX_v, noX_m, noX_u, noX_x, finX_s, finX_n, dBreak_e, dCont_e, rngD_z, rngD_s, dTrue_e, dLc_e, loopC_n, loopC_k, goC_s, goC_o, eleC_e, bindX_o, loopF_c, wipeE_n, wipeE_c, restE_n, restE_c, okOwn_n, okOwn_c, dTry_e, runH_n, runH_c, dRaise_e, dXf_e, shp_i, shp_b, shp_o, shp_s, shp_t, shp_l, shp_f, shps_n, shps_c, gEq_ci, gNe_ci, gEq_cb, gNe_cb, gEq_cs, gNe_cs, gEq_co, gNe_co, gEq_ct, gNe_ct, gEq_cl, gNe_cl, gEq_cf, gNe_cf, deq_ii, deq_bb, deq_bi, deq_ib, deq_ss, deq_tt, deq_ll, deq_lf, deq_fl, deq_ff, deq_oo, deqs_nn, deqs_cc, deqs_nc, deqs_cn, deq_oi, deq_io, deq_ob, deq_bo, deq_os, deq_so, deq_ot, deq_to, deq_ol, deq_lo, deq_it, deq_ti, deq_il, deq_li, deq_is, deq_si, deq_tl, deq_lt, deq_ts, deq_st, deq_ls, deq_sl, deq_bt, deq_tb, deq_bs, deq_sb, tru_b, tru_l, tru_t, tru_i, tru_o, ni_i, ni_b, ni_s, ni_o, ni_t, ni_l, ni_f, isTs_n, isTs_c, isT_i, isT_b, isT_s, isT_t, isT_l, isT_f, isT_o, gIs_n, gIs_bb, gIsNot_n, gIsNot_bb, isN_o, isN_i, isN_b, isN_s, isN_t, isN_l, isN_f, gList_t, gList_l, gList_f, gTuple_l, gTuple_f, gTuple_t, gIx_t, gIx_l, gIx_f, gSl_t, gSl_l, gSl_f, gEqS_e, gNeS_e, st_ok, st_err, st_bad, fl_m, fl_i, fl_b, fl_s, fl_o, fl_t, fl_l, fl_f, fl_n, fl_g, frzAr_n, frzAr_v, frzAr_s, hasS_n, hasS_v, hasS_s, vb_e, at4, at5, at6, at7, at8, at9, at10, at11, at12, atm1_1, atm1_2, atm1_3, atm1_4, atm1_5, atm1_6, atm1_7, atm1_8, ixq1_0, ixq2_0, ixq2_1, ixq3_0, ixq3_1, ixq3_2, ixq4_0, ixq4_1, ixq4_2, ixq4_3, ixq5_0, ixq5_1, ixq5_2, ixq5_3, ixq5_4, ixq6_0, ixq6_1, ixq6_2, ixq6_3, ixq6_4, ixq6_5, ixq7_0, ixq7_1, ixq7_2, ixq7_3, ixq7_4, ixq7_5, ixq7_6, ixq8_0, ixq8_1, ixq8_2, ixq8_3, ixq8_4, ixq8_5, ixq8_6, ixq8_7, Res.bind_ok, Res.bind_err, Res.bind_bad, List.getElem?_cons_zero, List.getElem?_cons_succ, List.set_cons_zero, List.set_cons_succ, List.map_cons, List.map_nil, List.cons_append, List.nil_append, List.append_nil, List.length_cons, List.length_nil, List.replicate, List.take, if_true, if_false, ite_true, ite_false, reduceIte, Nat.reduceAdd, Nat.reduceSub, Nat.reduceLeDiff, Bool.false_eq_true, Nat.reduceEqDiff, Nat.add_eq, Nat.add_zero, Nat.zero_add, Option.bind_some, Option.map_some, Nat.sub_self, eq_self, and_self, and_true, true_and, Bool.and_true, Bool.true_and, Bool.and_false, Bool.false_and, Bool.or_true, Bool.true_or, Bool.or_false, Bool.false_or, Bool.not_true, Bool.not_false, String.reduceBEq, decide_true, decide_false, List.reverse_cons, List.reverse_nil, List.isEmpty_cons, List.isEmpty_nil, Option.getD_some, Int.reduceLT, Int.reduceLE, Int.reduceEq, Int.reduceAdd, Int.reduceSub, Int.reduceMul, Int.reduceNeg, Nat.reduceLT, Nat.reduceMul, not_true_eq_false, not_false_eq_true, and_false, false_and, List.length_map, Int.natCast_zero, Int.reduceToNat, Int.cast_ofNat_Int, Int.reduceFDiv, Int.reduceFMod, Int.reduceBEq, Int.reduceBNe, Int.reduceNe, Nat.reduceBEq, Int.reducePow, ite_self, e1, e2, e3, e4, e5, z, z3, p9]
    · obtain ⟨v4, y4, r, e4, e5, h4, hr⟩ := fin y3 _ 100000000000000 h3 hb (by decide) (by decide) (by decide)
      refine ⟨r, y4, ?_, h4, hr⟩
      simp only [fn__law_number, den__law_number, mkFn_a, finF, dC_a, dVar_a, dSlot_a, dMove_a, dLV_a, dFrz_a, frzE_val, frzE_mu, dVal_a, get_v, get_s, dBin_a, dNeg_a, dTB_a, dBT_a, dTru_a, dNotT_a, dAndT_a, dOrT_a, dAndV_a, dOrV_a, dNotL_a, dIf_a, dIfF_a, dChain_a, dVs_n, dVs_c, dArs_n, dArs_c, dTup_a, dLst_a, getAll_n, getAll_c, dCB_a, dCallR_a, dIsi_a, dSeq_a, dSkip_a, dIfS_a, dRet_a, dSet_a, dAsg_a, asN_a, asT_a, asT_l, asC_a, asNil_a, dPar_a, dPut_a, dExp_a, dApp_a, dFor_a, loopF_n, dIt_a, gDiv_i, gMul_i, gMod_i, gEq_int, gNe_int, at0, at1, at2, at3, gAdd_i, gSub_i, gLt_i, gLe_i, gGt_i, gGe_i, gInt_i, gLen_l, gLen_f, gLen_t, gAbs_i, its_l, its_t, its_f, mkFn_s, stF_rt, stF_nx, stF_er, dCall_s, dCall0_s, dCallK_s, dIsK_e, dAt_e, dRev_e, dPar3_e, dEnum_e, dZip_e, enumD_n, enumD_c, zipD_c, zipD_n, zipD_m, dRng1_e, dPs_e, dPn_e, dSl_e, frzS_e, noX_n, noX_v, noX_m, noX_u, noX_x, finX_s, finX_n, dBreak_e, dCont_e, rngD_z, rngD_s, dTrue_e, dLc_e, loopC_n, loopC_k, goC_s, goC_o, eleC_e, bindX_o, loopF_c, wipeE_n, wipeE_c, restE_n, restE_c, okOwn_n, okOwn_c, dTry_e, runH_n, runH_c, dRaise_e, dXf_e, shp_i, shp_b, shp_o, shp_s, shp_t, shp_l, shp_f, shps_n, shps_c, gEq_ci, gNe_ci, gEq_cb, gNe_cb, gEq_cs, gNe_cs, gEq_co, gNe_co, gEq_ct, gNe_ct, gEq_cl, gNe_cl, gEq_cf, gNe_cf, deq_ii, deq_bb, deq_bi, deq_ib, deq_ss, deq_tt, deq_ll, deq_lf, deq_fl, deq_ff, deq_oo, deqs_nn, deqs_cc, deqs_nc, deqs_cn, deq_oi, deq_io, deq_ob, deq_bo, deq_os, deq_so, deq_ot, deq_to, deq_ol, deq_lo, deq_it, deq_ti, deq_il, deq_li, deq_is, deq_si, deq_tl, deq_lt, deq_ts, deq_st, deq_ls, deq_sl, deq_bt, deq_tb, deq_bs, deq_sb, tru_b, tru_l, tru_t, tru_i, tru_o, ni_i, ni_b, ni_s, ni_o, ni_t, ni_l, ni_f, isTs_n, isTs_c, isT_i, isT_b, isT_s, isT_t, isT_l, isT_f, isT_o, gIs_n, gIs_bb, gIsNot_n, gIsNot_bb, isN_o, isN_i, isN_b, isN_s, isN_t, isN_l, isN_f, gList_t, gList_l, gList_f, gTuple_l, gTuple_f, gTuple_t, gIx_t, gIx_l, gIx_f, gSl_t, gSl_l, gSl_f, gEqS_e, gNeS_e, st_ok, st_err, st_bad, fl_m, fl_i, fl_b, fl_s, fl_o, fl_t, fl_l, fl_f, fl_n, fl_g, frzAr_n, frzAr_v, frzAr_s, hasS_n, hasS_v, hasS_s, vb_e, at4, at5, at6, at7, at8, at9, at10, at11, at12, atm1_1, atm1_2, atm1_3, atm1_4, atm1_5, atm1_6, atm1_7, atm1_8, ixq1_0, ixq2_0, ixq2_1, ixq3_0, ixq3_1, ixq3_2, ixq4_0, ixq4_1, ixq4_2, ixq4_3, ixq5_0, ixq5_1, ixq5_2, ixq5_3, ixq5_4, ixq6_0, ixq6_1, ixq6_2, ixq6_3, ixq6_4, ixq6_5, ixq7_0, ixq7_1, ixq7_2, ixq7_3, ixq7_4, ixq7_5, ixq7_6, ixq8_0, ixq8_1, ixq8_2, ixq8_3, ixq8_4, ixq8_5, ixq8_6, ixq8_7, Res.bind_ok, Res.bind_err, Res.bind_bad, List.getElem?_cons_zero, List.getElem?_cons_succ, List.set_cons_zero, List.set_cons_succ, List.map_cons, List.map_nil, List.cons_append, List.nil_append, List.append_nil, List.length_cons, List.length_nil, List.replicate, List.take, if_true, if_false, ite_true, ite_false, reduceIte, Nat.reduceAdd, Nat.reduceSub, Nat.reduceLeDiff, Bool.false_eq_true, Nat.reduceEqDiff, Nat.add_eq, Nat.add_zero, Nat.zero_add, Option.bind_some, Option.map_some, Nat.sub_self, eq_self, and_self, and_true, true_and, Bool.and_true, Bool.true_and, Bool.and_false, Bool.false_and, Bool.or_true, Bool.true_or, Bool.or_false, Bool.false_or, Bool.not_true, Bool.not_false, String.reduceBEq, decide_true, decide_false, List.reverse_cons, List.reverse_nil, List.isEmpty_cons, List.isEmpty_nil, Option.getD_some, Int.reduceLT, Int.reduceLE, Int.reduceEq, Int.reduceAdd, Int.reduceSub, Int.reduceMul, Int.reduceNeg, Nat.reduceLT, Nat.reduceMul, not_true_eq_false, not_false_eq_true, and_false, false_and, List.length_map, Int.natCast_zero, Int.reduceToNat, Int.cast_ofNat_Int, Int.reduceFDiv, Int.reduceFMod, Int.reduceBEq, Int.reduceBNe, Int.reduceNe, Nat.reduceBEq, Int.reducePow, ite_self, e1, e2, e3, e4, e5, z, z3, p9, p14]
theorem drawn_ev (xs : List D) (h : HandOk xs) : ∃ x y ys, fn__law_drawn_beat [.mu xs] = .ok (.mu [rD x, rD y]) [.mu ys] ∧ HandOk ys ∧ RK 50 x ∧ RK 50 y ∧ 0 ≤ y.num := by
  obtain ⟨x, y1, e1, h1, kx, _⟩ := number_ev xs h
  obtain ⟨v2, y2, e2, h2, _, _⟩ := take_ev y1 h1 6 (by decide) (by decide)
  have ng := ratio_ev (-x.num) x.den (den_pos x) (BdL.of kx.d (by decide))
  have kn : RK 50 (qv (-x.num) x.den) := RK.qv (den_pos x) kx.n.neg kx.d
  by_cases z : v2 = 0
  · obtain ⟨v3, y3, e3, h3, _, _⟩ := take_ev y2 h2 3 (by decide) (by decide)
    have k0 : RK 50 (0 : Rat) := ⟨show Bd 50 (0 : Int) from .lit, show Bd 50 (1 : Int) from .lit⟩
    have r0 : D.tup [.int 0, .int 1] = rD 0 := rfl
    by_cases z3 : v3 = 0
    · refine ⟨_, 0, y3, ?_, h3, kn, k0, show (0 : Int) ≤ 0 by decide⟩
      rw [← r0]
      simp only [fn__law_drawn_beat, den__law_drawn_beat, mkFn_a, finF, dC_a, dVar_a, dSlot_a, dMove_a, dLV_a, dFrz_a, frzE_val, frzE_mu, dVal_a, get_v, get_s, dBin_a, dNeg_a, dTB_a, dBT_a, dTru_a, dNotT_a, dAndT_a, dOrT_a, dAndV_a, dOrV_a, dNotL_a, dIf_a, dIfF_a, dChain_a, dVs_n, dVs_c, dArs_n, dArs_c, dTup_a, dLst_a, getAll_n, getAll_c, dCB_a, dCallR_a, dIsi_a, dSeq_a, dSkip_a, dIfS_a, dRet_a, dSet_a, dAsg_a, asN_a, asT_a, asT_l, asC_a, asNil_a, dPar_a, dPut_a, dExp_a, dApp_a, dFor_a, loopF_n, dIt_a, gDiv_i, gMul_i, gMod_i, gEq_int, gNe_int, at0, at1, at2, at3, gAdd_i, gSub_i, gLt_i, gLe_i, gGt_i, gGe_i, gInt_i, gLen_l, gLen_f, gLen_t, gAbs_i, its_l, its_t, its_f, mkFn_s, stF_rt, stF_nx, stF_er, dCall_s, dCall0_s, dCallK_s, dIsK_e, dAt_e, dRev_e, dPar3_e, dEnum_e, dZip_e, enumD_n, enumD_c, zipD_c, zipD_n, zipD_m, dRng1_e, dPs_e, dPn_e, dSl_e, frzS_e, noX_n, noX_v, noX_m, noX_u, noX_x, finX_s, finX_n, dBreak_e, dCont_e, rngD_z, rngD_s, dTrue_e, dLc_e, loopC_n, loopC_k, goC_s, goC_o, eleC_e, bindX_o, loopF_c, wipeE_n, wipeE_c, restE_n, restE_c, okOwn_n, okOwn_c, dTry_e, runH_n, runH_c, dRaise_e, dXf_e, shp_i, shp_b, shp_o, shp_s, shp_t, shp_l, shp_f, shps_n, shps_c, gEq_ci, gNe_ci, gEq_cb, gNe_cb, gEq_cs, gNe_cs, gEq_co, gNe_co, gEq_ct, gNe_ct, gEq_cl, gNe_cl, gEq_cf, gNe_cf, deq_ii, deq_bb, deq_bi, deq_ib, deq_ss, deq_tt, deq_ll, deq_lf, deq_fl, deq_ff, deq_oo, deqs_nn, deqs_cc, deqs_nc, deqs_cn, deq_oi, deq_io, deq_ob, deq_bo, deq_os, deq_so, deq_ot, deq_to, deq_ol, deq_lo, deq_it, deq_ti, deq_il, deq_li, deq_is, deq_si, deq_tl, deq_lt, deq_ts, deq_st, deq_ls, deq_sl, deq_bt, deq_tb, deq_bs, deq_sb, tru_b, tru_l, tru_t, tru_i, tru_o, ni_i, ni_b, ni_s, ni_o, ni_t, ni_l, ni_f, isTs_n, isTs_c, isT_i, isT_b, isT_s, isT_t, isT_l, isT_f, isT_o, gIs_n, gIs_bb, gIsNot_n, gIsNot_bb, isN_o, isN_i, isN_b, isN_s, isN_t, isN_l, isN_f, gList_t, gList_l, gList_f, gTuple_l, gTuple_f, gTuple_t, gIx_t, gIx_l, gIx_f, gSl_t, gSl_l, gSl_f, gEqS_e, gNeS_e, st_ok, st_err, st_bad, fl_m, fl_i, fl_b, fl_s, fl_o, fl_t, fl_l, fl_f, fl_n, fl_g, frzAr_n, frzAr_v, frzAr_s, hasS_n, hasS_v, hasS_s, vb_e, at4, at5, at6, at7, at8, at9, at10, at11, at12, atm1_1, atm1_2, atm1_3, atm1_4, atm1_5, atm1_6, atm1_7, atm1_8, ixq1_0, ixq2_0, ixq2_1, ixq3_0, ixq3_1, ixq3_2, ixq4_0, ixq4_1, ixq4_2, ixq4_3, ixq5_0, ixq5_1, ixq5_2, ixq5_3, ixq5_4, ixq6_0, ixq6_1, ixq6_2, ixq6_3, ixq6_4, ixq6_5, ixq7_0, ixq7_1, ixq7_2, ixq7_3, ixq7_4, ixq7_5, ixq7_6, ixq8_0, ixq8_1, ixq8_2, ixq8_3, ixq8_4, ixq8_5, ixq8_6, ixq8_7, Res.bind_ok, Res.bind_err, Res.bind_bad, List.getElem?_cons_zero, List.getElem?_cons_succ, List.set_cons_zero, List.set_cons_succ, List.map_cons, List.map_nil, List.cons_append, List.nil_append, List.append_nil, List.length_cons, List.length_nil, List.replicate, List.take, if_true, if_false, ite_true, ite_false, reduceIte, Nat.reduceAdd, Nat.reduceSub, Nat.reduceLeDiff, Bool.false_eq_true, Nat.reduceEqDiff, Nat.add_eq, Nat.add_zero, Nat.zero_add, Option.bind_some, Option.map_some, Nat.sub_self, eq_self, and_self, and_true, true_and, Bool.and_true, Bool.true_and, Bool.and_false, Bool.false_and, Bool.or_true, Bool.true_or, Bool.or_false, Bool.false_or, Bool.not_true, Bool.not_false, String.reduceBEq, decide_true, decide_false, List.reverse_cons, List.reverse_nil, List.isEmpty_cons, List.isEmpty_nil, Option.getD_some, Int.reduceLT, Int.reduceLE, Int.reduceEq, Int.reduceAdd, Int.reduceSub, Int.reduceMul, Int.reduceNeg, Nat.reduceLT, Nat.reduceMul, not_true_eq_false, not_false_eq_true, and_false, false_and, List.length_map, Int.natCast_zero, Int.reduceToNat, Int.cast_ofNat_Int, Int.reduceFDiv, Int.reduceFMod, Int.reduceBEq, Int.reduceBNe, Int.reduceNe, Nat.reduceBEq, Int.reducePow, ite_self, e1, e2, e3, decide_eq_true z, decide_eq_true z3, ng]
    · refine ⟨x, 0, y3, ?_, h3, kx, k0, show (0 : Int) ≤ 0 by decide⟩
      rw [← r0]
      simp only [fn__law_drawn_beat, den__law_drawn_beat, mkFn_a, finF, dC_a, dVar_a, dSlot_a, dMove_a, dLV_a, dFrz_a, frzE_val, frzE_mu, dVal_a, get_v, get_s, dBin_a, dNeg_a, dTB_a, dBT_a, dTru_a, dNotT_a, dAndT_a, dOrT_a, dAndV_a, dOrV_a, dNotL_a, dIf_a, dIfF_a, dChain_a, dVs_n, dVs_c, dArs_n, dArs_c, dTup_a, dLst_a, getAll_n, getAll_c, dCB_a, dCallR_a, dIsi_a, dSeq_a, dSkip_a, dIfS_a, dRet_a, dSet_a, dAsg_a, asN_a, asT_a, asT_l, asC_a, asNil_a, dPar_a, dPut_a, dExp_a, dApp_a, dFor_a, loopF_n, dIt_a, gDiv_i, gMul_i, gMod_i, gEq_int, gNe_int, at0, at1, at2, at3, gAdd_i, gSub_i, gLt_i, gLe_i, gGt_i, gGe_i, gInt_i, gLen_l, gLen_f, gLen_t, gAbs_i, its_l, its_t, its_f, mkFn_s, stF_rt, stF_nx, stF_er, dCall_s, dCall0_s, dCallK_s, dIsK_e, dAt_e, dRev_e, dPar3_e, dEnum_e, dZip_e, enumD_n, enumD_c, zipD_c, zipD_n, zipD_m, dRng1_e, dPs_e, dPn_e, dSl_e, frzS_e, noX_n, noX_v, noX_m, noX_u, noX_x, finX_s, finX_n, dBreak_e, dCont_e, rngD_z, rngD_s, dTrue_e, dLc_e, loopC_n, loopC_k, goC_s, goC_o, eleC_e, bindX_o, loopF_c, wipeE_n, wipeE_c, restE_n, restE_c, okOwn_n, okOwn_c, dTry_e, runH_n, runH_c, dRaise_e, dXf_e, shp_i, shp_b, shp_o, shp_s, shp_t, shp_l, shp_f, shps_n, shps_c, gEq_ci, gNe_ci, gEq_cb, gNe_cb, gEq_cs, gNe_cs, gEq_co, gNe_co, gEq_ct, gNe_ct, gEq_cl, gNe_cl, gEq_cf, gNe_cf, deq_ii, deq_bb, deq_bi, deq_ib, deq_ss, deq_tt, deq_ll, deq_lf, deq_fl, deq_ff, deq_oo, deqs_nn, deqs_cc, deqs_nc, deqs_cn, deq_oi, deq_io, deq_ob, deq_bo, deq_os, deq_so, deq_ot, deq_to, deq_ol, deq_lo, deq_it, deq_ti, deq_il, deq_li, deq_is, deq_si, deq_tl, deq_lt, deq_ts, deq_st, deq_ls, deq_sl, deq_bt, deq_tb, deq_bs, deq_sb, tru_b, tru_l, tru_t, tru_i, tru_o, ni_i, ni_b, ni_s, ni_o, ni_t, ni_l, ni_f, isTs_n, isTs_c, isT_i, isT_b, isT_s, isT_t, isT_l, isT_f, isT_o, gIs_n, gIs_bb, gIsNot_n, gIsNot_bb, isN_o, isN_i, isN_b, isN_s, isN_t, isN_l, isN_f, gList_t, gList_l, gList_f, gTuple_l, gTuple_f, gTuple_t, gIx_t, gIx_l, gIx_f, gSl_t, gSl_l, gSl_f, gEqS_e, gNeS_e, st_ok, st_err, st_bad, fl_m, fl_i, fl_b, fl_s, fl_o, fl_t, fl_l, fl_f, fl_n, fl_g, frzAr_n, frzAr_v, frzAr_s, hasS_n, hasS_v, hasS_s, vb_e, at4, at5, at6, at7, at8, at9, at10, at11, at12, atm1_1, atm1_2, atm1_3, atm1_4, atm1_5, atm1_6, atm1_7, atm1_8, ixq1_0, ixq2_0, ixq2_1, ixq3_0, ixq3_1, ixq3_2, ixq4_0, ixq4_1, ixq4_2, ixq4_3, ixq5_0, ixq5_1, ixq5_2, ixq5_3, ixq5_4, ixq6_0, ixq6_1, ixq6_2, ixq6_3, ixq6_4, ixq6_5, ixq7_0, ixq7_1, ixq7_2, ixq7_3, ixq7_4, ixq7_5, ixq7_6, ixq8_0, ixq8_1, ixq8_2, ixq8_3, ixq8_4, ixq8_5, ixq8_6, ixq8_7, Res.bind_ok, Res.bind_err, Res.bind_bad, List.getElem?_cons_zero, List.getElem?_cons_succ, List.set_cons_zero, List.set_cons_succ, List.map_cons, List.map_nil, List.cons_append, List.nil_append, List.append_nil, List.length_cons, List.length_nil, List.replicate, List.take, if_true, if_false, ite_true, ite_false, reduceIte, Nat.reduceAdd, Nat.reduceSub, Nat.reduceLeDiff, Bool.false_eq_true, Nat.reduceEqDiff, Nat.add_eq, Nat.add_zero, Nat.zero_add, Option.bind_some, Option.map_some, Nat.sub_self, eq_self, and_self, and_true, true_and, Bool.and_true, Bool.true_and, Bool.and_false, Bool.false_and, Bool.or_true, Bool.true_or, Bool.or_false, Bool.false_or, Bool.not_true, Bool.not_false, String.reduceBEq, decide_true, decide_false, List.reverse_cons, List.reverse_nil, List.isEmpty_cons, List.isEmpty_nil, Option.getD_some, Int.reduceLT, Int.reduceLE, Int.reduceEq, Int.reduceAdd, Int.reduceSub, Int.reduceMul, Int.reduceNeg, Nat.reduceLT, Nat.reduceMul, not_true_eq_false, not_false_eq_true, and_false, false_and, List.length_map, Int.natCast_zero, Int.reduceToNat, Int.cast_ofNat_Int, Int.reduceFDiv, Int.reduceFMod, Int.reduceBEq, Int.reduceBNe, Int.reduceNe, Nat.reduceBEq, Int.reducePow, ite_self, e1, e2, e3, decide_eq_true z, decide_eq_false z3]
  · obtain ⟨y, y3, e3, h3, ky, py⟩ := number_ev y2 h2
    obtain ⟨v3, y4, e4, h4, _, _⟩ := take_ev y3 h3 3 (by decide) (by decide)
    by_cases z3 : v3 = 0
    · refine ⟨_, y, y4, ?_, h4, kn, ky, py⟩
      simp only [fn__law_drawn_beat, den__law_drawn_beat, mkFn_a, finF, dC_a, dVar_a, dSlot_a, dMove_a, dLV_a, dFrz_a, frzE_val, frzE_mu, dVal_a, get_v, get_s, dBin_a, dNeg_a, dTB_a, dBT_a, dTru_a, dNotT_a, dAndT_a, dOrT_a, dAndV_a, dOrV_a, dNotL_a, dIf_a, dIfF_a, dChain_a, dVs_n, dVs_c, dArs_n, dArs_c, dTup_a, dLst_a, getAll_n, getAll_c, dCB_a, dCallR_a, dIsi_a, dSeq_a, dSkip_a, dIfS_a, dRet_a, dSet_a, dAsg_a, asN_a, asT_a, asT_l, asC_a, asNil_a, dPar_a, dPut_a, dExp_a, dApp_a, dFor_a, loopF_n, dIt_a, gDiv_i, gMul_i, gMod_i, gEq_int, gNe_int, at0, at1, at2, at3, gAdd_i, gSub_i, gLt_i, gLe_i, gGt_i, gGe_i, gInt_i, gLen_l, gLen_f, gLen_t, gAbs_i, its_l, its_t, its_f, mkFn_s, stF_rt, stF_nx, stF_er, dCall_s, dCall0_s, dCallK_s, dIsK_e, dAt_e, dRev_e, dPar3_e, dEnum_e, dZip_e, enumD_n, enumD_c, zipD_c, zipD_n, zipD_m, dRng1_e, dPs_e, dPn_e, dSl_e, frzS_e, noX_n, noX_v, noX_m, noX_u, noX_x, finX_s, finX_n, dBreak_e, dCont_e, rngD_z, rngD_s, dTrue_e, dLc_e, loopC_n, loopC_k, goC_s, goC_o, eleC_e, bindX_o, loopF_c, wipeE_n, wipeE_c, restE_n, restE_c, okOwn_n, okOwn_c, dTry_e, runH_n, runH_c, dRaise_e, dXf_e, shp_i, shp_b, shp_o, shp_s, shp_t, shp_l, shp_f, shps_n, shps_c, gEq_ci, gNe_ci, gEq_cb, gNe_cb, gEq_cs, gNe_cs, gEq_co, gNe_co, gEq_ct, gNe_ct, gEq_cl, gNe_cl, gEq_cf, gNe_cf, deq_ii, deq_bb, deq_bi, deq_ib, deq_ss, deq_tt, deq_ll, deq_lf, deq_fl, deq_ff, deq_oo, deqs_nn, deqs_cc, deqs_nc, deqs_cn, deq_oi, deq_io, deq_ob, deq_bo, deq_os, deq_so, deq_ot, deq_to, deq_ol, deq_lo, deq_it, deq_ti, deq_il, deq_li, deq_is, deq_si, deq_tl, deq_lt, deq_ts, deq_st, deq_ls, deq_sl, deq_bt, deq_tb, deq_bs, deq_sb, tru_b, tru_l, tru_t, tru_i, tru_o, ni_i, ni_b, ni_s, ni_o, ni_t, ni_l, ni_f, isTs_n, isTs_c, isT_i, isT_b, isT_s, isT_t, isT_l, isT_f, isT_o, gIs_n, gIs_bb, gIsNot_n, gIsNot_bb, isN_o, isN_i, isN_b, isN_s, isN_t, isN_l, isN_f, gList_t, gList_l, gList_f, gTuple_l, gTuple_f, gTuple_t, gIx_t, gIx_l, gIx_f, gSl_t, gSl_l, gSl_f, gEqS_e, gNeS_e, st_ok, st_err, st_bad, fl_m, fl_i, fl_b, fl_s, fl_o, fl_t, fl_l, fl_f, fl_n, fl_g, frzAr_n, frzAr_v, frzAr_s, hasS_n, hasS_v, hasS_s, vb_e, at4, at5, at6, at7, at8, at9, at10, at11, at12, atm1_1, atm1_2, atm1_3, atm1_4, atm1_5, atm1_6, atm1_7, atm1_8, ixq1_0, ixq2_0, ixq2_1, ixq3_0, ixq3_1, ixq3_2, ixq4_0, ixq4_1, ixq4_2, ixq4_3, ixq5_0, ixq5_1, ixq5_2, ixq5_3, ixq5_4, ixq6_0, ixq6_1, ixq6_2, ixq6_3, ixq6_4, ixq6_5, ixq7_0, ixq7_1, ixq7_2, ixq7_3, ixq7_4, ixq7_5, ixq7_6, ixq8_0, ixq8_1, ixq8_2, ixq8_3, ixq8_4, ixq8_5, ixq8_6, ixq8_7, Res.bind_ok, Res.bind_err, Res.bind_bad, List.getElem?_cons_zero, List.getElem?_cons_succ, List.set_cons_zero, List.set_cons_succ, List.map_cons, List.map_nil, List.cons_append, List.nil_append, List.append_nil, List.length_cons, List.length_nil, List.replicate, List.take, if_true, if_false, ite_true, ite_false, reduceIte, Nat.reduceAdd, Nat.reduceSub, Nat.reduceLeDiff, Bool.false_eq_true, Nat.reduceEqDiff, Nat.add_eq, Nat.add_zero, Nat.zero_add, Option.bind_some, Option.map_some, Nat.sub_self, eq_self, and_self, and_true, true_and, Bool.and_true, Bool.true_and, Bool.and_false, Bool.false_and, Bool.or_true, Bool.true_or, Bool.or_false, Bool.false_or, Bool.not_true, Bool.not_false, String.reduceBEq, decide_true, decide_false, List.reverse_cons, List.reverse_nil, List.isEmpty_cons, List.isEmpty_nil, Option.getD_some, Int.reduceLT, Int.reduceLE, Int.reduceEq, Int.reduceAdd, Int.reduceSub, Int.reduceMul, Int.reduceNeg, Nat.reduceLT, Nat.reduceMul, not_true_eq_false, not_false_eq_true, and_false, false_and, List.length_map, Int.natCast_zero, Int.reduceToNat, Int.cast_ofNat_Int, Int.reduceFDiv, Int.reduceFMod, Int.reduceBEq, Int.reduceBNe, Int.reduceNe, Nat.reduceBEq, Int.reducePow, ite_self, e1, e2, e3, e4, decide_eq_false z, decide_eq_true z3, ng]
    · refine ⟨x, y, y4, ?_, h4, kx, ky, py⟩
      simp only [fn__law_drawn_beat, den__law_drawn_beat, mkFn_a, finF, dC_a, dVar_a, dSlot_a, dMove_a, dLV_a, dFrz_a, frzE_val, frzE_mu, dVal_a, get_v, get_s, dBin_a, dNeg_a, dTB_a, dBT_a, dTru_a, dNotT_a, dAndT_a, dOrT_a, dAndV_a, dOrV_a, dNotL_a, dIf_a, dIfF_a, dChain_a, dVs_n, dVs_c, dArs_n, dArs_c, dTup_a, dLst_a, getAll_n, getAll_c, dCB_a, dCallR_a, dIsi_a, dSeq_a, dSkip_a, dIfS_a, dRet_a, dSet_a, dAsg_a, asN_a, asT_a, asT_l, asC_a, asNil_a, dPar_a, dPut_a, dExp_a, dApp_a, dFor_a, loopF_n, dIt_a, gDiv_i, gMul_i, gMod_i, gEq_int, gNe_int, at0, at1, at2, at3, gAdd_i, gSub_i, gLt_i, gLe_i, gGt_i, gGe_i, gInt_i, gLen_l, gLen_f, gLen_t, gAbs_i, its_l, its_t, its_f, mkFn_s, stF_rt, stF_nx, stF_er, dCall_s, dCall0_s, dCallK_s, dIsK_e, dAt_e, dRev_e, dPar3_e, dEnum_e, dZip_e, enumD_n, enumD_c, zipD_c, zipD_n, zipD_m, dRng1_e, dPs_e, dPn_e, dSl_e, frzS_e, noX_n, noX_v, noX_m, noX_u, noX_x, finX_s, finX_n, dBreak_e, dCont_e, rngD_z, rngD_s, dTrue_e, dLc_e, loopC_n, loopC_k, goC_s, goC_o, eleC_e, bindX_o, loopF_c, wipeE_n, wipeE_c, restE_n, restE_c, okOwn_n, okOwn_c, dTry_e, runH_n, runH_c, dRaise_e, dXf_e, shp_i, shp_b, shp_o, shp_s, shp_t, shp_l, shp_f, shps_n, shps_c, gEq_ci, gNe_ci, gEq_cb, gNe_cb, gEq_cs, gNe_cs, gEq_co, gNe_co, gEq_ct, gNe_ct, gEq_cl, gNe_cl, gEq_cf, gNe_cf, deq_ii, deq_bb, deq_bi, deq_ib, deq_ss, deq_tt, deq_ll, deq_lf, deq_fl, deq_ff, deq_oo, deqs_nn, deqs_cc, deqs_nc, deqs_cn, deq_oi, deq_io, deq_ob, deq_bo, deq_os, deq_so, deq_ot, deq_to, deq_ol, deq_lo, deq_it, deq_ti, deq_il, deq_li, deq_is, deq_si, deq_tl, deq_lt, deq_ts, deq_st, deq_ls, deq_sl, deq_bt, deq_tb, deq_bs, deq_sb, tru_b, tru_l, tru_t, tru_i, tru_o, ni_i, ni_b, ni_s, ni_o, ni_t, ni_l, ni_f, isTs_n, isTs_c, isT_i, isT_b, isT_s, isT_t, isT_l, isT_f, isT_o, gIs_n, gIs_bb, gIsNot_n, gIsNot_bb, isN_o, isN_i, isN_b, isN_s, isN_t, isN_l, isN_f, gList_t, gList_l, gList_f, gTuple_l, gTuple_f, gTuple_t, gIx_t, gIx_l, gIx_f, gSl_t, gSl_l, gSl_f, gEqS_e, gNeS_e, st_ok, st_err, st_bad, fl_m, fl_i, fl_b, fl_s, fl_o, fl_t, fl_l, fl_f, fl_n, fl_g, frzAr_n, frzAr_v, frzAr_s, hasS_n, hasS_v, hasS_s, vb_e, at4, at5, at6, at7, at8, at9, at10, at11, at12, atm1_1, atm1_2, atm1_3, atm1_4, atm1_5, atm1_6, atm1_7, atm1_8, ixq1_0, ixq2_0, ixq2_1, ixq3_0, ixq3_1, ixq3_2, ixq4_0, ixq4_1, ixq4_2, ixq4_3, ixq5_0, ixq5_1, ixq5_2, ixq5_3, ixq5_4, ixq6_0, ixq6_1, ixq6_2, ixq6_3, ixq6_4, ixq6_5, ixq7_0, ixq7_1, ixq7_2, ixq7_3, ixq7_4, ixq7_5, ixq7_6, ixq8_0, ixq8_1, ixq8_2, ixq8_3, ixq8_4, ixq8_5, ixq8_6, ixq8_7, Res.bind_ok, Res.bind_err, Res.bind_bad, List.getElem?_cons_zero, List.getElem?_cons_succ, List.set_cons_zero, List.set_cons_succ, List.map_cons, List.map_nil, List.cons_append, List.nil_append, List.append_nil, List.length_cons, List.length_nil, List.replicate, List.take, if_true, if_false, ite_true, ite_false, reduceIte, Nat.reduceAdd, Nat.reduceSub, Nat.reduceLeDiff, Bool.false_eq_true, Nat.reduceEqDiff, Nat.add_eq, Nat.add_zero, Nat.zero_add, Option.bind_some, Option.map_some, Nat.sub_self, eq_self, and_self, and_true, true_and, Bool.and_true, Bool.true_and, Bool.and_false, Bool.false_and, Bool.or_true, Bool.true_or, Bool.or_false, Bool.false_or, Bool.not_true, Bool.not_false, String.reduceBEq, decide_true, decide_false, List.reverse_cons, List.reverse_nil, List.isEmpty_cons, List.isEmpty_nil, Option.getD_some, Int.reduceLT, Int.reduceLE, Int.reduceEq, Int.reduceAdd, Int.reduceSub, Int.reduceMul, Int.reduceNeg, Nat.reduceLT, Nat.reduceMul, not_true_eq_false, not_false_eq_true, and_false, false_and, List.length_map, Int.natCast_zero, Int.reduceToNat, Int.cast_ofNat_Int, Int.reduceFDiv, Int.reduceFMod, Int.reduceBEq, Int.reduceBNe, Int.reduceNe, Nat.reduceBEq, Int.reducePow, ite_self, e1, e2, e3, e4, decide_eq_false z, decide_eq_false z3]
theorem RK.add {k : Nat} {x y : Rat} (h : RK k x) (g : RK k y) : RK (2 * k + 1) (x + y) := by
  rw [← qv_add]
  exact .qv (Int.mul_pos (den_pos x) (den_pos y)) (Bd.add ((h.n.mul g.d).mono (by omega)) ((g.n.mul h.d).mono (by omega))) ((h.d.mul g.d).mono (by omega))
theorem lplus_ev {x y : Rat} (h : RB 2 x) (k : RB 2 y) : (fn__law_plus [.val (rD x), .val (rD y)]).st = .ok (.val (rD (x + y))) [] := by
  have m1 := gMul_i (mulOk_L (h.1.up (by decide)) (k.2.up (by decide)))
  have m2 := gMul_i (mulOk_L (k.1.up (by decide)) (h.2.up (by decide)))
  have m3 := gMul_i (mulOk_L (h.2.up (by decide)) (k.2.up (by decide)))
  have r := ratio_ev (x.num * y.den + y.num * x.den) (x.den * y.den) (Int.mul_pos (den_pos _) (den_pos _)) (h.2.mul k.2)
  rw [qv_add] at r
  simp (disch := first | assumption | decide | omega) only [fn__law_plus, den__law_plus, m1, m2, m3, r, dC_a, dVar_a, dSlot_a, dMove_a, dLV_a, dFrz_a, frzE_val, frzE_mu, dVal_a, get_v, get_s, dBin_a, dNeg_a, dTB_a, dBT_a, dTru_a, dNotT_a, dAndT_a, dOrT_a, dAndV_a, dOrV_a, dNotL_a, dIf_a, dIfF_a, dChain_a, dVs_n, dVs_c, dArs_n, dArs_c, dTup_a, dLst_a, getAll_n, getAll_c, dCB_a, dCallR_a, dIsi_a, dSeq_a, dSkip_a, dIfS_a, dRet_a, dSet_a, dAsg_a, asN_a, asT_a, asT_l, asC_a, asNil_a, dPar_a, dPut_a, dExp_a, dApp_a, dFor_a, loopF_n, dIt_a, gDiv_i, gMul_i, gMod_i, gEq_int, gNe_int, at0, at1, at2, at3, gAdd_i, gSub_i, gLt_i, gLe_i, gGt_i, gGe_i, gInt_i, gLen_l, gLen_f, gLen_t, gAbs_i, its_l, its_t, its_f, mkFn_s, stF_rt, stF_nx, stF_er, dCall_s, dCall0_s, dCallK_s, dIsK_e, dAt_e, dRev_e, dPar3_e, dEnum_e, dZip_e, enumD_n, enumD_c, zipD_c, zipD_n, zipD_m, dRng1_e, dPs_e, dPn_e, dSl_e, frzS_e, noX_n, noX_v, noX_m, noX_u, noX_x, finX_s, finX_n, dBreak_e, dCont_e, rngD_z, rngD_s, dTrue_e, dLc_e, loopC_n, loopC_k, goC_s, goC_o, eleC_e, bindX_o, loopF_c, wipeE_n, wipeE_c, restE_n, restE_c, okOwn_n, okOwn_c, dTry_e, runH_n, runH_c, dRaise_e, dXf_e, shp_i, shp_b, shp_o, shp_s, shp_t, shp_l, shp_f, shps_n, shps_c, gEq_ci, gNe_ci, gEq_cb, gNe_cb, gEq_cs, gNe_cs, gEq_co, gNe_co, gEq_ct, gNe_ct, gEq_cl, gNe_cl, gEq_cf, gNe_cf, deq_ii, deq_bb, deq_bi, deq_ib, deq_ss, deq_tt, deq_ll, deq_lf, deq_fl, deq_ff, deq_oo, deqs_nn, deqs_cc, deqs_nc, deqs_cn, deq_oi, deq_io, deq_ob, deq_bo, deq_os, deq_so, deq_ot, deq_to, deq_ol, deq_lo, deq_it, deq_ti, deq_il, deq_li, deq_is, deq_si, deq_tl, deq_lt, deq_ts, deq_st, deq_ls, deq_sl, deq_bt, deq_tb, deq_bs, deq_sb, tru_b, tru_l, tru_t, tru_i, tru_o, ni_i, ni_b, ni_s, ni_o, ni_t, ni_l, ni_f, isTs_n, isTs_c, isT_i, isT_b, isT_s, isT_t, isT_l, isT_f, isT_o, gIs_n, gIs_bb, gIsNot_n, gIsNot_bb, isN_o, isN_i, isN_b, isN_s, isN_t, isN_l, isN_f, gList_t, gList_l, gList_f, gTuple_l, gTuple_f, gTuple_t, gIx_t, gIx_l, gIx_f, gSl_t, gSl_l, gSl_f, gEqS_e, gNeS_e, st_ok, st_err, st_bad, fl_m, fl_i, fl_b, fl_s, fl_o, fl_t, fl_l, fl_f, fl_n, fl_g, frzAr_n, frzAr_v, frzAr_s, hasS_n, hasS_v, hasS_s, vb_e, at4, at5, at6, at7, at8, at9, at10, at11, at12, atm1_1, atm1_2, atm1_3, atm1_4, atm1_5, atm1_6, atm1_7, atm1_8, ixq1_0, ixq2_0, ixq2_1, ixq3_0, ixq3_1, ixq3_2, ixq4_0, ixq4_1, ixq4_2, ixq4_3, ixq5_0, ixq5_1, ixq5_2, ixq5_3, ixq5_4, ixq6_0, ixq6_1, ixq6_2, ixq6_3, ixq6_4, ixq6_5, ixq7_0, ixq7_1, ixq7_2, ixq7_3, ixq7_4, ixq7_5, ixq7_6, ixq8_0, ixq8_1, ixq8_2, ixq8_3, ixq8_4, ixq8_5, ixq8_6, ixq8_7, Res.bind_ok, Res.bind_err, Res.bind_bad, List.getElem?_cons_zero, List.getElem?_cons_succ, List.set_cons_zero, List.set_cons_succ, List.map_cons, List.map_nil, List.cons_append, List.nil_append, List.append_nil, List.length_cons, List.length_nil, List.replicate, List.take, if_true, if_false, ite_true, ite_false, reduceIte, Nat.reduceAdd, Nat.reduceSub, Nat.reduceLeDiff, Bool.false_eq_true, Nat.reduceEqDiff, Nat.add_eq, Nat.add_zero, Nat.zero_add, Option.bind_some, Option.map_some, Nat.sub_self, eq_self, and_self, and_true, true_and, Bool.and_true, Bool.true_and, Bool.and_false, Bool.false_and, Bool.or_true, Bool.true_or, Bool.or_false, Bool.false_or, Bool.not_true, Bool.not_false, String.reduceBEq, decide_true, decide_false, List.reverse_cons, List.reverse_nil, List.isEmpty_cons, List.isEmpty_nil, Option.getD_some, Int.reduceLT, Int.reduceLE, Int.reduceEq, Int.reduceAdd, Int.reduceSub, Int.reduceMul, Int.reduceNeg, Nat.reduceLT, Nat.reduceMul, not_true_eq_false, not_false_eq_true, and_false, false_and, List.length_map, Int.natCast_zero, Int.reduceToNat, Int.cast_ofNat_Int, Int.reduceFDiv, Int.reduceFMod, Int.reduceBEq, Int.reduceBNe, Int.reduceNe, Nat.reduceBEq, Int.reducePow, ite_self]
theorem RK.rb {k n : Nat} {r : Rat} (h : RK k r) (l : k ≤ 1000) : RB n r := ⟨BdL.of h.n l, BdL.of h.d l⟩
theorem through_ev (xs : List D) (h : HandOk xs) {x y t : Rat} (kx : RK 50 x) (ky : RK 50 y) (kt : RK 50 t) : ∃ z ys, fn__law_through [.mu xs, .val (.lst [rD x, rD y]), .val (rD t)] = .ok (.mu [rD z, rD y]) [.mu ys, .val (.lst [rD x, rD y]), .val (rD t)] ∧ HandOk ys ∧ RK 120 z := by
  obtain ⟨v1, y1, e1, h1, a1, b1⟩ := take_ev xs h 21 (by decide) (by decide)
  have bk : Bd 7 (v1 - 10) := Nat.lt_of_le_of_lt (m := 20) (by omega) (by decide)
  have m1 := gMul_i (mulOk_L (BdL.of bk (by decide)) (BdL.of ky.n (by decide)))
  have r := ratio_ev ((v1 - 10) * y.num) y.den (den_pos y) (BdL.of ky.d (by decide))
  have kq : RK 57 (qv ((v1 - 10) * y.num) y.den) := RK.qv (den_pos y) ((bk.mul ky.n).mono (by decide)) (ky.d.mono (by decide))
  have pl := lplus_ev (kt.rb (by decide)) (kq.rb (by decide))
  refine ⟨_, y1, ?_, h1, ((kt.mono (by decide)).add kq).mono (by decide)⟩
  simp only [fn__law_through, den__law_through, mkFn_a, finF, dC_a, dVar_a, dSlot_a, dMove_a, dLV_a, dFrz_a, frzE_val, frzE_mu, dVal_a, get_v, get_s, dBin_a, dNeg_a, dTB_a, dBT_a, dTru_a, dNotT_a, dAndT_a, dOrT_a, dAndV_a, dOrV_a, dNotL_a, dIf_a, dIfF_a, dChain_a, dVs_n, dVs_c, dArs_n, dArs_c, dTup_a, dLst_a, getAll_n, getAll_c, dCB_a, dCallR_a, dIsi_a, dSeq_a, dSkip_a, dIfS_a, dRet_a, dSet_a, dAsg_a, asN_a, asT_a, asT_l, asC_a, asNil_a, dPar_a, dPut_a, dExp_a, dApp_a, dFor_a, loopF_n, dIt_a, gDiv_i, gMul_i, gMod_i, gEq_int, gNe_int, at0, at1, at2, at3, gAdd_i, gSub_i, gLt_i, gLe_i, gGt_i, gGe_i, gInt_i, gLen_l, gLen_f, gLen_t, gAbs_i, its_l, its_t, its_f, mkFn_s, stF_rt, stF_nx, stF_er, dCall_s, dCall0_s, dCallK_s, dIsK_e, dAt_e, dRev_e, dPar3_e, dEnum_e, dZip_e, enumD_n, enumD_c, zipD_c, zipD_n, zipD_m, dRng1_e, dPs_e, dPn_e, dSl_e, frzS_e, noX_n, noX_v, noX_m, noX_u, noX_x, finX_s, finX_n, dBreak_e, dCont_e, rngD_z, rngD_s, dTrue_e, dLc_e, loopC_n, loopC_k, goC_s, goC_o, eleC_e, bindX_o, loopF_c, wipeE_n, wipeE_c, restE_n, restE_c, okOwn_n, okOwn_c, dTry_e, runH_n, runH_c, dRaise_e, dXf_e, shp_i, shp_b, shp_o, shp_s, shp_t, shp_l, shp_f, shps_n, shps_c, gEq_ci, gNe_ci, gEq_cb, gNe_cb, gEq_cs, gNe_cs, gEq_co, gNe_co, gEq_ct, gNe_ct, gEq_cl, gNe_cl, gEq_cf, gNe_cf, deq_ii, deq_bb, deq_bi, deq_ib, deq_ss, deq_tt, deq_ll, deq_lf, deq_fl, deq_ff, deq_oo, deqs_nn, deqs_cc, deqs_nc, deqs_cn, deq_oi, deq_io, deq_ob, deq_bo, deq_os, deq_so, deq_ot, deq_to, deq_ol, deq_lo, deq_it, deq_ti, deq_il, deq_li, deq_is, deq_si, deq_tl, deq_lt, deq_ts, deq_st, deq_ls, deq_sl, deq_bt, deq_tb, deq_bs, deq_sb, tru_b, tru_l, tru_t, tru_i, tru_o, ni_i, ni_b, ni_s, ni_o, ni_t, ni_l, ni_f, isTs_n, isTs_c, isT_i, isT_b, isT_s, isT_t, isT_l, isT_f, isT_o, gIs_n, gIs_bb, gIsNot_n, gIsNot_bb, isN_o, isN_i, isN_b, isN_s, isN_t, isN_l, isN_f, gList_t, gList_l, gList_f, gTuple_l, gTuple_f, gTuple_t, gIx_t, gIx_l, gIx_f, gSl_t, gSl_l, gSl_f, gEqS_e, gNeS_e, st_ok, st_err, st_bad, fl_m, fl_i, fl_b, fl_s, fl_o, fl_t, fl_l, fl_f, fl_n, fl_g, frzAr_n, frzAr_v, frzAr_s, hasS_n, hasS_v, hasS_s, vb_e, at4, at5, at6, at7, at8, at9, at10, at11, at12, atm1_1, atm1_2, atm1_3, atm1_4, atm1_5, atm1_6, atm1_7, atm1_8, ixq1_0, ixq2_0, ixq2_1, ixq3_0, ixq3_1, ixq3_2, ixq4_0, ixq4_1, ixq4_2, ixq4_3, ixq5_0, ixq5_1, ixq5_2, ixq5_3, ixq5_4, ixq6_0, ixq6_1, ixq6_2, ixq6_3, ixq6_4, ixq6_5, ixq7_0, ixq7_1, ixq7_2, ixq7_3, ixq7_4, ixq7_5, ixq7_6, ixq8_0, ixq8_1, ixq8_2, ixq8_3, ixq8_4, ixq8_5, ixq8_6, ixq8_7, Res.bind_ok, Res.bind_err, Res.bind_bad, List.getElem?_cons_zero, List.getElem?_cons_succ, List.set_cons_zero, List.set_cons_succ, List.map_cons, List.map_nil, List.cons_append, List.nil_append, List.append_nil, List.length_cons, List.length_nil, List.replicate, List.take, if_true, if_false, ite_true, ite_false, reduceIte, Nat.reduceAdd, Nat.reduceSub, Nat.reduceLeDiff, Bool.false_eq_true, Nat.reduceEqDiff, Nat.add_eq, Nat.add_zero, Nat.zero_add, Option.bind_some, Option.map_some, Nat.sub_self, eq_self, and_self, and_true, true_and, Bool.and_true, Bool.true_and, Bool.and_false, Bool.false_and, Bool.or_true, Bool.true_or, Bool.or_false, Bool.false_or, Bool.not_true, Bool.not_false, String.reduceBEq, decide_true, decide_false, List.reverse_cons, List.reverse_nil, List.isEmpty_cons, List.isEmpty_nil, Option.getD_some, Int.reduceLT, Int.reduceLE, Int.reduceEq, Int.reduceAdd, Int.reduceSub, Int.reduceMul, Int.reduceNeg, Nat.reduceLT, Nat.reduceMul, not_true_eq_false, not_false_eq_true, and_false, false_and, List.length_map, Int.natCast_zero, Int.reduceToNat, Int.cast_ofNat_Int, Int.reduceFDiv, Int.reduceFMod, Int.reduceBEq, Int.reduceBNe, Int.reduceNe, Nat.reduceBEq, Int.reducePow, ite_self, e1, m1, r, pl]
theorem sequence_ev (xs : List D) (h : HandOk xs) {d : D} {is : List D} (g1 : gList [d] = some (.mu is)) (g2 : gTuple [d] = some (.val (.tup is))) : ∃ r e ys, fn__law_sequence [.mu xs, .val d] = .ok r [.mu ys, .val d] ∧ HandOk ys ∧ (∀ s, frzE r s = .ok e s) ∧ (e = .tup is ∨ e = .lst is) := by
  obtain ⟨v1, y1, e1, h1, a1, b1⟩ := take_ev xs h 2 (by decide) (by decide)
  by_cases z : v1 = 0
  · refine ⟨.mu is, .lst is, y1, ?_, h1, fun _ => rfl, .inr rfl⟩
    simp only [fn__law_sequence, den__law_sequence, mkFn_a, finF, dC_a, dVar_a, dSlot_a, dMove_a, dLV_a, dFrz_a, frzE_val, frzE_mu, dVal_a, get_v, get_s, dBin_a, dNeg_a, dTB_a, dBT_a, dTru_a, dNotT_a, dAndT_a, dOrT_a, dAndV_a, dOrV_a, dNotL_a, dIf_a, dIfF_a, dChain_a, dVs_n, dVs_c, dArs_n, dArs_c, dTup_a, dLst_a, getAll_n, getAll_c, dCB_a, dCallR_a, dIsi_a, dSeq_a, dSkip_a, dIfS_a, dRet_a, dSet_a, dAsg_a, asN_a, asT_a, asT_l, asC_a, asNil_a, dPar_a, dPut_a, dExp_a, dApp_a, dFor_a, loopF_n, dIt_a, gDiv_i, gMul_i, gMod_i, gEq_int, gNe_int, at0, at1, at2, at3, gAdd_i, gSub_i, gLt_i, gLe_i, gGt_i, gGe_i, gInt_i, gLen_l, gLen_f, gLen_t, gAbs_i, its_l, its_t, its_f, mkFn_s, stF_rt, stF_nx, stF_er, dCall_s, dCall0_s, dCallK_s, dIsK_e, dAt_e, dRev_e, dPar3_e, dEnum_e, dZip_e, enumD_n, enumD_c, zipD_c, zipD_n, zipD_m, dRng1_e, dPs_e, dPn_e, dSl_e, frzS_e, noX_n, noX_v, noX_m, noX_u, noX_x, finX_s, finX_n, dBreak_e, dCont_e, rngD_z, rngD_s, dTrue_e, dLc_e, loopC_n, loopC_k, goC_s, goC_o, eleC_e, bindX_o, loopF_c, wipeE_n, wipeE_c, restE_n, restE_c, okOwn_n, okOwn_c, dTry_e, runH_n, runH_c, dRaise_e, dXf_e, shp_i, shp_b, shp_o, shp_s, shp_t, shp_l, shp_f, shps_n, shps_c, gEq_ci, gNe_ci, gEq_cb, gNe_cb, gEq_cs, gNe_cs, gEq_co, gNe_co, gEq_ct, gNe_ct, gEq_cl, gNe_cl, gEq_cf, gNe_cf, deq_ii, deq_bb, deq_bi, deq_ib, deq_ss, deq_tt, deq_ll, deq_lf, deq_fl, deq_ff, deq_oo, deqs_nn, deqs_cc, deqs_nc, deqs_cn, deq_oi, deq_io, deq_ob, deq_bo, deq_os, deq_so, deq_ot, deq_to, deq_ol, deq_lo, deq_it, deq_ti, deq_il, deq_li, deq_is, deq_si, deq_tl, deq_lt, deq_ts, deq_st, deq_ls, deq_sl, deq_bt, deq_tb, deq_bs, deq_sb, tru_b, tru_l, tru_t, tru_i, tru_o, ni_i, ni_b, ni_s, ni_o, ni_t, ni_l, ni_f, isTs_n, isTs_c, isT_i, isT_b, isT_s, isT_t, isT_l, isT_f, isT_o, gIs_n, gIs_bb, gIsNot_n, gIsNot_bb, isN_o, isN_i, isN_b, isN_s, isN_t, isN_l, isN_f, gList_t, gList_l, gList_f, gTuple_l, gTuple_f, gTuple_t, gIx_t, gIx_l, gIx_f, gSl_t, gSl_l, gSl_f, gEqS_e, gNeS_e, st_ok, st_err, st_bad, fl_m, fl_i, fl_b, fl_s, fl_o, fl_t, fl_l, fl_f, fl_n, fl_g, frzAr_n, frzAr_v, frzAr_s, hasS_n, hasS_v, hasS_s, vb_e, at4, at5, at6, at7, at8, at9, at10, at11, at12, atm1_1, atm1_2, atm1_3, atm1_4, atm1_5, atm1_6, atm1_7, atm1_8, ixq1_0, ixq2_0, ixq2_1, ixq3_0, ixq3_1, ixq3_2, ixq4_0, ixq4_1, ixq4_2, ixq4_3, ixq5_0, ixq5_1, ixq5_2, ixq5_3, ixq5_4, ixq6_0, ixq6_1, ixq6_2, ixq6_3, ixq6_4, ixq6_5, ixq7_0, ixq7_1, ixq7_2, ixq7_3, ixq7_4, ixq7_5, ixq7_6, ixq8_0, ixq8_1, ixq8_2, ixq8_3, ixq8_4, ixq8_5, ixq8_6, ixq8_7, Res.bind_ok, Res.bind_err, Res.bind_bad, List.getElem?_cons_zero, List.getElem?_cons_succ, List.set_cons_zero, List.set_cons_succ, List.map_cons, List.map_nil, List.cons_append, List.nil_append, List.append_nil, List.length_cons, List.length_nil, List.replicate, List.take, if_true, if_false, ite_true, ite_false, reduceIte, Nat.reduceAdd, Nat.reduceSub, Nat.reduceLeDiff, Bool.false_eq_true, Nat.reduceEqDiff, Nat.add_eq, Nat.add_zero, Nat.zero_add, Option.bind_some, Option.map_some, Nat.sub_self, eq_self, and_self, and_true, true_and, Bool.and_true, Bool.true_and, Bool.and_false, Bool.false_and, Bool.or_true, Bool.true_or, Bool.or_false, Bool.false_or, Bool.not_true, Bool.not_false, String.reduceBEq, decide_true, decide_false, List.reverse_cons, List.reverse_nil, List.isEmpty_cons, List.isEmpty_nil, Option.getD_some, Int.reduceLT, Int.reduceLE, Int.reduceEq, Int.reduceAdd, Int.reduceSub, Int.reduceMul, Int.reduceNeg, Nat.reduceLT, Nat.reduceMul, not_true_eq_false, not_false_eq_true, and_false, false_and, List.length_map, Int.natCast_zero, Int.reduceToNat, Int.cast_ofNat_Int, Int.reduceFDiv, Int.reduceFMod, Int.reduceBEq, Int.reduceBNe, Int.reduceNe, Nat.reduceBEq, Int.reducePow, ite_self, e1, decide_eq_true z, g1]
  · refine ⟨.val (.tup is), .tup is, y1, ?_, h1, fun _ => rfl, .inl rfl⟩
    simp only [fn__law_sequence, den__law_sequence, mkFn_a, finF, dC_a, dVar_a, dSlot_a, dMove_a, dLV_a, dFrz_a, frzE_val, frzE_mu, dVal_a, get_v, get_s, dBin_a, dNeg_a, dTB_a, dBT_a, dTru_a, dNotT_a, dAndT_a, dOrT_a, dAndV_a, dOrV_a, dNotL_a, dIf_a, dIfF_a, dChain_a, dVs_n, dVs_c, dArs_n, dArs_c, dTup_a, dLst_a, getAll_n, getAll_c, dCB_a, dCallR_a, dIsi_a, dSeq_a, dSkip_a, dIfS_a, dRet_a, dSet_a, dAsg_a, asN_a, asT_a, asT_l, asC_a, asNil_a, dPar_a, dPut_a, dExp_a, dApp_a, dFor_a, loopF_n, dIt_a, gDiv_i, gMul_i, gMod_i, gEq_int, gNe_int, at0, at1, at2, at3, gAdd_i, gSub_i, gLt_i, gLe_i, gGt_i, gGe_i, gInt_i, gLen_l, gLen_f, gLen_t, gAbs_i, its_l, its_t, its_f, mkFn_s, stF_rt, stF_nx, stF_er, dCall_s, dCall0_s, dCallK_s, dIsK_e, dAt_e, dRev_e, dPar3_e, dEnum_e, dZip_e, enumD_n, enumD_c, zipD_c, zipD_n, zipD_m, dRng1_e, dPs_e, dPn_e, dSl_e, frzS_e, noX_n, noX_v, noX_m, noX_u, noX_x, finX_s, finX_n, dBreak_e, dCont_e, rngD_z, rngD_s, dTrue_e, dLc_e, loopC_n, loopC_k, goC_s, goC_o, eleC_e, bindX_o, loopF_c, wipeE_n, wipeE_c, restE_n, restE_c, okOwn_n, okOwn_c, dTry_e, runH_n, runH_c, dRaise_e, dXf_e, shp_i, shp_b, shp_o, shp_s, shp_t, shp_l, shp_f, shps_n, shps_c, gEq_ci, gNe_ci, gEq_cb, gNe_cb, gEq_cs, gNe_cs, gEq_co, gNe_co, gEq_ct, gNe_ct, gEq_cl, gNe_cl, gEq_cf, gNe_cf, deq_ii, deq_bb, deq_bi, deq_ib, deq_ss, deq_tt, deq_ll, deq_lf, deq_fl, deq_ff, deq_oo, deqs_nn, deqs_cc, deqs_nc, deqs_cn, deq_oi, deq_io, deq_ob, deq_bo, deq_os, deq_so, deq_ot, deq_to, deq_ol, deq_lo, deq_it, deq_ti, deq_il, deq_li, deq_is, deq_si, deq_tl, deq_lt, deq_ts, deq_st, deq_ls, deq_sl, deq_bt, deq_tb, deq_bs, deq_sb, tru_b, tru_l, tru_t, tru_i, tru_o, ni_i, ni_b, ni_s, ni_o, ni_t, ni_l, ni_f, isTs_n, isTs_c, isT_i, isT_b, isT_s, isT_t, isT_l, isT_f, isT_o, gIs_n, gIs_bb, gIsNot_n, gIsNot_bb, isN_o, isN_i, isN_b, isN_s, isN_t, isN_l, isN_f, gList_t, gList_l, gList_f, gTuple_l, gTuple_f, gTuple_t, gIx_t, gIx_l, gIx_f, gSl_t, gSl_l, gSl_f, gEqS_e, gNeS_e, st_ok, st_err, st_bad, fl_m, fl_i, fl_b, fl_s, fl_o, fl_t, fl_l, fl_f, fl_n, fl_g, frzAr_n, frzAr_v, frzAr_s, hasS_n, hasS_v, hasS_s, vb_e, at4, at5, at6, at7, at8, at9, at10, at11, at12, atm1_1, atm1_2, atm1_3, atm1_4, atm1_5, atm1_6, atm1_7, atm1_8, ixq1_0, ixq2_0, ixq2_1, ixq3_0, ixq3_1, ixq3_2, ixq4_0, ixq4_1, ixq4_2, ixq4_3, ixq5_0, ixq5_1, ixq5_2, ixq5_3, ixq5_4, ixq6_0, ixq6_1, ixq6_2, ixq6_3, ixq6_4, ixq6_5, ixq7_0, ixq7_1, ixq7_2, ixq7_3, ixq7_4, ixq7_5, ixq7_6, ixq8_0, ixq8_1, ixq8_2, ixq8_3, ixq8_4, ixq8_5, ixq8_6, ixq8_7, Res.bind_ok, Res.bind_err, Res.bind_bad, List.getElem?_cons_zero, List.getElem?_cons_succ, List.set_cons_zero, List.set_cons_succ, List.map_cons, List.map_nil, List.cons_append, List.nil_append, List.append_nil, List.length_cons, List.length_nil, List.replicate, List.take, if_true, if_false, ite_true, ite_false, reduceIte, Nat.reduceAdd, Nat.reduceSub, Nat.reduceLeDiff, Bool.false_eq_true, Nat.reduceEqDiff, Nat.add_eq, Nat.add_zero, Nat.zero_add, Option.bind_some, Option.map_some, Nat.sub_self, eq_self, and_self, and_true, true_and, Bool.and_true, Bool.true_and, Bool.and_false, Bool.false_and, Bool.or_true, Bool.true_or, Bool.or_false, Bool.false_or, Bool.not_true, Bool.not_false, String.reduceBEq, decide_true, decide_false, List.reverse_cons, List.reverse_nil, List.isEmpty_cons, List.isEmpty_nil, Option.getD_some, Int.reduceLT, Int.reduceLE, Int.reduceEq, Int.reduceAdd, Int.reduceSub, Int.reduceMul, Int.reduceNeg, Nat.reduceLT, Nat.reduceMul, not_true_eq_false, not_false_eq_true, and_false, false_and, List.length_map, Int.natCast_zero, Int.reduceToNat, Int.cast_ofNat_Int, Int.reduceFDiv, Int.reduceFMod, Int.reduceBEq, Int.reduceBNe, Int.reduceNe, Nat.reduceBEq, Int.reducePow, ite_self, e1, decide_eq_false z, g2]
def oddB : List (D × String) := [(.non, "couple"), (.tup [.tup [.int 1, .int 2]], "couple"), (.tup [.int 5, .tup [.int 1, .int 1]], "first"), (.tup [.tup [.int 2, .int 4], .non], "first"), (.tup [.tup [.bl true, .int 1], .tup [.int 1, .int 1]], "first"), (.tup [.tup [.int 1, .int 2], .tup [.int (-1), .int 3]], "every"), (.tup [.tup [.int 1, .int 2], .tup [.int 4, .int 2]], "every"), (.tup [.tup [.int 0, .int 1], .non], "every")]
def oddD : List D := oddB.map fun p => .lst [p.1, .str p.2]
theorem odd_check {p : D × String} (h : p ∈ oddB) (i : Int) : (fn_check_beat [.val p.1, .val (.int i)]).st = .err "BadBeat" ["what", "index"] [.str p.2, .int i] [] := by
  have g1 : gGcd [.int 2, .int 4] = some (.val (.int 2)) := by rfl
  have g2 : gGcd [.int 4, .int 2] = some (.val (.int 2)) := by rfl
  have g3 : gGcd [.int 1, .int 2] = some (.val (.int 1)) := by rfl
  have g4 : gGcd [.int (-1), .int 3] = some (.val (.int 1)) := by rfl
  have g5 : gGcd [.int 0, .int 1] = some (.val (.int 1)) := by rfl
  have w1 := whole_1 (i := 1) (by decide)
  have w2 := whole_1 (i := 2) (by decide)
  have w3 := whole_1 (i := 3) (by decide)
  have w4 := whole_1 (i := 4) (by decide)
  have wb : (fn_is_whole [.val (.bl true), .val .non, .val .non]).st = .ok (.val (.bl false)) [] := by simp (disch := first | assumption | decide | omega) only [fn_is_whole, den_is_whole, dC_a, dVar_a, dSlot_a, dMove_a, dLV_a, dFrz_a, frzE_val, frzE_mu, dVal_a, get_v, get_s, dBin_a, dNeg_a, dTB_a, dBT_a, dTru_a, dNotT_a, dAndT_a, dOrT_a, dAndV_a, dOrV_a, dNotL_a, dIf_a, dIfF_a, dChain_a, dVs_n, dVs_c, dArs_n, dArs_c, dTup_a, dLst_a, getAll_n, getAll_c, dCB_a, dCallR_a, dIsi_a, dSeq_a, dSkip_a, dIfS_a, dRet_a, dSet_a, dAsg_a, asN_a, asT_a, asT_l, asC_a, asNil_a, dPar_a, dPut_a, dExp_a, dApp_a, dFor_a, loopF_n, dIt_a, gDiv_i, gMul_i, gMod_i, gEq_int, gNe_int, at0, at1, at2, at3, gAdd_i, gSub_i, gLt_i, gLe_i, gGt_i, gGe_i, gInt_i, gLen_l, gLen_f, gLen_t, gAbs_i, its_l, its_t, its_f, mkFn_s, stF_rt, stF_nx, stF_er, dCall_s, dCall0_s, dCallK_s, dIsK_e, dAt_e, dRev_e, dPar3_e, dEnum_e, dZip_e, enumD_n, enumD_c, zipD_c, zipD_n, zipD_m, dRng1_e, dPs_e, dPn_e, dSl_e, frzS_e, noX_n, noX_v, noX_m, noX_u, noX_x, finX_s, finX_n, dBreak_e, dCont_e, rngD_z, rngD_s, dTrue_e, dLc_e, loopC_n, loopC_k, goC_s, goC_o, eleC_e, bindX_o, loopF_c, wipeE_n, wipeE_c, restE_n, restE_c, okOwn_n, okOwn_c, dTry_e, runH_n, runH_c, dRaise_e, dXf_e, shp_i, shp_b, shp_o, shp_s, shp_t, shp_l, shp_f, shps_n, shps_c, gEq_ci, gNe_ci, gEq_cb, gNe_cb, gEq_cs, gNe_cs, gEq_co, gNe_co, gEq_ct, gNe_ct, gEq_cl, gNe_cl, gEq_cf, gNe_cf, deq_ii, deq_bb, deq_bi, deq_ib, deq_ss, deq_tt, deq_ll, deq_lf, deq_fl, deq_ff, deq_oo, deqs_nn, deqs_cc, deqs_nc, deqs_cn, deq_oi, deq_io, deq_ob, deq_bo, deq_os, deq_so, deq_ot, deq_to, deq_ol, deq_lo, deq_it, deq_ti, deq_il, deq_li, deq_is, deq_si, deq_tl, deq_lt, deq_ts, deq_st, deq_ls, deq_sl, deq_bt, deq_tb, deq_bs, deq_sb, tru_b, tru_l, tru_t, tru_i, tru_o, ni_i, ni_b, ni_s, ni_o, ni_t, ni_l, ni_f, isTs_n, isTs_c, isT_i, isT_b, isT_s, isT_t, isT_l, isT_f, isT_o, gIs_n, gIs_bb, gIsNot_n, gIsNot_bb, isN_o, isN_i, isN_b, isN_s, isN_t, isN_l, isN_f, gList_t, gList_l, gList_f, gTuple_l, gTuple_f, gTuple_t, gIx_t, gIx_l, gIx_f, gSl_t, gSl_l, gSl_f, gEqS_e, gNeS_e, st_ok, st_err, st_bad, fl_m, fl_i, fl_b, fl_s, fl_o, fl_t, fl_l, fl_f, fl_n, fl_g, frzAr_n, frzAr_v, frzAr_s, hasS_n, hasS_v, hasS_s, vb_e, at4, at5, at6, at7, at8, at9, at10, at11, at12, atm1_1, atm1_2, atm1_3, atm1_4, atm1_5, atm1_6, atm1_7, atm1_8, ixq1_0, ixq2_0, ixq2_1, ixq3_0, ixq3_1, ixq3_2, ixq4_0, ixq4_1, ixq4_2, ixq4_3, ixq5_0, ixq5_1, ixq5_2, ixq5_3, ixq5_4, ixq6_0, ixq6_1, ixq6_2, ixq6_3, ixq6_4, ixq6_5, ixq7_0, ixq7_1, ixq7_2, ixq7_3, ixq7_4, ixq7_5, ixq7_6, ixq8_0, ixq8_1, ixq8_2, ixq8_3, ixq8_4, ixq8_5, ixq8_6, ixq8_7, Res.bind_ok, Res.bind_err, Res.bind_bad, List.getElem?_cons_zero, List.getElem?_cons_succ, List.set_cons_zero, List.set_cons_succ, List.map_cons, List.map_nil, List.cons_append, List.nil_append, List.append_nil, List.length_cons, List.length_nil, List.replicate, List.take, if_true, if_false, ite_true, ite_false, reduceIte, Nat.reduceAdd, Nat.reduceSub, Nat.reduceLeDiff, Bool.false_eq_true, Nat.reduceEqDiff, Nat.add_eq, Nat.add_zero, Nat.zero_add, Option.bind_some, Option.map_some, Nat.sub_self, eq_self, and_self, and_true, true_and, Bool.and_true, Bool.true_and, Bool.and_false, Bool.false_and, Bool.or_true, Bool.true_or, Bool.or_false, Bool.false_or, Bool.not_true, Bool.not_false, String.reduceBEq, decide_true, decide_false, List.reverse_cons, List.reverse_nil, List.isEmpty_cons, List.isEmpty_nil, Option.getD_some, Int.reduceLT, Int.reduceLE, Int.reduceEq, Int.reduceAdd, Int.reduceSub, Int.reduceMul, Int.reduceNeg, Nat.reduceLT, Nat.reduceMul, not_true_eq_false, not_false_eq_true, and_false, false_and, List.length_map, Int.natCast_zero, Int.reduceToNat, Int.cast_ofNat_Int, Int.reduceFDiv, Int.reduceFMod, Int.reduceBEq, Int.reduceBNe, Int.reduceNe, Nat.reduceBEq, Int.reducePow, ite_self]
  simp only [oddB, List.mem_cons, List.not_mem_nil, or_false] at h
  rcases h with rfl | rfl | rfl | rfl | rfl | rfl | rfl | rfl <;> simp (disch := first | assumption | decide | omega) only [fn_check_beat, den_check_beat, fn_is_ratio, den_is_ratio, whole_n, wb, w1, w2, w3, w4, g1, g2, g3, g4, g5, dC_a, dVar_a, dSlot_a, dMove_a, dLV_a, dFrz_a, frzE_val, frzE_mu, dVal_a, get_v, get_s, dBin_a, dNeg_a, dTB_a, dBT_a, dTru_a, dNotT_a, dAndT_a, dOrT_a, dAndV_a, dOrV_a, dNotL_a, dIf_a, dIfF_a, dChain_a, dVs_n, dVs_c, dArs_n, dArs_c, dTup_a, dLst_a, getAll_n, getAll_c, dCB_a, dCallR_a, dIsi_a, dSeq_a, dSkip_a, dIfS_a, dRet_a, dSet_a, dAsg_a, asN_a, asT_a, asT_l, asC_a, asNil_a, dPar_a, dPut_a, dExp_a, dApp_a, dFor_a, loopF_n, dIt_a, gDiv_i, gMul_i, gMod_i, gEq_int, gNe_int, at0, at1, at2, at3, gAdd_i, gSub_i, gLt_i, gLe_i, gGt_i, gGe_i, gInt_i, gLen_l, gLen_f, gLen_t, gAbs_i, its_l, its_t, its_f, mkFn_s, stF_rt, stF_nx, stF_er, dCall_s, dCall0_s, dCallK_s, dIsK_e, dAt_e, dRev_e, dPar3_e, dEnum_e, dZip_e, enumD_n, enumD_c, zipD_c, zipD_n, zipD_m, dRng1_e, dPs_e, dPn_e, dSl_e, frzS_e, noX_n, noX_v, noX_m, noX_u, noX_x, finX_s, finX_n, dBreak_e, dCont_e, rngD_z, rngD_s, dTrue_e, dLc_e, loopC_n, loopC_k, goC_s, goC_o, eleC_e, bindX_o, loopF_c, wipeE_n, wipeE_c, restE_n, restE_c, okOwn_n, okOwn_c, dTry_e, runH_n, runH_c, dRaise_e, dXf_e, shp_i, shp_b, shp_o, shp_s, shp_t, shp_l, shp_f, shps_n, shps_c, gEq_ci, gNe_ci, gEq_cb, gNe_cb, gEq_cs, gNe_cs, gEq_co, gNe_co, gEq_ct, gNe_ct, gEq_cl, gNe_cl, gEq_cf, gNe_cf, deq_ii, deq_bb, deq_bi, deq_ib, deq_ss, deq_tt, deq_ll, deq_lf, deq_fl, deq_ff, deq_oo, deqs_nn, deqs_cc, deqs_nc, deqs_cn, deq_oi, deq_io, deq_ob, deq_bo, deq_os, deq_so, deq_ot, deq_to, deq_ol, deq_lo, deq_it, deq_ti, deq_il, deq_li, deq_is, deq_si, deq_tl, deq_lt, deq_ts, deq_st, deq_ls, deq_sl, deq_bt, deq_tb, deq_bs, deq_sb, tru_b, tru_l, tru_t, tru_i, tru_o, ni_i, ni_b, ni_s, ni_o, ni_t, ni_l, ni_f, isTs_n, isTs_c, isT_i, isT_b, isT_s, isT_t, isT_l, isT_f, isT_o, gIs_n, gIs_bb, gIsNot_n, gIsNot_bb, isN_o, isN_i, isN_b, isN_s, isN_t, isN_l, isN_f, gList_t, gList_l, gList_f, gTuple_l, gTuple_f, gTuple_t, gIx_t, gIx_l, gIx_f, gSl_t, gSl_l, gSl_f, gEqS_e, gNeS_e, st_ok, st_err, st_bad, fl_m, fl_i, fl_b, fl_s, fl_o, fl_t, fl_l, fl_f, fl_n, fl_g, frzAr_n, frzAr_v, frzAr_s, hasS_n, hasS_v, hasS_s, vb_e, at4, at5, at6, at7, at8, at9, at10, at11, at12, atm1_1, atm1_2, atm1_3, atm1_4, atm1_5, atm1_6, atm1_7, atm1_8, ixq1_0, ixq2_0, ixq2_1, ixq3_0, ixq3_1, ixq3_2, ixq4_0, ixq4_1, ixq4_2, ixq4_3, ixq5_0, ixq5_1, ixq5_2, ixq5_3, ixq5_4, ixq6_0, ixq6_1, ixq6_2, ixq6_3, ixq6_4, ixq6_5, ixq7_0, ixq7_1, ixq7_2, ixq7_3, ixq7_4, ixq7_5, ixq7_6, ixq8_0, ixq8_1, ixq8_2, ixq8_3, ixq8_4, ixq8_5, ixq8_6, ixq8_7, Res.bind_ok, Res.bind_err, Res.bind_bad, List.getElem?_cons_zero, List.getElem?_cons_succ, List.set_cons_zero, List.set_cons_succ, List.map_cons, List.map_nil, List.cons_append, List.nil_append, List.append_nil, List.length_cons, List.length_nil, List.replicate, List.take, if_true, if_false, ite_true, ite_false, reduceIte, Nat.reduceAdd, Nat.reduceSub, Nat.reduceLeDiff, Bool.false_eq_true, Nat.reduceEqDiff, Nat.add_eq, Nat.add_zero, Nat.zero_add, Option.bind_some, Option.map_some, Nat.sub_self, eq_self, and_self, and_true, true_and, Bool.and_true, Bool.true_and, Bool.and_false, Bool.false_and, Bool.or_true, Bool.true_or, Bool.or_false, Bool.false_or, Bool.not_true, Bool.not_false, String.reduceBEq, decide_true, decide_false, List.reverse_cons, List.reverse_nil, List.isEmpty_cons, List.isEmpty_nil, Option.getD_some, Int.reduceLT, Int.reduceLE, Int.reduceEq, Int.reduceAdd, Int.reduceSub, Int.reduceMul, Int.reduceNeg, Nat.reduceLT, Nat.reduceMul, not_true_eq_false, not_false_eq_true, and_false, false_and, List.length_map, Int.natCast_zero, Int.reduceToNat, Int.cast_ofNat_Int, Int.reduceFDiv, Int.reduceFMod, Int.reduceBEq, Int.reduceBNe, Int.reduceNe, Nat.reduceBEq, Int.reducePow, ite_self]
theorem refused1 {p : D × String} (h : p ∈ oddB) (d : D) : (fn__law_refused [.val p.1, .val d]).st = .ok (.val (.tup [.int 0, .str p.2])) [] := by
  have q : (fn_common_time [.val p.1, .val d]).st = .err "BadBeat" ["what", "index"] [.str p.2, .int 0] [] := by simp (disch := first | assumption | decide | omega) only [fn_common_time, den_common_time, odd_check h 0, dC_a, dVar_a, dSlot_a, dMove_a, dLV_a, dFrz_a, frzE_val, frzE_mu, dVal_a, get_v, get_s, dBin_a, dNeg_a, dTB_a, dBT_a, dTru_a, dNotT_a, dAndT_a, dOrT_a, dAndV_a, dOrV_a, dNotL_a, dIf_a, dIfF_a, dChain_a, dVs_n, dVs_c, dArs_n, dArs_c, dTup_a, dLst_a, getAll_n, getAll_c, dCB_a, dCallR_a, dIsi_a, dSeq_a, dSkip_a, dIfS_a, dRet_a, dSet_a, dAsg_a, asN_a, asT_a, asT_l, asC_a, asNil_a, dPar_a, dPut_a, dExp_a, dApp_a, dFor_a, loopF_n, dIt_a, gDiv_i, gMul_i, gMod_i, gEq_int, gNe_int, at0, at1, at2, at3, gAdd_i, gSub_i, gLt_i, gLe_i, gGt_i, gGe_i, gInt_i, gLen_l, gLen_f, gLen_t, gAbs_i, its_l, its_t, its_f, mkFn_s, stF_rt, stF_nx, stF_er, dCall_s, dCall0_s, dCallK_s, dIsK_e, dAt_e, dRev_e, dPar3_e, dEnum_e, dZip_e, enumD_n, enumD_c, zipD_c, zipD_n, zipD_m, dRng1_e, dPs_e, dPn_e, dSl_e, frzS_e, noX_n, noX_v, noX_m, noX_u, noX_x, finX_s, finX_n, dBreak_e, dCont_e, rngD_z, rngD_s, dTrue_e, dLc_e, loopC_n, loopC_k, goC_s, goC_o, eleC_e, bindX_o, loopF_c, wipeE_n, wipeE_c, restE_n, restE_c, okOwn_n, okOwn_c, dTry_e, runH_n, runH_c, dRaise_e, dXf_e, shp_i, shp_b, shp_o, shp_s, shp_t, shp_l, shp_f, shps_n, shps_c, gEq_ci, gNe_ci, gEq_cb, gNe_cb, gEq_cs, gNe_cs, gEq_co, gNe_co, gEq_ct, gNe_ct, gEq_cl, gNe_cl, gEq_cf, gNe_cf, deq_ii, deq_bb, deq_bi, deq_ib, deq_ss, deq_tt, deq_ll, deq_lf, deq_fl, deq_ff, deq_oo, deqs_nn, deqs_cc, deqs_nc, deqs_cn, deq_oi, deq_io, deq_ob, deq_bo, deq_os, deq_so, deq_ot, deq_to, deq_ol, deq_lo, deq_it, deq_ti, deq_il, deq_li, deq_is, deq_si, deq_tl, deq_lt, deq_ts, deq_st, deq_ls, deq_sl, deq_bt, deq_tb, deq_bs, deq_sb, tru_b, tru_l, tru_t, tru_i, tru_o, ni_i, ni_b, ni_s, ni_o, ni_t, ni_l, ni_f, isTs_n, isTs_c, isT_i, isT_b, isT_s, isT_t, isT_l, isT_f, isT_o, gIs_n, gIs_bb, gIsNot_n, gIsNot_bb, isN_o, isN_i, isN_b, isN_s, isN_t, isN_l, isN_f, gList_t, gList_l, gList_f, gTuple_l, gTuple_f, gTuple_t, gIx_t, gIx_l, gIx_f, gSl_t, gSl_l, gSl_f, gEqS_e, gNeS_e, st_ok, st_err, st_bad, fl_m, fl_i, fl_b, fl_s, fl_o, fl_t, fl_l, fl_f, fl_n, fl_g, frzAr_n, frzAr_v, frzAr_s, hasS_n, hasS_v, hasS_s, vb_e, at4, at5, at6, at7, at8, at9, at10, at11, at12, atm1_1, atm1_2, atm1_3, atm1_4, atm1_5, atm1_6, atm1_7, atm1_8, ixq1_0, ixq2_0, ixq2_1, ixq3_0, ixq3_1, ixq3_2, ixq4_0, ixq4_1, ixq4_2, ixq4_3, ixq5_0, ixq5_1, ixq5_2, ixq5_3, ixq5_4, ixq6_0, ixq6_1, ixq6_2, ixq6_3, ixq6_4, ixq6_5, ixq7_0, ixq7_1, ixq7_2, ixq7_3, ixq7_4, ixq7_5, ixq7_6, ixq8_0, ixq8_1, ixq8_2, ixq8_3, ixq8_4, ixq8_5, ixq8_6, ixq8_7, Res.bind_ok, Res.bind_err, Res.bind_bad, List.getElem?_cons_zero, List.getElem?_cons_succ, List.set_cons_zero, List.set_cons_succ, List.map_cons, List.map_nil, List.cons_append, List.nil_append, List.append_nil, List.length_cons, List.length_nil, List.replicate, List.take, if_true, if_false, ite_true, ite_false, reduceIte, Nat.reduceAdd, Nat.reduceSub, Nat.reduceLeDiff, Bool.false_eq_true, Nat.reduceEqDiff, Nat.add_eq, Nat.add_zero, Nat.zero_add, Option.bind_some, Option.map_some, Nat.sub_self, eq_self, and_self, and_true, true_and, Bool.and_true, Bool.true_and, Bool.and_false, Bool.false_and, Bool.or_true, Bool.true_or, Bool.or_false, Bool.false_or, Bool.not_true, Bool.not_false, String.reduceBEq, decide_true, decide_false, List.reverse_cons, List.reverse_nil, List.isEmpty_cons, List.isEmpty_nil, Option.getD_some, Int.reduceLT, Int.reduceLE, Int.reduceEq, Int.reduceAdd, Int.reduceSub, Int.reduceMul, Int.reduceNeg, Nat.reduceLT, Nat.reduceMul, not_true_eq_false, not_false_eq_true, and_false, false_and, List.length_map, Int.natCast_zero, Int.reduceToNat, Int.cast_ofNat_Int, Int.reduceFDiv, Int.reduceFMod, Int.reduceBEq, Int.reduceBNe, Int.reduceNe, Nat.reduceBEq, Int.reducePow, ite_self]
  have t1 : tabX "BadBeat" "BadBeat" = some true := by rfl
  have t4 : (["BadBeat"] : List Str).contains "BadBeat" = true := by rfl
  have t5 : List.lookup ("index" : Str) (List.zip ["what", "index"] [.str p.2, D.int 0]) = some (.int 0) := by rfl
  have t6 : List.lookup ("what" : Str) (List.zip ["what", "index"] [.str p.2, D.int 0]) = some (.str p.2) := by rfl
  simp (disch := first | assumption | decide | omega) only [fn__law_refused, den__law_refused, q, t1, t4, t5, t6, dC_a, dVar_a, dSlot_a, dMove_a, dLV_a, dFrz_a, frzE_val, frzE_mu, dVal_a, get_v, get_s, dBin_a, dNeg_a, dTB_a, dBT_a, dTru_a, dNotT_a, dAndT_a, dOrT_a, dAndV_a, dOrV_a, dNotL_a, dIf_a, dIfF_a, dChain_a, dVs_n, dVs_c, dArs_n, dArs_c, dTup_a, dLst_a, getAll_n, getAll_c, dCB_a, dCallR_a, dIsi_a, dSeq_a, dSkip_a, dIfS_a, dRet_a, dSet_a, dAsg_a, asN_a, asT_a, asT_l, asC_a, asNil_a, dPar_a, dPut_a, dExp_a, dApp_a, dFor_a, loopF_n, dIt_a, gDiv_i, gMul_i, gMod_i, gEq_int, gNe_int, at0, at1, at2, at3, gAdd_i, gSub_i, gLt_i, gLe_i, gGt_i, gGe_i, gInt_i, gLen_l, gLen_f, gLen_t, gAbs_i, its_l, its_t, its_f, mkFn_s, stF_rt, stF_nx, stF_er, dCall_s, dCall0_s, dCallK_s, dIsK_e, dAt_e, dRev_e, dPar3_e, dEnum_e, dZip_e, enumD_n, enumD_c, zipD_c, zipD_n, zipD_m, dRng1_e, dPs_e, dPn_e, dSl_e, frzS_e, noX_n, noX_v, noX_m, noX_u, noX_x, finX_s, finX_n, dBreak_e, dCont_e, rngD_z, rngD_s, dTrue_e, dLc_e, loopC_n, loopC_k, goC_s, goC_o, eleC_e, bindX_o, loopF_c, wipeE_n, wipeE_c, restE_n, restE_c, okOwn_n, okOwn_c, dTry_e, runH_n, runH_c, dRaise_e, dXf_e, shp_i, shp_b, shp_o, shp_s, shp_t, shp_l, shp_f, shps_n, shps_c, gEq_ci, gNe_ci, gEq_cb, gNe_cb, gEq_cs, gNe_cs, gEq_co, gNe_co, gEq_ct, gNe_ct, gEq_cl, gNe_cl, gEq_cf, gNe_cf, deq_ii, deq_bb, deq_bi, deq_ib, deq_ss, deq_tt, deq_ll, deq_lf, deq_fl, deq_ff, deq_oo, deqs_nn, deqs_cc, deqs_nc, deqs_cn, deq_oi, deq_io, deq_ob, deq_bo, deq_os, deq_so, deq_ot, deq_to, deq_ol, deq_lo, deq_it, deq_ti, deq_il, deq_li, deq_is, deq_si, deq_tl, deq_lt, deq_ts, deq_st, deq_ls, deq_sl, deq_bt, deq_tb, deq_bs, deq_sb, tru_b, tru_l, tru_t, tru_i, tru_o, ni_i, ni_b, ni_s, ni_o, ni_t, ni_l, ni_f, isTs_n, isTs_c, isT_i, isT_b, isT_s, isT_t, isT_l, isT_f, isT_o, gIs_n, gIs_bb, gIsNot_n, gIsNot_bb, isN_o, isN_i, isN_b, isN_s, isN_t, isN_l, isN_f, gList_t, gList_l, gList_f, gTuple_l, gTuple_f, gTuple_t, gIx_t, gIx_l, gIx_f, gSl_t, gSl_l, gSl_f, gEqS_e, gNeS_e, st_ok, st_err, st_bad, fl_m, fl_i, fl_b, fl_s, fl_o, fl_t, fl_l, fl_f, fl_n, fl_g, frzAr_n, frzAr_v, frzAr_s, hasS_n, hasS_v, hasS_s, vb_e, at4, at5, at6, at7, at8, at9, at10, at11, at12, atm1_1, atm1_2, atm1_3, atm1_4, atm1_5, atm1_6, atm1_7, atm1_8, ixq1_0, ixq2_0, ixq2_1, ixq3_0, ixq3_1, ixq3_2, ixq4_0, ixq4_1, ixq4_2, ixq4_3, ixq5_0, ixq5_1, ixq5_2, ixq5_3, ixq5_4, ixq6_0, ixq6_1, ixq6_2, ixq6_3, ixq6_4, ixq6_5, ixq7_0, ixq7_1, ixq7_2, ixq7_3, ixq7_4, ixq7_5, ixq7_6, ixq8_0, ixq8_1, ixq8_2, ixq8_3, ixq8_4, ixq8_5, ixq8_6, ixq8_7, Res.bind_ok, Res.bind_err, Res.bind_bad, List.getElem?_cons_zero, List.getElem?_cons_succ, List.set_cons_zero, List.set_cons_succ, List.map_cons, List.map_nil, List.cons_append, List.nil_append, List.append_nil, List.length_cons, List.length_nil, List.replicate, List.take, if_true, if_false, ite_true, ite_false, reduceIte, Nat.reduceAdd, Nat.reduceSub, Nat.reduceLeDiff, Bool.false_eq_true, Nat.reduceEqDiff, Nat.add_eq, Nat.add_zero, Nat.zero_add, Option.bind_some, Option.map_some, Nat.sub_self, eq_self, and_self, and_true, true_and, Bool.and_true, Bool.true_and, Bool.and_false, Bool.false_and, Bool.or_true, Bool.true_or, Bool.or_false, Bool.false_or, Bool.not_true, Bool.not_false, String.reduceBEq, decide_true, decide_false, List.reverse_cons, List.reverse_nil, List.isEmpty_cons, List.isEmpty_nil, Option.getD_some, Int.reduceLT, Int.reduceLE, Int.reduceEq, Int.reduceAdd, Int.reduceSub, Int.reduceMul, Int.reduceNeg, Nat.reduceLT, Nat.reduceMul, not_true_eq_false, not_false_eq_true, and_false, false_and, List.length_map, Int.natCast_zero, Int.reduceToNat, Int.cast_ofNat_Int, Int.reduceFDiv, Int.reduceFMod, Int.reduceBEq, Int.reduceBNe, Int.reduceNe, Nat.reduceBEq, Int.reducePow, ite_self]
theorem refused2 {p : D × String} (h : p ∈ oddB) {d : D} {x y : Rat} (hb : Bt d x y) : (fn__law_refused [.val d, .val p.1]).st = .ok (.val (.tup [.int 1, .str p.2])) [] := by
  have q : (fn_common_time [.val d, .val p.1]).st = .err "BadBeat" ["what", "index"] [.str p.2, .int 1] [] := by simp (disch := first | assumption | decide | omega) only [fn_common_time, den_common_time, check_beat_ev hb, odd_check h 1, dC_a, dVar_a, dSlot_a, dMove_a, dLV_a, dFrz_a, frzE_val, frzE_mu, dVal_a, get_v, get_s, dBin_a, dNeg_a, dTB_a, dBT_a, dTru_a, dNotT_a, dAndT_a, dOrT_a, dAndV_a, dOrV_a, dNotL_a, dIf_a, dIfF_a, dChain_a, dVs_n, dVs_c, dArs_n, dArs_c, dTup_a, dLst_a, getAll_n, getAll_c, dCB_a, dCallR_a, dIsi_a, dSeq_a, dSkip_a, dIfS_a, dRet_a, dSet_a, dAsg_a, asN_a, asT_a, asT_l, asC_a, asNil_a, dPar_a, dPut_a, dExp_a, dApp_a, dFor_a, loopF_n, dIt_a, gDiv_i, gMul_i, gMod_i, gEq_int, gNe_int, at0, at1, at2, at3, gAdd_i, gSub_i, gLt_i, gLe_i, gGt_i, gGe_i, gInt_i, gLen_l, gLen_f, gLen_t, gAbs_i, its_l, its_t, its_f, mkFn_s, stF_rt, stF_nx, stF_er, dCall_s, dCall0_s, dCallK_s, dIsK_e, dAt_e, dRev_e, dPar3_e, dEnum_e, dZip_e, enumD_n, enumD_c, zipD_c, zipD_n, zipD_m, dRng1_e, dPs_e, dPn_e, dSl_e, frzS_e, noX_n, noX_v, noX_m, noX_u, noX_x, finX_s, finX_n, dBreak_e, dCont_e, rngD_z, rngD_s, dTrue_e, dLc_e, loopC_n, loopC_k, goC_s, goC_o, eleC_e, bindX_o, loopF_c, wipeE_n, wipeE_c, restE_n, restE_c, okOwn_n, okOwn_c, dTry_e, runH_n, runH_c, dRaise_e, dXf_e, shp_i, shp_b, shp_o, shp_s, shp_t, shp_l, shp_f, shps_n, shps_c, gEq_ci, gNe_ci, gEq_cb, gNe_cb, gEq_cs, gNe_cs, gEq_co, gNe_co, gEq_ct, gNe_ct, gEq_cl, gNe_cl, gEq_cf, gNe_cf, deq_ii, deq_bb, deq_bi, deq_ib, deq_ss, deq_tt, deq_ll, deq_lf, deq_fl, deq_ff, deq_oo, deqs_nn, deqs_cc, deqs_nc, deqs_cn, deq_oi, deq_io, deq_ob, deq_bo, deq_os, deq_so, deq_ot, deq_to, deq_ol, deq_lo, deq_it, deq_ti, deq_il, deq_li, deq_is, deq_si, deq_tl, deq_lt, deq_ts, deq_st, deq_ls, deq_sl, deq_bt, deq_tb, deq_bs, deq_sb, tru_b, tru_l, tru_t, tru_i, tru_o, ni_i, ni_b, ni_s, ni_o, ni_t, ni_l, ni_f, isTs_n, isTs_c, isT_i, isT_b, isT_s, isT_t, isT_l, isT_f, isT_o, gIs_n, gIs_bb, gIsNot_n, gIsNot_bb, isN_o, isN_i, isN_b, isN_s, isN_t, isN_l, isN_f, gList_t, gList_l, gList_f, gTuple_l, gTuple_f, gTuple_t, gIx_t, gIx_l, gIx_f, gSl_t, gSl_l, gSl_f, gEqS_e, gNeS_e, st_ok, st_err, st_bad, fl_m, fl_i, fl_b, fl_s, fl_o, fl_t, fl_l, fl_f, fl_n, fl_g, frzAr_n, frzAr_v, frzAr_s, hasS_n, hasS_v, hasS_s, vb_e, at4, at5, at6, at7, at8, at9, at10, at11, at12, atm1_1, atm1_2, atm1_3, atm1_4, atm1_5, atm1_6, atm1_7, atm1_8, ixq1_0, ixq2_0, ixq2_1, ixq3_0, ixq3_1, ixq3_2, ixq4_0, ixq4_1, ixq4_2, ixq4_3, ixq5_0, ixq5_1, ixq5_2, ixq5_3, ixq5_4, ixq6_0, ixq6_1, ixq6_2, ixq6_3, ixq6_4, ixq6_5, ixq7_0, ixq7_1, ixq7_2, ixq7_3, ixq7_4, ixq7_5, ixq7_6, ixq8_0, ixq8_1, ixq8_2, ixq8_3, ixq8_4, ixq8_5, ixq8_6, ixq8_7, Res.bind_ok, Res.bind_err, Res.bind_bad, List.getElem?_cons_zero, List.getElem?_cons_succ, List.set_cons_zero, List.set_cons_succ, List.map_cons, List.map_nil, List.cons_append, List.nil_append, List.append_nil, List.length_cons, List.length_nil, List.replicate, List.take, if_true, if_false, ite_true, ite_false, reduceIte, Nat.reduceAdd, Nat.reduceSub, Nat.reduceLeDiff, Bool.false_eq_true, Nat.reduceEqDiff, Nat.add_eq, Nat.add_zero, Nat.zero_add, Option.bind_some, Option.map_some, Nat.sub_self, eq_self, and_self, and_true, true_and, Bool.and_true, Bool.true_and, Bool.and_false, Bool.false_and, Bool.or_true, Bool.true_or, Bool.or_false, Bool.false_or, Bool.not_true, Bool.not_false, String.reduceBEq, decide_true, decide_false, List.reverse_cons, List.reverse_nil, List.isEmpty_cons, List.isEmpty_nil, Option.getD_some, Int.reduceLT, Int.reduceLE, Int.reduceEq, Int.reduceAdd, Int.reduceSub, Int.reduceMul, Int.reduceNeg, Nat.reduceLT, Nat.reduceMul, not_true_eq_false, not_false_eq_true, and_false, false_and, List.length_map, Int.natCast_zero, Int.reduceToNat, Int.cast_ofNat_Int, Int.reduceFDiv, Int.reduceFMod, Int.reduceBEq, Int.reduceBNe, Int.reduceNe, Nat.reduceBEq, Int.reducePow, ite_self]
  have t1 : tabX "BadBeat" "BadBeat" = some true := by rfl
  have t4 : (["BadBeat"] : List Str).contains "BadBeat" = true := by rfl
  have t5 : List.lookup ("index" : Str) (List.zip ["what", "index"] [.str p.2, D.int 1]) = some (.int 1) := by rfl
  have t6 : List.lookup ("what" : Str) (List.zip ["what", "index"] [.str p.2, D.int 1]) = some (.str p.2) := by rfl
  simp (disch := first | assumption | decide | omega) only [fn__law_refused, den__law_refused, q, t1, t4, t5, t6, dC_a, dVar_a, dSlot_a, dMove_a, dLV_a, dFrz_a, frzE_val, frzE_mu, dVal_a, get_v, get_s, dBin_a, dNeg_a, dTB_a, dBT_a, dTru_a, dNotT_a, dAndT_a, dOrT_a, dAndV_a, dOrV_a, dNotL_a, dIf_a, dIfF_a, dChain_a, dVs_n, dVs_c, dArs_n, dArs_c, dTup_a, dLst_a, getAll_n, getAll_c, dCB_a, dCallR_a, dIsi_a, dSeq_a, dSkip_a, dIfS_a, dRet_a, dSet_a, dAsg_a, asN_a, asT_a, asT_l, asC_a, asNil_a, dPar_a, dPut_a, dExp_a, dApp_a, dFor_a, loopF_n, dIt_a, gDiv_i, gMul_i, gMod_i, gEq_int, gNe_int, at0, at1, at2, at3, gAdd_i, gSub_i, gLt_i, gLe_i, gGt_i, gGe_i, gInt_i, gLen_l, gLen_f, gLen_t, gAbs_i, its_l, its_t, its_f, mkFn_s, stF_rt, stF_nx, stF_er, dCall_s, dCall0_s, dCallK_s, dIsK_e, dAt_e, dRev_e, dPar3_e, dEnum_e, dZip_e, enumD_n, enumD_c, zipD_c, zipD_n, zipD_m, dRng1_e, dPs_e, dPn_e, dSl_e, frzS_e, noX_n, noX_v, noX_m, noX_u, noX_x, finX_s, finX_n, dBreak_e, dCont_e, rngD_z, rngD_s, dTrue_e, dLc_e, loopC_n, loopC_k, goC_s, goC_o, eleC_e, bindX_o, loopF_c, wipeE_n, wipeE_c, restE_n, restE_c, okOwn_n, okOwn_c, dTry_e, runH_n, runH_c, dRaise_e, dXf_e, shp_i, shp_b, shp_o, shp_s, shp_t, shp_l, shp_f, shps_n, shps_c, gEq_ci, gNe_ci, gEq_cb, gNe_cb, gEq_cs, gNe_cs, gEq_co, gNe_co, gEq_ct, gNe_ct, gEq_cl, gNe_cl, gEq_cf, gNe_cf, deq_ii, deq_bb, deq_bi, deq_ib, deq_ss, deq_tt, deq_ll, deq_lf, deq_fl, deq_ff, deq_oo, deqs_nn, deqs_cc, deqs_nc, deqs_cn, deq_oi, deq_io, deq_ob, deq_bo, deq_os, deq_so, deq_ot, deq_to, deq_ol, deq_lo, deq_it, deq_ti, deq_il, deq_li, deq_is, deq_si, deq_tl, deq_lt, deq_ts, deq_st, deq_ls, deq_sl, deq_bt, deq_tb, deq_bs, deq_sb, tru_b, tru_l, tru_t, tru_i, tru_o, ni_i, ni_b, ni_s, ni_o, ni_t, ni_l, ni_f, isTs_n, isTs_c, isT_i, isT_b, isT_s, isT_t, isT_l, isT_f, isT_o, gIs_n, gIs_bb, gIsNot_n, gIsNot_bb, isN_o, isN_i, isN_b, isN_s, isN_t, isN_l, isN_f, gList_t, gList_l, gList_f, gTuple_l, gTuple_f, gTuple_t, gIx_t, gIx_l, gIx_f, gSl_t, gSl_l, gSl_f, gEqS_e, gNeS_e, st_ok, st_err, st_bad, fl_m, fl_i, fl_b, fl_s, fl_o, fl_t, fl_l, fl_f, fl_n, fl_g, frzAr_n, frzAr_v, frzAr_s, hasS_n, hasS_v, hasS_s, vb_e, at4, at5, at6, at7, at8, at9, at10, at11, at12, atm1_1, atm1_2, atm1_3, atm1_4, atm1_5, atm1_6, atm1_7, atm1_8, ixq1_0, ixq2_0, ixq2_1, ixq3_0, ixq3_1, ixq3_2, ixq4_0, ixq4_1, ixq4_2, ixq4_3, ixq5_0, ixq5_1, ixq5_2, ixq5_3, ixq5_4, ixq6_0, ixq6_1, ixq6_2, ixq6_3, ixq6_4, ixq6_5, ixq7_0, ixq7_1, ixq7_2, ixq7_3, ixq7_4, ixq7_5, ixq7_6, ixq8_0, ixq8_1, ixq8_2, ixq8_3, ixq8_4, ixq8_5, ixq8_6, ixq8_7, Res.bind_ok, Res.bind_err, Res.bind_bad, List.getElem?_cons_zero, List.getElem?_cons_succ, List.set_cons_zero, List.set_cons_succ, List.map_cons, List.map_nil, List.cons_append, List.nil_append, List.append_nil, List.length_cons, List.length_nil, List.replicate, List.take, if_true, if_false, ite_true, ite_false, reduceIte, Nat.reduceAdd, Nat.reduceSub, Nat.reduceLeDiff, Bool.false_eq_true, Nat.reduceEqDiff, Nat.add_eq, Nat.add_zero, Nat.zero_add, Option.bind_some, Option.map_some, Nat.sub_self, eq_self, and_self, and_true, true_and, Bool.and_true, Bool.true_and, Bool.and_false, Bool.false_and, Bool.or_true, Bool.true_or, Bool.or_false, Bool.false_or, Bool.not_true, Bool.not_false, String.reduceBEq, decide_true, decide_false, List.reverse_cons, List.reverse_nil, List.isEmpty_cons, List.isEmpty_nil, Option.getD_some, Int.reduceLT, Int.reduceLE, Int.reduceEq, Int.reduceAdd, Int.reduceSub, Int.reduceMul, Int.reduceNeg, Nat.reduceLT, Nat.reduceMul, not_true_eq_false, not_false_eq_true, and_false, false_and, List.length_map, Int.natCast_zero, Int.reduceToNat, Int.cast_ofNat_Int, Int.reduceFDiv, Int.reduceFMod, Int.reduceBEq, Int.reduceBNe, Int.reduceNe, Nat.reduceBEq, Int.reducePow, ite_self]
theorem odd_ix {t : Int} (h : 0 ≤ t ∧ t < 8) : ∃ p, p ∈ oddB ∧ gIx (.lst oddD) (.int t) = some (.val (.lst [p.1, .str p.2])) := by
  rcases (by omega : t = 0 ∨ t = 1 ∨ t = 2 ∨ t = 3 ∨ t = 4 ∨ t = 5 ∨ t = 6 ∨ t = 7) with rfl | rfl | rfl | rfl | rfl | rfl | rfl | rfl
  all_goals first | exact ⟨_, List.mem_of_getElem? (i := 0) rfl, rfl⟩ | exact ⟨_, List.mem_of_getElem? (i := 1) rfl, rfl⟩ | exact ⟨_, List.mem_of_getElem? (i := 2) rfl, rfl⟩ | exact ⟨_, List.mem_of_getElem? (i := 3) rfl, rfl⟩ | exact ⟨_, List.mem_of_getElem? (i := 4) rfl, rfl⟩ | exact ⟨_, List.mem_of_getElem? (i := 5) rfl, rfl⟩ | exact ⟨_, List.mem_of_getElem? (i := 6) rfl, rfl⟩ | exact ⟨_, List.mem_of_getElem? (i := 7) rfl, rfl⟩
theorem odd_eq {p : D × String} (h : p ∈ oddB) (i : Int) : gEq (.tup [.int i, .str p.2]) (.tup [.int i, .str p.2]) = vb true := by
  refine gEq_self ?_
  rw [shp_t, shps_c, shps_c, shps_n, shp_i, shp_s]
  simp only [oddB, List.mem_cons, List.not_mem_nil, or_false] at h
  rcases h with rfl | rfl | rfl | rfl | rfl | rfl | rfl | rfl <;> decide +kernel
theorem refusals_ev (xs : List D) (h : HandOk xs) {d : D} {x y : Rat} (hb : Bt d x y) : ∃ ys, fn__law_refusals [.mu xs, .val d] = .ok (.val (.bl true)) [.mu ys, .val d] ∧ HandOk ys := by
  obtain ⟨t1, y1, e1, h1, a1, b1⟩ := take_ev xs h 8 (by decide) (by decide)
  obtain ⟨t2, y2, e2, h2, a2, b2⟩ := take_ev y1 h1 8 (by decide) (by decide)
  obtain ⟨p, hp, i1⟩ := odd_ix ⟨a1, b1⟩
  obtain ⟨q, hq, i2⟩ := odd_ix ⟨a2, b2⟩
  refine ⟨y2, ?_, h2⟩
  have ad : ∀ {a b c d e f g h : D}, gAdd (.lst [a, b, c, d, e]) (.lst [f, g, h]) = some (.mu [a, b, c, d, e, f, g, h]) := rfl
  have fo : [D.lst [.non, .str "couple"], .lst [.tup [.tup [.int 1, .int 2]], .str "couple"], .lst [.tup [.int 5, .tup [.int 1, .int 1]], .str "first"], .lst [.tup [.tup [.int 2, .int 4], .non], .str "first"], .lst [.tup [.tup [.bl true, .int 1], .tup [.int 1, .int 1]], .str "first"], .lst [.tup [.tup [.int 1, .int 2], .tup [.int (-1), .int 3]], .str "every"], .lst [.tup [.tup [.int 1, .int 2], .tup [.int 4, .int 2]], .str "every"], .lst [.tup [.tup [.int 0, .int 1], .non], .str "every"]] = oddD := rfl
  have r1 := refused1 hp q.1
  have r2 := refused2 hq hb
  have g1 := odd_eq hp 0
  have g2 := odd_eq hq 1
  obtain ⟨po, pw⟩ := p
  obtain ⟨qo, qw⟩ := q
  simp only [fn__law_refusals, den__law_refusals, mkFn_a, finF, ad, fo, e1, e2, ↓i1, ↓i2, r1, r2, ↓g1, ↓g2, dC_a, dVar_a, dSlot_a, dMove_a, dLV_a, dFrz_a, frzE_val, frzE_mu, dVal_a, get_v, get_s, dBin_a, dNeg_a, dTB_a, dBT_a, dTru_a, dNotT_a, dAndT_a, dOrT_a, dAndV_a, dOrV_a, dNotL_a, dIf_a, dIfF_a, dChain_a, dVs_n, dVs_c, dArs_n, dArs_c, dTup_a, dLst_a, getAll_n, getAll_c, dCB_a, dCallR_a, dIsi_a, dSeq_a, dSkip_a, dIfS_a, dRet_a, dSet_a, dAsg_a, asN_a, asT_a, asT_l, asC_a, asNil_a, dPar_a, dPut_a, dExp_a, dApp_a, dFor_a, loopF_n, dIt_a, gDiv_i, gMul_i, gMod_i, gEq_int, gNe_int, at0, at1, at2, at3, gAdd_i, gSub_i, gLt_i, gLe_i, gGt_i, gGe_i, gInt_i, gLen_l, gLen_f, gLen_t, gAbs_i, its_l, its_t, its_f, mkFn_s, stF_rt, stF_nx, stF_er, dCall_s, dCall0_s, dCallK_s, dIsK_e, dAt_e, dRev_e, dPar3_e, dEnum_e, dZip_e, enumD_n, enumD_c, zipD_c, zipD_n, zipD_m, dRng1_e, dPs_e, dPn_e, dSl_e, frzS_e, noX_n, noX_v, noX_m, noX_u, noX_x, finX_s, finX_n, dBreak_e, dCont_e, rngD_z, rngD_s, dTrue_e, dLc_e, loopC_n, loopC_k, goC_s, goC_o, eleC_e, bindX_o, loopF_c, wipeE_n, wipeE_c, restE_n, restE_c, okOwn_n, okOwn_c, dTry_e, runH_n, runH_c, dRaise_e, dXf_e, shp_i, shp_b, shp_o, shp_s, shp_t, shp_l, shp_f, shps_n, shps_c, gEq_ci, gNe_ci, gEq_cb, gNe_cb, gEq_cs, gNe_cs, gEq_co, gNe_co, gEq_ct, gNe_ct, gEq_cl, gNe_cl, gEq_cf, gNe_cf, deq_ii, deq_bb, deq_bi, deq_ib, deq_ss, deq_tt, deq_ll, deq_lf, deq_fl, deq_ff, deq_oo, deqs_nn, deqs_cc, deqs_nc, deqs_cn, deq_oi, deq_io, deq_ob, deq_bo, deq_os, deq_so, deq_ot, deq_to, deq_ol, deq_lo, deq_it, deq_ti, deq_il, deq_li, deq_is, deq_si, deq_tl, deq_lt, deq_ts, deq_st, deq_ls, deq_sl, deq_bt, deq_tb, deq_bs, deq_sb, tru_b, tru_l, tru_t, tru_i, tru_o, ni_i, ni_b, ni_s, ni_o, ni_t, ni_l, ni_f, isTs_n, isTs_c, isT_i, isT_b, isT_s, isT_t, isT_l, isT_f, isT_o, gIs_n, gIs_bb, gIsNot_n, gIsNot_bb, isN_o, isN_i, isN_b, isN_s, isN_t, isN_l, isN_f, gList_t, gList_l, gList_f, gTuple_l, gTuple_f, gTuple_t, gIx_t, gIx_l, gIx_f, gSl_t, gSl_l, gSl_f, gEqS_e, gNeS_e, st_ok, st_err, st_bad, fl_m, fl_i, fl_b, fl_s, fl_o, fl_t, fl_l, fl_f, fl_n, fl_g, frzAr_n, frzAr_v, frzAr_s, hasS_n, hasS_v, hasS_s, vb_e, at4, at5, at6, at7, at8, at9, at10, at11, at12, atm1_1, atm1_2, atm1_3, atm1_4, atm1_5, atm1_6, atm1_7, atm1_8, ixq1_0, ixq2_0, ixq2_1, ixq3_0, ixq3_1, ixq3_2, ixq4_0, ixq4_1, ixq4_2, ixq4_3, ixq5_0, ixq5_1, ixq5_2, ixq5_3, ixq5_4, ixq6_0, ixq6_1, ixq6_2, ixq6_3, ixq6_4, ixq6_5, ixq7_0, ixq7_1, ixq7_2, ixq7_3, ixq7_4, ixq7_5, ixq7_6, ixq8_0, ixq8_1, ixq8_2, ixq8_3, ixq8_4, ixq8_5, ixq8_6, ixq8_7, Res.bind_ok, Res.bind_err, Res.bind_bad, List.getElem?_cons_zero, List.getElem?_cons_succ, List.set_cons_zero, List.set_cons_succ, List.map_cons, List.map_nil, List.cons_append, List.nil_append, List.append_nil, List.length_cons, List.length_nil, List.replicate, List.take, if_true, if_false, ite_true, ite_false, reduceIte, Nat.reduceAdd, Nat.reduceSub, Nat.reduceLeDiff, Bool.false_eq_true, Nat.reduceEqDiff, Nat.add_eq, Nat.add_zero, Nat.zero_add, Option.bind_some, Option.map_some, Nat.sub_self, eq_self, and_self, and_true, true_and, Bool.and_true, Bool.true_and, Bool.and_false, Bool.false_and, Bool.or_true, Bool.true_or, Bool.or_false, Bool.false_or, Bool.not_true, Bool.not_false, String.reduceBEq, decide_true, decide_false, List.reverse_cons, List.reverse_nil, List.isEmpty_cons, List.isEmpty_nil, Option.getD_some, Int.reduceLT, Int.reduceLE, Int.reduceEq, Int.reduceAdd, Int.reduceSub, Int.reduceMul, Int.reduceNeg, Nat.reduceLT, Nat.reduceMul, not_true_eq_false, not_false_eq_true, and_false, false_and, List.length_map, Int.natCast_zero, Int.reduceToNat, Int.cast_ofNat_Int, Int.reduceFDiv, Int.reduceFMod, Int.reduceBEq, Int.reduceBNe, Int.reduceNe, Nat.reduceBEq, Int.reducePow, ite_self]
end Kx

set_option linter.all false
set_option maxRecDepth 100000
set_option maxHeartbeats 4000000
namespace Kx
open PySem PySem.Spec PyProof.Rows L2 Ev
theorem tuples_i (n : Nat) (i : Int) : (recFn 1 2 den__law_tuples (n + 1) [.val (.int i)]).st = .ok (.val (.bl true)) [] := by
  simp (disch := first | assumption | decide | omega) only [recFn_st, den__law_tuples, dC_a, dVar_a, dSlot_a, dMove_a, dLV_a, dFrz_a, frzE_val, frzE_mu, dVal_a, get_v, get_s, dBin_a, dNeg_a, dTB_a, dBT_a, dTru_a, dNotT_a, dAndT_a, dOrT_a, dAndV_a, dOrV_a, dNotL_a, dIf_a, dIfF_a, dChain_a, dVs_n, dVs_c, dArs_n, dArs_c, dTup_a, dLst_a, getAll_n, getAll_c, dCB_a, dCallR_a, dIsi_a, dSeq_a, dSkip_a, dIfS_a, dRet_a, dSet_a, dAsg_a, asN_a, asT_a, asT_l, asC_a, asNil_a, dPar_a, dPut_a, dExp_a, dApp_a, dFor_a, loopF_n, dIt_a, gDiv_i, gMul_i, gMod_i, gEq_int, gNe_int, at0, at1, at2, at3, gAdd_i, gSub_i, gLt_i, gLe_i, gGt_i, gGe_i, gInt_i, gLen_l, gLen_f, gLen_t, gAbs_i, its_l, its_t, its_f, mkFn_s, stF_rt, stF_nx, stF_er, dCall_s, dCall0_s, dCallK_s, dIsK_e, dAt_e, dRev_e, dPar3_e, dEnum_e, dZip_e, enumD_n, enumD_c, zipD_c, zipD_n, zipD_m, dRng1_e, dPs_e, dPn_e, dSl_e, frzS_e, noX_n, noX_v, noX_m, noX_u, noX_x, finX_s, finX_n, dBreak_e, dCont_e, rngD_z, rngD_s, dTrue_e, dLc_e, loopC_n, loopC_k, goC_s, goC_o, eleC_e, bindX_o, loopF_c, wipeE_n, wipeE_c, restE_n, restE_c, okOwn_n, okOwn_c, dTry_e, runH_n, runH_c, dRaise_e, dXf_e, shp_i, shp_b, shp_o, shp_s, shp_t, shp_l, shp_f, shps_n, shps_c, gEq_ci, gNe_ci, gEq_cb, gNe_cb, gEq_cs, gNe_cs, gEq_co, gNe_co, gEq_ct, gNe_ct, gEq_cl, gNe_cl, gEq_cf, gNe_cf, deq_ii, deq_bb, deq_bi, deq_ib, deq_ss, deq_tt, deq_ll, deq_lf, deq_fl, deq_ff, deq_oo, deqs_nn, deqs_cc, deqs_nc, deqs_cn, deq_oi, deq_io, deq_ob, deq_bo, deq_os, deq_so, deq_ot, deq_to, deq_ol, deq_lo, deq_it, deq_ti, deq_il, deq_li, deq_is, deq_si, deq_tl, deq_lt, deq_ts, deq_st, deq_ls, deq_sl, deq_bt, deq_tb, deq_bs, deq_sb, tru_b, tru_l, tru_t, tru_i, tru_o, ni_i, ni_b, ni_s, ni_o, ni_t, ni_l, ni_f, isTs_n, isTs_c, isT_i, isT_b, isT_s, isT_t, isT_l, isT_f, isT_o, gIs_n, gIs_bb, gIsNot_n, gIsNot_bb, isN_o, isN_i, isN_b, isN_s, isN_t, isN_l, isN_f, gList_t, gList_l, gList_f, gTuple_l, gTuple_f, gTuple_t, gIx_t, gIx_l, gIx_f, gSl_t, gSl_l, gSl_f, gEqS_e, gNeS_e, st_ok, st_err, st_bad, fl_m, fl_i, fl_b, fl_s, fl_o, fl_t, fl_l, fl_f, fl_n, fl_g, frzAr_n, frzAr_v, frzAr_s, hasS_n, hasS_v, hasS_s, vb_e, at4, at5, at6, at7, at8, at9, at10, at11, at12, atm1_1, atm1_2, atm1_3, atm1_4, atm1_5, atm1_6, atm1_7, atm1_8, ixq1_0, ixq2_0, ixq2_1, ixq3_0, ixq3_1, ixq3_2, ixq4_0, ixq4_1, ixq4_2, ixq4_3, ixq5_0, ixq5_1, ixq5_2, ixq5_3, ixq5_4, ixq6_0, ixq6_1, ixq6_2, ixq6_3, ixq6_4, ixq6_5, ixq7_0, ixq7_1, ixq7_2, ixq7_3, ixq7_4, ixq7_5, ixq7_6, ixq8_0, ixq8_1, ixq8_2, ixq8_3, ixq8_4, ixq8_5, ixq8_6, ixq8_7, Res.bind_ok, Res.bind_err, Res.bind_bad, List.getElem?_cons_zero, List.getElem?_cons_succ, List.set_cons_zero, List.set_cons_succ, List.map_cons, List.map_nil, List.cons_append, List.nil_append, List.append_nil, List.length_cons, List.length_nil, List.replicate, List.take, if_true, if_false, ite_true, ite_false, reduceIte, Nat.reduceAdd, Nat.reduceSub, Nat.reduceLeDiff, Bool.false_eq_true, Nat.reduceEqDiff, Nat.add_eq, Nat.add_zero, Nat.zero_add, Option.bind_some, Option.map_some, Nat.sub_self, eq_self, and_self, and_true, true_and, Bool.and_true, Bool.true_and, Bool.and_false, Bool.false_and, Bool.or_true, Bool.true_or, Bool.or_false, Bool.false_or, Bool.not_true, Bool.not_false, String.reduceBEq, decide_true, decide_false, List.reverse_cons, List.reverse_nil, List.isEmpty_cons, List.isEmpty_nil, Option.getD_some, Int.reduceLT, Int.reduceLE, Int.reduceEq, Int.reduceAdd, Int.reduceSub, Int.reduceMul, Int.reduceNeg, Nat.reduceLT, Nat.reduceMul, not_true_eq_false, not_false_eq_true, and_false, false_and, List.length_map, Int.natCast_zero, Int.reduceToNat, Int.cast_ofNat_Int, Int.reduceFDiv, Int.reduceFMod, Int.reduceBEq, Int.reduceBNe, Int.reduceNe, Nat.reduceBEq, Int.reducePow, ite_self]
theorem tuples_2 (a b : Int) : (fn__law_tuples [.val (.tup [.int a, .int b])]).st = .ok (.val (.bl true)) [] := by
  show (recFn 1 2 den__law_tuples (11 + 1) _).st = _
  simp (disch := first | assumption | decide | omega) only [recFn_st (n := 11), den__law_tuples, tuples_i 10, cd__law_tuples_1, el__law_tuples_2, dC_a, dVar_a, dSlot_a, dMove_a, dLV_a, dFrz_a, frzE_val, frzE_mu, dVal_a, get_v, get_s, dBin_a, dNeg_a, dTB_a, dBT_a, dTru_a, dNotT_a, dAndT_a, dOrT_a, dAndV_a, dOrV_a, dNotL_a, dIf_a, dIfF_a, dChain_a, dVs_n, dVs_c, dArs_n, dArs_c, dTup_a, dLst_a, getAll_n, getAll_c, dCB_a, dCallR_a, dIsi_a, dSeq_a, dSkip_a, dIfS_a, dRet_a, dSet_a, dAsg_a, asN_a, asT_a, asT_l, asC_a, asNil_a, dPar_a, dPut_a, dExp_a, dApp_a, dFor_a, loopF_n, dIt_a, gDiv_i, gMul_i, gMod_i, gEq_int, gNe_int, at0, at1, at2, at3, gAdd_i, gSub_i, gLt_i, gLe_i, gGt_i, gGe_i, gInt_i, gLen_l, gLen_f, gLen_t, gAbs_i, its_l, its_t, its_f, mkFn_s, stF_rt, stF_nx, stF_er, dCall_s, dCall0_s, dCallK_s, dIsK_e, dAt_e, dRev_e, dPar3_e, dEnum_e, dZip_e, enumD_n, enumD_c, zipD_c, zipD_n, zipD_m, dRng1_e, dPs_e, dPn_e, dSl_e, frzS_e, noX_n, noX_v, noX_m, noX_u, noX_x, finX_s, finX_n, dBreak_e, dCont_e, rngD_z, rngD_s, dTrue_e, dLc_e, loopC_n, loopC_k, goC_s, goC_o, eleC_e, bindX_o, loopF_c, wipeE_n, wipeE_c, restE_n, restE_c, okOwn_n, okOwn_c, dTry_e, runH_n, runH_c, dRaise_e, dXf_e, shp_i, shp_b, shp_o, shp_s, shp_t, shp_l, shp_f, shps_n, shps_c, gEq_ci, gNe_ci, gEq_cb, gNe_cb, gEq_cs, gNe_cs, gEq_co, gNe_co, gEq_ct, gNe_ct, gEq_cl, gNe_cl, gEq_cf, gNe_cf, deq_ii, deq_bb, deq_bi, deq_ib, deq_ss, deq_tt, deq_ll, deq_lf, deq_fl, deq_ff, deq_oo, deqs_nn, deqs_cc, deqs_nc, deqs_cn, deq_oi, deq_io, deq_ob, deq_bo, deq_os, deq_so, deq_ot, deq_to, deq_ol, deq_lo, deq_it, deq_ti, deq_il, deq_li, deq_is, deq_si, deq_tl, deq_lt, deq_ts, deq_st, deq_ls, deq_sl, deq_bt, deq_tb, deq_bs, deq_sb, tru_b, tru_l, tru_t, tru_i, tru_o, ni_i, ni_b, ni_s, ni_o, ni_t, ni_l, ni_f, isTs_n, isTs_c, isT_i, isT_b, isT_s, isT_t, isT_l, isT_f, isT_o, gIs_n, gIs_bb, gIsNot_n, gIsNot_bb, isN_o, isN_i, isN_b, isN_s, isN_t, isN_l, isN_f, gList_t, gList_l, gList_f, gTuple_l, gTuple_f, gTuple_t, gIx_t, gIx_l, gIx_f, gSl_t, gSl_l, gSl_f, gEqS_e, gNeS_e, st_ok, st_err, st_bad, fl_m, fl_i, fl_b, fl_s, fl_o, fl_t, fl_l, fl_f, fl_n, fl_g, frzAr_n, frzAr_v, frzAr_s, hasS_n, hasS_v, hasS_s, vb_e, at4, at5, at6, at7, at8, at9, at10, at11, at12, atm1_1, atm1_2, atm1_3, atm1_4, atm1_5, atm1_6, atm1_7, atm1_8, ixq1_0, ixq2_0, ixq2_1, ixq3_0, ixq3_1, ixq3_2, ixq4_0, ixq4_1, ixq4_2, ixq4_3, ixq5_0, ixq5_1, ixq5_2, ixq5_3, ixq5_4, ixq6_0, ixq6_1, ixq6_2, ixq6_3, ixq6_4, ixq6_5, ixq7_0, ixq7_1, ixq7_2, ixq7_3, ixq7_4, ixq7_5, ixq7_6, ixq8_0, ixq8_1, ixq8_2, ixq8_3, ixq8_4, ixq8_5, ixq8_6, ixq8_7, Res.bind_ok, Res.bind_err, Res.bind_bad, List.getElem?_cons_zero, List.getElem?_cons_succ, List.set_cons_zero, List.set_cons_succ, List.map_cons, List.map_nil, List.cons_append, List.nil_append, List.append_nil, List.length_cons, List.length_nil, List.replicate, List.take, if_true, if_false, ite_true, ite_false, reduceIte, Nat.reduceAdd, Nat.reduceSub, Nat.reduceLeDiff, Bool.false_eq_true, Nat.reduceEqDiff, Nat.add_eq, Nat.add_zero, Nat.zero_add, Option.bind_some, Option.map_some, Nat.sub_self, eq_self, and_self, and_true, true_and, Bool.and_true, Bool.true_and, Bool.and_false, Bool.false_and, Bool.or_true, Bool.true_or, Bool.or_false, Bool.false_or, Bool.not_true, Bool.not_false, String.reduceBEq, decide_true, decide_false, List.reverse_cons, List.reverse_nil, List.isEmpty_cons, List.isEmpty_nil, Option.getD_some, Int.reduceLT, Int.reduceLE, Int.reduceEq, Int.reduceAdd, Int.reduceSub, Int.reduceMul, Int.reduceNeg, Nat.reduceLT, Nat.reduceMul, not_true_eq_false, not_false_eq_true, and_false, false_and, List.length_map, Int.natCast_zero, Int.reduceToNat, Int.cast_ofNat_Int, Int.reduceFDiv, Int.reduceFMod, Int.reduceBEq, Int.reduceBNe, Int.reduceNe, Nat.reduceBEq, Int.reducePow, ite_self]
theorem same_ev (T : Rat) : (fn__law_same [.val (rD T), .val (rD T)]).st = .ok (.val (.bl true)) [] := by
  have g : gEq (rD T) (rD T) = vb true := gEq_self shp_rD
  have t := tuples_2 T.num (T.den : Int)
  simp (disch := first | assumption | decide | omega) only [fn__law_same, den__law_same, ↓g, t, dC_a, dVar_a, dSlot_a, dMove_a, dLV_a, dFrz_a, frzE_val, frzE_mu, dVal_a, get_v, get_s, dBin_a, dNeg_a, dTB_a, dBT_a, dTru_a, dNotT_a, dAndT_a, dOrT_a, dAndV_a, dOrV_a, dNotL_a, dIf_a, dIfF_a, dChain_a, dVs_n, dVs_c, dArs_n, dArs_c, dTup_a, dLst_a, getAll_n, getAll_c, dCB_a, dCallR_a, dIsi_a, dSeq_a, dSkip_a, dIfS_a, dRet_a, dSet_a, dAsg_a, asN_a, asT_a, asT_l, asC_a, asNil_a, dPar_a, dPut_a, dExp_a, dApp_a, dFor_a, loopF_n, dIt_a, gDiv_i, gMul_i, gMod_i, gEq_int, gNe_int, at0, at1, at2, at3, gAdd_i, gSub_i, gLt_i, gLe_i, gGt_i, gGe_i, gInt_i, gLen_l, gLen_f, gLen_t, gAbs_i, its_l, its_t, its_f, mkFn_s, stF_rt, stF_nx, stF_er, dCall_s, dCall0_s, dCallK_s, dIsK_e, dAt_e, dRev_e, dPar3_e, dEnum_e, dZip_e, enumD_n, enumD_c, zipD_c, zipD_n, zipD_m, dRng1_e, dPs_e, dPn_e, dSl_e, frzS_e, noX_n, noX_v, noX_m, noX_u, noX_x, finX_s, finX_n, dBreak_e, dCont_e, rngD_z, rngD_s, dTrue_e, dLc_e, loopC_n, loopC_k, goC_s, goC_o, eleC_e, bindX_o, loopF_c, wipeE_n, wipeE_c, restE_n, restE_c, okOwn_n, okOwn_c, dTry_e, runH_n, runH_c, dRaise_e, dXf_e, shp_i, shp_b, shp_o, shp_s, shp_t, shp_l, shp_f, shps_n, shps_c, gEq_ci, gNe_ci, gEq_cb, gNe_cb, gEq_cs, gNe_cs, gEq_co, gNe_co, gEq_ct, gNe_ct, gEq_cl, gNe_cl, gEq_cf, gNe_cf, deq_ii, deq_bb, deq_bi, deq_ib, deq_ss, deq_tt, deq_ll, deq_lf, deq_fl, deq_ff, deq_oo, deqs_nn, deqs_cc, deqs_nc, deqs_cn, deq_oi, deq_io, deq_ob, deq_bo, deq_os, deq_so, deq_ot, deq_to, deq_ol, deq_lo, deq_it, deq_ti, deq_il, deq_li, deq_is, deq_si, deq_tl, deq_lt, deq_ts, deq_st, deq_ls, deq_sl, deq_bt, deq_tb, deq_bs, deq_sb, tru_b, tru_l, tru_t, tru_i, tru_o, ni_i, ni_b, ni_s, ni_o, ni_t, ni_l, ni_f, isTs_n, isTs_c, isT_i, isT_b, isT_s, isT_t, isT_l, isT_f, isT_o, gIs_n, gIs_bb, gIsNot_n, gIsNot_bb, isN_o, isN_i, isN_b, isN_s, isN_t, isN_l, isN_f, gList_t, gList_l, gList_f, gTuple_l, gTuple_f, gTuple_t, gIx_t, gIx_l, gIx_f, gSl_t, gSl_l, gSl_f, gEqS_e, gNeS_e, st_ok, st_err, st_bad, fl_m, fl_i, fl_b, fl_s, fl_o, fl_t, fl_l, fl_f, fl_n, fl_g, frzAr_n, frzAr_v, frzAr_s, hasS_n, hasS_v, hasS_s, vb_e, at4, at5, at6, at7, at8, at9, at10, at11, at12, atm1_1, atm1_2, atm1_3, atm1_4, atm1_5, atm1_6, atm1_7, atm1_8, ixq1_0, ixq2_0, ixq2_1, ixq3_0, ixq3_1, ixq3_2, ixq4_0, ixq4_1, ixq4_2, ixq4_3, ixq5_0, ixq5_1, ixq5_2, ixq5_3, ixq5_4, ixq6_0, ixq6_1, ixq6_2, ixq6_3, ixq6_4, ixq6_5, ixq7_0, ixq7_1, ixq7_2, ixq7_3, ixq7_4, ixq7_5, ixq7_6, ixq8_0, ixq8_1, ixq8_2, ixq8_3, ixq8_4, ixq8_5, ixq8_6, ixq8_7, Res.bind_ok, Res.bind_err, Res.bind_bad, List.getElem?_cons_zero, List.getElem?_cons_succ, List.set_cons_zero, List.set_cons_succ, List.map_cons, List.map_nil, List.cons_append, List.nil_append, List.append_nil, List.length_cons, List.length_nil, List.replicate, List.take, if_true, if_false, ite_true, ite_false, reduceIte, Nat.reduceAdd, Nat.reduceSub, Nat.reduceLeDiff, Bool.false_eq_true, Nat.reduceEqDiff, Nat.add_eq, Nat.add_zero, Nat.zero_add, Option.bind_some, Option.map_some, Nat.sub_self, eq_self, and_self, and_true, true_and, Bool.and_true, Bool.true_and, Bool.and_false, Bool.false_and, Bool.or_true, Bool.true_or, Bool.or_false, Bool.false_or, Bool.not_true, Bool.not_false, String.reduceBEq, decide_true, decide_false, List.reverse_cons, List.reverse_nil, List.isEmpty_cons, List.isEmpty_nil, Option.getD_some, Int.reduceLT, Int.reduceLE, Int.reduceEq, Int.reduceAdd, Int.reduceSub, Int.reduceMul, Int.reduceNeg, Nat.reduceLT, Nat.reduceMul, not_true_eq_false, not_false_eq_true, and_false, false_and, List.length_map, Int.natCast_zero, Int.reduceToNat, Int.cast_ofNat_Int, Int.reduceFDiv, Int.reduceFMod, Int.reduceBEq, Int.reduceBNe, Int.reduceNe, Nat.reduceBEq, Int.reducePow, ite_self]
theorem Nm.swap {x0 x1 y0 y1 : Rat} {W n0 n1 n2 n3 m0 m1 m2 m3 : Int} (h : Nm x0 x1 y0 y1 W n0 n1 n2 n3) (k : Nm y0 y1 x0 x1 W m0 m1 m2 m3) : m0 = n2 ∧ m1 = n3 ∧ m2 = n0 ∧ m3 = n1 := by
  have g : ∀ {n m d t : Int}, d ≠ 0 → n * d = t → m * d = t → n = m := fun {n m d t} z a b => Int.eq_of_mul_eq_mul_right z (a.trans b.symm)
  exact ⟨g (den_ne _) k.e0 h.e2, g (den_ne _) k.e1 h.e3, g (den_ne _) k.e2 h.e0, g (den_ne _) k.e3 h.e1⟩
theorem inb_bd {x0 x1 y0 y1 : Rat} {W n0 n1 n2 n3 f : Int} (z : Sz x0 x1 y0 y1) (N : Nm x0 x1 y0 y1 W n0 n1 n2 n3) (h : Inb n0 n1 n2 n3 f) : RB 2 (qv f W) ∧ 0 ≤ (qv f W).num := by
  have q1 := N.n1 z.p
  have q3 := N.n3 z.q
  have bf : BdL 1 f := by
    by_cases z1 : n1 = 0
    · have d := h.d1
      rw [z1] at d
      have e := Int.zero_dvd.mp d
      have e2 : f = n0 := by omega
      rw [e2]
      exact BdL.of N.b0 (by decide)
    · by_cases z3 : n3 = 0
      · have d := h.d2
        rw [z3] at d
        have e := Int.zero_dvd.mp d
        have e2 : f = n2 := by omega
        rw [e2]
        exact BdL.of N.b2 (by decide)
      · have u := h.u z1 z3
        have l := h.l
        have le := lc_le (a := n1) (b := n3) (by omega) (by omega)
        exact bd_abs (BdL.mul (n := 0) (BdL.of N.b1 (by decide)) (BdL.of N.b3 (by decide))) (by omega)
  exact ⟨RB.qv N.w (bf.up (by decide)) (BdL.of N.bw (by decide)), num_nonneg N.w h.l⟩
abbrev EL (sc : Ent) (xs : List D) (g2 g3 g4 g5 g6 g7 : Ent) : Sto := [sc, .mu xs, g2, g3, g4, g5, g6, g7, .un]
theorem turn_ev (sc : Ent) (xs : List D) (h : HandOk xs) (g2 g3 g4 g5 g6 g7 : Ent) : ∃ ys k3 k4 k5 k6 k7, (bd_law_2 (EL sc xs g2 g3 g4 g5 g6 g7) = .ok .nx (EL sc ys g2 k3 k4 k5 k6 k7) ∨ bd_law_2 (EL sc xs g2 g3 g4 g5 g6 g7) = .ok .ct (EL sc ys g2 k3 k4 k5 k6 k7)) ∧ HandOk ys := by
  obtain ⟨a0, x1, u1, e1, h1, ka, kb, pb⟩ := drawn_ev xs h
  obtain ⟨c0, y1, u2, e2, h2, kc, kd, pd⟩ := drawn_ev u1 h1
  obtain ⟨v, u3, e3, h3, v0, v1⟩ := take_ev u2 h2 2 (by decide) (by decide)
  -- what comes behind the two beats
  have key : ∀ (u : List D) (x0 y0 : Rat) (k5 : Ent), HandOk u → RK 120 x0 → RK 120 y0 → ∃ r1 e1 w1 r2 d2 w2 r3 d3 w3 r4 e4 w4 o n0 n1 n2 n3, fn__law_sequence [.mu u, .val (.lst [rD x0, rD x1])] = .ok r1 [.mu w1, .val (.lst [rD x0, rD x1])] ∧ (∀ s, frzE r1 s = .ok e1 s) ∧ fn__law_sequence [.mu w1, .val (rD y0)] = .ok r2 [.mu w2, .val (rD y0)] ∧ (∀ s, frzE r2 s = .ok d2 s) ∧ fn__law_sequence [.mu w2, .val (rD y1)] = .ok r3 [.mu w3, .val (rD y1)] ∧ (∀ s, frzE r3 s = .ok d3 s) ∧ fn__law_sequence [.mu w3, .val (.lst [d2, d3])] = .ok r4 [.mu w4, .val (.lst [d2, d3])] ∧ (∀ s, frzE r4 s = .ok e4 s) ∧ HandOk w4 ∧ (fn_common_time [.val e1, .val e4]).st = .ok (.val (tD (WW x0 x1 y0 y1) o)) [] ∧ (fn_common_time [.val (.tup [rD y0, rD y1]), .val (.tup [rD x0, rD x1])]).st = .ok (.val (tD (WW x0 x1 y0 y1) o)) [] ∧ CW n0 n1 n2 n3 o ∧ Nm x0 x1 y0 y1 (WW x0 x1 y0 y1) n0 n1 n2 n3 ∧ Sz x0 x1 y0 y1 := by
    intro u x0 y0 k5 hu kx ky
    obtain ⟨r1, e1, w1, s1, q1, f1, c1⟩ := sequence_ev u hu (d := .lst [rD x0, rD x1]) (is := [rD x0, rD x1]) rfl rfl
    obtain ⟨r2, d2, w2, s2, q2, f2, c2⟩ := sequence_ev w1 q1 (d := rD y0) (is := [.int y0.num, .int y0.den]) rfl rfl
    obtain ⟨r3, d3, w3, s3, q3, f3, c3⟩ := sequence_ev w2 q2 (d := rD y1) (is := [.int y1.num, .int y1.den]) rfl rfl
    obtain ⟨r4, e4, w4, s4, q4, f4, c4⟩ := sequence_ev w3 q3 (d := .lst [d2, d3]) (is := [d2, d3]) rfl rfl
    have kb' : RK 120 x1 := kb.mono (by decide)
    have kd' : RK 120 y1 := kd.mono (by decide)
    have b1 : Bt e1 x0 x1 := ⟨⟨rD x0, rD x1, c1, .inl rfl, .inl rfl⟩, pb, kx, kb'⟩
    have b2 : Bt e4 y0 y1 := ⟨⟨d2, d3, c4, c2, c3⟩, pd, ky, kd'⟩
    have b3 : Bt (.tup [rD x0, rD x1]) x0 x1 := ⟨⟨rD x0, rD x1, .inl rfl, .inl rfl, .inl rfl⟩, pb, kx, kb'⟩
    have b4 : Bt (.tup [rD y0, rD y1]) y0 y1 := ⟨⟨rD y0, rD y1, .inl rfl, .inl rfl, .inl rfl⟩, pd, ky, kd'⟩
    obtain ⟨n0, n1, n2, n3, o, t1, cw, N⟩ := time_ev b1 b2
    obtain ⟨m0, m1, m2, m3, o', t2, cw', M⟩ := time_ev b4 b3
    rw [← WW_comm x0 x1 y0 y1] at t2 M
    obtain ⟨rfl, rfl, rfl, rfl⟩ := N.swap M
    have z : Sz x0 x1 y0 y1 := ⟨kx, kb', ky, kd', pb, pd⟩
    have oo : o' = o := by
      by_cases x : Exi m2 m3 m0 m1
      · obtain ⟨f, o1, i1⟩ := cw.y x
        obtain ⟨g, o2, i2⟩ := cw'.y (Exi.swap.mp x)
        rw [o1, o2, i1.uniq i2 (N.n1 pb) (N.n3 pd)]
      · rw [cw.n x, cw'.n fun q => x (Exi.swap.mpr q)]
    rw [oo] at t2
    exact ⟨r1, e1, w1, r2, d2, w2, r3, d3, w3, r4, e4, w4, o, _, _, _, _, s1, f1, s2, f2, s3, f3, s4, f4, q4, t1, t2, cw, N, z⟩
  have tl : ∀ {d e : D}, gTuple [.lst [d, e]] = some (.val (.tup [d, e])) := rfl
  by_cases zv : v = 0
  · obtain ⟨t, u4, e4, h4, kt, _⟩ := number_ev u3 h3
    obtain ⟨x0, u5, e5, h5, kx⟩ := through_ev u4 h4 ka kb kt
    obtain ⟨y0, u6, e6, h6, ky⟩ := through_ev u5 h5 kc kd kt
    obtain ⟨r1, z1, w1, r2, d2, w2, r3, d3, w3, r4, z4, w4, o, n0, n1, n2, n3, s1, f1, s2, f2, s3, f3, s4, f4, q4, t1, t2, cw, N, z⟩ := key u6 x0 y0 .un h6 kx ky
    obtain ⟨c, ex, hc⟩ := exists_ev z N
    by_cases x : Exi n0 n1 n2 n3
    · obtain ⟨f, rfl, ib⟩ := cw.y x
      obtain ⟨bT, pT⟩ := inb_bd z N ib
      obtain ⟨j1, hj1⟩ := apart_k N.w N.e0 N.e1 ib.d1
      obtain ⟨j2, hj2⟩ := apart_k N.w N.e2 N.e3 ib.d2
      have b1 := belongs_ev bT z.a z.b z.p hj1 _ rfl
      have b2 := belongs_ev bT z.c z.d z.q hj2 _ rfl
      have b3 := is_least_ev z N ib bT
      have bb : Bt (.lst [rD x0, rD x1]) x0 x1 := ⟨⟨rD x0, rD x1, .inr rfl, .inl rfl, .inl rfl⟩, pb, z.a, z.b⟩
      obtain ⟨w5, b4, q5⟩ := refusals_ev w4 q4 bb
      rw [hc.mpr x] at ex
      have sm := same_ev (qv f (WW x0 x1 y0 y1))
      have nn : ¬ (qv f (WW x0 x1 y0 y1)).num < 0 := by omega
      simp only [tD] at t1 t2
      generalize qv f (WW x0 x1 y0 y1) = T at *
      refine ⟨w5, .val (.lst [rD x0, rD x1]), .val (.lst [rD y0, rD y1]), .val (rD t), .val (rD T), .val (rD T), .inl ?_, q5⟩
      simp only [bd_law_2, el_law_1, e1, e2, e3, decide_eq_true zv, e4, e5, e6, s1, f1, s2, f2, s3, f3, s4, f4, t1, t2, ex, sm, nn, b1, b2, b3, b4, tl, dC_a, dVar_a, dSlot_a, dMove_a, dLV_a, dFrz_a, frzE_val, frzE_mu, dVal_a, get_v, get_s, dBin_a, dNeg_a, dTB_a, dBT_a, dTru_a, dNotT_a, dAndT_a, dOrT_a, dAndV_a, dOrV_a, dNotL_a, dIf_a, dIfF_a, dChain_a, dVs_n, dVs_c, dArs_n, dArs_c, dTup_a, dLst_a, getAll_n, getAll_c, dCB_a, dCallR_a, dIsi_a, dSeq_a, dSkip_a, dIfS_a, dRet_a, dSet_a, dAsg_a, asN_a, asT_a, asT_l, asC_a, asNil_a, dPar_a, dPut_a, dExp_a, dApp_a, dFor_a, loopF_n, dIt_a, gDiv_i, gMul_i, gMod_i, gEq_int, gNe_int, at0, at1, at2, at3, gAdd_i, gSub_i, gLt_i, gLe_i, gGt_i, gGe_i, gInt_i, gLen_l, gLen_f, gLen_t, gAbs_i, its_l, its_t, its_f, mkFn_s, stF_rt, stF_nx, stF_er, dCall_s, dCall0_s, dCallK_s, dIsK_e, dAt_e, dRev_e, dPar3_e, dEnum_e, dZip_e, enumD_n, enumD_c, zipD_c, zipD_n, zipD_m, dRng1_e, dPs_e, dPn_e, dSl_e, frzS_e, noX_n, noX_v, noX_m, noX_u, noX_x, finX_s, finX_n, dBreak_e, dCont_e, rngD_z, rngD_s, dTrue_e, dLc_e, loopC_n, loopC_k, goC_s, goC_o, eleC_e, bindX_o, loopF_c, wipeE_n, wipeE_c, restE_n, restE_c, okOwn_n, okOwn_c, dTry_e, runH_n, runH_c, dRaise_e, dXf_e, shp_i, shp_b, shp_o, shp_s, shp_t, shp_l, shp_f, shps_n, shps_c, gEq_ci, gNe_ci, gEq_cb, gNe_cb, gEq_cs, gNe_cs, gEq_co, gNe_co, gEq_ct, gNe_ct, gEq_cl, gNe_cl, gEq_cf, gNe_cf, deq_ii, deq_bb, deq_bi, deq_ib, deq_ss, deq_tt, deq_ll, deq_lf, deq_fl, deq_ff, deq_oo, deqs_nn, deqs_cc, deqs_nc, deqs_cn, deq_oi, deq_io, deq_ob, deq_bo, deq_os, deq_so, deq_ot, deq_to, deq_ol, deq_lo, deq_it, deq_ti, deq_il, deq_li, deq_is, deq_si, deq_tl, deq_lt, deq_ts, deq_st, deq_ls, deq_sl, deq_bt, deq_tb, deq_bs, deq_sb, tru_b, tru_l, tru_t, tru_i, tru_o, ni_i, ni_b, ni_s, ni_o, ni_t, ni_l, ni_f, isTs_n, isTs_c, isT_i, isT_b, isT_s, isT_t, isT_l, isT_f, isT_o, gIs_n, gIs_bb, gIsNot_n, gIsNot_bb, isN_o, isN_i, isN_b, isN_s, isN_t, isN_l, isN_f, gList_t, gList_l, gList_f, gTuple_l, gTuple_f, gTuple_t, gIx_t, gIx_l, gIx_f, gSl_t, gSl_l, gSl_f, gEqS_e, gNeS_e, st_ok, st_err, st_bad, fl_m, fl_i, fl_b, fl_s, fl_o, fl_t, fl_l, fl_f, fl_n, fl_g, frzAr_n, frzAr_v, frzAr_s, hasS_n, hasS_v, hasS_s, vb_e, at4, at5, at6, at7, at8, at9, at10, at11, at12, atm1_1, atm1_2, atm1_3, atm1_4, atm1_5, atm1_6, atm1_7, atm1_8, ixq1_0, ixq2_0, ixq2_1, ixq3_0, ixq3_1, ixq3_2, ixq4_0, ixq4_1, ixq4_2, ixq4_3, ixq5_0, ixq5_1, ixq5_2, ixq5_3, ixq5_4, ixq6_0, ixq6_1, ixq6_2, ixq6_3, ixq6_4, ixq6_5, ixq7_0, ixq7_1, ixq7_2, ixq7_3, ixq7_4, ixq7_5, ixq7_6, ixq8_0, ixq8_1, ixq8_2, ixq8_3, ixq8_4, ixq8_5, ixq8_6, ixq8_7, Res.bind_ok, Res.bind_err, Res.bind_bad, List.getElem?_cons_zero, List.getElem?_cons_succ, List.set_cons_zero, List.set_cons_succ, List.map_cons, List.map_nil, List.cons_append, List.nil_append, List.append_nil, List.length_cons, List.length_nil, List.replicate, List.take, if_true, if_false, ite_true, ite_false, reduceIte, Nat.reduceAdd, Nat.reduceSub, Nat.reduceLeDiff, Bool.false_eq_true, Nat.reduceEqDiff, Nat.add_eq, Nat.add_zero, Nat.zero_add, Option.bind_some, Option.map_some, Nat.sub_self, eq_self, and_self, and_true, true_and, Bool.and_true, Bool.true_and, Bool.and_false, Bool.false_and, Bool.or_true, Bool.true_or, Bool.or_false, Bool.false_or, Bool.not_true, Bool.not_false, String.reduceBEq, decide_true, decide_false, List.reverse_cons, List.reverse_nil, List.isEmpty_cons, List.isEmpty_nil, Option.getD_some, Int.reduceLT, Int.reduceLE, Int.reduceEq, Int.reduceAdd, Int.reduceSub, Int.reduceMul, Int.reduceNeg, Nat.reduceLT, Nat.reduceMul, not_true_eq_false, not_false_eq_true, and_false, false_and, List.length_map, Int.natCast_zero, Int.reduceToNat, Int.cast_ofNat_Int, Int.reduceFDiv, Int.reduceFMod, Int.reduceBEq, Int.reduceBNe, Int.reduceNe, Nat.reduceBEq, Int.reducePow, ite_self]
    · have ho := cw.n x
      subst ho
      have c0 : c = false := by
        cases c with
        | true => exact absurd (hc.mp rfl) x
        | false => rfl
      rw [c0] at ex
      simp only [tD] at t1 t2
      refine ⟨w4, .val (.lst [rD x0, rD x1]), .val (.lst [rD y0, rD y1]), .val (rD t), .val .non, .val .non, .inr ?_, q4⟩
      simp only [bd_law_2, el_law_1, e1, e2, e3, decide_eq_true zv, e4, e5, e6, s1, f1, s2, f2, s3, f3, s4, f4, t1, t2, ex, tl, dC_a, dVar_a, dSlot_a, dMove_a, dLV_a, dFrz_a, frzE_val, frzE_mu, dVal_a, get_v, get_s, dBin_a, dNeg_a, dTB_a, dBT_a, dTru_a, dNotT_a, dAndT_a, dOrT_a, dAndV_a, dOrV_a, dNotL_a, dIf_a, dIfF_a, dChain_a, dVs_n, dVs_c, dArs_n, dArs_c, dTup_a, dLst_a, getAll_n, getAll_c, dCB_a, dCallR_a, dIsi_a, dSeq_a, dSkip_a, dIfS_a, dRet_a, dSet_a, dAsg_a, asN_a, asT_a, asT_l, asC_a, asNil_a, dPar_a, dPut_a, dExp_a, dApp_a, dFor_a, loopF_n, dIt_a, gDiv_i, gMul_i, gMod_i, gEq_int, gNe_int, at0, at1, at2, at3, gAdd_i, gSub_i, gLt_i, gLe_i, gGt_i, gGe_i, gInt_i, gLen_l, gLen_f, gLen_t, gAbs_i, its_l, its_t, its_f, mkFn_s, stF_rt, stF_nx, stF_er, dCall_s, dCall0_s, dCallK_s, dIsK_e, dAt_e, dRev_e, dPar3_e, dEnum_e, dZip_e, enumD_n, enumD_c, zipD_c, zipD_n, zipD_m, dRng1_e, dPs_e, dPn_e, dSl_e, frzS_e, noX_n, noX_v, noX_m, noX_u, noX_x, finX_s, finX_n, dBreak_e, dCont_e, rngD_z, rngD_s, dTrue_e, dLc_e, loopC_n, loopC_k, goC_s, goC_o, eleC_e, bindX_o, loopF_c, wipeE_n, wipeE_c, restE_n, restE_c, okOwn_n, okOwn_c, dTry_e, runH_n, runH_c, dRaise_e, dXf_e, shp_i, shp_b, shp_o, shp_s, shp_t, shp_l, shp_f, shps_n, shps_c, gEq_ci, gNe_ci, gEq_cb, gNe_cb, gEq_cs, gNe_cs, gEq_co, gNe_co, gEq_ct, gNe_ct, gEq_cl, gNe_cl, gEq_cf, gNe_cf, deq_ii, deq_bb, deq_bi, deq_ib, deq_ss, deq_tt, deq_ll, deq_lf, deq_fl, deq_ff, deq_oo, deqs_nn, deqs_cc, deqs_nc, deqs_cn, deq_oi, deq_io, deq_ob, deq_bo, deq_os, deq_so, deq_ot, deq_to, deq_ol, deq_lo, deq_it, deq_ti, deq_il, deq_li, deq_is, deq_si, deq_tl, deq_lt, deq_ts, deq_st, deq_ls, deq_sl, deq_bt, deq_tb, deq_bs, deq_sb, tru_b, tru_l, tru_t, tru_i, tru_o, ni_i, ni_b, ni_s, ni_o, ni_t, ni_l, ni_f, isTs_n, isTs_c, isT_i, isT_b, isT_s, isT_t, isT_l, isT_f, isT_o, gIs_n, gIs_bb, gIsNot_n, gIsNot_bb, isN_o, isN_i, isN_b, isN_s, isN_t, isN_l, isN_f, gList_t, gList_l, gList_f, gTuple_l, gTuple_f, gTuple_t, gIx_t, gIx_l, gIx_f, gSl_t, gSl_l, gSl_f, gEqS_e, gNeS_e, st_ok, st_err, st_bad, fl_m, fl_i, fl_b, fl_s, fl_o, fl_t, fl_l, fl_f, fl_n, fl_g, frzAr_n, frzAr_v, frzAr_s, hasS_n, hasS_v, hasS_s, vb_e, at4, at5, at6, at7, at8, at9, at10, at11, at12, atm1_1, atm1_2, atm1_3, atm1_4, atm1_5, atm1_6, atm1_7, atm1_8, ixq1_0, ixq2_0, ixq2_1, ixq3_0, ixq3_1, ixq3_2, ixq4_0, ixq4_1, ixq4_2, ixq4_3, ixq5_0, ixq5_1, ixq5_2, ixq5_3, ixq5_4, ixq6_0, ixq6_1, ixq6_2, ixq6_3, ixq6_4, ixq6_5, ixq7_0, ixq7_1, ixq7_2, ixq7_3, ixq7_4, ixq7_5, ixq7_6, ixq8_0, ixq8_1, ixq8_2, ixq8_3, ixq8_4, ixq8_5, ixq8_6, ixq8_7, Res.bind_ok, Res.bind_err, Res.bind_bad, List.getElem?_cons_zero, List.getElem?_cons_succ, List.set_cons_zero, List.set_cons_succ, List.map_cons, List.map_nil, List.cons_append, List.nil_append, List.append_nil, List.length_cons, List.length_nil, List.replicate, List.take, if_true, if_false, ite_true, ite_false, reduceIte, Nat.reduceAdd, Nat.reduceSub, Nat.reduceLeDiff, Bool.false_eq_true, Nat.reduceEqDiff, Nat.add_eq, Nat.add_zero, Nat.zero_add, Option.bind_some, Option.map_some, Nat.sub_self, eq_self, and_self, and_true, true_and, Bool.and_true, Bool.true_and, Bool.and_false, Bool.false_and, Bool.or_true, Bool.true_or, Bool.or_false, Bool.false_or, Bool.not_true, Bool.not_false, String.reduceBEq, decide_true, decide_false, List.reverse_cons, List.reverse_nil, List.isEmpty_cons, List.isEmpty_nil, Option.getD_some, Int.reduceLT, Int.reduceLE, Int.reduceEq, Int.reduceAdd, Int.reduceSub, Int.reduceMul, Int.reduceNeg, Nat.reduceLT, Nat.reduceMul, not_true_eq_false, not_false_eq_true, and_false, false_and, List.length_map, Int.natCast_zero, Int.reduceToNat, Int.cast_ofNat_Int, Int.reduceFDiv, Int.reduceFMod, Int.reduceBEq, Int.reduceBNe, Int.reduceNe, Nat.reduceBEq, Int.reducePow, ite_self]
  · obtain ⟨r1, z1, w1, r2, d2, w2, r3, d3, w3, r4, z4, w4, o, n0, n1, n2, n3, s1, f1, s2, f2, s3, f3, s4, f4, q4, t1, t2, cw, N, z⟩ := key u3 a0 c0 .un h3 (ka.mono (by decide)) (kc.mono (by decide))
    obtain ⟨c, ex, hc⟩ := exists_ev z N
    by_cases x : Exi n0 n1 n2 n3
    · obtain ⟨f, rfl, ib⟩ := cw.y x
      obtain ⟨bT, pT⟩ := inb_bd z N ib
      obtain ⟨j1, hj1⟩ := apart_k N.w N.e0 N.e1 ib.d1
      obtain ⟨j2, hj2⟩ := apart_k N.w N.e2 N.e3 ib.d2
      have b1 := belongs_ev bT z.a z.b z.p hj1 _ rfl
      have b2 := belongs_ev bT z.c z.d z.q hj2 _ rfl
      have b3 := is_least_ev z N ib bT
      have bb : Bt (.lst [rD a0, rD x1]) a0 x1 := ⟨⟨rD a0, rD x1, .inr rfl, .inl rfl, .inl rfl⟩, pb, z.a, z.b⟩
      obtain ⟨w5, b4, q5⟩ := refusals_ev w4 q4 bb
      rw [hc.mpr x] at ex
      have sm := same_ev (qv f (WW a0 x1 c0 y1))
      have nn : ¬ (qv f (WW a0 x1 c0 y1)).num < 0 := by omega
      simp only [tD] at t1 t2
      generalize qv f (WW a0 x1 c0 y1) = T at *
      refine ⟨w5, .val (.lst [rD a0, rD x1]), .val (.lst [rD c0, rD y1]), g5, .val (rD T), .val (rD T), .inl ?_, q5⟩
      simp only [bd_law_2, el_law_1, e1, e2, e3, decide_eq_false zv, s1, f1, s2, f2, s3, f3, s4, f4, t1, t2, ex, sm, nn, b1, b2, b3, b4, tl, dC_a, dVar_a, dSlot_a, dMove_a, dLV_a, dFrz_a, frzE_val, frzE_mu, dVal_a, get_v, get_s, dBin_a, dNeg_a, dTB_a, dBT_a, dTru_a, dNotT_a, dAndT_a, dOrT_a, dAndV_a, dOrV_a, dNotL_a, dIf_a, dIfF_a, dChain_a, dVs_n, dVs_c, dArs_n, dArs_c, dTup_a, dLst_a, getAll_n, getAll_c, dCB_a, dCallR_a, dIsi_a, dSeq_a, dSkip_a, dIfS_a, dRet_a, dSet_a, dAsg_a, asN_a, asT_a, asT_l, asC_a, asNil_a, dPar_a, dPut_a, dExp_a, dApp_a, dFor_a, loopF_n, dIt_a, gDiv_i, gMul_i, gMod_i, gEq_int, gNe_int, at0, at1, at2, at3, gAdd_i, gSub_i, gLt_i, gLe_i, gGt_i, gGe_i, gInt_i, gLen_l, gLen_f, gLen_t, gAbs_i, its_l, its_t, its_f, mkFn_s, stF_rt, stF_nx, stF_er, dCall_s, dCall0_s, dCallK_s, dIsK_e, dAt_e, dRev_e, dPar3_e, dEnum_e, dZip_e, enumD_n, enumD_c, zipD_c, zipD_n, zipD_m, dRng1_e, dPs_e, dPn_e, dSl_e, frzS_e, noX_n, noX_v, noX_m, noX_u, noX_x, finX_s, finX_n, dBreak_e, dCont_e, rngD_z, rngD_s, dTrue_e, dLc_e, loopC_n, loopC_k, goC_s, goC_o, eleC_e, bindX_o, loopF_c, wipeE_n, wipeE_c, restE_n, restE_c, okOwn_n, okOwn_c, dTry_e, runH_n, runH_c, dRaise_e, dXf_e, shp_i, shp_b, shp_o, shp_s, shp_t, shp_l, shp_f, shps_n, shps_c, gEq_ci, gNe_ci, gEq_cb, gNe_cb, gEq_cs, gNe_cs, gEq_co, gNe_co, gEq_ct, gNe_ct, gEq_cl, gNe_cl, gEq_cf, gNe_cf, deq_ii, deq_bb, deq_bi, deq_ib, deq_ss, deq_tt, deq_ll, deq_lf, deq_fl, deq_ff, deq_oo, deqs_nn, deqs_cc, deqs_nc, deqs_cn, deq_oi, deq_io, deq_ob, deq_bo, deq_os, deq_so, deq_ot, deq_to, deq_ol, deq_lo, deq_it, deq_ti, deq_il, deq_li, deq_is, deq_si, deq_tl, deq_lt, deq_ts, deq_st, deq_ls, deq_sl, deq_bt, deq_tb, deq_bs, deq_sb, tru_b, tru_l, tru_t, tru_i, tru_o, ni_i, ni_b, ni_s, ni_o, ni_t, ni_l, ni_f, isTs_n, isTs_c, isT_i, isT_b, isT_s, isT_t, isT_l, isT_f, isT_o, gIs_n, gIs_bb, gIsNot_n, gIsNot_bb, isN_o, isN_i, isN_b, isN_s, isN_t, isN_l, isN_f, gList_t, gList_l, gList_f, gTuple_l, gTuple_f, gTuple_t, gIx_t, gIx_l, gIx_f, gSl_t, gSl_l, gSl_f, gEqS_e, gNeS_e, st_ok, st_err, st_bad, fl_m, fl_i, fl_b, fl_s, fl_o, fl_t, fl_l, fl_f, fl_n, fl_g, frzAr_n, frzAr_v, frzAr_s, hasS_n, hasS_v, hasS_s, vb_e, at4, at5, at6, at7, at8, at9, at10, at11, at12, atm1_1, atm1_2, atm1_3, atm1_4, atm1_5, atm1_6, atm1_7, atm1_8, ixq1_0, ixq2_0, ixq2_1, ixq3_0, ixq3_1, ixq3_2, ixq4_0, ixq4_1, ixq4_2, ixq4_3, ixq5_0, ixq5_1, ixq5_2, ixq5_3, ixq5_4, ixq6_0, ixq6_1, ixq6_2, ixq6_3, ixq6_4, ixq6_5, ixq7_0, ixq7_1, ixq7_2, ixq7_3, ixq7_4, ixq7_5, ixq7_6, ixq8_0, ixq8_1, ixq8_2, ixq8_3, ixq8_4, ixq8_5, ixq8_6, ixq8_7, Res.bind_ok, Res.bind_err, Res.bind_bad, List.getElem?_cons_zero, List.getElem?_cons_succ, List.set_cons_zero, List.set_cons_succ, List.map_cons, List.map_nil, List.cons_append, List.nil_append, List.append_nil, List.length_cons, List.length_nil, List.replicate, List.take, if_true, if_false, ite_true, ite_false, reduceIte, Nat.reduceAdd, Nat.reduceSub, Nat.reduceLeDiff, Bool.false_eq_true, Nat.reduceEqDiff, Nat.add_eq, Nat.add_zero, Nat.zero_add, Option.bind_some, Option.map_some, Nat.sub_self, eq_self, and_self, and_true, true_and, Bool.and_true, Bool.true_and, Bool.and_false, Bool.false_and, Bool.or_true, Bool.true_or, Bool.or_false, Bool.false_or, Bool.not_true, Bool.not_false, String.reduceBEq, decide_true, decide_false, List.reverse_cons, List.reverse_nil, List.isEmpty_cons, List.isEmpty_nil, Option.getD_some, Int.reduceLT, Int.reduceLE, Int.reduceEq, Int.reduceAdd, Int.reduceSub, Int.reduceMul, Int.reduceNeg, Nat.reduceLT, Nat.reduceMul, not_true_eq_false, not_false_eq_true, and_false, false_and, List.length_map, Int.natCast_zero, Int.reduceToNat, Int.cast_ofNat_Int, Int.reduceFDiv, Int.reduceFMod, Int.reduceBEq, Int.reduceBNe, Int.reduceNe, Nat.reduceBEq, Int.reducePow, ite_self]
    · have ho := cw.n x
      subst ho
      have c0' : c = false := by
        cases c with
        | true => exact absurd (hc.mp rfl) x
        | false => rfl
      rw [c0'] at ex
      simp only [tD] at t1 t2
      refine ⟨w4, .val (.lst [rD a0, rD x1]), .val (.lst [rD c0, rD y1]), g5, .val .non, .val .non, .inr ?_, q4⟩
      simp only [bd_law_2, el_law_1, e1, e2, e3, decide_eq_false zv, s1, f1, s2, f2, s3, f3, s4, f4, t1, t2, ex, tl, dC_a, dVar_a, dSlot_a, dMove_a, dLV_a, dFrz_a, frzE_val, frzE_mu, dVal_a, get_v, get_s, dBin_a, dNeg_a, dTB_a, dBT_a, dTru_a, dNotT_a, dAndT_a, dOrT_a, dAndV_a, dOrV_a, dNotL_a, dIf_a, dIfF_a, dChain_a, dVs_n, dVs_c, dArs_n, dArs_c, dTup_a, dLst_a, getAll_n, getAll_c, dCB_a, dCallR_a, dIsi_a, dSeq_a, dSkip_a, dIfS_a, dRet_a, dSet_a, dAsg_a, asN_a, asT_a, asT_l, asC_a, asNil_a, dPar_a, dPut_a, dExp_a, dApp_a, dFor_a, loopF_n, dIt_a, gDiv_i, gMul_i, gMod_i, gEq_int, gNe_int, at0, at1, at2, at3, gAdd_i, gSub_i, gLt_i, gLe_i, gGt_i, gGe_i, gInt_i, gLen_l, gLen_f, gLen_t, gAbs_i, its_l, its_t, its_f, mkFn_s, stF_rt, stF_nx, stF_er, dCall_s, dCall0_s, dCallK_s, dIsK_e, dAt_e, dRev_e, dPar3_e, dEnum_e, dZip_e, enumD_n, enumD_c, zipD_c, zipD_n, zipD_m, dRng1_e, dPs_e, dPn_e, dSl_e, frzS_e, noX_n, noX_v, noX_m, noX_u, noX_x, finX_s, finX_n, dBreak_e, dCont_e, rngD_z, rngD_s, dTrue_e, dLc_e, loopC_n, loopC_k, goC_s, goC_o, eleC_e, bindX_o, loopF_c, wipeE_n, wipeE_c, restE_n, restE_c, okOwn_n, okOwn_c, dTry_e, runH_n, runH_c, dRaise_e, dXf_e, shp_i, shp_b, shp_o, shp_s, shp_t, shp_l, shp_f, shps_n, shps_c, gEq_ci, gNe_ci, gEq_cb, gNe_cb, gEq_cs, gNe_cs, gEq_co, gNe_co, gEq_ct, gNe_ct, gEq_cl, gNe_cl, gEq_cf, gNe_cf, deq_ii, deq_bb, deq_bi, deq_ib, deq_ss, deq_tt, deq_ll, deq_lf, deq_fl, deq_ff, deq_oo, deqs_nn, deqs_cc, deqs_nc, deqs_cn, deq_oi, deq_io, deq_ob, deq_bo, deq_os, deq_so, deq_ot, deq_to, deq_ol, deq_lo, deq_it, deq_ti, deq_il, deq_li, deq_is, deq_si, deq_tl, deq_lt, deq_ts, deq_st, deq_ls, deq_sl, deq_bt, deq_tb, deq_bs, deq_sb, tru_b, tru_l, tru_t, tru_i, tru_o, ni_i, ni_b, ni_s, ni_o, ni_t, ni_l, ni_f, isTs_n, isTs_c, isT_i, isT_b, isT_s, isT_t, isT_l, isT_f, isT_o, gIs_n, gIs_bb, gIsNot_n, gIsNot_bb, isN_o, isN_i, isN_b, isN_s, isN_t, isN_l, isN_f, gList_t, gList_l, gList_f, gTuple_l, gTuple_f, gTuple_t, gIx_t, gIx_l, gIx_f, gSl_t, gSl_l, gSl_f, gEqS_e, gNeS_e, st_ok, st_err, st_bad, fl_m, fl_i, fl_b, fl_s, fl_o, fl_t, fl_l, fl_f, fl_n, fl_g, frzAr_n, frzAr_v, frzAr_s, hasS_n, hasS_v, hasS_s, vb_e, at4, at5, at6, at7, at8, at9, at10, at11, at12, atm1_1, atm1_2, atm1_3, atm1_4, atm1_5, atm1_6, atm1_7, atm1_8, ixq1_0, ixq2_0, ixq2_1, ixq3_0, ixq3_1, ixq3_2, ixq4_0, ixq4_1, ixq4_2, ixq4_3, ixq5_0, ixq5_1, ixq5_2, ixq5_3, ixq5_4, ixq6_0, ixq6_1, ixq6_2, ixq6_3, ixq6_4, ixq6_5, ixq7_0, ixq7_1, ixq7_2, ixq7_3, ixq7_4, ixq7_5, ixq7_6, ixq8_0, ixq8_1, ixq8_2, ixq8_3, ixq8_4, ixq8_5, ixq8_6, ixq8_7, Res.bind_ok, Res.bind_err, Res.bind_bad, List.getElem?_cons_zero, List.getElem?_cons_succ, List.set_cons_zero, List.set_cons_succ, List.map_cons, List.map_nil, List.cons_append, List.nil_append, List.append_nil, List.length_cons, List.length_nil, List.replicate, List.take, if_true, if_false, ite_true, ite_false, reduceIte, Nat.reduceAdd, Nat.reduceSub, Nat.reduceLeDiff, Bool.false_eq_true, Nat.reduceEqDiff, Nat.add_eq, Nat.add_zero, Nat.zero_add, Option.bind_some, Option.map_some, Nat.sub_self, eq_self, and_self, and_true, true_and, Bool.and_true, Bool.true_and, Bool.and_false, Bool.false_and, Bool.or_true, Bool.true_or, Bool.or_false, Bool.false_or, Bool.not_true, Bool.not_false, String.reduceBEq, decide_true, decide_false, List.reverse_cons, List.reverse_nil, List.isEmpty_cons, List.isEmpty_nil, Option.getD_some, Int.reduceLT, Int.reduceLE, Int.reduceEq, Int.reduceAdd, Int.reduceSub, Int.reduceMul, Int.reduceNeg, Nat.reduceLT, Nat.reduceMul, not_true_eq_false, not_false_eq_true, and_false, false_and, List.length_map, Int.natCast_zero, Int.reduceToNat, Int.cast_ofNat_Int, Int.reduceFDiv, Int.reduceFMod, Int.reduceBEq, Int.reduceBNe, Int.reduceNe, Nat.reduceBEq, Int.reducePow, ite_self]
theorem loop_ev (sc : Ent) : ∀ (is : List D) (xs : List D) (g2 g3 g4 g5 g6 g7 : Ent), HandOk xs → ∃ ys k2 k3 k4 k5 k6 k7, loopF (asN 2) bd_law_2 is (EL sc xs g2 g3 g4 g5 g6 g7) = .ok .nx (EL sc ys k2 k3 k4 k5 k6 k7) ∧ HandOk ys
  | [], xs, g2, g3, g4, g5, g6, g7, h => ⟨xs, g2, g3, g4, g5, g6, g7, rfl, h⟩
  | i :: is, xs, g2, g3, g4, g5, g6, g7, h => by
    obtain ⟨y1, k3, k4, k5, k6, k7, e1, h1⟩ := turn_ev sc xs h (.val i) g3 g4 g5 g6 g7
    obtain ⟨y2, l2, l3, l4, l5, l6, l7, e2, h2⟩ := loop_ev sc is y1 (.val i) k3 k4 k5 k6 k7 h1
    refine ⟨y2, l2, l3, l4, l5, l6, l7, ?_, h2⟩
    rw [loopF_c]
    have a : asN 2 i (EL sc xs g2 g3 g4 g5 g6 g7) = some (EL sc xs (.val i) g3 g4 g5 g6 g7) := rfl
    rw [a]
    dsimp only
    rcases e1 with e1 | e1
    · rw [e1]
      exact e2
    · rw [e1]
      exact e2
theorem st_inv {r : FR} {v : Ent} (h : r.st = .ok v []) : ∃ ps, r = .ok v ps := by
  cases r with
  | ok w ps =>
    rw [st_ok] at h
    cases h
    exact ⟨ps, rfl⟩
  | err _ _ _ _ => rw [st_err] at h; cases h
  | bad => rw [st_bad] at h; cases h
theorem law_true (ns : List Int) (h : ns.length ≤ 63) (hb : ∀ z ∈ ns, Builtin.Int.intBits z ≤ 1048576) : ∃ ps, fn_law [.val (.fl (ns.map D.int))] = .ok (.val (.bl true)) ps := by
  obtain ⟨x0, e0, h0⟩ := hand_ev ns h
  obtain ⟨x7, k2, k3, k4, k5, k6, k7, e7, h7⟩ := loop_ev (.val (.fl (ns.map .int))) [.int 0, .int 1, .int 2, .int 3, .int 4, .int 5] x0 .un .un .un .un .un .un h0
  refine st_inv ?_
  simp (disch := first | assumption | decide | omega) only [fn_law, den_law, e0, ↓e7, dC_a, dVar_a, dSlot_a, dMove_a, dLV_a, dFrz_a, frzE_val, frzE_mu, dVal_a, get_v, get_s, dBin_a, dNeg_a, dTB_a, dBT_a, dTru_a, dNotT_a, dAndT_a, dOrT_a, dAndV_a, dOrV_a, dNotL_a, dIf_a, dIfF_a, dChain_a, dVs_n, dVs_c, dArs_n, dArs_c, dTup_a, dLst_a, getAll_n, getAll_c, dCB_a, dCallR_a, dIsi_a, dSeq_a, dSkip_a, dIfS_a, dRet_a, dSet_a, dAsg_a, asN_a, asT_a, asT_l, asC_a, asNil_a, dPar_a, dPut_a, dExp_a, dApp_a, dFor_a, loopF_n, dIt_a, gDiv_i, gMul_i, gMod_i, gEq_int, gNe_int, at0, at1, at2, at3, gAdd_i, gSub_i, gLt_i, gLe_i, gGt_i, gGe_i, gInt_i, gLen_l, gLen_f, gLen_t, gAbs_i, its_l, its_t, its_f, mkFn_s, stF_rt, stF_nx, stF_er, dCall_s, dCall0_s, dCallK_s, dIsK_e, dAt_e, dRev_e, dPar3_e, dEnum_e, dZip_e, enumD_n, enumD_c, zipD_c, zipD_n, zipD_m, dRng1_e, dPs_e, dPn_e, dSl_e, frzS_e, noX_n, noX_v, noX_m, noX_u, noX_x, finX_s, finX_n, dBreak_e, dCont_e, rngD_z, rngD_s, dTrue_e, dLc_e, loopC_n, loopC_k, goC_s, goC_o, eleC_e, bindX_o, loopF_c, wipeE_n, wipeE_c, restE_n, restE_c, okOwn_n, okOwn_c, dTry_e, runH_n, runH_c, dRaise_e, dXf_e, shp_i, shp_b, shp_o, shp_s, shp_t, shp_l, shp_f, shps_n, shps_c, gEq_ci, gNe_ci, gEq_cb, gNe_cb, gEq_cs, gNe_cs, gEq_co, gNe_co, gEq_ct, gNe_ct, gEq_cl, gNe_cl, gEq_cf, gNe_cf, deq_ii, deq_bb, deq_bi, deq_ib, deq_ss, deq_tt, deq_ll, deq_lf, deq_fl, deq_ff, deq_oo, deqs_nn, deqs_cc, deqs_nc, deqs_cn, deq_oi, deq_io, deq_ob, deq_bo, deq_os, deq_so, deq_ot, deq_to, deq_ol, deq_lo, deq_it, deq_ti, deq_il, deq_li, deq_is, deq_si, deq_tl, deq_lt, deq_ts, deq_st, deq_ls, deq_sl, deq_bt, deq_tb, deq_bs, deq_sb, tru_b, tru_l, tru_t, tru_i, tru_o, ni_i, ni_b, ni_s, ni_o, ni_t, ni_l, ni_f, isTs_n, isTs_c, isT_i, isT_b, isT_s, isT_t, isT_l, isT_f, isT_o, gIs_n, gIs_bb, gIsNot_n, gIsNot_bb, isN_o, isN_i, isN_b, isN_s, isN_t, isN_l, isN_f, gList_t, gList_l, gList_f, gTuple_l, gTuple_f, gTuple_t, gIx_t, gIx_l, gIx_f, gSl_t, gSl_l, gSl_f, gEqS_e, gNeS_e, st_ok, st_err, st_bad, fl_m, fl_i, fl_b, fl_s, fl_o, fl_t, fl_l, fl_f, fl_n, fl_g, frzAr_n, frzAr_v, frzAr_s, hasS_n, hasS_v, hasS_s, vb_e, at4, at5, at6, at7, at8, at9, at10, at11, at12, atm1_1, atm1_2, atm1_3, atm1_4, atm1_5, atm1_6, atm1_7, atm1_8, ixq1_0, ixq2_0, ixq2_1, ixq3_0, ixq3_1, ixq3_2, ixq4_0, ixq4_1, ixq4_2, ixq4_3, ixq5_0, ixq5_1, ixq5_2, ixq5_3, ixq5_4, ixq6_0, ixq6_1, ixq6_2, ixq6_3, ixq6_4, ixq6_5, ixq7_0, ixq7_1, ixq7_2, ixq7_3, ixq7_4, ixq7_5, ixq7_6, ixq8_0, ixq8_1, ixq8_2, ixq8_3, ixq8_4, ixq8_5, ixq8_6, ixq8_7, Res.bind_ok, Res.bind_err, Res.bind_bad, List.getElem?_cons_zero, List.getElem?_cons_succ, List.set_cons_zero, List.set_cons_succ, List.map_cons, List.map_nil, List.cons_append, List.nil_append, List.append_nil, List.length_cons, List.length_nil, List.replicate, List.take, if_true, if_false, ite_true, ite_false, reduceIte, Nat.reduceAdd, Nat.reduceSub, Nat.reduceLeDiff, Bool.false_eq_true, Nat.reduceEqDiff, Nat.add_eq, Nat.add_zero, Nat.zero_add, Option.bind_some, Option.map_some, Nat.sub_self, eq_self, and_self, and_true, true_and, Bool.and_true, Bool.true_and, Bool.and_false, Bool.false_and, Bool.or_true, Bool.true_or, Bool.or_false, Bool.false_or, Bool.not_true, Bool.not_false, String.reduceBEq, decide_true, decide_false, List.reverse_cons, List.reverse_nil, List.isEmpty_cons, List.isEmpty_nil, Option.getD_some, Int.reduceLT, Int.reduceLE, Int.reduceEq, Int.reduceAdd, Int.reduceSub, Int.reduceMul, Int.reduceNeg, Nat.reduceLT, Nat.reduceMul, not_true_eq_false, not_false_eq_true, and_false, false_and, List.length_map, Int.natCast_zero, Int.reduceToNat, Int.cast_ofNat_Int, Int.reduceFDiv, Int.reduceFMod, Int.reduceBEq, Int.reduceBNe, Int.reduceNe, Nat.reduceBEq, Int.reducePow, ite_self]
end Kx

set_option Elab.async false
set_option linter.all false
set_option maxRecDepth 100000
set_option maxHeartbeats 0
namespace Kx
open PySem PySem.Spec PyProof.Rows L2 Ev
abbrev R : PySem.W.OpenRow := PySem.W.OpenLaw.row PySem.Challenge.rw_tautparcel_k17_common_times_of_beats
abbrev hk : PySem.W.Hook := hookX 6 fa fn
def ob (s : PySem.W.SharedT) : AlX := obsXG 6 fa fn (HandSHeadRun.getT s)
theorem ob_eq (s : PySem.W.SharedT) : ob s = hk.obs s.abs := obsXG_eq (HandSHeadRun.getT_eq s)
def loose0 : List PySem.Str := ["ParcelError", "BadBeat", "is_whole", "is_ratio", "in_lowest", "check_beat", "inverse_of", "common_whole", "least_common", "common_time", "_law_hand", "_law_mixed", "_law_take", "_law_common", "_law_ratio", "_law_tuples", "_law_same", "_law_sequence", "_law_plus", "_law_minus", "_law_number", "_law_drawn_beat", "_law_through", "_law_belongs", "_law_scaled_beats", "_law_exists", "_law_is_least", "_law_refused", "_law_refusals"]
def loose : List PySem.Str := loose0
theorem run (w : World) : HandSHeadRun.RunEqI R (PySem.W.view R.prog [0, 34]) hk ob 6000 loose w := by
  unfold HandSHeadRun.RunEqI
  kernel_rfl
end Kx
open PySem PySem.W PySem.Calls PyProof.Rows in
theorem PySem.Challenge.cw_tautparcel_k17_common_times_of_beats_holds : PySem.Challenge.rw_tautparcel_k17_common_times_of_beats.Holds := by
  w_on; o_law
  refine HandSHeadRun.head_imp (r := OpenLaw.row PySem.Challenge.rw_tautparcel_k17_common_times_of_beats) (q := view (OpenLaw.row PySem.Challenge.rw_tautparcel_k17_common_times_of_beats).prog [0, 34]) (H := Kx.hk) (ob := Kx.ob) (M := 6000) (loose := Kx.loose) (d := HandSHeadRun.topDef (OpenLaw.row PySem.Challenge.rw_tautparcel_k17_common_times_of_beats).prog 34) (kwd := []) Kx.ob_eq
    Kx.run (by kernel_rfl) (by kernel_rfl) (by kernel_rfl) (by rfl) (by first | assumption | decide +kernel) (by decide +kernel) ⟨rfl, rfl, rfl, rfl, rfl, by decide +kernel⟩ ?hw ?hc
  case hw => w_witness2
  case hc =>
    refine Ev.walk_ev (l := PySem.Challenge.rw_tautparcel_k17_common_times_of_beats) (k := 18) (x := "_law_script") (g := Kx.fn_law) rfl (by kernel_rfl) ⟨⟨rfl, by decide, by decide⟩, rfl⟩ ?F Kx.law_true
    intro w mg fa h Y G hmg0
    obtain ⟨K, KX, c⟩ := Y
    have hmg : mg ("law" : PySem.Str) = some (.ref fa) := by
      have e : (HandSHeadRun.topDef (OpenLaw.row PySem.Challenge.rw_tautparcel_k17_common_times_of_beats).prog 34).name = ("law" : PySem.Str) := by kernel_rfl
      rw [← e]
      exact hmg0
    have T : Kx.Tz K mg := ⟨⟨h, KX, G⟩, c⟩
    have e := hmg.symm.trans (T.glo (T.c.fact 0))
    cases e
    have b := L2.FunD.bindsA (ps := ["_law_script"]) T.F_law fun _ _ _ _ _ _ us hl => match us, hl with | [_], _ => rfl
    exact ⟨K, _, KX, fun s v => b s [v] rfl, fun base _ _ => Kx.ok_law T⟩

