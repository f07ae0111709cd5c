import PyProof.Rows.All
import Wide.All
import OpenK.AllK
import Wide.FinOn
import KE.KStateDown
import HandS.ForMost
import HandS.ForExc
import HandS.Defaults
import HandS.Wide
import HandS.Gcd
import HandS.Style
import HandS.WideBits
import HandS.TupAny
import HandS.TupMul
import HandS.IsInst
import HandS.Deep
import HandS.NoneIn
import HandS.CallSlots
import HandS.ExcOwn
import HandS.TryMany
import HandS.ExcInit
import HandS.ExcField
import HandS.Property
import HandS.Flow
import HandS.EndBits
import HandS.HeadEnd
import HandS.Head0
import HandS.Head1
import HandS.Head2
import HandS.HeadHook1
import HandS.HeadHook2
import HandS.SortInts
import KE.KMathG
import KE.GoesEnum
import KE.GoesMore
import HandS.Zip
import HandS.RaiseMore
import PyProof.ReprRoads
import PyProof.ReprLen
import PyProof.StrLawsRepr
import HandS.OwnEq
import HandS.More
import KE.SortData
import KE.DataMinMax
import HandS.Rev
import HandS.Comp
import HandS.Head3
import PySem.Challenge.RW_tautparcel_k02_whole_boxes_faces_and_edg
import HandS.ExcCtx
import HandS.HeadNt
set_option Elab.async false
set_option linter.all false
set_option maxRecDepth 100000
set_option maxHeartbeats 4000000
namespace Ev
open PySem PySem.Spec PyProof.Rows L2

/-! ### data, by value -/
inductive D where
  | non | bl (b : Bool) | int (i : Int) | str (s : Str) | tup (xs : List D) | lst (xs : List D) | fl (xs : List D)
  | ins (c : Str) (ns : List Str) (xs : List D)
  | fn (x : Str)

/-- what a slot holds -/
inductive Ent where
  | un | val (d : D) | mu (xs : List D) | exn (c : Str) (ns : List Str) (xs : List D)
abbrev Sto := List Ent
inductive Res (α : Type) where
  | ok (a : α) (e : Sto) | err (c : Str) (ns : List Str) (xs : List D) (e : Sto) | bad
def Res.bind {α β : Type} (r : Res α) (k : α → Sto → Res β) : Res β := match r with
  | .ok a e => k a e
  | .err c ns xs e => .err c ns xs e
  | .bad => .bad
@[simp] theorem Res.bind_ok {α β : Type} (a : α) (e : Sto) (k : α → Sto → Res β) : (Res.ok a e).bind k = k a e := rfl
@[simp] theorem Res.bind_err {α β : Type} (c : Str) (ns : List Str) (xs : List D) (e : Sto) (k : α → Sto → Res β) : (Res.err c ns xs e : Res α).bind k = .err c ns xs e := rfl
@[simp] theorem Res.bind_bad {α β : Type} (k : α → Sto → Res β) : (Res.bad : Res α).bind k = .bad := rfl

/-- where one stands: the written part, the module's names, the exception at hand (its address, its dict), the slots that others watch -/
structure Wd where
  K : PySem.W.Frag
  mg : Str → Option Value
  F : Addr × Value × Option Addr
  R : List Nat

mutual
def Rep (Γ : Wd) (B : Hp) : D → V → Prop
  | .non, v => v = .non
  | .bl b, v => v = .bl b
  | .int i, v => v = .int i
  | .str s, v => v = .str s
  | .tup xs, v => ∃ a vs, v = .ref a ∧ SqT Γ.K B a vs ∧ Reps Γ B xs vs
  | .lst xs, v => ∃ a vs, v = .ref a ∧ B a = some (.lst vs) ∧ Reps Γ B xs vs
  | .fl xs, v => ∃ a vs, v = .ref a ∧ SqL Γ.K B a vs ∧ Reps Γ B xs vs
  | .ins c ns xs, v => ∃ a dx C vs, v = .ref a ∧ Γ.mg c = some (.ref C) ∧ B a = some (.ins C dx (ns.zip vs)) ∧ ns.length = vs.length ∧ Reps Γ B xs vs
  | .fn x, v => ∃ f, v = .ref f ∧ Γ.mg x = some (.ref f)
def Reps (Γ : Wd) (B : Hp) : List D → List V → Prop
  | [], vs => vs = []
  | d :: ds, vs => ∃ v r, vs = v :: r ∧ Rep Γ B d v ∧ Reps Γ B ds r
end

theorem sqT_mono {K : PySem.W.Frag} {H H' : Hp} {a : Addr} {xs : List V} (e : Same H H') : SqT K H a xs → SqT K H' a xs :=
  Or.imp_left fun held => held.imp (e _ _) fun ⟨o, fixed⟩ => ⟨o, e _ _ fixed⟩
mutual
theorem Rep.mono {Γ : Wd} {B B' : Hp} (e : Same B B') : ∀ (d : D) (v : V), Rep Γ B d v → Rep Γ B' d v
  | .non, v, h => h
  | .bl b, v, h => h
  | .int i, v, h => h
  | .str s, v, h => h
  | .tup xs, v, h => by
    obtain ⟨a, vs, e1, e2, e3⟩ := h
    exact ⟨a, vs, e1, sqT_mono e e2, Reps.mono e xs vs e3⟩
  | .lst xs, v, h => by
    obtain ⟨a, vs, e1, e2, e3⟩ := h
    exact ⟨a, vs, e1, e _ _ e2, Reps.mono e xs vs e3⟩
  | .fl xs, v, h => by
    obtain ⟨a, vs, e1, e2, e3⟩ := h
    exact ⟨a, vs, e1, e.seq e2, Reps.mono e xs vs e3⟩
  | .ins c ns xs, v, h => by
    obtain ⟨a, dx, C, vs, e1, e2, e3, e4, e5⟩ := h
    exact ⟨a, dx, C, vs, e1, e2, e _ _ e3, e4, Reps.mono e xs vs e5⟩
  | .fn x, v, h => h
theorem Reps.mono {Γ : Wd} {B B' : Hp} (e : Same B B') : ∀ (ds : List D) (vs : List V), Reps Γ B ds vs → Reps Γ B' ds vs
  | [], vs, h => h
  | d :: ds, vs, h => by
    obtain ⟨v, r, e1, e2, e3⟩ := h
    exact ⟨v, r, e1, Rep.mono e d v e2, Reps.mono e ds r e3⟩
end
theorem Reps.length {Γ : Wd} {B : Hp} : ∀ {ds : List D} {vs : List V}, Reps Γ B ds vs → ds.length = vs.length
  | [], vs, h => by
    have h' : vs = [] := h
    rw [h']
    rfl
  | d :: ds, vs, h => by
    obtain ⟨v, r, e1, e2, e3⟩ := h
    rw [e1, List.length_cons, List.length_cons, Reps.length e3]
theorem Reps.get {Γ : Wd} {B : Hp} : ∀ {ds : List D} {vs : List V} {i : Nat} {d : D}, Reps Γ B ds vs → ds[i]? = some d → ∃ v, vs[i]? = some v ∧ Rep Γ B d v
  | [], vs, i, d, h, q => by simp at q
  | d :: ds, vs, 0, d', h, q => by
    obtain ⟨v, r, e1, e2, e3⟩ := h
    have e : d = d' := by simpa using q
    subst e
    exact ⟨v, by rw [e1]; rfl, e2⟩
  | d :: ds, vs, i + 1, d', h, q => by
    obtain ⟨v, r, e1, e2, e3⟩ := h
    obtain ⟨w, h1, h2⟩ := Reps.get (i := i) e3 (by simpa using q)
    exact ⟨w, by rw [e1]; simpa using h1, h2⟩
theorem Reps.get' {Γ : Wd} {B : Hp} : ∀ {ds : List D} {vs : List V} {i : Nat} {v : V}, Reps Γ B ds vs → vs[i]? = some v → ∃ d, ds[i]? = some d ∧ Rep Γ B d v
  | [], vs, i, d, h, q => by
    have h' : vs = [] := h
    rw [h'] at q
    simp at q
  | d :: ds, vs, 0, d', h, q => by
    obtain ⟨v, r, e1, e2, e3⟩ := h
    rw [e1] at q
    have e : v = d' := by simpa using q
    subst e
    exact ⟨d, rfl, e2⟩
  | d :: ds, vs, i + 1, d', h, q => by
    obtain ⟨v, r, e1, e2, e3⟩ := h
    rw [e1] at q
    obtain ⟨w, h1, h2⟩ := Reps.get' (i := i) e3 (by simpa using q)
    exact ⟨w, by simpa using h1, h2⟩
theorem Reps.append {Γ : Wd} {B : Hp} : ∀ {ds es : List D} {vs ws : List V}, Reps Γ B ds vs → Reps Γ B es ws → Reps Γ B (ds ++ es) (vs ++ ws)
  | [], es, vs, ws, h, k => by
    have h' : vs = [] := h
    rw [h']
    exact k
  | d :: ds, es, vs, ws, h, k => by
    obtain ⟨v, r, e1, e2, e3⟩ := h
    exact ⟨v, r ++ ws, by rw [e1]; rfl, e2, Reps.append e3 k⟩
theorem Reps.one {Γ : Wd} {B : Hp} {d : D} {v : V} (h : Rep Γ B d v) : Reps Γ B [d] [v] := ⟨v, [], rfl, h, rfl⟩
theorem Reps.set {Γ : Wd} {B : Hp} {d : D} {v : V} (h : Rep Γ B d v) : ∀ {ds : List D} {vs : List V} (i : Nat), Reps Γ B ds vs → Reps Γ B (ds.set i d) (vs.set i v)
  | [], vs, i, k => by
    have k' : vs = [] := k
    rw [k']
    rfl
  | e :: ds, vs, 0, k => by
    obtain ⟨w, r, e1, e2, e3⟩ := k
    exact ⟨v, r, by rw [e1]; rfl, h, e3⟩
  | e :: ds, vs, i + 1, k => by
    obtain ⟨w, r, e1, e2, e3⟩ := k
    exact ⟨w, r.set i v, by rw [e1]; rfl, e2, Reps.set h i e3⟩
theorem Reps.take {Γ : Wd} {B : Hp} : ∀ {ds : List D} {vs : List V} (n : Nat), Reps Γ B ds vs → Reps Γ B (ds.take n) (vs.take n)
  | ds, vs, 0, _ => by simp; rfl
  | [], vs, n + 1, k => by
    have k' : vs = [] := k
    rw [k']
    simp; rfl
  | e :: ds, vs, n + 1, k => by
    obtain ⟨w, r, e1, e2, e3⟩ := k
    exact ⟨w, r.take n, by rw [e1]; rfl, e2, Reps.take n e3⟩
theorem Reps.drop {Γ : Wd} {B : Hp} : ∀ {ds : List D} {vs : List V} (n : Nat), Reps Γ B ds vs → Reps Γ B (ds.drop n) (vs.drop n)
  | ds, vs, 0, h => h
  | [], vs, n + 1, k => by
    have k' : vs = [] := k
    rw [k']
    simp; rfl
  | e :: ds, vs, n + 1, k => by
    obtain ⟨w, r, e1, e2, e3⟩ := k
    rw [e1]
    exact Reps.drop n e3

/-! ### the state -/
def EntOk (Γ : Wd) (B H : Hp) : Ent → Option V → Prop
  | .un, _ => True
  | .val d, o => ∃ v, o = some v ∧ Rep Γ B d v
  | .mu xs, o => ∃ p vs, o = some (.ref p) ∧ B p = none ∧ H p = some (.lst vs) ∧ Reps Γ B xs vs
  | .exn c ns xs, o => ∃ dd vs, o = some (.ref Γ.F.1) ∧ (Γ.F.2.2 = some dd ∧ ∃ C, Γ.mg c = some (.ref C) ∧ Γ.F.2.1 = .ref C) ∧ H dd = some (.xd (ns.zip vs)) ∧ ns.length = vs.length ∧ Reps Γ B xs vs
def Own (env : Sto) (σ : L2.St) (p : Addr) : Prop := ∃ (i : Nat) (xs : List D), env[i]? = some (.mu xs) ∧ σ[i]? = some (some (.ref p))
structure StOk (Γ : Wd) (env : Sto) (σ : L2.St) (B H : Hp) : Prop where
  same : Same B H
  len : env.length = σ.length
  ent : ∀ (i : Nat) (e : Ent) (o : Option V), env[i]? = some e → σ[i]? = some o → EntOk Γ B H e o
  dis : ∀ (i j : Nat) (xs ys : List D) (p : Addr), env[i]? = some (.mu xs) → env[j]? = some (.mu ys) → σ[i]? = some (some (.ref p)) → σ[j]? = some (some (.ref p)) → i = j
structure Ext (Γ : Wd) (env : Sto) (σ : L2.St) (B H : Hp) (env' : Sto) (σ' : L2.St) (B' H' : Hp) : Prop where
  b : Same B B'
  t : ∀ p, H p ≠ none → H' p ≠ none
  f : ∀ p o, H p = some o → ¬ Own env σ p → H' p = some o ∧ (B p = none → B' p = none) ∧ ¬ Own env' σ' p
  r : ∀ i ∈ Γ.R, σ'[i]? = σ[i]? ∧ ∀ xs p, env[i]? = some (.mu xs) → σ[i]? = some (some (.ref p)) → (∃ ys, env'[i]? = some (.mu ys)) ∨ B' p ≠ none
section
variable {Γ : Wd} {env env' env2 : Sto} {σ σ' σ2 : L2.St} {B H B' H' B2 H2 : Hp}
theorem Ext.refl : Ext Γ env σ B H env σ B H := ⟨Same.refl _, fun _ h => h, fun p o h n => ⟨h, fun q => q, n⟩, fun i _ => ⟨rfl, fun xs p e _ => .inl ⟨xs, e⟩⟩⟩
theorem Ext.trans (a : Ext Γ env σ B H env' σ' B' H') (c : Ext Γ env' σ' B' H' env2 σ2 B2 H2) : Ext Γ env σ B H env2 σ2 B2 H2 where
  b := a.b.trans c.b
  t := fun p h => c.t p (a.t p h)
  f := fun p o h n => by
    obtain ⟨h1, h2, h3⟩ := a.f p o h n
    obtain ⟨k1, k2, k3⟩ := c.f p o h1 h3
    exact ⟨k1, fun q => k2 (h2 q), k3⟩
  r := fun i hi => by
    obtain ⟨h1, h2⟩ := a.r i hi
    obtain ⟨k1, k2⟩ := c.r i hi
    refine ⟨k1.trans h1, fun xs p e1 e2 => ?_⟩
    rcases h2 xs p e1 e2 with ⟨ys, q⟩ | q
    · exact k2 ys p q (h1.trans e2)
    · refine .inr fun z => q ?_
      cases e : B' p with
      | none => rfl
      | some o =>
        have := c.b p o e
        rw [z] at this
        cases this
theorem EntOk.up {e : Ent} {o : Option V} (sb : Same B B') (hm : ∀ xs p, e = .mu xs → o = some (.ref p) → B' p = none) (sh : Same H H') (h : EntOk Γ B H e o) : EntOk Γ B' H' e o := by
  cases e with
  | un => trivial
  | val d =>
    obtain ⟨v, e1, e2⟩ := h
    exact ⟨v, e1, Rep.mono sb d v e2⟩
  | mu xs =>
    obtain ⟨p, vs, e1, e2, e3, e4⟩ := h
    exact ⟨p, vs, e1, hm xs p rfl e1, sh _ _ e3, Reps.mono sb xs vs e4⟩
  | exn c ns xs =>
    obtain ⟨dd, vs, e1, e2, e3, e4, e5⟩ := h
    exact ⟨dd, vs, e1, e2, sh _ _ e3, e4, Reps.mono sb xs vs e5⟩
/-- the heap grew -/
theorem StOk.grow (s : StOk Γ env σ B H) (sb : Same B B') (sh : Same H H') (sbh : Same B' H') (ho : ∀ p, Own env σ p → B' p = none) : StOk Γ env σ B' H' :=
  ⟨sbh, s.len, fun i e o h1 h2 => (s.ent i e o h1 h2).up sb (fun xs p e1 e2 => ho p ⟨i, xs, by rw [h1, e1], by rw [h2, e2]⟩) sh, s.dis⟩
theorem Ext.grow (sb : Same B B') (sh : Same H H') (hn : ∀ p o, H p = some o → B p = none → B' p = none) : Ext Γ env σ B H env σ B' H' :=
  ⟨sb, fun p h z => h (sh.free z), fun p o h n => ⟨sh p o h, hn p o h, n⟩, fun i _ => ⟨rfl, fun xs p e _ => .inl ⟨xs, e⟩⟩⟩
theorem StOk.own_none (s : StOk Γ env σ B H) {p : Addr} (h : Own env σ p) : B p = none ∧ ∃ vs, H p = some (.lst vs) := by
  obtain ⟨i, xs, e1, e2⟩ := h
  obtain ⟨q, vs, h1, h2, h3, _⟩ := s.ent i _ _ e1 e2
  cases h1
  exact ⟨h2, vs, h3⟩
theorem StOk.own_tracked (s : StOk Γ env σ B H) {p : Addr} (h : Own env σ p) : H p ≠ none := by
  obtain ⟨_, vs, e⟩ := s.own_none h
  rw [e]
  exact fun z => nomatch z
theorem StOk.fresh_own (s : StOk Γ env σ B H) {p : Addr} (h : H p = none) : ¬ Own env σ p := fun z => s.own_tracked z h
theorem StOk.bfresh (s : StOk Γ env σ B H) {p : Addr} (h : H p = none) : B p = none := s.same.free h
theorem same_upd {H : Hp} {p : Addr} {o : HO} (h : H p = none) : Same H (upd H p o) := fun b x e => by
  rw [upd_ne (ne_of_none e h)]
  exact e
theorem same_upd2 {B H : Hp} {p : Addr} {o : HO} (s : Same B H) : Same (upd B p o) (upd H p o) := fun b x e => by
  by_cases hb : b = p
  · subst hb
    rw [upd_same] at e ⊢
    exact e
  · rw [upd_ne hb] at e ⊢
    exact s b x e
/-- a new thing, frozen -/
theorem StOk.new (s : StOk Γ env σ B H) {p : Addr} {o : HO} (h : H p = none) : StOk Γ env σ (upd B p o) (upd H p o) :=
  s.grow (same_upd (s.bfresh h)) (same_upd h) (same_upd2 s.same) fun q hq => by
    rw [upd_ne]
    · exact (s.own_none hq).1
    · rintro rfl
      exact s.own_tracked hq h
theorem Ext.new (s : StOk Γ env σ B H) {p : Addr} {o : HO} (h : H p = none) : Ext Γ env σ B H env σ (upd B p o) (upd H p o) :=
  Ext.grow (same_upd (s.bfresh h)) (same_upd h) fun q u hq hb => by
    rw [upd_ne (ne_of_none hq h)]
    exact hb
/-- a new thing that is not frozen -/
theorem StOk.newM (s : StOk Γ env σ B H) {p : Addr} {o : HO} (h : H p = none) : StOk Γ env σ B (upd H p o) :=
  s.grow (Same.refl _) (same_upd h) (s.same.trans (same_upd h)) fun q hq => (s.own_none hq).1
theorem Ext.newM {p : Addr} {o : HO} (h : H p = none) : Ext Γ env σ B H env σ B (upd H p o) :=
  Ext.grow (Same.refl _) (same_upd h) fun q u hq hb => hb
/-- a tracked thing is frozen -/
theorem same_frz {B H : Hp} {p : Addr} {o : HO} (s : Same B H) (h : H p = some o) : Same (upd B p o) H := fun b x e => by
  by_cases hb : b = p
  · subst hb
    rw [upd_same] at e
    rw [h]
    exact e
  · rw [upd_ne hb] at e
    exact s b x e
theorem StOk.frz (s : StOk Γ env σ B H) {p : Addr} {o : HO} (hb : B p = none) (h : H p = some o) (ho : ¬ Own env σ p) : StOk Γ env σ (upd B p o) H :=
  s.grow (same_upd hb) (Same.refl _) (same_frz s.same h) fun q hq => by
    rw [upd_ne]
    · exact (s.own_none hq).1
    · rintro rfl
      exact ho hq
/-- what a thing that is raised bears -/
def XnOk (Γ : Wd) (B H : Hp) (c : Str) (ns : List Str) (xs : List D) (cls : Value) (d : Option Addr) : Prop :=
  ∃ C dd vs, Γ.mg c = some (.ref C) ∧ cls = .ref C ∧ d = some dd ∧ H dd = some (.xd (ns.zip vs)) ∧ ns.length = vs.length ∧ Reps Γ B xs vs

/-- what is wanted behind an expression -/
def Post {α : Type} (Γ : Wd) (W : WX) (env : Sto) (σ : L2.St) (B H : Hp) (Φ : α → Sto → Hp → Hp → Prop) : Res α → Prop
  | .ok a env' => ∀ B' H', StOk Γ env' σ B' H' → Ext Γ env σ B H env' σ B' H' → Φ a env' B' H'
  | .err c ns xs env' => ∀ cls d B' H', StOk Γ env' σ B' H' → Ext Γ env σ B H env' σ B' H' → XnOk Γ B' H' c ns xs cls d → W cls d σ H'
  | .bad => False
theorem Post.bind {α β : Type} {W : WX} {Φ : β → Sto → Hp → Hp → Prop} {r : Res α} {k : α → Sto → Res β} (h : Post Γ W env σ B H Φ (r.bind k)) :
    Post Γ W env σ B H (fun a env' B' H' => Post Γ W env' σ B' H' Φ (k a env')) r := by
  cases r with
  | ok a e =>
    intro B' H' s x
    cases hk : k a e with
    | ok b e2 =>
      rw [Res.bind_ok, hk] at h
      exact fun B2 H2 s2 x2 => h B2 H2 s2 (x.trans x2)
    | err c ns xs e2 =>
      rw [Res.bind_ok, hk] at h
      exact fun cls d B2 H2 s2 x2 => h cls d B2 H2 s2 (x.trans x2)
    | bad =>
      rw [Res.bind_ok, hk] at h
      exact h.elim
  | err c ns xs e => exact h
  | bad => exact h
theorem Post.mono {α : Type} {W : WX} {Φ Ψ : α → Sto → Hp → Hp → Prop} {r : Res α} (h : Post Γ W env σ B H Φ r) (i : ∀ a env' B' H', StOk Γ env' σ B' H' → Ext Γ env σ B H env' σ B' H' → Φ a env' B' H' → Ψ a env' B' H') : Post Γ W env σ B H Ψ r := by
  cases r with
  | ok a e => exact fun B' H' s x => i a e B' H' s x (h B' H' s x)
  | err c ns xs e => exact h
  | bad => exact h
theorem Post.here {α : Type} {W : WX} {Φ : α → Sto → Hp → Hp → Prop} {a : α} (s : StOk Γ env σ B H) (h : Post Γ W env σ B H Φ (.ok a env)) : Φ a env B H := h B H s Ext.refl
end

/-! ### readings -/
abbrev DenV := Sto → Res D
abbrev DenT := Sto → Res Bool
abbrev DenF := Sto → Res Ent
def tV (Γ : Wd) (W : WX) (f : DenV) : TE := fun σ H Q => ∃ env B, StOk Γ env σ B H ∧ Post Γ W env σ B H (fun d _ B' H' => ∀ v, Rep Γ B' d v → Q v H') (f env)
def tT (Γ : Wd) (W : WX) (f : DenT) : TT := fun σ H Q => ∃ env B, StOk Γ env σ B H ∧ Post Γ W env σ B H (fun b _ _ H' => Q b H') (f env)
/-- a list that may be handed over: new, or of a slot that nobody watches -/
def FreeR (Γ : Wd) (env : Sto) (σ : L2.St) (H : Hp) (p : Addr) : Prop := H p = none ∨ ∃ (i : Nat) (xs : List D), i ∉ Γ.R ∧ env[i]? = some (.mu xs) ∧ σ[i]? = some (some (.ref p))
theorem FreeR.back {Γ : Wd} {env env1 : Sto} {σ σ1 : L2.St} {B H B1 H1 : Hp} {p : Addr} (s1 : StOk Γ env1 σ1 B1 H1) (x : Ext Γ env σ B H env1 σ1 B1 H1) (h : FreeR Γ env1 σ1 H1 p) : FreeR Γ env σ H p := by
  by_cases e : H p = none
  · exact .inl e
  · rcases h with h | ⟨i, xs, hi, e1, e2⟩
    · exact absurd h (x.t p e)
    · by_cases o : Own env σ p
      · obtain ⟨j, ys, k1, k2⟩ := o
        by_cases hj : j ∈ Γ.R
        · obtain ⟨r1, r2⟩ := x.r j hj
          rcases r2 ys p k1 k2 with ⟨zs, q⟩ | q
          · exact absurd (s1.dis i j xs zs p e1 q e2 (r1.trans k2)) (fun z => hi (z ▸ hj))
          · exact absurd (s1.own_none ⟨i, xs, e1, e2⟩).1 q
        · exact .inr ⟨j, ys, hj, k1, k2⟩
      · cases hp : H p with
        | none => exact absurd hp e
        | some u => exact absurd ⟨i, xs, e1, e2⟩ (x.f p u hp o).2.2
theorem FreeR.ne {Γ : Wd} {env : Sto} {σ : L2.St} {H : Hp} {p q : Addr} {o : HO} (h : FreeR Γ env σ H p) (hq : H q = some o) (n : ¬ Own env σ q) : q ≠ p := by
  rintro rfl
  rcases h with h | ⟨i, xs, hi, e1, e2⟩
  · rw [h] at hq; cases hq
  · exact n ⟨i, xs, e1, e2⟩
def RetOk (Γ : Wd) (P : Addr → Prop) (env' : Sto) (σ' : L2.St) (B' H' : Hp) : Ent → V → Prop
  | .val d, v => Rep Γ B' d v
  | .mu xs, v => ∃ p vs, v = .ref p ∧ P p ∧ B' p = none ∧ H' p = some (.lst vs) ∧ Reps Γ B' xs vs ∧ ¬ Own env' σ' p
  | _, _ => False
def tF (Γ : Wd) (W : WX) (f : DenF) : TE := fun σ H Q => ∃ env B, StOk Γ env σ B H ∧ Post Γ W env σ B H (fun r env' B' H' => ∀ v, RetOk Γ (FreeR Γ env σ H) env' σ B' H' r v → Q v H') (f env)
abbrev SV (X : Cx) (Γ : Wd) (W : WX) (e : Expr) (f : DenV) : Prop := PE X e (tV Γ W f)
abbrev ST (X : Cx) (Γ : Wd) (W : WX) (e : Expr) (f : DenT) : Prop := PT X e (tT Γ W f)
abbrev SF (X : Cx) (Γ : Wd) (W : WX) (e : Expr) (f : DenF) : Prop := PE X e (tF Γ W f)
section
variable {X : Cx} {e : Expr}
theorem imE {t t' : TE} (h : PE X e t) (i : ∀ σ H Q, t' σ H Q → t σ H Q) : PE X e t' := ⟨fun pins s σ H Q I q => h.run pins s σ H Q I (i σ H Q q)⟩
theorem imT {t t' : TT} (h : PT X e t) (i : ∀ σ H Q, t' σ H Q → t σ H Q) : PT X e t' := ⟨fun pins s σ H Q I q => h.run pins s σ H Q I (i σ H Q q)⟩
theorem imW {t t' : TT} (h : PW X e t) (i : ∀ σ H Q, t' σ H Q → t σ H Q) : PW X e t' := ⟨fun wh pins s σ H Q I q => h.run wh pins s σ H Q I (i σ H Q q)⟩
theorem imS {st : Stmt} {t t' : TS} (h : PS X st t) (i : ∀ Q σ H, t' Q σ H → t Q σ H) : PS X st t' := ⟨fun pins s σ H Q I q => h.run pins s σ H Q I (i Q σ H q)⟩
theorem imSs {st : List Stmt} {t t' : TS} (h : PSs X st t) (i : ∀ Q σ H, t' Q σ H → t Q σ H) : PSs X st t' := ⟨fun pins s σ H Q I q => h.run pins s σ H Q I (i Q σ H q)⟩
end
/-- a thing as data -/
def Ent.dat : Ent → Option D
  | .val d => some d
  | .mu xs => some (.lst xs)
  | _ => none
def frzE (r : Ent) (e : Sto) : Res D := match r with
  | .val d => .ok d e
  | .mu xs => .ok (.lst xs) e
  | _ => .bad
def dFrz (f : DenF) : DenV := fun env => (f env).bind frzE
def dVal (f : DenV) : DenF := fun env => (f env).bind fun d e => .ok (.val d) e
section
variable {X : Cx} {Γ : Wd} {W : WX} {e : Expr}
theorem Ext.frz {env env' : Sto} {σ σ' : L2.St} {B H B' H' : Hp} {a : Addr} {o : HO} (x : Ext Γ env σ B H env' σ' B' H') (h0 : FreeR Γ env σ H a) (h1 : B' a = none) : Ext Γ env σ B H env' σ' (upd B' a o) H' where
  b := x.b.trans (same_upd h1)
  t := x.t
  f := fun p u hp n => by
    obtain ⟨k1, k2, k3⟩ := x.f p u hp n
    exact ⟨k1, fun q => by rw [upd_ne (h0.ne hp n)]; exact k2 q, k3⟩
  r := fun i hi => by
    obtain ⟨k1, k2⟩ := x.r i hi
    refine ⟨k1, fun xs p e1 e2 => ?_⟩
    rcases k2 xs p e1 e2 with q | q
    · exact .inl q
    · refine .inr fun z => q ?_
      cases e : B' p with
      | none => rfl
      | some u =>
        have := same_upd (o := o) h1 p u e
        rw [z] at this
        cases this
/-- a fresh list goes where it may be read by all -/
theorem sFrz {f : DenF} (h : SF X Γ W e f) : SV X Γ W e (dFrz f) := imE h fun σ H Q ⟨env, B, s, p⟩ => by
  refine ⟨env, B, s, ?_⟩
  have p' : Post Γ W env σ B H (fun d _ B' H' => ∀ v, Rep Γ B' d v → Q v H') ((f env).bind frzE) := p
  cases hf : f env with
  | bad =>
    rw [hf] at p'
    exact p'
  | err c ns xs env' =>
    rw [hf] at p'
    exact p'
  | ok r env' =>
    rw [hf] at p'
    intro B' H' s' x v hv
    cases r with
    | val d => exact p' B' H' s' x v hv
    | mu xs =>
      obtain ⟨a, vs, rfl, h0, h1, h2, h3, h4⟩ := hv
      exact p' (upd B' a (.lst vs)) H' (s'.frz h1 h2 h4) (x.frz h0 h1) _ ⟨a, vs, rfl, upd_same, Reps.mono (same_upd h1) xs vs h3⟩
    | un => exact hv.elim
    | exn c ns xs => exact hv.elim
theorem sVal {f : DenV} (h : SV X Γ W e f) : SF X Γ W e (dVal f) := imE h fun σ H Q ⟨env, B, s, p⟩ =>
  ⟨env, B, s, p.bind.mono fun d env' B' H' s' x q v hv => Post.here s' q v hv⟩
end
end Ev
set_option Elab.async false
set_option linter.all false
set_option maxRecDepth 100000
set_option maxHeartbeats 4000000
namespace Ev
open PySem PySem.Spec PyProof.Rows L2

/-! ### == of data -/
mutual
def D.py : D → PyData
  | .non => .none
  | .bl b => .bool b
  | .int i => .int i
  | .str s => .str s
  | .tup xs => .tuple (pys xs)
  | .lst xs => .list (pys xs)
  | .fl xs => .list (pys xs)
  | .ins _ _ _ => .dict []
  | .fn _ => .dict []
def pys : List D → List PyData
  | [] => []
  | d :: ds => d.py :: pys ds
end
def deq (a b : D) : Bool := PyData.eqv a.py b.py
def deqs (a b : List D) : Bool := PyData.eqvAll (pys a) (pys b)
mutual
/-- no instance within, the texts sound, not deeper than n -/
def shp : Nat → D → Bool
  | _, .non => true
  | _, .bl _ => true
  | _, .int _ => true
  | _, .str s => PyData.strOk s
  | 0, .tup _ => false
  | 0, .lst _ => false
  | n + 1, .tup xs => shps n xs
  | n + 1, .lst xs => shps n xs
  | 0, .fl _ => false
  | n + 1, .fl xs => shps n xs
  | _, .ins _ _ _ => false
  | _, .fn _ => false
def shps : Nat → List D → Bool
  | _, [] => true
  | n, d :: ds => shp n d && shps n ds
end
mutual
theorem shp_ok : ∀ (n : Nat) (d : D), shp n d = true → d.py.canLay0 = true ∧ d.py.depth ≤ n
  | n, .non, _ => by simp [D.py, PyData.canLay0, PyData.depth]
  | n, .bl b, _ => by simp [D.py, PyData.canLay0, PyData.depth]
  | n, .int b, _ => by simp [D.py, PyData.canLay0, PyData.depth]
  | n, .str b, h => by
    have h' : PyData.strOk b = true := by simpa [shp] using h
    simp [D.py, PyData.canLay0, PyData.depth, h']
  | 0, .tup xs, h => by simp [shp] at h
  | 0, .lst xs, h => by simp [shp] at h
  | 0, .fl xs, h => by simp [shp] at h
  | n + 1, .tup xs, h => by
    have h' : shps n xs = true := by simpa [shp] using h
    obtain ⟨h1, h2⟩ := shps_ok n xs h'
    simp [D.py, PyData.canLay0, PyData.depth, h1, h2]
  | n + 1, .lst xs, h => by
    have h' : shps n xs = true := by simpa [shp] using h
    obtain ⟨h1, h2⟩ := shps_ok n xs h'
    simp [D.py, PyData.canLay0, PyData.depth, h1, h2]
  | n + 1, .fl xs, h => by
    have h' : shps n xs = true := by simpa [shp] using h
    obtain ⟨h1, h2⟩ := shps_ok n xs h'
    simp [D.py, PyData.canLay0, PyData.depth, h1, h2]
  | n, .ins _ _ _, h => by
    cases n <;> simp [shp] at h
  | n, .fn _, h => by
    cases n <;> simp [shp] at h
theorem shps_ok : ∀ (n : Nat) (ds : List D), shps n ds = true → PyData.canLayAll0 (pys ds) = true ∧ PyData.depthAll (pys ds) ≤ n
  | n, [], _ => by simp [pys, PyData.canLayAll0, PyData.depthAll]
  | n, d :: ds, h => by
    have h' : shp n d = true ∧ shps n ds = true := by simpa [shps] using h
    obtain ⟨h1, h2⟩ := shp_ok n d h'.1
    obtain ⟨h3, h4⟩ := shps_ok n ds h'.2
    simp only [pys, PyData.canLayAll0, PyData.depthAll, h1, h3, Bool.and_self, true_and]
    omega
end
theorem shaped_of {d : D} (h : shp 64 d = true) : SeqAt.shaped d.py = true := by
  obtain ⟨h1, h2⟩ := shp_ok 64 d h
  unfold SeqAt.shaped
  rw [h1, decide_eq_true h2]
  rfl

def D.isN : D → Bool
  | .non => true
  | _ => false
/-! ### operands that are read at their use -/
inductive Ar where
  | s (i : Nat) | v (d : D)
def ArOk (Γ : Wd) (B : Hp) (σ : L2.St) : Ar → V → Prop
  | .s i, v => σ[i]? = some (some v)
  | .v d, v => Rep Γ B d v
theorem ArOk.mono {Γ : Wd} {B B' : Hp} {σ : L2.St} (e : Same B B') {a : Ar} {v : V} (h : ArOk Γ B σ a v) : ArOk Γ B' σ a v := by
  cases a with
  | s i => exact h
  | v d => exact Rep.mono e d v h
def Ar.get : Ar → Sto → Option D
  | .v d, _ => some d
  | .s i, env => match env[i]? with
    | some (.val d) => some d
    | some (.mu xs) => some (.lst xs)
    | _ => none
/-- a thing as it stands now: its parts are frozen, itself perhaps not -/
def RepT (Γ : Wd) (B H : Hp) (d : D) (v : V) : Prop := Rep Γ B d v ∨ ∃ xs p vs, d = .lst xs ∧ v = .ref p ∧ H p = some (.lst vs) ∧ Reps Γ B xs vs
section
variable {Γ : Wd} {W : WX} {env env' : Sto} {σ : L2.St} {B H B' H' : Hp} {v : V}
theorem Ar.now (s : StOk Γ env σ B H) {a : Ar} {d : D} (h : ArOk Γ B σ a v) (g : a.get env = some d) : RepT Γ B H d v := by
  cases a with
  | v d' =>
    have e : d' = d := Option.some.inj g
    subst e
    exact .inl h
  | s i =>
    have h' : σ[i]? = some (some v) := h
    have g' : (match env[i]? with | some (.val d) => some d | some (.mu xs) => some (.lst xs) | _ => none) = some d := g
    cases e : env[i]? with
    | none => rw [e] at g'; cases g'
    | some en =>
      rw [e] at g'
      have k := s.ent i en _ e h'
      cases en with
      | val d' =>
        have e2 : d' = d := Option.some.inj g'
        subst e2
        obtain ⟨w, e3, r⟩ := k
        cases e3
        exact .inl r
      | mu xs =>
        have e2 : D.lst xs = d := Option.some.inj g'
        subst e2
        obtain ⟨p, vs, e3, _, hp, r⟩ := k
        cases e3
        exact .inr ⟨xs, p, vs, rfl, rfl, hp, r⟩
      | un => cases g'
      | exn c ns xs => cases g'
theorem RepT.tup {xs : List D} (s : Same B H) (h : RepT Γ B H (.tup xs) v) : ∃ p vs, v = .ref p ∧ SqT Γ.K H p vs ∧ Reps Γ B xs vs := by
  rcases h with ⟨a, vs, e, q, r⟩ | ⟨ys, p, vs, e1, e2, q, r⟩
  · exact ⟨a, vs, e, sqT_mono s q, r⟩
  · cases e1
theorem RepT.lst {xs : List D} (s : Same B H) (h : RepT Γ B H (.lst xs) v) : ∃ p vs, v = .ref p ∧ H p = some (.lst vs) ∧ Reps Γ B xs vs := by
  rcases h with ⟨a, vs, e, q, r⟩ | ⟨ys, p, vs, e1, e2, q, r⟩
  · exact ⟨a, vs, e, s _ _ q, r⟩
  · cases e1
    exact ⟨p, vs, e2, q, r⟩
theorem RepT.fl {xs : List D} (s : Same B H) (h : RepT Γ B H (.fl xs) v) : ∃ p vs, v = .ref p ∧ SqL Γ.K H p vs ∧ Reps Γ B xs vs := by
  rcases h with ⟨a, vs, e, q, r⟩ | ⟨ys, p, vs, e1, e2, q, r⟩
  · exact ⟨a, vs, e, s.seq q, r⟩
  · cases e1
/-- the items of a list or tuple -/
def D.its : D → Option (List D)
  | .tup xs => some xs
  | .lst xs => some xs
  | .fl xs => some xs
  | _ => none
theorem RepT.seq {d : D} {xs : List D} (s : Same B H) (h : RepT Γ B H d v) (e : d.its = some xs) : ∃ p vs, v = .ref p ∧ (SqL Γ.K H p vs ∨ SqT Γ.K H p vs) ∧ Reps Γ B xs vs := by
  cases d with
  | tup ys =>
    cases e
    obtain ⟨p, vs, h1, h2, h3⟩ := h.tup s
    exact ⟨p, vs, h1, .inr h2, h3⟩
  | lst ys =>
    cases e
    obtain ⟨p, vs, h1, h2, h3⟩ := h.lst s
    exact ⟨p, vs, h1, .inl (.inl (.inl h2)), h3⟩
  | fl ys =>
    cases e
    obtain ⟨p, vs, h1, h2, h3⟩ := h.fl s
    exact ⟨p, vs, h1, .inl h2, h3⟩
  | _ => cases e
theorem RepT.int {i : Int} (h : RepT Γ B H (.int i) v) : v = .int i := by
  rcases h with h | ⟨ys, p, vs, e1, e2, q, r⟩
  · exact h
  · cases e1
theorem RepT.bl {i : Bool} (h : RepT Γ B H (.bl i) v) : v = .bl i := by
  rcases h with h | ⟨ys, p, vs, e1, e2, q, r⟩
  · exact h
  · cases e1
theorem RepT.str {i : Str} (h : RepT Γ B H (.str i) v) : v = .str i := by
  rcases h with h | ⟨ys, p, vs, e1, e2, q, r⟩
  · exact h
  · cases e1
theorem RepT.non (h : RepT Γ B H .non v) : v = .non := by
  rcases h with h | ⟨ys, p, vs, e1, e2, q, r⟩
  · exact h
  · cases e1
theorem RepT.none_iff {d : D} (h : RepT Γ B H d v) : decide (v = .non) = d.isN := by
  cases d with
  | non => rw [h.non]; rfl
  | bl b => rw [h.bl]; rfl
  | int b => rw [h.int]; rfl
  | str b => rw [h.str]; rfl
  | tup xs =>
    rcases h with ⟨a, vs, e, q, r⟩ | ⟨ys, p, vs, e1, e2, q, r⟩
    · rw [e]; rfl
    · rw [e2]; rfl
  | lst xs =>
    rcases h with ⟨a, vs, e, q, r⟩ | ⟨ys, p, vs, e1, e2, q, r⟩
    · rw [e]; rfl
    · rw [e2]; rfl
  | fl xs =>
    rcases h with ⟨a, vs, e, q, r⟩ | ⟨ys, p, vs, e1, e2, q, r⟩
    · rw [e]; rfl
    · rw [e2]; rfl
  | ins c ns xs =>
    rcases h with ⟨a, dx, C, vs, e, q⟩ | ⟨ys, p, vs, e1, e2, q, r⟩
    · rw [e]; rfl
    · rw [e2]; rfl
  | fn x =>
    rcases h with ⟨a, e, q⟩ | ⟨ys, p, vs, e1, e2, q, r⟩
    · rw [e]; rfl
    · rw [e2]; rfl
mutual
theorem Rep.dp : ∀ (n : Nat) (d : D) (v : V), shp n d = true → Rep Γ B d v → Dp Γ.K B v d.py
  | _, .non, v, _, h => by
    have h' : v = .non := h
    rw [h']; exact .non
  | _, .bl b, v, _, h => by
    have h' : v = .bl b := h
    rw [h']; exact .bl b
  | _, .int b, v, _, h => by
    have h' : v = .int b := h
    rw [h']; exact .int b
  | _, .str b, v, _, h => by
    have h' : v = .str b := h
    rw [h']; exact .str b
  | 0, .tup xs, v, q, h => by simp [shp] at q
  | 0, .lst xs, v, q, h => by simp [shp] at q
  | 0, .fl xs, v, q, h => by simp [shp] at q
  | n + 1, .tup xs, v, q, h => by
    obtain ⟨a, vs, e, k, r⟩ := h
    rw [e]
    exact .tup k (Reps.dp n xs vs (by simpa [shp] using q) r)
  | n + 1, .lst xs, v, q, h => by
    obtain ⟨a, vs, e, k, r⟩ := h
    rw [e]
    exact .lst (.inl (.inl k)) (Reps.dp n xs vs (by simpa [shp] using q) r)
  | n + 1, .fl xs, v, q, h => by
    obtain ⟨a, vs, e, k, r⟩ := h
    rw [e]
    exact .lst k (Reps.dp n xs vs (by simpa [shp] using q) r)
  | n, .ins _ _ _, v, q, h => by
    cases n <;> simp [shp] at q
  | n, .fn _, v, q, h => by
    cases n <;> simp [shp] at q
theorem Reps.dp : ∀ (n : Nat) (ds : List D) (vs : List V), shps n ds = true → Reps Γ B ds vs → DpAll Γ.K B vs (pys ds)
  | n, [], vs, _, h => by
    have h' : vs = [] := h
    rw [h']; exact .nil
  | n, d :: ds, vs, q, h => by
    obtain ⟨v, r, e1, e2, e3⟩ := h
    have q' : shp n d = true ∧ shps n ds = true := by simpa [shps] using q
    rw [e1]
    exact .cons (Rep.dp n d v q'.1 e2) (Reps.dp n ds r q'.2 e3)
end
theorem RepT.dp {d : D} (s : Same B H) (q : shp 64 d = true) (h : RepT Γ B H d v) : Dp Γ.K H v d.py := by
  rcases h with h | ⟨xs, p, vs, rfl, rfl, hp, r⟩
  · exact Rep.dp 64 d v q (Rep.mono s d v h)
  · exact .lst (.inl (.inl hp)) (Reps.dp 63 xs vs (by simpa [shp] using q) (Reps.mono s xs vs r))
/-- what an operation may hand back -/
theorem Post.val {P0 : Addr → Prop} {Q : VK} {d : D} (s : StOk Γ env σ B H) (h : Post Γ W env σ B H (fun r env' B' H' => ∀ v, RetOk Γ P0 env' σ B' H' r v → Q v H') (.ok (.val d) env)) (r : Rep Γ B d v) : Q v H := Post.here s h v r
theorem Post.newT {P0 : Addr → Prop} {Q : VK} {xs : List D} {p : Addr} {vs : List V} (s : StOk Γ env σ B H) (h : Post Γ W env σ B H (fun r env' B' H' => ∀ v, RetOk Γ P0 env' σ B' H' r v → Q v H') (.ok (.val (.tup xs)) env)) (r : Reps Γ B xs vs) (hp : H p = none) : Q (.ref p) (upd H p (.tup vs)) :=
  h _ _ (s.new hp) (Ext.new s hp) _ ⟨p, vs, rfl, .inl (.inl upd_same), Reps.mono (same_upd (s.bfresh hp)) xs vs r⟩
theorem Post.newL {P0 : Addr → Prop} {Q : VK} {xs : List D} {p : Addr} {vs : List V} (h0 : ∀ p, H p = none → P0 p) (s : StOk Γ env σ B H) (h : Post Γ W env σ B H (fun r env' B' H' => ∀ v, RetOk Γ P0 env' σ B' H' r v → Q v H') (.ok (.mu xs) env)) (r : Reps Γ B xs vs) (hp : H p = none) : Q (.ref p) (upd H p (.lst vs)) :=
  h _ _ (s.newM hp) (Ext.newM hp) _ ⟨p, vs, rfl, h0 p hp, s.bfresh hp, upd_same, r, s.fresh_own hp⟩
theorem Ext.h0 {σ' : L2.St} (x : Ext Γ env σ B H env' σ' B' H') : ∀ p, H' p = none → H p = none := fun p h => by
  cases e : H p with
  | none => rfl
  | some o => exact absurd h (x.t p (by rw [e]; exact fun z => nomatch z))
end
abbrev DenL := Sto → Res Ar
abbrev DenA := Sto → Res (List Ar)
abbrev DenVs := Sto → Res (List D)
def ArsOk (Γ : Wd) (B : Hp) (σ : L2.St) : List Ar → List V → Prop
  | [], vs => vs = []
  | a :: as, vs => ∃ v r, vs = v :: r ∧ ArOk Γ B σ a v ∧ ArsOk Γ B σ as r
theorem ArsOk.mono {Γ : Wd} {B B' : Hp} {σ : L2.St} (e : Same B B') : ∀ {as : List Ar} {vs : List V}, ArsOk Γ B σ as vs → ArsOk Γ B' σ as vs
  | [], vs, h => h
  | a :: as, vs, h => by
    obtain ⟨v, r, e1, e2, e3⟩ := h
    exact ⟨v, r, e1, e2.mono e, ArsOk.mono e e3⟩
def tL (Γ : Wd) (W : WX) (f : DenL) : TE := fun σ H Q => ∃ env B, StOk Γ env σ B H ∧ Post Γ W env σ B H (fun a _ B' H' => ∀ v, ArOk Γ B' σ a v → Q v H') (f env)
def tAr (Γ : Wd) (W : WX) (f : DenA) : TA := fun σ H Q => ∃ env B, StOk Γ env σ B H ∧ Post Γ W env σ B H (fun a _ B' H' => ∀ v, ArsOk Γ B' σ a v → Q v H') (f env)
def tVs (Γ : Wd) (W : WX) (f : DenVs) : TA := fun σ H Q => ∃ env B, StOk Γ env σ B H ∧ Post Γ W env σ B H (fun a _ B' H' => ∀ v, Reps Γ B' a v → Q v H') (f env)
abbrev SL (X : Cx) (Γ : Wd) (W : WX) (e : Expr) (f : DenL) : Prop := PE X e (tL Γ W f)
abbrev SA (X : Cx) (Γ : Wd) (W : WX) (es : List Expr) (f : DenA) : Prop := PA X es (tAr Γ W f)
abbrev SVs (X : Cx) (Γ : Wd) (W : WX) (es : List Expr) (f : DenVs) : Prop := PA X es (tVs Γ W f)
theorem imA {X : Cx} {es : List Expr} {t t' : TA} (h : PA X es t) (i : ∀ σ H Q, t' σ H Q → t σ H Q) : PA X es t' := ⟨fun pos pins s σ H Q I q => h.run pos pins s σ H Q I (i σ H Q q)⟩

section
variable {X : Cx} {Γ : Wd} {W : WX} {e a b c : Expr} {es : List Expr} {pos : Pos}
/-! ### constants, names -/
def dC (d : D) : DenV := fun env => .ok d env
theorem sC {v : V} {d : D} (h : PE X e (tC v)) (r : ∀ B, Rep Γ B d v) : SV X Γ W e (dC d) := imE h fun σ H Q ⟨env, B, s, p⟩ => Post.here s p v (r B)
theorem sInt {i : Int} {j : Nat} : SV X Γ W (.Constant (.int i) j pos) (dC (.int i)) := sC pe_int fun _ => rfl
theorem sBl {i : Bool} {j : Nat} : SV X Γ W (.Constant (.bool i) j pos) (dC (.bl i)) := sC pe_bl fun _ => rfl
theorem sNon {j : Nat} : SV X Γ W (.Constant .none j pos) (dC .non) := sC pe_non fun _ => rfl
theorem sStr {i : Str} {j : Nat} : SV X Γ W (.Constant (.str i) j pos) (dC (.str i)) := sC pe_str fun _ => rfl
/-- a name, to be kept: a list is frozen -/
def dVar (i : Nat) : DenV := fun env => match env[i]? with
  | some (.val d) => .ok d env
  | some (.mu xs) => .ok (.lst xs) (env.set i (.val (.lst xs)))
  | _ => .bad
theorem Sto.set_get {env : Sto} {i j : Nat} {x e : Ent} (h : (env.set i x)[j]? = some e) : (i = j ∧ e = x) ∨ (i ≠ j ∧ env[j]? = some e) := by
  by_cases q : i = j
  · subst q
    by_cases k : i < env.length
    · rw [List.getElem?_set_self k] at h
      exact .inl ⟨rfl, (Option.some.inj h).symm⟩
    · rw [List.getElem?_eq_none (by rw [List.length_set]; omega)] at h
      cases h
  · rw [List.getElem?_set_ne q] at h
    exact .inr ⟨q, h⟩
theorem Own.freeze {env : Sto} {σ : L2.St} {i : Nat} {d : D} {p : Addr} (h : Own (env.set i (.val d)) σ p) : Own env σ p := by
  obtain ⟨j, xs, e1, e2⟩ := h
  rcases Sto.set_get e1 with ⟨_, q⟩ | ⟨_, q⟩
  · cases q
  · exact ⟨j, xs, q, e2⟩
/-- a list of a slot is frozen -/
theorem StOk.freeze {env : Sto} {σ : L2.St} {B H : Hp} {i : Nat} {xs : List D} {p : Addr} {vs : List V} (s : StOk Γ env σ B H) (hi : env[i]? = some (.mu xs)) (hs : σ[i]? = some (some (.ref p))) (hb : B p = none) (hp : H p = some (.lst vs)) (r : Reps Γ B xs vs) :
    StOk Γ (env.set i (.val (.lst xs))) σ (upd B p (.lst vs)) H where
  same := same_frz s.same hp
  len := by rw [List.length_set]; exact s.len
  ent := fun j e o h1 h2 => by
    rcases Sto.set_get h1 with ⟨rfl, rfl⟩ | ⟨ne, q⟩
    · rw [hs] at h2
      cases h2
      exact ⟨_, rfl, p, vs, rfl, upd_same, Reps.mono (same_upd hb) xs vs r⟩
    · refine (s.ent j e o q h2).up (same_upd hb) (fun ys q' e1 e2 => ?_) (Same.refl _)
      subst e1
      have hq : q' ≠ p := fun z => by
        subst z
        rw [e2] at h2
        exact ne (s.dis i j xs ys q' hi q hs h2)
      rw [upd_ne hq]
      exact (s.own_none ⟨j, ys, q, by rw [h2, e2]⟩).1
  dis := fun j k ys zs q h1 h2 h3 h4 => by
    rcases Sto.set_get h1 with ⟨_, z⟩ | ⟨_, q1⟩
    · cases z
    · rcases Sto.set_get h2 with ⟨_, z⟩ | ⟨_, q2⟩
      · cases z
      · exact s.dis j k ys zs q q1 q2 h3 h4
theorem Ext.freeze {env : Sto} {σ : L2.St} {B H : Hp} {i : Nat} {xs : List D} {p : Addr} {vs : List V} (s : StOk Γ env σ B H) (hi : env[i]? = some (.mu xs)) (hs : σ[i]? = some (some (.ref p))) (hb : B p = none) :
    Ext Γ env σ B H (env.set i (.val (.lst xs))) σ (upd B p (.lst vs)) H where
  b := same_upd hb
  t := fun _ h => h
  f := fun q o hq n => ⟨hq, fun z => by
    rw [upd_ne]
    · exact z
    · rintro rfl
      exact n ⟨i, xs, hi, hs⟩, fun z => n z.freeze⟩
  r := fun j hj => ⟨rfl, fun ys q e1 e2 => by
    by_cases z : i = j
    · subst z
      rw [hs] at e2
      cases e2
      exact .inr (by rw [upd_same]; exact fun z => nomatch z)
    · exact .inl ⟨ys, by rw [List.getElem?_set_ne z]; exact e1⟩⟩
theorem StOk.slot {env : Sto} {σ : L2.St} {B H : Hp} {i : Nat} {e : Ent} (s : StOk Γ env σ B H) (h : env[i]? = some e) : ∃ o, σ[i]? = some o ∧ EntOk Γ B H e o := by
  have hl : i < σ.length := by
    rw [← s.len]
    exact (List.getElem?_eq_some_iff.mp h).1
  exact ⟨σ[i], List.getElem?_eq_getElem hl, s.ent i e _ h (List.getElem?_eq_getElem hl)⟩
theorem sVar {i : Nat} (h : PE X e (tVar i)) : SV X Γ W e (dVar i) := imE h fun σ H Q ⟨env, B, s, p⟩ => by
  have p' : Post Γ W env σ B H (fun d _ B' H' => ∀ v, Rep Γ B' d v → Q v H') (match env[i]? with
    | some (.val d) => .ok d env
    | some (.mu xs) => .ok (.lst xs) (env.set i (.val (.lst xs)))
    | _ => .bad) := p
  cases hi : env[i]? with
  | none => rw [hi] at p'; exact p'.elim
  | some en =>
    rw [hi] at p'
    obtain ⟨o, ho, k⟩ := s.slot hi
    cases en with
    | val d =>
      obtain ⟨v, rfl, r⟩ := k
      exact ⟨v, ho, Post.here s p' v r⟩
    | mu xs =>
      obtain ⟨q, vs, rfl, hb, hq, r⟩ := k
      exact ⟨_, ho, p' _ _ (s.freeze hi ho hb hq r) (Ext.freeze s hi ho hb) _ ⟨q, vs, rfl, upd_same, Reps.mono (same_upd hb) xs vs r⟩⟩
    | un => exact p'.elim
    | exn c ns xs => exact p'.elim
/-- a name, to be read at its use -/
def dSlot (i : Nat) : DenL := fun env => match env[i]? with
  | some (.val d) => .ok (.v d) env
  | some (.mu xs) => .ok (.s i) env
  | _ => .bad
theorem sSlot {i : Nat} (h : PE X e (tVar i)) : SL X Γ W e (dSlot i) := imE h fun σ H Q ⟨env, B, s, p⟩ => by
  have p' : Post Γ W env σ B H (fun d _ B' H' => ∀ v, ArOk Γ B' σ d v → Q v H') (match env[i]? with
    | some (.val d) => .ok (.v d) env
    | some (.mu xs) => .ok (.s i) env
    | _ => .bad) := p
  cases hi : env[i]? with
  | none => rw [hi] at p'; exact p'.elim
  | some en =>
    rw [hi] at p'
    obtain ⟨o, ho, k⟩ := s.slot hi
    cases en with
    | val d =>
      obtain ⟨v, rfl, r⟩ := k
      exact ⟨v, ho, Post.here s p' v r⟩
    | mu xs =>
      obtain ⟨q, vs, rfl, hb, hq, r⟩ := k
      exact ⟨_, ho, Post.here s p' _ ho⟩
    | un => exact p'.elim
    | exn c ns xs => exact p'.elim
def dLV (f : DenV) : DenL := fun env => (f env).bind fun d e => .ok (.v d) e
theorem sLV {f : DenV} (h : SV X Γ W e f) : SL X Γ W e (dLV f) := imE h fun σ H Q ⟨env, B, s, p⟩ =>
  ⟨env, B, s, p.bind.mono fun d env' B' H' s' x q v hv => Post.here s' q v hv⟩
/-! ### two operands -/
def dBin (g : D → D → Option Ent) (f1 f2 : DenL) : DenF := fun env => (f1 env).bind fun a e1 => (f2 e1).bind fun b e2 => match a.get e2, b.get e2 with
  | some x, some y => (match g x y with
    | some r => .ok r e2
    | none => .bad)
  | _, _ => .bad
/-- the rule r serves g -/
def Serves (Γ : Wd) (W : WX) (r : R2) (g : D → D → Option Ent) : Prop := ∀ {x y : D} {ent : Ent} {env : Sto} {σ : L2.St} {B H : Hp} {P0 : Addr → Prop} {v w : V} {Q : VK}, g x y = some ent → StOk Γ env σ B H → RepT Γ B H x v → RepT Γ B H y w → (∀ p, H p = none → P0 p) →
  Post Γ W env σ B H (fun r env' B' H' => ∀ v, RetOk Γ P0 env' σ B' H' r v → Q v H') (.ok ent env) → r v w H Q
theorem tOp_of {r : R2} {g : D → D → Option Ent} {f1 f2 : DenL} (hg : Serves Γ W r g) {σ : L2.St} {H : Hp} {Q : VK} (h : tF Γ W (dBin g f1 f2) σ H Q) : tOp r (tL Γ W f1) (tL Γ W f2) σ H Q := by
  obtain ⟨env, B, s, p⟩ := h
  refine ⟨env, B, s, p.bind.mono fun a e1 B1 H1 s1 x1 q1 v hv => ⟨e1, B1, s1, q1.bind.mono fun b e2 B2 H2 s2 x2 q2 w hw => ?_⟩⟩
  cases ha : a.get e2 with
  | none => rw [ha] at q2; exact q2.elim
  | some x =>
    cases hb : b.get e2 with
    | none => rw [ha, hb] at q2; exact q2.elim
    | some y =>
      rw [ha, hb] at q2
      cases hr : g x y with
      | none =>
        have q3 : Post Γ W e2 σ B2 H2 (fun r env' B' H' => ∀ v, RetOk Γ (FreeR Γ env σ H) env' σ B' H' r v → Q v H') (match g x y with | some r => .ok r e2 | none => .bad) := q2
        rw [hr] at q3
        exact q3.elim
      | some ent =>
        have q3 : Post Γ W e2 σ B2 H2 (fun r env' B' H' => ∀ v, RetOk Γ (FreeR Γ env σ H) env' σ B' H' r v → Q v H') (match g x y with | some r => .ok r e2 | none => .bad) := q2
        rw [hr] at q3
        exact hg hr s2 (Ar.now s2 (hv.mono x2.b) ha) (Ar.now s2 hw hb) (fun p hp => .inl (x1.h0 p (x2.h0 p hp))) q3
theorem sBin {op : Operator} {r : R2} {g : D → D → Option Ent} {f1 f2 : DenL} (ho : OpR X (binaryOp op) r) (hg : Serves Γ W r g) (ha : SL X Γ W a f1) (hb : SL X Γ W b f2) : SF X Γ W (.BinOp a op b pos) (dBin g f1 f2) :=
  imE (pe_op ho ha hb) fun σ H Q h => tOp_of hg h
end
end Ev

set_option Elab.async false
set_option linter.all false
set_option maxRecDepth 100000
set_option maxHeartbeats 4000000
namespace Ev
open PySem PySem.Spec PyProof.Rows L2

theorem LN_le {n : Nat} (h : n ≤ 1000000) : n ≤ sizeLine := Nat.le_trans h (by decide)
theorem LN_lt {n : Nat} (h : n ≤ 1000000) : n < sizeLine := Nat.lt_of_le_of_lt h (by decide)

/-! ### arithmetic -/
def mulOk (i j : Int) : Bool := decide (i.natAbs.log2 + j.natAbs.log2 < 100000000) || (decide (i.natAbs < 2 ^ 64) || decide (j.natAbs < 2 ^ 64))
theorem abs64 {i : Int} (h : i.natAbs < 2 ^ 64) : -(2 ^ 64) < i ∧ i < 2 ^ 64 := by
  have : (i.natAbs : Int) < ((2 ^ 64 : Nat) : Int) := Int.ofNat_lt.mpr h
  have e : ((2 ^ 64 : Nat) : Int) = 2 ^ 64 := by rw [Int.natCast_pow]; rfl
  rw [e] at this
  generalize (2 : Int) ^ 64 = z at *
  omega
theorem mulOk_ok {i j : Int} (h : mulOk i j = true) : IntMulOk i j := by
  unfold mulOk at h
  rw [Bool.or_eq_true, Bool.or_eq_true] at h
  rcases h with h | h | h
  · have h' := of_decide_eq_true h
    exact (mulx_ok (a := i.natAbs.log2 + 1) (b := j.natAbs.log2 + 1) Nat.lt_log2_self Nat.lt_log2_self (by omega)).ok
  · exact CMul.ok (.inl (abs64 (of_decide_eq_true h)))
  · exact CMul.ok (.inr (abs64 (of_decide_eq_true h)))
def divOk (j : Int) : Bool := decide (j ≠ 0 ∧ j.natAbs.log2 < 9000)
def gAdd : D → D → Option Ent
  | .int i, .int j => some (.val (.int (i + j)))
  | .str a, .str b => if a.length + b.length ≤ 1000000 then some (.val (.str (a ++ b))) else none
  | .lst xs, .lst ys => if xs.length + ys.length ≤ 1000000 then some (.mu (xs ++ ys)) else none
  | .tup xs, .tup ys => if xs.length + ys.length ≤ 1000000 then some (.val (.tup (xs ++ ys))) else none
  | _, _ => none
def gSub : D → D → Option Ent
  | .int i, .int j => some (.val (.int (i - j)))
  | _, _ => none
def repD (k : Nat) (xs : List D) : List D := (List.replicate k xs).flatten
def gMul : D → D → Option Ent
  | .int i, .int j => if mulOk i j = true then some (.val (.int (i * j))) else none
  | .lst xs, .int k => if -(2 ^ 62) ≤ k ∧ k ≤ 2 ^ 62 ∧ xs.length * k.toNat ≤ 1000000 then some (.mu (repD k.toNat xs)) else none
  | .tup xs, .int k => if xs ≠ [] ∧ 2 ≤ k ∧ k ≤ 1000 ∧ xs.length ≤ 1000 then some (.val (.tup (repD k.toNat xs))) else none
  | _, _ => none
def gDiv : D → D → Option Ent
  | .int i, .int j => if divOk j = true then some (.val (.int (i.fdiv j))) else none
  | _, _ => none
def gMod : D → D → Option Ent
  | .int i, .int j => if j = 0 then none else some (.val (.int (i.fmod j)))
  | _, _ => none
def gPow : D → D → Option Ent
  | .int i, .int j => if 0 ≤ j ∧ j ≤ 1000000 ∧ i.natAbs < 2 ^ 64 then some (.val (.int (i ^ j.toNat))) else none
  | _, _ => none
def gShr : D → D → Option Ent
  | .int i, .int j => if 0 ≤ j then some (.val (.int (i / 2 ^ j.toNat))) else none
  | _, _ => none
def gAnd : D → D → Option Ent
  | .int i, .int j => some (.val (.int (Builtin.bitAnd i j)))
  | _, _ => none
theorem op_fdivX {X : Cx} : OpR X (binaryOp .FloorDiv) (rI (fun _ j => j ≠ 0 ∧ j.natAbs.log2 < 9000) fun i j => .int (i.fdiv j)) := opI fun _ _ _ _ _ _ _ hc q => floordiv_int hc.1 q (.inl (PyProof.noPylong_of_log2 hc.2))

section
variable {X : Cx} {Γ : Wd} {W : WX}
theorem Serves.or1 {r r' : R2} {g : D → D → Option Ent} (h : Serves Γ W r g) : Serves Γ W (fun x y H Q => r x y H Q ∨ r' x y H Q) g := fun e s h1 h2 h0 p => .inl (h e s h1 h2 h0 p)
/-- the reading of + -/
def rAddE (K : PySem.W.Frag) : R2 := fun x y H Q => ((rI0 fun i j => .int (i + j)) x y H Q ∨ (∃ i j, x = .str i ∧ y = .str j ∧ i.length + j.length ≤ sizeLine ∧ Q (.str (i ++ j)) H)) ∨ (rCat x y H Q ∨ rCatA K x y H Q)
theorem op_addE : OpR X (binaryOp .Add) (rAddE X.K) := (op_add.or op_add_str).or (op_cat.or op_catA)
theorem rep_nil {Γ : Wd} {B : Hp} {xs : List D} {vs : List V} (r : Reps Γ B xs vs) : vs = [] ↔ xs = [] := by
  have e := r.length
  constructor
  · intro h; rw [h] at e; exact List.length_eq_zero_iff.mp e
  · intro h; rw [h] at e; exact List.length_eq_zero_iff.mp e.symm
theorem sv_add : Serves Γ W (rAddE Γ.K) gAdd := by
  intro x y ent env σ B H P0 v w Q hg s hx hy h0 p
  cases x with
  | int i => cases y with
    | int j =>
      cases hg
      exact .inl (.inl ⟨i, j, hx.int, hy.int, Post.val s p rfl⟩)
    | _ => cases hg
  | str i => cases y with
    | str j =>
      have hg' : (if i.length + j.length ≤ 1000000 then some (Ent.val (.str (i ++ j))) else none) = some ent := hg
      split at hg'
      · cases hg'
        rename_i hl
        exact .inl (.inr ⟨i, j, hx.str, hy.str, LN_le hl, Post.val s p rfl⟩)
      · cases hg'
    | _ => cases hg
  | lst xs => cases y with
    | lst ys =>
      have hg' : (if xs.length + ys.length ≤ 1000000 then some (Ent.mu (xs ++ ys)) else none) = some ent := hg
      split at hg'
      · cases hg'
        rename_i hl
        obtain ⟨a, vs, e1, e2, e3⟩ := hx.lst s.same
        obtain ⟨b, ws, k1, k2, k3⟩ := hy.lst s.same
        exact .inr (.inl ⟨a, b, vs, ws, e1, k1, e2, k2, LN_le (by rw [← e3.length, ← k3.length]; exact hl), fun q hq => Post.newL h0 s p (e3.append k3) hq⟩)
      · cases hg'
    | _ => cases hg
  | tup xs => cases y with
    | tup ys =>
      have hg' : (if xs.length + ys.length ≤ 1000000 then some (Ent.val (.tup (xs ++ ys))) else none) = some ent := hg
      split at hg'
      · cases hg'
        rename_i hl
        have hx' := hx
        have hy' := hy
        obtain ⟨a, vs, e1, e2, e3⟩ := hx.tup s.same
        obtain ⟨b, ws, k1, k2, k3⟩ := hy.tup s.same
        refine .inr (.inr ⟨a, b, vs, ws, e1, k1, e2, k2, LN_le (by rw [← e3.length, ← k3.length]; exact hl), fun z => ?_, fun z1 z2 => ?_, fun _ _ q hq => Post.newT s p (e3.append k3) hq⟩)
        · have z' := (rep_nil e3).mp z
          subst z'
          rw [← k1]
          rcases hy' with r | ⟨_, _, _, c, _⟩
          · exact Post.val s p r
          · cases c
        · have z' := (rep_nil k3).mp z2
          subst z'
          rw [← e1]
          rcases hx' with r | ⟨_, _, _, c, _⟩
          · refine Post.val s p ?_
            rw [List.append_nil]
            exact r
          · cases c
      · cases hg'
    | _ => cases hg
  | _ => cases hg
theorem sv_sub : Serves Γ W (rI0 fun i j => .int (i - j)) gSub := by
  intro x y ent env σ B H P0 v w Q hg s hx hy h0 p
  cases x with
  | int i => cases y with
    | int j =>
      cases hg
      exact ⟨i, j, hx.int, hy.int, Post.val s p rfl⟩
    | _ => cases hg
  | _ => cases hg
def rMulE (K : PySem.W.Frag) : R2 := fun x y H Q => rI IntMulOk (fun i j => .int (i * j)) x y H Q ∨ (rRep x y H Q ∨ rRepT K x y H Q)
theorem op_mulK : OpR X (binaryOp .Mult) (rI IntMulOk fun i j => .int (i * j)) := opI fun _ _ _ _ _ _ _ hc q => mul_int q hc
theorem op_mulE : OpR X (binaryOp .Mult) (rMulE X.K) := op_mulK.or (op_rep.or op_repT)
theorem Reps.repeat {Γ : Wd} {B : Hp} {xs : List D} {vs : List V} (r : Reps Γ B xs vs) : ∀ k : Nat, Reps Γ B (repD k xs) (List.replicate k vs).flatten
  | 0 => rfl
  | k + 1 => by
    show Reps Γ B (List.replicate (k + 1) xs).flatten _
    rw [List.replicate_succ, List.replicate_succ, List.flatten_cons, List.flatten_cons]
    exact r.append (Reps.repeat r k)
theorem sv_mul : Serves Γ W (rMulE Γ.K) gMul := by
  intro x y ent env σ B H P0 v w Q hg s hx hy h0 p
  cases x with
  | int i => cases y with
    | int j =>
      have hg' : (if mulOk i j = true then some (Ent.val (.int (i * j))) else none) = some ent := hg
      split at hg'
      · cases hg'
        rename_i hl
        exact .inl ⟨i, j, hx.int, hy.int, mulOk_ok hl, Post.val s p rfl⟩
      · cases hg'
    | _ => cases hg
  | lst xs => cases y with
    | int k =>
      have hg' : (if -(2 ^ 62) ≤ k ∧ k ≤ 2 ^ 62 ∧ xs.length * k.toNat ≤ 1000000 then some (Ent.mu (repD k.toNat xs)) else none) = some ent := hg
      split at hg'
      · cases hg'
        rename_i hl
        obtain ⟨a, vs, e1, e2, e3⟩ := hx.lst s.same
        exact .inr (.inl ⟨a, k, vs, e1, hy.int, e2, by have := hl.1; omega, by have := hl.2.1; omega, LN_le (by rw [← e3.length]; exact hl.2.2), fun q hq => Post.newL h0 s p (e3.repeat _) hq⟩)
      · cases hg'
    | _ => cases hg
  | tup xs => cases y with
    | int k =>
      have hg' : (if xs ≠ [] ∧ 2 ≤ k ∧ k ≤ 1000 ∧ xs.length ≤ 1000 then some (Ent.val (.tup (repD k.toNat xs))) else none) = some ent := hg
      split at hg'
      · cases hg'
        rename_i hl
        obtain ⟨a, vs, e1, e2, e3⟩ := hx.tup s.same
        exact .inr (.inr ⟨a, k, vs, e1, hy.int, e2, fun z => hl.1 ((rep_nil e3).mp z), hl.2.1, hl.2.2.1, by rw [← e3.length]; exact hl.2.2.2, fun q hq => Post.newT s p (e3.repeat _) hq⟩)
      · cases hg'
    | _ => cases hg
  | _ => cases hg
theorem sv_div : Serves Γ W (rI (fun _ j => j ≠ 0 ∧ j.natAbs.log2 < 9000) fun i j => .int (i.fdiv j)) gDiv := by
  intro x y ent env σ B H P0 v w Q hg s hx hy h0 p
  cases x with
  | int i => cases y with
    | int j =>
      have hg' : (if divOk j = true then some (Ent.val (.int (i.fdiv j))) else none) = some ent := hg
      split at hg'
      · cases hg'
        rename_i hl
        exact ⟨i, j, hx.int, hy.int, of_decide_eq_true hl, Post.val s p rfl⟩
      · cases hg'
    | _ => cases hg
  | _ => cases hg
theorem sv_mod : Serves Γ W (rI (fun _ j => j ≠ 0) fun i j => .int (i.fmod j)) gMod := by
  intro x y ent env σ B H P0 v w Q hg s hx hy h0 p
  cases x with
  | int i => cases y with
    | int j =>
      have hg' : (if j = 0 then none else some (Ent.val (.int (i.fmod j)))) = some ent := hg
      split at hg'
      · cases hg'
      · cases hg'
        rename_i hl
        exact ⟨i, j, hx.int, hy.int, hl, Post.val s p rfl⟩
    | _ => cases hg
  | _ => cases hg
theorem sv_pow : Serves Γ W (rI CPow fun i j => .int (i ^ j.toNat)) gPow := by
  intro x y ent env σ B H P0 v w Q hg s hx hy h0 p
  cases x with
  | int i => cases y with
    | int j =>
      have hg' : (if 0 ≤ j ∧ j ≤ 1000000 ∧ i.natAbs < 2 ^ 64 then some (Ent.val (.int (i ^ j.toNat))) else none) = some ent := hg
      split at hg'
      · cases hg'
        rename_i hl
        exact ⟨i, j, hx.int, hy.int, hl, Post.val s p rfl⟩
      · cases hg'
    | _ => cases hg
  | _ => cases hg
theorem sv_shr : Serves Γ W (rI (fun _ j => 0 ≤ j) fun i j => .int (i / 2 ^ j.toNat)) gShr := by
  intro x y ent env σ B H P0 v w Q hg s hx hy h0 p
  cases x with
  | int i => cases y with
    | int j =>
      have hg' : (if 0 ≤ j then some (Ent.val (.int (i / 2 ^ j.toNat))) else none) = some ent := hg
      split at hg'
      · cases hg'
        rename_i hl
        exact ⟨i, j, hx.int, hy.int, hl, Post.val s p rfl⟩
      · cases hg'
    | _ => cases hg
  | _ => cases hg
theorem sv_and : Serves Γ W (rI0 fun i j => .int (Builtin.bitAnd i j)) gAnd := by
  intro x y ent env σ B H P0 v w Q hg s hx hy h0 p
  cases x with
  | int i => cases y with
    | int j =>
      cases hg
      exact ⟨i, j, hx.int, hy.int, Post.val s p rfl⟩
    | _ => cases hg
  | _ => cases hg
/-! ### comparisons -/
def vb (b : Bool) : Option Ent := some (.val (.bl b))
def gEq (a b : D) : Option Ent := if shp 64 a = true ∧ shp 64 b = true then vb (deq a b) else none
def gNe (a b : D) : Option Ent := if shp 64 a = true ∧ shp 64 b = true then vb (!deq a b) else none
def gLt : D → D → Option Ent
  | .int i, .int j => vb (decide (i < j))
  | _, _ => none
def gLe : D → D → Option Ent
  | .int i, .int j => vb (decide (i ≤ j))
  | _, _ => none
def gGt : D → D → Option Ent
  | .int i, .int j => vb (decide (j < i))
  | _, _ => none
def gGe : D → D → Option Ent
  | .int i, .int j => vb (decide (j ≤ i))
  | _, _ => none
def gIs : D → D → Option Ent
  | x, .non => vb x.isN
  | .bl a, .bl b => vb (decide (a = b))
  | _, _ => none
def gIsNot : D → D → Option Ent
  | x, .non => vb (!x.isN)
  | .bl a, .bl b => vb (!decide (a = b))
  | _, _ => none
theorem sv_eq : Serves Γ W (rEqD Γ.K) gEq := by
  intro x y ent env σ B H P0 v w Q hg s hx hy h0 p
  unfold gEq at hg
  split at hg
  · cases hg
    rename_i hl
    exact ⟨_, _, hx.dp s.same hl.1, hy.dp s.same hl.2, shaped_of hl.1, shaped_of hl.2, Post.val s p rfl⟩
  · cases hg
theorem sv_ne : Serves Γ W (rNeD Γ.K) gNe := by
  intro x y ent env σ B H P0 v w Q hg s hx hy h0 p
  unfold gNe at hg
  split at hg
  · cases hg
    rename_i hl
    exact ⟨_, _, hx.dp s.same hl.1, hy.dp s.same hl.2, shaped_of hl.1, shaped_of hl.2, Post.val s p rfl⟩
  · cases hg
theorem sv_cmpI {f : Int → Int → Bool} {g : D → D → Option Ent} (h1 : ∀ i j, g (.int i) (.int j) = vb (f i j)) (h2 : ∀ x y ent, g x y = some ent → ∃ i j, x = .int i ∧ y = .int j) : Serves Γ W (rI0 fun i j => .bl (f i j)) g := by
  intro x y ent env σ B H P0 v w Q hg s hx hy h0 p
  obtain ⟨i, j, rfl, rfl⟩ := h2 x y ent hg
  rw [h1] at hg
  cases hg
  exact ⟨i, j, hx.int, hy.int, Post.val s p rfl⟩
theorem sv_lt : Serves Γ W (rI0 fun i j => .bl (decide (i < j))) gLt := sv_cmpI (fun _ _ => rfl) fun x y ent h => by
  cases x <;> cases y <;> first | exact ⟨_, _, rfl, rfl⟩ | cases h
theorem sv_le : Serves Γ W (rI0 fun i j => .bl (decide (i ≤ j))) gLe := sv_cmpI (fun _ _ => rfl) fun x y ent h => by
  cases x <;> cases y <;> first | exact ⟨_, _, rfl, rfl⟩ | cases h
theorem sv_gt : Serves Γ W (rI0 fun i j => .bl (decide (j < i))) gGt := sv_cmpI (fun _ _ => rfl) fun x y ent h => by
  cases x <;> cases y <;> first | exact ⟨_, _, rfl, rfl⟩ | cases h
theorem sv_ge : Serves Γ W (rI0 fun i j => .bl (decide (j ≤ i))) gGe := sv_cmpI (fun _ _ => rfl) fun x y ent h => by
  cases x <;> cases y <;> first | exact ⟨_, _, rfl, rfl⟩ | cases h
def rIsE : R2 := fun x y H Q => (y = .non ∧ Q (.bl (decide (x = .non))) H) ∨ rIsB x y H Q
def rIsNotE : R2 := fun x y H Q => (y = .non ∧ Q (.bl (!decide (x = .non))) H) ∨ rNotB x y H Q
theorem op_isE : OpR X (compareOp .Is) rIsE := op_isN.or op_isBl
theorem op_isNotE : OpR X (compareOp .IsNot) rIsNotE := op_notN.or op_notBl
theorem sv_is : Serves Γ W rIsE gIs := by
  intro x y ent env σ B H P0 v w Q hg s hx hy h0 p
  cases y with
  | non =>
    have hg' : vb x.isN = some ent := by
      cases x <;> exact hg
    cases hg'
    refine .inl ⟨hy.non, ?_⟩
    rw [hx.none_iff]
    exact Post.val s p rfl
  | bl b => cases x with
    | bl a =>
      cases hg
      exact .inr ⟨a, b, hx.bl, hy.bl, Post.val s p rfl⟩
    | _ => cases hg
  | _ => cases x <;> cases hg
theorem sv_isNot : Serves Γ W rIsNotE gIsNot := by
  intro x y ent env σ B H P0 v w Q hg s hx hy h0 p
  cases y with
  | non =>
    have hg' : vb (!x.isN) = some ent := by
      cases x <;> exact hg
    cases hg'
    refine .inl ⟨hy.non, ?_⟩
    rw [hx.none_iff]
    exact Post.val s p rfl
  | bl b => cases x with
    | bl a =>
      cases hg
      exact .inr ⟨a, b, hx.bl, hy.bl, Post.val s p rfl⟩
    | _ => cases hg
  | _ => cases x <;> cases hg

variable {e a b c : Expr} {pos : Pos} {f1 f2 f3 : DenL} {g g' : D → D → Option Ent} {r r' : R2}
/-- a comparison as a value -/
theorem sCmp {op : CmpOp} (ho : OpR X (compareOp op) r) (hg : Serves Γ W r g) (ha : SL X Γ W a f1) (hb : SL X Γ W b f2) (hm : behindInMarks op b = false) : SF X Γ W (.Compare a [op] [b] pos) (dBin g f1 f2) :=
  imE (pe_cmpR ho ha hb hm) fun σ H Q h => tOp_of hg h
def dTB (f : DenF) : DenT := fun env => (f env).bind fun r e => match r with
  | .val (.bl b) => .ok b e
  | _ => .bad
theorem tTB_of {f : DenF} {σ : L2.St} {H : Hp} {Q : Bool → Hp → Prop} (h : tT Γ W (dTB f) σ H Q) : tF Γ W f σ H (fun x H' => ∃ k, x = .bl k ∧ Q k H') := by
  obtain ⟨env, B, s, p⟩ := h
  refine ⟨env, B, s, p.bind.mono fun r e1 B1 H1 s1 x1 q1 v hv => ?_⟩
  cases r with
  | val d => cases d with
    | bl k => exact ⟨k, hv, Post.here s1 q1⟩
    | _ => exact q1.elim
  | _ => exact q1.elim
/-- as a test -/
theorem sCmpT {op : CmpOp} (ho : OpR X (compareOp op) r) (hg : Serves Γ W r g) (ha : SL X Γ W a f1) (hb : SL X Γ W b f2) (hm : behindInMarks op b = false) : ST X Γ W (.Compare a [op] [b] pos) (dTB (dBin g f1 f2)) :=
  imT (pt_cmpR ho ha hb hm) fun σ H Q h => tOp_of hg (tTB_of h)
/-- a op b op' c -/
def dChain (g g' : D → D → Option Ent) (f1 f2 f3 : DenL) : DenF := fun env => (f1 env).bind fun a e1 => (f2 e1).bind fun b e2 => match a.get e2, b.get e2 with
  | some x, some y => (match g x y with
    | some (.val (.bl true)) => (f3 e2).bind fun c e3 => (match b.get e3, c.get e3 with
      | some y, some z => (match g' y z with
        | some r => .ok r e3
        | none => .bad)
      | _, _ => .bad)
    | some (.val (.bl false)) => .ok (.val (.bl false)) e2
    | _ => .bad)
  | _, _ => .bad
theorem tChain_of (hg : Serves Γ W r g) (hg' : Serves Γ W r' g') {σ : L2.St} {H : Hp} {Q : VK} (h : tF Γ W (dChain g g' f1 f2 f3) σ H Q) : tChain r r' (tL Γ W f1) (tL Γ W f2) (tL Γ W f3) σ H Q := by
  obtain ⟨env, B, s, p⟩ := h
  refine ⟨env, B, s, p.bind.mono fun a e1 B1 H1 s1 x1 q1 v hv => ⟨e1, B1, s1, q1.bind.mono fun b e2 B2 H2 s2 x2 q2 w hw => ?_⟩⟩
  cases ha : a.get e2 with
  | none => rw [ha] at q2; exact q2.elim
  | some x =>
    cases hb : b.get e2 with
    | none => rw [ha, hb] at q2; exact q2.elim
    | some y =>
      rw [ha, hb] at q2
      have q3 : Post Γ W e2 σ B2 H2 (fun r env' B' H' => ∀ v, RetOk Γ (FreeR Γ env σ H) env' σ B' H' r v → Q v H') (match g x y with
        | some (.val (.bl true)) => (f3 e2).bind fun c e3 => (match b.get e3, c.get e3 with
          | some y, some z => (match g' y z with
            | some r => .ok r e3
            | none => .bad)
          | _, _ => .bad)
        | some (.val (.bl false)) => .ok (.val (.bl false)) e2
        | _ => .bad) := q2
      have h02 : ∀ p, H2 p = none → H p = none := fun p hp => x1.h0 p (x2.h0 p hp)
      cases hr : g x y with
      | none => rw [hr] at q3; exact q3.elim
      | some ent =>
        rw [hr] at q3
        refine hg (P0 := FreeR Γ env σ H) hr s2 (Ar.now s2 (hv.mono x2.b) ha) (Ar.now s2 hw hb) (fun p hp => .inl (h02 p hp)) ?_
        cases ent with
        | val d => cases d with
          | bl k =>
            intro B3 H3 s3 x3 u hu
            refine ⟨k, hu, ?_⟩
            cases k with
            | false =>
              rw [if_neg Bool.false_ne_true]
              exact q3 B3 H3 s3 x3 _ rfl
            | true =>
              rw [if_pos rfl]
              have q4 : Post Γ W e2 σ B3 H3 (fun r env' B' H' => ∀ v, RetOk Γ (FreeR Γ env σ H) env' σ B' H' r v → Q v H') ((f3 e2).bind fun c e3 => (match b.get e3, c.get e3 with
                | some y, some z => (match g' y z with
                  | some r => .ok r e3
                  | none => .bad)
                | _, _ => .bad)) := by
                have q5 : Post Γ W e2 σ B2 H2 (fun r env' B' H' => ∀ v, RetOk Γ (FreeR Γ env σ H) env' σ B' H' r v → Q v H') ((f3 e2).bind fun c e3 => (match b.get e3, c.get e3 with
                  | some y, some z => (match g' y z with
                    | some r => .ok r e3
                    | none => .bad)
                  | _, _ => .bad)) := q3
                exact (show Post Γ W e2 σ B2 H2 (fun (_ : Unit) env' B' H' => Post Γ W env' σ B' H' (fun r env' B' H' => ∀ v, RetOk Γ (FreeR Γ env σ H) env' σ B' H' r v → Q v H') ((f3 env').bind fun c e3 => (match b.get e3, c.get e3 with
                  | some y, some z => (match g' y z with
                    | some r => .ok r e3
                    | none => .bad)
                  | _, _ => .bad))) (Res.ok () e2) from (Post.bind (α := Unit) (r := .ok () e2) (k := fun _ env' => (f3 env').bind fun c e3 => (match b.get e3, c.get e3 with
                  | some y, some z => (match g' y z with
                    | some r => .ok r e3
                    | none => .bad)
                  | _, _ => .bad)) q5)) B3 H3 s3 x3
              refine ⟨e2, B3, s3, q4.bind.mono fun c' e3 B4 H4 s4 x4 q6 z hz => ?_⟩
              cases hb3 : b.get e3 with
              | none => rw [hb3] at q6; exact q6.elim
              | some y' =>
                cases hc3 : c'.get e3 with
                | none => rw [hb3, hc3] at q6; exact q6.elim
                | some z' =>
                  rw [hb3, hc3] at q6
                  have q7 : Post Γ W e3 σ B4 H4 (fun r env' B' H' => ∀ v, RetOk Γ (FreeR Γ env σ H) env' σ B' H' r v → Q v H') (match g' y' z' with | some r => .ok r e3 | none => .bad) := q6
                  cases hr' : g' y' z' with
                  | none => rw [hr'] at q7; exact q7.elim
                  | some ent' =>
                    rw [hr'] at q7
                    exact hg' hr' s4 (Ar.now s4 (hw.mono (x3.b.trans x4.b)) hb3) (Ar.now s4 hz hc3) (fun p hp => .inl (h02 p (x3.h0 p (x4.h0 p hp)))) q7
          | _ => exact q3.elim
        | _ => exact q3.elim
theorem sChain {op op' : CmpOp} (ho : OpR X (compareOp op) r) (ho' : OpR X (compareOp op') r') (hg : Serves Γ W r g) (hg' : Serves Γ W r' g') (ha : SL X Γ W a f1) (hb : SL X Γ W b f2) (hc : SL X Γ W c f3)
    (hm : lastMarks [op, op'] [b, c] = false) : SF X Γ W (.Compare a [op, op'] [b, c] pos) (dChain g g' f1 f2 f3) := imE (pe_chain ho ho' ha hb hc hm) fun σ H Q h => tChain_of hg hg' h
theorem sChainT {op op' : CmpOp} (ho : OpR X (compareOp op) r) (ho' : OpR X (compareOp op') r') (hg : Serves Γ W r g) (hg' : Serves Γ W r' g') (ha : SL X Γ W a f1) (hb : SL X Γ W b f2) (hc : SL X Γ W c f3)
    (hm : lastMarks [op, op'] [b, c] = false) : ST X Γ W (.Compare a [op, op'] [b, c] pos) (dTB (dChain g g' f1 f2 f3)) := imT (pt_chain ho ho' ha hb hc hm) fun σ H Q h => tChain_of hg hg' (tTB_of h)

/-! ### signs, truth -/
def dNeg (f : DenV) : DenV := fun env => (f env).bind fun d e => match d with
  | .int i => .ok (.int (-i)) e
  | _ => .bad
theorem sNeg {f : DenV} (h : SV X Γ W a f) : SV X Γ W (.UnaryOp .USub a pos) (dNeg f) := imE (pe_un un_neg h) fun σ H Q ⟨env, B, s, p⟩ => by
  refine ⟨env, B, s, p.bind.mono fun d e1 B1 H1 s1 x1 q1 v hv => ?_⟩
  cases d with
  | int i => exact ⟨i, hv, Post.here s1 q1 _ rfl⟩
  | _ => exact q1.elim
/-- a truth value, as a test -/
def dBT (f : DenV) : DenT := fun env => (f env).bind fun d e => match d with
  | .bl b => .ok b e
  | _ => .bad
theorem tBT_of {f : DenV} {σ : L2.St} {H : Hp} {Q : Bool → Hp → Prop} (h : tT Γ W (dBT f) σ H Q) : tV Γ W f σ H (fun x H' => ∃ k, x = .bl k ∧ Q k H') := by
  obtain ⟨env, B, s, p⟩ := h
  refine ⟨env, B, s, p.bind.mono fun r e1 B1 H1 s1 x1 q1 v hv => ?_⟩
  cases r with
  | bl k => exact ⟨k, hv, Post.here s1 q1⟩
  | _ => exact q1.elim
/-- truth of a thing -/
def truth : D → Option Bool
  | .non => some false
  | .bl b => some b
  | .int i => some (i != 0)
  | .str s => if s.length ≤ 1000000 then some ((s.length : Int) != 0) else none
  | .tup xs => some (!xs.isEmpty)
  | .lst xs => some (!xs.isEmpty)
  | .fl xs => some (!xs.isEmpty)
  | .ins _ _ _ => none
  | .fn _ => none
def dTru (f : DenL) : DenT := fun env => (f env).bind fun a e => match a.get e with
  | some d => (match truth d with
    | some b => .ok b e
    | none => .bad)
  | none => .bad
theorem isEmpty_reps {Γ : Wd} {B : Hp} {xs : List D} {vs : List V} (r : Reps Γ B xs vs) : xs.isEmpty = vs.isEmpty := by
  have e := r.length
  cases xs <;> cases vs <;> first | rfl | cases e
theorem RepT.truth {B H : Hp} {d : D} {v : V} {k : Bool} (s : Same B H) (h : RepT Γ B H d v) (e : truth d = some k) : TruV Γ.K v H k := by
  cases d with
  | non => cases e; rw [h.non]; rfl
  | bl b => cases e; rw [h.bl]; rfl
  | int b => cases e; rw [h.int]; rfl
  | str z =>
    have e' : (if z.length ≤ 1000000 then some ((z.length : Int) != 0) else none) = some k := e
    split at e'
    · cases e'
      rename_i hl
      rw [h.str]
      exact ⟨LN_le hl, rfl⟩
    · cases e'
  | tup xs =>
    cases e
    obtain ⟨p, vs, e1, e2, e3⟩ := h.tup s
    rw [e1, isEmpty_reps e3]
    exact .inr (.inl ⟨vs, e2, rfl⟩)
  | lst xs =>
    cases e
    obtain ⟨p, vs, e1, e2, e3⟩ := h.lst s
    rw [e1, isEmpty_reps e3]
    exact .inl ⟨vs, .inl (.inl e2), rfl⟩
  | fl xs =>
    cases e
    obtain ⟨p, vs, e1, e2, e3⟩ := h.fl s
    rw [e1, isEmpty_reps e3]
    exact .inl ⟨vs, e2, rfl⟩
  | ins c ns xs => cases e
  | fn x => cases e
theorem sTru (hK : X.K = Γ.K) (ha : SL X Γ W a f1) (he : ∀ whole, isTrue a X.env whole = (do let v ← whole; standAt a.pos; holding [v] (truthy v)) := by intro _; rfl) : ST X Γ W a (dTru f1) :=
  imT (pt_truth ha he) fun σ H Q ⟨env, B, s, p⟩ => by
    refine ⟨env, B, s, p.bind.mono fun d e1 B1 H1 s1 x1 q1 v hv => ?_⟩
    cases hd : d.get e1 with
    | none => rw [hd] at q1; exact q1.elim
    | some y =>
      rw [hd] at q1
      have q2 : Post Γ W e1 σ B1 H1 (fun b _ _ H' => Q b H') (match Ev.truth y with | some b => .ok b e1 | none => .bad) := q1
      cases ht : Ev.truth y with
      | none => rw [ht] at q2; exact q2.elim
      | some k =>
        rw [ht] at q2
        refine ⟨k, ?_, Post.here s1 q2⟩
        rw [hK]
        exact (Ar.now s1 hv hd).truth s1.same ht
/-! ### not, and, or, if -/
def dNotT (f : DenT) : DenT := fun env => (f env).bind fun b e => .ok (!b) e
def dAndT (f g : DenT) : DenT := fun env => (f env).bind fun b e => if b = true then g e else .ok false e
def dOrT (f g : DenT) : DenT := fun env => (f env).bind fun b e => if b = true then .ok true e else g e
variable {t1 t2 : DenT} {rest : List Expr}
theorem sNotT (h : ST X Γ W a t1) : ST X Γ W (.UnaryOp .Not a pos) (dNotT t1) := imT (pt_not h) fun σ H Q ⟨env, B, s, p⟩ =>
  ⟨env, B, s, p.bind.mono fun b e1 B1 H1 s1 x1 q1 => Post.here s1 q1⟩
abbrev SW (X : Cx) (Γ : Wd) (W : WX) (e : Expr) (f : DenT) : Prop := PW X e (tT Γ W f)
theorem sAndT1 (h : ST X Γ W a t1) : SW X Γ W (.BoolOp .And [a] pos) t1 := pw_and1 h
theorem sOrT1 (h : ST X Γ W a t1) : SW X Γ W (.BoolOp .Or [a] pos) t1 := pw_or1 h
theorem sAndT (h : ST X Γ W a t1) (k : SW X Γ W (.BoolOp .And (b :: rest) pos) t2) : SW X Γ W (.BoolOp .And (a :: b :: rest) pos) (dAndT t1 t2) := imW (pw_and h k) fun σ H Q ⟨env, B, s, p⟩ => by
  refine ⟨env, B, s, p.bind.mono fun b e1 B1 H1 s1 x1 q1 => ?_⟩
  cases b with
  | true =>
    rw [if_pos rfl] at q1 ⊢
    exact ⟨e1, B1, s1, q1⟩
  | false =>
    rw [if_neg Bool.false_ne_true] at q1 ⊢
    exact Post.here s1 q1
theorem sOrT (h : ST X Γ W a t1) (k : SW X Γ W (.BoolOp .Or (b :: rest) pos) t2) : SW X Γ W (.BoolOp .Or (a :: b :: rest) pos) (dOrT t1 t2) := imW (pw_or h k) fun σ H Q ⟨env, B, s, p⟩ => by
  refine ⟨env, B, s, p.bind.mono fun b e1 B1 H1 s1 x1 q1 => ?_⟩
  cases b with
  | true =>
    rw [if_pos rfl] at q1 ⊢
    exact Post.here s1 q1
  | false =>
    rw [if_neg Bool.false_ne_true] at q1 ⊢
    exact ⟨e1, B1, s1, q1⟩
theorem sWT (h : SW X Γ W a t1) : ST X Γ W a t1 := h.pt
/-- as values, all but the last truth values -/
def dAndV (f g : DenV) : DenV := fun env => (dBT f env).bind fun b e => if b = true then g e else .ok (.bl false) e
def dOrV (f g : DenV) : DenV := fun env => (dBT f env).bind fun b e => if b = true then .ok (.bl true) e else g e
def dNotV (f : DenV) : DenV := fun env => (dBT f env).bind fun b e => .ok (.bl (!b)) e
variable {v1 v2 : DenV} {op : BoolOp}
theorem sOneV (h : SV X Γ W a v1) : SV X Γ W (.BoolOp op [a] pos) v1 := pe_one h
theorem tBT_bind {α : Type} {f : DenV} {k : Bool → Sto → Res α} {Φ : α → Sto → Hp → Hp → Prop} {env : Sto} {σ : L2.St} {B H : Hp} (p : Post Γ W env σ B H Φ ((dBT f env).bind k)) :
    Post Γ W env σ B H (fun d e1 B1 H1 => ∀ v, Rep Γ B1 d v → ∃ c, v = .bl c ∧ Post Γ W e1 σ B1 H1 Φ (k c e1)) (f env) := by
  have p2 := p.bind
  unfold dBT at p2
  refine p2.bind.mono fun d e1 B1 H1 s1 x1 q1 v hv => ?_
  cases d with
  | bl c => exact ⟨c, hv, Post.here s1 q1⟩
  | _ => exact q1.elim
theorem sAndV (h : SV X Γ W a v1) (k : SV X Γ W (.BoolOp .And (b :: rest) pos) v2) : SV X Γ W (.BoolOp .And (a :: b :: rest) pos) (dAndV v1 v2) := imE (pe_and h k) fun σ H Q ⟨env, B, s, p⟩ => by
  refine ⟨env, B, s, (tBT_bind p).mono fun d e1 B1 H1 s1 x1 q1 v hv => ?_⟩
  obtain ⟨c, rfl, q2⟩ := q1 v hv
  refine ⟨c, rfl, ?_⟩
  cases c with
  | true =>
    rw [if_pos rfl] at q2 ⊢
    exact ⟨e1, B1, s1, q2⟩
  | false =>
    rw [if_neg Bool.false_ne_true] at q2 ⊢
    exact Post.here s1 q2 _ rfl
theorem sOrV (h : SV X Γ W a v1) (k : SV X Γ W (.BoolOp .Or (b :: rest) pos) v2) : SV X Γ W (.BoolOp .Or (a :: b :: rest) pos) (dOrV v1 v2) := imE (pe_or h k) fun σ H Q ⟨env, B, s, p⟩ => by
  refine ⟨env, B, s, (tBT_bind p).mono fun d e1 B1 H1 s1 x1 q1 v hv => ?_⟩
  obtain ⟨c, rfl, q2⟩ := q1 v hv
  refine ⟨c, rfl, ?_⟩
  cases c with
  | true =>
    rw [if_pos rfl] at q2 ⊢
    exact Post.here s1 q2 _ rfl
  | false =>
    rw [if_neg Bool.false_ne_true] at q2 ⊢
    exact ⟨e1, B1, s1, q2⟩
theorem sNotV (h : SV X Γ W a v1) : SV X Γ W (.UnaryOp .Not a pos) (dNotV v1) := imE (pe_not h) fun σ H Q ⟨env, B, s, p⟩ => by
  refine ⟨env, B, s, (tBT_bind p).mono fun d e1 B1 H1 s1 x1 q1 v hv => ?_⟩
  obtain ⟨c, rfl, q2⟩ := q1 v hv
  exact ⟨c, rfl, Post.here s1 q2 _ rfl⟩
/-- a if t else b -/
def dIf (t : DenT) (f g : DenV) : DenV := fun env => (t env).bind fun b e => if b = true then f e else g e
theorem sIf (h : ST X Γ W c t1) (ha : SV X Γ W a v1) (hb : SV X Γ W b v2) : SV X Γ W (.IfExp c a b pos) (dIf t1 v1 v2) := imE (pe_ifExp h ha hb) fun σ H Q ⟨env, B, s, p⟩ => by
  refine ⟨env, B, s, p.bind.mono fun b e1 B1 H1 s1 x1 q1 => ?_⟩
  cases b with
  | true =>
    rw [if_pos rfl] at q1 ⊢
    exact ⟨e1, B1, s1, q1⟩
  | false =>
    rw [if_neg Bool.false_ne_true] at q1 ⊢
    exact ⟨e1, B1, s1, q1⟩
def dIfF (t : DenT) (f g : DenF) : DenF := fun env => (t env).bind fun b e => if b = true then f e else g e
theorem RetOk.imp {P P' : Addr → Prop} {env' : Sto} {σ' : L2.St} {B' H' : Hp} {r : Ent} {v : V} (h : ∀ p, P p → P' p) (k : RetOk Γ P env' σ' B' H' r v) : RetOk Γ P' env' σ' B' H' r v := by
  cases r with
  | val d => exact k
  | mu xs =>
    obtain ⟨p, vs, e1, e2, e3⟩ := k
    exact ⟨p, vs, e1, h p e2, e3⟩
  | _ => exact k
theorem sIfF {u1 u2 : DenF} (h : ST X Γ W c t1) (ha : SF X Γ W a u1) (hb : SF X Γ W b u2) : SF X Γ W (.IfExp c a b pos) (dIfF t1 u1 u2) := imE (pe_ifExp h ha hb) fun σ H Q ⟨env, B, s, p⟩ => by
  refine ⟨env, B, s, p.bind.mono fun b e1 B1 H1 s1 x1 q1 => ?_⟩
  cases b with
  | true =>
    rw [if_pos rfl] at q1 ⊢
    exact ⟨e1, B1, s1, q1.mono fun r env' B' H' s' x' q v hv => q v (hv.imp fun p hp => hp.back s1 x1)⟩
  | false =>
    rw [if_neg Bool.false_ne_true] at q1 ⊢
    exact ⟨e1, B1, s1, q1.mono fun r env' B' H' s' x' q v hv => q v (hv.imp fun p hp => hp.back s1 x1)⟩
end
end Ev

set_option Elab.async false
set_option linter.all false
set_option maxRecDepth 100000
set_option maxHeartbeats 4000000
namespace Ev
open PySem PySem.Spec PyProof.Rows L2

section
variable {X : Cx} {Γ : Wd} {W : WX} {e a b c : Expr} {es : List Expr} {pos : Pos} {f1 f2 f3 : DenL} {r : R2} {g : D → D → Option Ent}
/-! ### several things -/
def dVs : List DenV → DenVs
  | [] => fun env => .ok [] env
  | f :: fs => fun env => (f env).bind fun d e => (dVs fs e).bind fun ds e2 => .ok (d :: ds) e2
theorem sVsNil : SVs X Γ W [] (dVs []) := imA pa_nil fun σ H Q ⟨env, B, s, p⟩ => Post.here s p [] rfl
theorem sVsCons {f : DenV} {fs : List DenV} (h : SV X Γ W e f) (k : SVs X Γ W es (dVs fs)) (hs : starEach (e :: es) X.env = (false, eval e X.env) :: starEach es X.env := by rfl) : SVs X Γ W (e :: es) (dVs (f :: fs)) :=
  imA (pa_cons h k hs) fun σ H Q ⟨env, B, s, p⟩ =>
    ⟨env, B, s, p.bind.mono fun d e1 B1 H1 s1 x1 q1 v hv => ⟨e1, B1, s1, q1.bind.mono fun ds e2 B2 H2 s2 x2 q2 vs hvs => Post.here s2 q2 (v :: vs) ⟨v, vs, rfl, Rep.mono x2.b d v hv, hvs⟩⟩⟩
def dArs : List DenL → DenA
  | [] => fun env => .ok [] env
  | f :: fs => fun env => (f env).bind fun d e => (dArs fs e).bind fun ds e2 => .ok (d :: ds) e2
theorem sArNil : SA X Γ W [] (dArs []) := imA pa_nil fun σ H Q ⟨env, B, s, p⟩ => Post.here s p [] rfl
theorem sArCons {f : DenL} {fs : List DenL} (h : SL X Γ W e f) (k : SA X Γ W es (dArs fs)) (hs : starEach (e :: es) X.env = (false, eval e X.env) :: starEach es X.env := by rfl) : SA X Γ W (e :: es) (dArs (f :: fs)) :=
  imA (pa_cons h k hs) fun σ H Q ⟨env, B, s, p⟩ =>
    ⟨env, B, s, p.bind.mono fun d e1 B1 H1 s1 x1 q1 v hv => ⟨e1, B1, s1, q1.bind.mono fun ds e2 B2 H2 s2 x2 q2 vs hvs => Post.here s2 q2 (v :: vs) ⟨v, vs, rfl, hv.mono x2.b, hvs⟩⟩⟩
def dTup (fs : List DenV) : DenV := fun env => (dVs fs env).bind fun ds e => if ds.length ≤ 1000000 then .ok (.tup ds) e else .bad
def dLst (fs : List DenV) : DenF := fun env => (dVs fs env).bind fun ds e => if ds.length ≤ 1000000 then .ok (.mu ds) e else .bad
theorem sTup {fs : List DenV} {k : Nat} (h : SVs X Γ W es (dVs fs)) : SV X Γ W (.Tuple es k pos) (dTup fs) := imE (pe_tup h) fun σ H Q ⟨env, B, s, p⟩ => by
  refine ⟨env, B, s, p.bind.mono fun ds e1 B1 H1 s1 x1 q1 vs hvs => ?_⟩
  split at q1
  · rename_i hl
    exact ⟨LN_le (by rw [← hvs.length]; exact hl), fun p hp => q1 _ _ (s1.new hp) (Ext.new s1 hp) _ ⟨p, vs, rfl, .inl (.inl upd_same), Reps.mono (same_upd (s1.bfresh hp)) ds vs hvs⟩⟩
  · exact q1.elim
theorem sLst {fs : List DenV} (h : SVs X Γ W es (dVs fs)) : SF X Γ W (.List es pos) (dLst fs) := imE (pe_lst h) fun σ H Q ⟨env, B, s, p⟩ => by
  refine ⟨env, B, s, p.bind.mono fun ds e1 B1 H1 s1 x1 q1 vs hvs => ?_⟩
  split at q1
  · rename_i hl
    exact ⟨LN_le (by rw [← hvs.length]; exact hl), fun p hp => q1 _ _ (s1.newM hp) (Ext.newM hp) _ ⟨p, vs, rfl, .inl (x1.h0 p hp), s1.bfresh hp, upd_same, hvs, s1.fresh_own hp⟩⟩
  · exact q1.elim
/-! ### subscripts -/
def gIx : D → D → Option Ent
  | .tup xs, .int i => (atI xs i).map .val
  | .lst xs, .int i => (atI xs i).map .val
  | .fl xs, .int i => (atI xs i).map .val
  | .str s, .int i => if s.length ≤ 1000000 then (atI s.cps.toList i).map fun c => .val (.str ⟨#[c]⟩) else none
  | _, _ => none
theorem Reps.atI {B : Hp} {xs : List D} {vs : List V} {i : Int} {d : D} (r : Reps Γ B xs vs) (h : L2.atI xs i = some d) : ∃ v, L2.atI vs i = some v ∧ Rep Γ B d v := by
  unfold L2.atI at h ⊢
  rw [← r.length]
  cases e : ixN xs.length i with
  | none => rw [e] at h; cases h
  | some j =>
    rw [e] at h
    exact r.get h
theorem sv_ix : Serves Γ W (rIx Γ.K) gIx := by
  intro x y ent env σ B H P0 v w Q hg s hx hy h0 p
  have key : ∀ (xs : List D) (i : Int), (L2.atI xs i).map Ent.val = some ent → ∀ vs, Reps Γ B xs vs → ∃ v, L2.atI vs i = some v ∧ Q v H := fun xs i hm vs r => by
    cases ha : L2.atI xs i with
    | none => rw [ha] at hm; cases hm
    | some d =>
      rw [ha] at hm
      cases hm
      obtain ⟨v, h1, h2⟩ := r.atI ha
      exact ⟨v, h1, Post.val s p h2⟩
  cases y with
  | int i =>
    cases x with
    | tup xs =>
      obtain ⟨q, vs, e1, e2, e3⟩ := hx.tup s.same
      obtain ⟨z, k1, k2⟩ := key xs i hg vs e3
      exact .inr (.inl ⟨q, vs, i, z, e1, hy.int, e2, k1, k2⟩)
    | lst xs =>
      obtain ⟨q, vs, e1, e2, e3⟩ := hx.lst s.same
      obtain ⟨z, k1, k2⟩ := key xs i hg vs e3
      exact .inl ⟨q, vs, i, z, e1, hy.int, .inl (.inl e2), k1, k2⟩
    | fl xs =>
      obtain ⟨q, vs, e1, e2, e3⟩ := hx.fl s.same
      obtain ⟨z, k1, k2⟩ := key xs i hg vs e3
      exact .inl ⟨q, vs, i, z, e1, hy.int, e2, k1, k2⟩
    | str z =>
      have hg' : (if z.length ≤ 1000000 then (L2.atI z.cps.toList i).map (fun c => Ent.val (.str ⟨#[c]⟩)) else none) = some ent := hg
      split at hg'
      · rename_i hl
        cases ha : L2.atI z.cps.toList i with
        | none => rw [ha] at hg'; cases hg'
        | some c =>
          rw [ha] at hg'
          cases hg'
          exact .inr (.inr ⟨z, i, c, hx.str, hy.int, LN_le hl, ha, Post.val s p rfl⟩)
      · cases hg'
    | _ => cases hg
  | _ => cases x <;> cases hg
theorem sIx (hK : X.K = Γ.K) (ha : SL X Γ W a f1) (hb : SL X Γ W b f2) (hs : PlainIx b := by exact fun _ _ => rfl) : SF X Γ W (.Subscript a b pos) (dBin gIx f1 f2) :=
  imE (pe_ix (ix_seq (X := X)) ha hb hs) fun σ H Q h => by
    rw [hK]
    exact tOp_of sv_ix h
/-! ### slices -/
abbrev DenP := Sto → Res (Option Int)
def dPn : DenP := fun env => .ok none env
def dPs (f : DenV) : DenP := fun env => (f env).bind fun d e => match d with
  | .int i => .ok (some i) e
  | _ => .bad
def tP (Γ : Wd) (W : WX) (f : DenP) : TO := fun σ H Q => ∃ env B, StOk Γ env σ B H ∧ Post Γ W env σ B H (fun o _ _ H' => Q o H') (f env)
abbrev SP' (X : Cx) (Γ : Wd) (W : WX) (e : Option Expr) (f : DenP) : Prop := PO X e (tP Γ W f)
theorem imO {e : Option Expr} {t t' : TO} (h : PO X e t) (i : ∀ σ H Q, t' σ H Q → t σ H Q) : PO X e t' := ⟨fun pins s σ H Q I q => h.run pins s σ H Q I (i σ H Q q)⟩
theorem sPn : SP' X Γ W none dPn := imO po_none fun σ H Q ⟨env, B, s, p⟩ => Post.here s p
theorem sPs {f : DenV} (h : SV X Γ W e f) : SP' X Γ W (some e) (dPs f) := imO (po_some h) fun σ H Q ⟨env, B, s, p⟩ => by
  refine ⟨env, B, s, p.bind.mono fun d e1 B1 H1 s1 x1 q1 v hv => ?_⟩
  cases d with
  | int i => exact ⟨i, hv, Post.here s1 q1⟩
  | _ => exact q1.elim
def cutD (xs : List D) (lo hi : Option Int) : List D := (xs.drop (HT.sIx xs.length 0 lo)).take (HT.sIx xs.length xs.length hi - HT.sIx xs.length 0 lo)
def gSl (x : D) (lo hi : Option Int) : Option Ent := match x with
  | .tup xs => some (.val (.tup (cutD xs lo hi)))
  | .lst xs => some (.mu (cutD xs lo hi))
  | .fl xs => some (.mu (cutD xs lo hi))
  | _ => none
def dSl (f : DenL) (l h : DenP) : DenF := fun env => (f env).bind fun a e1 => (l e1).bind fun lo e2 => (h e2).bind fun hi e3 => match a.get e3 with
  | some x => (match gSl x lo hi with
    | some r => .ok r e3
    | none => .bad)
  | none => .bad
theorem Reps.cut {B : Hp} {xs : List D} {vs : List V} (r : Reps Γ B xs vs) (lo hi : Option Int) : Reps Γ B (cutD xs lo hi) (cutV vs lo hi) := by
  unfold cutD cutV
  rw [← r.length]
  exact (r.drop _).take _
theorem cutD_whole {xs : List D} {lo hi : Option Int} (h : HT.sIx xs.length 0 lo = 0 ∧ HT.sIx xs.length xs.length hi = xs.length) : cutD xs lo hi = xs := by
  unfold cutD
  rw [h.1, h.2]
  simp
theorem sSl {el eh : Option Expr} {l h : DenP} {p2 : Pos} (hK : X.K = Γ.K) (ha : SL X Γ W a f1) (hl : SP' X Γ W el l) (hh : SP' X Γ W eh h) : SF X Γ W (.Subscript a (.Slice el eh none p2) pos) (dSl f1 l h) :=
  imE (pe_slice ((sl_list (X := X)).or (sl_tupA (X := X))) ha hl hh) fun σ H Q ⟨env, B, s, p⟩ => by
    refine ⟨env, B, s, p.bind.mono fun a' e1 B1 H1 s1 x1 q1 v hv => ⟨e1, B1, s1, q1.bind.mono fun lo e2 B2 H2 s2 x2 q2 => ⟨e2, B2, s2, q2.bind.mono fun hi e3 B3 H3 s3 x3 q3 => ?_⟩⟩⟩
    cases ha : a'.get e3 with
    | none => rw [ha] at q3; exact q3.elim
    | some x =>
      rw [ha] at q3
      have hx := Ar.now s3 (hv.mono (x2.b.trans x3.b)) ha
      have h0 : ∀ p, H3 p = none → FreeR Γ env σ H p := fun p hp => .inl (x1.h0 p (x2.h0 p (x3.h0 p hp)))
      cases x with
      | tup xs =>
        have q4 : Post Γ W e3 σ B3 H3 (fun r env' B' H' => ∀ v, RetOk Γ (FreeR Γ env σ H) env' σ B' H' r v → Q v H') (.ok (.val (.tup (cutD xs lo hi))) e3) := q3
        have hx' := hx
        obtain ⟨q, vs, k1, k2, k3⟩ := hx.tup s3.same
        refine .inr ⟨q, vs, k1, by rw [hK]; exact k2, fun hw => ?_, fun hw p hp => Post.newT s3 q4 (k3.cut lo hi) hp⟩
        rw [← k1]
        rw [← k3.length] at hw
        rw [cutD_whole hw] at q4
        rcases hx' with r | ⟨_, _, _, c, _⟩
        · exact Post.val s3 q4 r
        · cases c
      | lst xs =>
        have q4 : Post Γ W e3 σ B3 H3 (fun r env' B' H' => ∀ v, RetOk Γ (FreeR Γ env σ H) env' σ B' H' r v → Q v H') (.ok (.mu (cutD xs lo hi)) e3) := q3
        obtain ⟨q, vs, k1, k2, k3⟩ := hx.lst s3.same
        exact .inl ⟨q, vs, k1, .inl (.inl k2), fun p hp => Post.newL h0 s3 q4 (k3.cut lo hi) hp⟩
      | fl xs =>
        have q4 : Post Γ W e3 σ B3 H3 (fun r env' B' H' => ∀ v, RetOk Γ (FreeR Γ env σ H) env' σ B' H' r v → Q v H') (.ok (.mu (cutD xs lo hi)) e3) := q3
        obtain ⟨q, vs, k1, k2, k3⟩ := hx.fl s3.same
        exact .inl ⟨q, vs, k1, by rw [hK]; exact k2, fun p hp => Post.newL h0 s3 q4 (k3.cut lo hi) hp⟩
      | _ => exact q3.elim
/-! ### built-in functions -/
def getAll : List Ar → Sto → Option (List D)
  | [], _ => some []
  | a :: as, env => match a.get env, getAll as env with
    | some d, some ds => some (d :: ds)
    | _, _ => none
def RepTs (Γ : Wd) (B H : Hp) : List D → List V → Prop
  | [], vs => vs = []
  | d :: ds, vs => ∃ v r, vs = v :: r ∧ RepT Γ B H d v ∧ RepTs Γ B H ds r
theorem getAll_now {env : Sto} {σ : L2.St} {B H : Hp} (s : StOk Γ env σ B H) : ∀ {as : List Ar} {vs : List V} {ds : List D}, ArsOk Γ B σ as vs → getAll as env = some ds → RepTs Γ B H ds vs
  | [], vs, ds, h, g => by
    cases g
    exact h
  | a :: as, vs, ds, h, g => by
    obtain ⟨v, r, e1, e2, e3⟩ := h
    have g' : (match a.get env, getAll as env with | some d, some ds => some (d :: ds) | _, _ => none) = some ds := g
    cases ha : a.get env with
    | none => rw [ha] at g'; cases g'
    | some d =>
      cases hr : getAll as env with
      | none => rw [ha, hr] at g'; cases g'
      | some ds' =>
        rw [ha, hr] at g'
        cases g'
        exact ⟨v, r, e1, Ar.now s e2 ha, getAll_now s e3 hr⟩
def ServesN (Γ : Wd) (W : WX) (r : List V → Hp → VK → Prop) (g : List D → Option Ent) : Prop := ∀ {ds : List D} {ent : Ent} {env : Sto} {σ : L2.St} {B H : Hp} {P0 : Addr → Prop} {vs : List V} {Q : VK}, g ds = some ent → StOk Γ env σ B H → RepTs Γ B H ds vs → (∀ p, H p = none → P0 p) →
  Post Γ W env σ B H (fun r env' B' H' => ∀ v, RetOk Γ P0 env' σ B' H' r v → Q v H') (.ok ent env) → r vs H Q
def dCB (g : List D → Option Ent) (fs : DenA) : DenF := fun env => (fs env).bind fun as e => match getAll as e with
  | some ds => (match g ds with
    | some r => .ok r e
    | none => .bad)
  | none => .bad
theorem tCB_of {r : List V → Hp → VK → Prop} {g : List D → Option Ent} {fs : DenA} (hg : ServesN Γ W r g) {σ : L2.St} {H : Hp} {Q : VK} (h : tF Γ W (dCB g fs) σ H Q) : tCB r (tAr Γ W fs) σ H Q := by
  obtain ⟨env, B, s, p⟩ := h
  refine ⟨env, B, s, p.bind.mono fun as e1 B1 H1 s1 x1 q1 vs hvs => ?_⟩
  cases ha : getAll as e1 with
  | none => rw [ha] at q1; exact q1.elim
  | some ds =>
    rw [ha] at q1
    have q2 : Post Γ W e1 σ B1 H1 (fun r env' B' H' => ∀ v, RetOk Γ (FreeR Γ env σ H) env' σ B' H' r v → Q v H') (match g ds with | some r => .ok r e1 | none => .bad) := q1
    cases hr : g ds with
    | none => rw [hr] at q2; exact q2.elim
    | some ent =>
      rw [hr] at q2
      exact hg hr s1 (getAll_now s1 hvs ha) (fun p hp => .inl (x1.h0 p hp)) q2
theorem sCB {r : List V → Hp → VK → Prop} {g : List D → Option Ent} {fs : DenA} {id : String} {x : Str} {p : Pos} (hc : CallR X (.builtin id) r) (hg : ServesN Γ W r g) (gl : Gl X x) (hm : X.mg x = none) (hv : bootBuiltins x = some (.builtin id)) (ha : SA X Γ W (e :: es) fs) (hn : x ≠ "__name__" := by decide) (hdb : (x == ("__debug__" : Str)) = false := by decide)
    (he : starEach (e :: es) X.env = (false, eval e X.env) :: starEach es X.env := by rfl) (hpl : (backTo pos (starEach es X.env)).any (·.1) = false := by rfl) : SF X Γ W (.Call (.Name x p) (e :: es) [] pos) (dCB g fs) :=
  imE (pe_callB hc gl hm hv ha hn hdb he hpl) fun σ H Q h => tCB_of hg h
theorem sCT {r : List V → Hp → VK → Prop} {g : List D → Option Ent} {fs : DenA} {T : String} {x : Str} {p : Pos} (hc : CallR X (.type T) r) (hg : ServesN Γ W r g) (gl : Gl X x) (hm : X.mg x = none) (hv : bootBuiltins x = some (.type T)) (ha : SA X Γ W (e :: es) fs) (hn : x ≠ "__name__" := by decide) (hdb : (x == ("__debug__" : Str)) = false := by decide)
    (he : starEach (e :: es) X.env = (false, eval e X.env) :: starEach es X.env := by rfl) (hpl : (backTo pos (starEach es X.env)).any (·.1) = false := by rfl) : SF X Γ W (.Call (.Name x p) (e :: es) [] pos) (dCB g fs) :=
  imE (pe_callTy hc gl hm hv ha hn hdb he hpl) fun σ H Q h => tCB_of hg h
theorem sCG {r : List V → Hp → VK → Prop} {g : List D → Option Ent} {fs : DenA} {id : String} {x : Str} {p : Pos} (hc : CallR X (.builtin id) r) (hg : ServesN Γ W r g) (gl : Gl X x) (hm : X.mg x = some (.builtin id)) (ha : SA X Γ W (e :: es) fs) (hdb : (x == ("__debug__" : Str)) = false := by decide)
    (he : starEach (e :: es) X.env = (false, eval e X.env) :: starEach es X.env := by rfl) (hpl : (backTo pos (starEach es X.env)).any (·.1) = false := by rfl) : SF X Γ W (.Call (.Name x p) (e :: es) [] pos) (dCB g fs) :=
  imE (pe_callBfun hc gl hm ha hdb he hpl) fun σ H Q h => tCB_of hg h
theorem RepTs.one {B H : Hp} {d : D} {vs : List V} (h : RepTs Γ B H [d] vs) : ∃ v, vs = [v] ∧ RepT Γ B H d v := by
  obtain ⟨v, r, e1, e2, e3⟩ := h
  have e3' : r = [] := e3
  exact ⟨v, by rw [e1, e3'], e2⟩
theorem RepTs.two {B H : Hp} {d d' : D} {vs : List V} (h : RepTs Γ B H [d, d'] vs) : ∃ v w, vs = [v, w] ∧ RepT Γ B H d v ∧ RepT Γ B H d' w := by
  obtain ⟨v, r, e1, e2, e3⟩ := h
  obtain ⟨w, e4, e5⟩ := RepTs.one e3
  exact ⟨v, w, by rw [e1, e4], e2, e5⟩
def gLen : List D → Option Ent
  | [.str z] => if z.length ≤ 1000000 then some (.val (.int z.length)) else none
  | [.tup xs] => some (.val (.int xs.length))
  | [.lst xs] => some (.val (.int xs.length))
  | [.fl xs] => some (.val (.int xs.length))
  | _ => none
def rLenE (K : PySem.W.Frag) : List V → Hp → VK → Prop := fun xs H Q => (∃ p ys, xs = [.ref p] ∧ (SqL K H p ys ∨ SqT K H p ys) ∧ Q (.int ys.length) H) ∨ (∃ z : Str, xs = [.str z] ∧ z.length ≤ sizeLine ∧ Q (.int z.length) H)
theorem sv_len : ServesN Γ W (rLenE Γ.K) gLen := by
  intro ds ent env σ B H P0 vs Q hg s hx h0 p
  cases ds with
  | nil => cases hg
  | cons d r =>
    cases r with
    | cons _ _ => cases d <;> cases hg
    | nil =>
      obtain ⟨v, rfl, k⟩ := hx.one
      have key : ∀ xs, d.its = some xs → ent = .val (.int xs.length) → rLenE Γ.K [v] H Q := fun xs h1 h2 => by
        subst h2
        obtain ⟨q, ws, rfl, k2, k3⟩ := k.seq s.same h1
        refine .inl ⟨q, ws, rfl, k2, ?_⟩
        rw [← k3.length]
        exact Post.val s p rfl
      cases d with
      | str z =>
        have hg' : (if z.length ≤ 1000000 then some (Ent.val (.int z.length)) else none) = some ent := hg
        split at hg'
        · rename_i hl
          cases hg'
          rw [k.str]
          exact .inr ⟨z, rfl, LN_le hl, Post.val s p rfl⟩
        · cases hg'
      | tup xs => exact key xs rfl (Option.some.inj hg).symm
      | lst xs => exact key xs rfl (Option.some.inj hg).symm
      | fl xs => exact key xs rfl (Option.some.inj hg).symm
      | _ => cases hg
theorem call_lenE : CallR X (.builtin "len") (rLenE X.K) := (call_len_seq (X := X)).or fun pins s σ H xs us Q I r h => by
  obtain ⟨z, e, h1, q⟩ := h
  exact call_len_str pins s σ H xs us Q I r ⟨z, e, h1, q⟩
def gList : List D → Option Ent
  | [.tup xs] => some (.mu xs)
  | [.lst xs] => some (.mu xs)
  | [.fl xs] => some (.mu xs)
  | _ => none
theorem sv_list : ServesN Γ W (fun xs H Q => ∃ p ys, xs = [.ref p] ∧ (SqL Γ.K H p ys ∨ SqT Γ.K H p ys) ∧ ∀ l, H l = none → Q (.ref l) (upd H l (.lst ys))) gList := by
  intro ds ent env σ B H P0 vs Q hg s hx h0 p
  cases ds with
  | nil => cases hg
  | cons d r =>
    cases r with
    | cons _ _ => cases d <;> cases hg
    | nil =>
      obtain ⟨v, rfl, k⟩ := hx.one
      have key : ∀ xs, d.its = some xs → ent = .mu xs → ∃ p ys, [v] = [V.ref p] ∧ (SqL Γ.K H p ys ∨ SqT Γ.K H p ys) ∧ ∀ l, H l = none → Q (.ref l) (upd H l (.lst ys)) := fun xs h1 h2 => by
        subst h2
        obtain ⟨q, ws, rfl, k2, k3⟩ := k.seq s.same h1
        exact ⟨q, ws, rfl, k2, fun l hl => Post.newL h0 s p k3 hl⟩
      cases d with
      | tup xs => exact key xs rfl (Option.some.inj hg).symm
      | lst xs => exact key xs rfl (Option.some.inj hg).symm
      | fl xs => exact key xs rfl (Option.some.inj hg).symm
      | _ => cases hg
def gTuple : List D → Option Ent
  | [.tup xs] => some (.val (.tup xs))
  | [.lst xs] => some (.val (.tup xs))
  | [.fl xs] => some (.val (.tup xs))
  | _ => none
theorem sv_tuple : ServesN Γ W (fun xs H Q => ∃ p ys, xs = [.ref p] ∧ ((SqL Γ.K H p ys ∧ ∀ l, H l = none → Q (.ref l) (upd H l (.tup ys))) ∨ (SqT Γ.K H p ys ∧ Q (.ref p) H))) gTuple := by
  intro ds ent env σ B H P0 vs Q hg s hx h0 p
  cases ds with
  | nil => cases hg
  | cons d r =>
    cases r with
    | cons _ _ => cases d <;> cases hg
    | nil =>
      obtain ⟨v, rfl, k⟩ := hx.one
      cases d with
      | tup xs =>
        have h2 : ent = .val (.tup xs) := (Option.some.inj hg).symm
        subst h2
        have k' := k
        obtain ⟨q, ws, e1, e2, e3⟩ := k.tup s.same
        refine ⟨q, ws, by rw [e1], .inr ⟨e2, ?_⟩⟩
        rw [← e1]
        rcases k' with r | ⟨_, _, _, c, _⟩
        · exact Post.val s p r
        · cases c
      | lst xs =>
        have h2 : ent = .val (.tup xs) := (Option.some.inj hg).symm
        subst h2
        obtain ⟨q, ws, e1, e2, e3⟩ := k.lst s.same
        exact ⟨q, ws, by rw [e1], .inl ⟨.inl (.inl e2), fun l hl => Post.newT s p e3 hl⟩⟩
      | fl xs =>
        have h2 : ent = .val (.tup xs) := (Option.some.inj hg).symm
        subst h2
        obtain ⟨q, ws, e1, e2, e3⟩ := k.fl s.same
        exact ⟨q, ws, by rw [e1], .inl ⟨e2, fun l hl => Post.newT s p e3 hl⟩⟩
      | _ => cases hg
def gAbs : List D → Option Ent
  | [.int i] => some (.val (.int (if i < 0 then -i else i)))
  | _ => none
theorem sv_abs : ServesN Γ W (fun xs H Q => ∃ i, xs = [.int i] ∧ Q (.int (if i < 0 then -i else i)) H) gAbs := by
  intro ds ent env σ B H P0 vs Q hg s hx h0 p
  cases ds with
  | nil => cases hg
  | cons d r =>
    cases r with
    | cons _ _ => cases d <;> cases hg
    | nil =>
      obtain ⟨v, rfl, k⟩ := hx.one
      cases d with
      | int i =>
        cases hg
        exact ⟨i, by rw [k.int], Post.val s p rfl⟩
      | _ => cases hg
def gInt : List D → Option Ent
  | [.int i] => some (.val (.int i))
  | [.bl k] => some (.val (.int (if k then 1 else 0)))
  | _ => none
theorem sv_int : ServesN Γ W (fun xs H Q => (∃ i, xs = [.int i] ∧ Q (.int i) H) ∨ ∃ k, xs = [.bl k] ∧ Q (.int (if k then 1 else 0)) H) gInt := by
  intro ds ent env σ B H P0 vs Q hg s hx h0 p
  cases ds with
  | nil => cases hg
  | cons d r =>
    cases r with
    | cons _ _ => cases d <;> cases hg
    | nil =>
      obtain ⟨v, rfl, k⟩ := hx.one
      cases d with
      | int i =>
        cases hg
        exact .inl ⟨i, by rw [k.int], Post.val s p rfl⟩
      | bl i =>
        cases hg
        exact .inr ⟨i, by rw [k.bl], Post.val s p rfl⟩
      | _ => cases hg
def gGcd : List D → Option Ent
  | [.int i, .int j] => some (.val (.int ((Nat.gcd i.natAbs j.natAbs : Nat) : Int)))
  | _ => none
theorem sv_gcd : ServesN Γ W rGcd gGcd := by
  intro ds ent env σ B H P0 vs Q hg s hx h0 p
  match ds, hg, hx with
  | [.int i, .int j], hg, hx =>
    obtain ⟨v, w, rfl, k1, k2⟩ := hx.two
    cases hg
    exact ⟨i, j, by rw [k1.int, k2.int], Post.val s p rfl⟩
/-! ### isinstance -/
def tyN : D → String
  | .non => "NoneType" | .bl _ => "bool" | .int _ => "int" | .str _ => "str" | .tup _ => "tuple" | .lst _ => "list" | .fl _ => "list" | .ins _ _ _ => "" | .fn _ => ""
theorem RepT.ty {B H : Hp} {d : D} {v : V} (s : Same B H) (h : RepT Γ B H d v) (hd : tyN d ≠ "") : TyX Γ.K H v (.type (tyN d)) := by
  have hL : ∀ p vs, SqL Γ.K H p vs → TyX Γ.K H (.ref p) (.type "list") := fun p vs q => by
    rcases q with (q | ⟨o, q⟩) | ⟨o, its, n, k1, k2, _⟩
    · exact .base (.lst q)
    · exact .base (.frz q)
    · exact .kList k1 k2
  cases d with
  | non => rw [h.non]; exact .base .non
  | bl b => rw [h.bl]; exact .base (.bl b)
  | int b => rw [h.int]; exact .base (.int b)
  | str b => rw [h.str]; exact .base (.str b)
  | tup xs =>
    obtain ⟨p, vs, rfl, q, _⟩ := h.tup s
    rcases q with (q | ⟨o, q⟩) | ⟨o, its, n, k1, k2, _⟩
    · exact .base (.tup q)
    · exact .fTuple q
    · exact .kTuple k1 k2
  | lst xs =>
    obtain ⟨p, vs, rfl, q, _⟩ := h.lst s
    exact hL p vs (.inl (.inl q))
  | fl xs =>
    obtain ⟨p, vs, rfl, q, _⟩ := h.fl s
    exact hL p vs q
  | ins c ns xs => exact (hd rfl).elim
  | fn x => exact (hd rfl).elim
def isT (d : D) (c : String) : Bool := match d with
  | .bl _ => c == "bool" || c == "int"
  | .int _ => c == "int"
  | .str _ => c == "str"
  | .tup _ => c == "tuple"
  | .lst _ => c == "list"
  | .fl _ => c == "list"
  | _ => false
def okT (c : String) : Bool := c == "bool" || c == "int" || c == "str" || c == "tuple" || c == "list"
def isTN (t c : String) : Bool := if t == "bool" then c == "bool" || c == "int" else if t == "NoneType" then false else t == c
theorem kit_table : ∀ t ∈ ["NoneType", "bool", "int", "str", "tuple", "list"], ∀ c ∈ ["bool", "int", "str", "tuple", "list"], kitB t c = some (isTN t c) := by decide +kernel
theorem kit_isT {K : PySem.W.Frag} {d : D} {c : String} (hd : tyN d ≠ "") (hc : okT c = true) : PySem.W.kitOne K (.type (tyN d)) (.type c) = some (isT d c) := by
  have h : c ∈ ["bool", "int", "str", "tuple", "list"] := by
    unfold okT at hc
    simp only [Bool.or_eq_true, beq_iff_eq] at hc
    simp only [List.mem_cons, List.not_mem_nil, or_false]
    rcases hc with (((h | h) | h) | h) | h
    · exact .inl h
    · exact .inr (.inl h)
    · exact .inr (.inr (.inl h))
    · exact .inr (.inr (.inr (.inl h)))
    · exact .inr (.inr (.inr (.inr h)))
  have ht : tyN d ∈ ["NoneType", "bool", "int", "str", "tuple", "list"] := by
    cases d with
    | ins _ _ _ => exact (hd rfl).elim
    | fn _ => exact (hd rfl).elim
    | _ => simp [tyN]
  have e := kit_ty (K := K) (kit_table _ ht c h)
  rw [e]
  congr 1
  simp only [List.mem_cons, List.not_mem_nil, or_false] at h
  cases d with
  | ins _ _ _ => exact (hd rfl).elim
  | fn _ => exact (hd rfl).elim
  | _ => rcases h with rfl | rfl | rfl | rfl | rfl <;> rfl
def isTs (d : D) (cs : List String) : Bool := cs.any (isT d)
theorem kit_isTs {K : PySem.W.Frag} {d : D} (hd : tyN d ≠ "") : ∀ {cs : List String}, cs.all okT = true → PySem.W.kitAny K (.type (tyN d)) (cs.map Value.type) = some (isTs d cs)
  | [], _ => kitAny_nil
  | c :: cs, h => by
    obtain ⟨h1, h2⟩ := Bool.and_eq_true_iff.mp (show (okT c && cs.all okT) = true from h)
    refine kitAny_cons (kit_isT hd h1) (fun z => ?_) (fun z => ?_)
    · rw [kit_isTs hd h2]
      unfold isTs
      rw [List.any_cons, z, Bool.false_or]
    · unfold isTs
      rw [List.any_cons, z, Bool.true_or]
def noIns : D → Bool
  | .ins _ _ _ => false
  | .fn _ => false
  | _ => true
theorem tyN_ne {d : D} (h : noIns d = true) : tyN d ≠ "" := by
  cases d with
  | ins _ _ _ => cases h
  | fn _ => cases h
  | _ => exact (by simp [tyN])
def dIsi (cs : List String) (f : DenL) : DenV := fun env => (f env).bind fun a e => match a.get e with
  | some d => if noIns d = true then .ok (.bl (isTs d cs)) e else .bad
  | none => .bad
theorem tIsi {cs : List String} {σ : L2.St} {H : Hp} {Q : VK} (h : tV Γ W (dIsi cs f1) σ H Q) : tL Γ W f1 σ H fun v H1 => ∃ d e1 B1, StOk Γ e1 σ B1 H1 ∧ RepT Γ B1 H1 d v ∧ noIns d = true ∧ ∀ B2 H2, StOk Γ e1 σ B2 H2 → Ext Γ e1 σ B1 H1 e1 σ B2 H2 → Q (.bl (isTs d cs)) H2 := by
  obtain ⟨env, B, s, p⟩ := h
  refine ⟨env, B, s, p.bind.mono fun a e1 B1 H1 s1 x1 q1 v hv => ?_⟩
  cases ha : a.get e1 with
  | none => rw [ha] at q1; exact q1.elim
  | some d =>
    rw [ha] at q1
    have q2 : Post Γ W e1 σ B1 H1 (fun d _ B' H' => ∀ v, Rep Γ B' d v → Q v H') (if noIns d = true then .ok (.bl (isTs d cs)) e1 else .bad) := q1
    by_cases hn : noIns d = true
    · rw [if_pos hn] at q2
      exact ⟨d, e1, B1, s1, Ar.now s1 hv ha, hn, fun B2 H2 s2 x2 => q2 B2 H2 s2 x2 _ rfl⟩
    · rw [if_neg hn] at q2
      exact q2.elim
theorem sIsi {c : String} {x n : Str} {p p2 : Pos} (hK : X.K = Γ.K) (gl : Gl X x) (hm : X.mg x = none) (hv : bootBuiltins x = some (.builtin "isinstance")) (ha : SL X Γ W a f1) (hc : PE X (.Name n p2) (tC (.ty c))) (ok : okT c = true) (hn : x ≠ "__name__" := by decide) (hdb : (x == ("__debug__" : Str)) = false := by decide)
    (he : starEach [a, .Name n p2] X.env = (false, eval a X.env) :: starEach [.Name n p2] X.env := by rfl) : SV X Γ W (.Call (.Name x p) [a, .Name n p2] [] pos) (dIsi [c] f1) :=
  imE (pe_callB (call_isi (X := X)) gl hm hv (pa_cons ha (pa_cons hc pa_nil) he) hn hdb he) fun σ H Q h => by
    refine (fun {α : Prop} {β : Prop} (f : α → β) (x : α) => f x) (fun k => ?_) (tIsi h)
    obtain ⟨env, B, s, p⟩ := k
    refine ⟨env, B, s, p.mono fun a e1 B1 H1 s1 x1 q1 v hv => ?_⟩
    obtain ⟨d, e2, B2, s2, r2, nd, q2⟩ := q1 v hv
    refine ⟨v, .ty c, .type (tyN d), .type c, isT d c, rfl, .ty c, ?_, kit_isT (tyN_ne nd) ok, ?_⟩
    · rw [hK]; exact r2.ty s2.same (tyN_ne nd)
    · have z := q2 B2 H1 s2 Ext.refl
      unfold isTs at z
      rw [List.any_cons, List.any_nil, Bool.or_false] at z
      exact z
/-- names of classes -/
inductive TyNames (X : Cx) : List Expr → List String → Prop
  | nil : TyNames X [] []
  | cons {n : Str} {p : Pos} {c : String} {es : List Expr} {cs : List String} (h : PE X (.Name n p) (tC (.ty c))) (hs : starEach (.Name n p :: es) X.env = (false, eval (.Name n p) X.env) :: starEach es X.env) (r : TyNames X es cs) : TyNames X (.Name n p :: es) (c :: cs)
def tTys (cs : List String) : TA := fun _ H Q => Q (cs.map V.ty) H
theorem TyNames.pa {es : List Expr} {cs : List String} (h : TyNames X es cs) : PA X es (tTys cs) := by
  induction h with
  | nil => exact imA pa_nil fun σ H Q q => q
  | @cons n p c es cs h hs r ih => exact imA (pa_cons h ih hs) fun σ H Q q => q
theorem clsv_all : ∀ cs : List String, Paired ClsV (cs.map V.ty) (cs.map Value.type)
  | [] => .nil
  | c :: cs => .cons (.ty c) (clsv_all cs)
theorem sIsiT {cs : List String} {x : Str} {p p2 : Pos} {k : Nat} (hK : X.K = Γ.K) (gl : Gl X x) (hm : X.mg x = none) (hv : bootBuiltins x = some (.builtin "isinstance")) (ha : SL X Γ W a f1) (hc : TyNames X es cs) (ok : cs.all okT = true) (hz : cs.length ≤ 100) (hn : x ≠ "__name__" := by decide) (hdb : (x == ("__debug__" : Str)) = false := by decide)
    (he : starEach [a, .Tuple es k p2] X.env = (false, eval a X.env) :: starEach [.Tuple es k p2] X.env := by rfl) : SV X Γ W (.Call (.Name x p) [a, .Tuple es k p2] [] pos) (dIsi cs f1) :=
  imE (pe_callB (call_isiT (X := X)) gl hm hv (pa_cons ha (pa_cons (pe_tup hc.pa) pa_nil) he) hn hdb he) fun σ H Q h => by
    refine (fun {α : Prop} {β : Prop} (f : α → β) (x : α) => f x) (fun k => ?_) (tIsi h)
    obtain ⟨env, B, s, p⟩ := k
    refine ⟨env, B, s, p.mono fun a e1 B1 H1 s1 x1 q1 v hv => ⟨LN_le (by rw [List.length_map]; omega), fun t ht => ?_⟩⟩
    obtain ⟨d, e2, B2, s2, r2, nd, q2⟩ := q1 v hv
    have s3 := s2.newM (o := .tup (cs.map V.ty)) ht
    refine ⟨v, t, cs.map V.ty, .type (tyN d), cs.map Value.type, isTs d cs, rfl, upd_same, clsv_all cs, ?_, kit_isTs (tyN_ne nd) ok, q2 B2 _ s3 (Ext.newM ht)⟩
    rw [hK]
    refine RepT.ty s3.same ?_ (tyN_ne nd)
    rcases r2 with r | ⟨xs, p, vs, e1, e2, e3, e4⟩
    · exact .inl r
    · exact .inr ⟨xs, p, vs, e1, e2, same_upd ht _ _ e3, e4⟩
end
end Ev

set_option Elab.async false
set_option linter.all false
set_option maxRecDepth 100000
set_option maxHeartbeats 4000000
namespace Ev
open PySem PySem.Spec PyProof.Rows L2

/-! ### statements -/
inductive Fl where
  | nx | bk | ct | rt (r : Ent)
abbrev DenS := Sto → Res Fl
section
variable {Γ : Wd} {W : WX} {env env1 env' : Sto} {σ σ1 σ' : L2.St} {B H B1 H1 B' H' : Hp}
def PostS (Γ : Wd) (W : WX) (env : Sto) (σ : L2.St) (B H : Hp) (Dn : Ends) : Res Fl → Prop
  | .ok .nx env' => ∀ σ' B' H', StOk Γ env' σ' B' H' → Ext Γ env σ B H env' σ' B' H' → Dn.nx σ' H'
  | .ok .bk env' => ∀ σ' B' H', StOk Γ env' σ' B' H' → Ext Γ env σ B H env' σ' B' H' → Dn.bk σ' H'
  | .ok .ct env' => ∀ σ' B' H', StOk Γ env' σ' B' H' → Ext Γ env σ B H env' σ' B' H' → Dn.ct σ' H'
  | .ok (.rt r) env' => ∀ v σ' B' H', StOk Γ env' σ' B' H' → Ext Γ env σ B H env' σ' B' H' → RetOk Γ (FreeR Γ env σ H) env' σ' B' H' r v → Dn.rt v H'
  | .err c ns xs env' => ∀ cls d σ' B' H', StOk Γ env' σ' B' H' → Ext Γ env σ B H env' σ' B' H' → XnOk Γ B' H' c ns xs cls d → W cls d σ' H'
  | .bad => False
theorem PostS.fwd {Dn : Ends} {r : Res Fl} (s1 : StOk Γ env1 σ1 B1 H1) (x : Ext Γ env σ B H env1 σ1 B1 H1) (h : PostS Γ W env σ B H Dn r) : PostS Γ W env1 σ1 B1 H1 Dn r := by
  cases r with
  | ok f e =>
    cases f with
    | nx => exact fun σ' B' H' s y => h σ' B' H' s (x.trans y)
    | bk => exact fun σ' B' H' s y => h σ' B' H' s (x.trans y)
    | ct => exact fun σ' B' H' s y => h σ' B' H' s (x.trans y)
    | rt r => exact fun v σ' B' H' s y q => h v σ' B' H' s (x.trans y) (q.imp fun p hp => hp.back s1 x)
  | err c ns xs e => exact fun cls d σ' B' H' s y q => h cls d σ' B' H' s (x.trans y) q
  | bad => exact h
/-- an expression, then a statement's end -/
theorem PostS.bind {α : Type} {Dn : Ends} {r : Res α} {k : α → Sto → Res Fl} (h : PostS Γ W env σ B H Dn (r.bind k)) :
    Post Γ W env σ B H (fun a e1 B1 H1 => Ext Γ env σ B H e1 σ B1 H1 ∧ PostS Γ W env σ B H Dn (k a e1)) r := by
  cases r with
  | ok a e => exact fun B' H' s x => ⟨x, h⟩
  | err c ns xs e => exact fun cls d B' H' s x q => h cls d σ B' H' s x q
  | bad => exact h
end
def tS (Γ : Wd) (W : WX) (f : DenS) : TS := fun Dn σ H => ∃ env B, StOk Γ env σ B H ∧ PostS Γ W env σ B H Dn (f env)
abbrev SS (X : Cx) (Γ : Wd) (W : WX) (st : Stmt) (f : DenS) : Prop := PS X st (tS Γ W f)
abbrev SSs (X : Cx) (Γ : Wd) (W : WX) (st : List Stmt) (f : DenS) : Prop := PSs X st (tS Γ W f)
def dSkip : DenS := fun env => .ok .nx env
def dSeq (f g : DenS) : DenS := fun env => match f env with
  | .ok .nx e => g e
  | r => r
def dIfS (t : DenT) (f g : DenS) : DenS := fun env => (t env).bind fun b e => if b = true then f e else g e
section
variable {X : Cx} {Γ : Wd} {W : WX} {e a b c : Expr} {es : List Expr} {pos : Pos} {st : Stmt} {rest body orelse : List Stmt} {f g : DenS}
theorem sNil : SSs X Γ W [] dSkip := imSs pss_nil fun Q σ H ⟨env, B, s, p⟩ => p σ B H s Ext.refl
theorem sPass : SS X Γ W (.Pass pos) dSkip := imS ps_pass fun Q σ H ⟨env, B, s, p⟩ => p σ B H s Ext.refl
theorem sCons (h : SS X Γ W st f) (k : SSs X Γ W rest g) : SSs X Γ W (st :: rest) (dSeq f g) := imSs (pss_cons h k) fun Q σ H ⟨env, B, s, p⟩ => by
  refine ⟨env, B, s, ?_⟩
  have p' : PostS Γ W env σ B H Q (match f env with | .ok .nx e => g e | r => r) := p
  cases hf : f env with
  | ok fl e1 =>
    rw [hf] at p'
    cases fl with
    | nx => exact fun σ' B' H' s' x => ⟨e1, B', s', PostS.fwd s' x p'⟩
    | bk => exact p'
    | ct => exact p'
    | rt r => exact p'
  | err c ns xs e1 =>
    rw [hf] at p'
    exact p'
  | bad =>
    rw [hf] at p'
    exact p'
theorem sOne (h : SS X Γ W st f) : SSs X Γ W [st] f := pss_one h
def dBreak : DenS := fun env => .ok .bk env
def dCont : DenS := fun env => .ok .ct env
theorem sBreak : SS X Γ W (.Break pos) dBreak := imS ps_break fun Q σ H ⟨env, B, s, p⟩ => p σ B H s Ext.refl
theorem sCont : SS X Γ W (.Continue pos) dCont := imS ps_continue fun Q σ H ⟨env, B, s, p⟩ => p σ B H s Ext.refl
theorem sDoc {x : Str} {j : Nat} {pos' : Pos} : SS X Γ W (.Expr (.Constant (.str x) j pos) pos') dSkip := imS ps_doc fun Q σ H ⟨env, B, s, p⟩ => p σ B H s Ext.refl
theorem sIfS {t : DenT} (h : ST X Γ W c t) (ha : SSs X Γ W body f) (hb : SSs X Γ W orelse g) : SS X Γ W (.If c body orelse pos) (dIfS t f g) := imS (ps_if h ha hb) fun Q σ H ⟨env, B, s, p⟩ => by
  refine ⟨env, B, s, p.bind.mono fun b e1 B1 H1 s1 x1 q1 => ?_⟩
  obtain ⟨x, q⟩ := q1
  cases b with
  | true =>
    rw [if_pos rfl] at q ⊢
    exact ⟨e1, B1, s1, PostS.fwd s1 x q⟩
  | false =>
    rw [if_neg Bool.false_ne_true] at q ⊢
    exact ⟨e1, B1, s1, PostS.fwd s1 x q⟩
/-! ### return -/
def dRet (f : DenF) : DenS := fun env => (f env).bind fun r e => .ok (.rt r) e
def dRetN : DenS := fun env => .ok (.rt (.val .non)) env
theorem sRet {f : DenF} (h : SF X Γ W e f) : SS X Γ W (.Return (some e) pos) (dRet f) := imS (ps_ret h) fun Q σ H ⟨env, B, s, p⟩ =>
  ⟨env, B, s, p.bind.mono fun r e1 B1 H1 s1 x1 q1 v hv => q1.2 v σ B1 H1 s1 q1.1 hv⟩
theorem sRetN : SS X Γ W (.Return none pos) dRetN := imS ps_retN fun Q σ H ⟨env, B, s, p⟩ => p .non σ B H s Ext.refl rfl
/-- a local list is handed over -/
def dGive (i : Nat) : DenS := fun env => match env[i]? with
  | some (.val d) => .ok (.rt (.val d)) env
  | some (.mu xs) => .ok (.rt (.mu xs)) (env.set i .un)
  | _ => .bad
/-! ### stores -/
theorem StOk.setV {env : Sto} {σ : L2.St} {B H : Hp} {i : Nat} {d : D} {v : V} (s : StOk Γ env σ B H) (r : Rep Γ B d v) : StOk Γ (env.set i (.val d)) (σ.set i (some v)) B H where
  same := s.same
  len := by rw [List.length_set, List.length_set]; exact s.len
  ent := fun j e o h1 h2 => by
    rcases Sto.set_get h1 with ⟨rfl, rfl⟩ | ⟨ne, q⟩
    · have hl : i < σ.length := by
        have z := (List.getElem?_eq_some_iff.mp h2).1
        rw [List.length_set] at z
        exact z
      rw [List.getElem?_set_self hl] at h2
      cases h2
      exact ⟨v, rfl, r⟩
    · rw [List.getElem?_set_ne ne] at h2
      exact s.ent j e o q h2
  dis := fun j k ys zs q h1 h2 h3 h4 => by
    rcases Sto.set_get h1 with ⟨_, z⟩ | ⟨n1, q1⟩
    · cases z
    · rcases Sto.set_get h2 with ⟨_, z⟩ | ⟨n2, q2⟩
      · cases z
      · rw [List.getElem?_set_ne n1] at h3
        rw [List.getElem?_set_ne n2] at h4
        exact s.dis j k ys zs q q1 q2 h3 h4
theorem Own.setV {env : Sto} {σ : L2.St} {i : Nat} {d : D} {o : Option V} {p : Addr} (h : Own (env.set i (.val d)) (σ.set i o) p) : Own env σ p := by
  obtain ⟨j, xs, e1, e2⟩ := h
  rcases Sto.set_get e1 with ⟨_, q⟩ | ⟨n, q⟩
  · cases q
  · rw [List.getElem?_set_ne n] at e2
    exact ⟨j, xs, q, e2⟩
theorem Ext.setV {env env1 : Sto} {σ σ1 : L2.St} {B H B1 H1 : Hp} {i : Nat} {d : D} {o : Option V} (x : Ext Γ env σ B H env1 σ1 B1 H1) (hi : i ∉ Γ.R) : Ext Γ env σ B H (env1.set i (.val d)) (σ1.set i o) B1 H1 where
  b := x.b
  t := x.t
  f := fun p o h n => by
    obtain ⟨k1, k2, k3⟩ := x.f p o h n
    exact ⟨k1, k2, fun z => k3 z.setV⟩
  r := fun j hj => by
    have ne : i ≠ j := fun z => hi (z ▸ hj)
    obtain ⟨k1, k2⟩ := x.r j hj
    refine ⟨by rw [List.getElem?_set_ne ne]; exact k1, fun xs p e1 e2 => ?_⟩
    rcases k2 xs p e1 e2 with ⟨ys, q⟩ | q
    · exact .inl ⟨ys, by rw [List.getElem?_set_ne ne]; exact q⟩
    · exact .inr q
theorem StOk.setM {env : Sto} {σ : L2.St} {B H : Hp} {i : Nat} {xs : List D} {p : Addr} {vs : List V} (s : StOk Γ env σ B H) (hb : B p = none) (hp : H p = some (.lst vs)) (r : Reps Γ B xs vs) (ho : ¬ Own env σ p) : StOk Γ (env.set i (.mu xs)) (σ.set i (some (.ref p))) B H where
  same := s.same
  len := by rw [List.length_set, List.length_set]; exact s.len
  ent := fun j e o h1 h2 => by
    rcases Sto.set_get h1 with ⟨rfl, rfl⟩ | ⟨ne, q⟩
    · have hl : i < σ.length := by
        have z := (List.getElem?_eq_some_iff.mp h2).1
        rw [List.length_set] at z
        exact z
      rw [List.getElem?_set_self hl] at h2
      cases h2
      exact ⟨p, vs, rfl, hb, hp, r⟩
    · rw [List.getElem?_set_ne ne] at h2
      exact s.ent j e o q h2
  dis := fun j k ys zs q h1 h2 h3 h4 => by
    rcases Sto.set_get h1 with ⟨z1, _⟩ | ⟨n1, q1⟩
    · rcases Sto.set_get h2 with ⟨z2, _⟩ | ⟨n2, q2⟩
      · exact z1.symm.trans z2
      · subst z1
        have hl : i < σ.length := by
          have z := (List.getElem?_eq_some_iff.mp h3).1
          rw [List.length_set] at z
          exact z
        rw [List.getElem?_set_self hl] at h3
        cases h3
        rw [List.getElem?_set_ne n2] at h4
        exact absurd ⟨k, zs, q2, h4⟩ ho
    · rw [List.getElem?_set_ne n1] at h3
      rcases Sto.set_get h2 with ⟨z2, _⟩ | ⟨n2, q2⟩
      · subst z2
        have hl : i < σ.length := by
          have z := (List.getElem?_eq_some_iff.mp h4).1
          rw [List.length_set] at z
          exact z
        rw [List.getElem?_set_self hl] at h4
        cases h4
        exact absurd ⟨j, ys, q1, h3⟩ ho
      · rw [List.getElem?_set_ne n2] at h4
        exact s.dis j k ys zs q q1 q2 h3 h4
theorem Own.setM {env : Sto} {σ : L2.St} {i : Nat} {ys : List D} {p q : Addr} (h : Own (env.set i (.mu ys)) (σ.set i (some (.ref p))) q) : q = p ∨ Own env σ q := by
  obtain ⟨j, xs, e1, e2⟩ := h
  rcases Sto.set_get e1 with ⟨z, _⟩ | ⟨n, k⟩
  · subst z
    have hl : i < σ.length := by
      have z := (List.getElem?_eq_some_iff.mp e2).1
      rw [List.length_set] at z
      exact z
    rw [List.getElem?_set_self hl] at e2
    cases e2
    exact .inl rfl
  · rw [List.getElem?_set_ne n] at e2
    exact .inr ⟨j, xs, k, e2⟩
theorem Ext.setM {env env1 : Sto} {σ σ1 : L2.St} {B H B1 H1 : Hp} {i : Nat} {xs : List D} {p : Addr} (x : Ext Γ env σ B H env1 σ1 B1 H1) (h0 : FreeR Γ env σ H p) (hi : i ∉ Γ.R) : Ext Γ env σ B H (env1.set i (.mu xs)) (σ1.set i (some (.ref p))) B1 H1 where
  b := x.b
  t := x.t
  f := fun q o h n => by
    obtain ⟨k1, k2, k3⟩ := x.f q o h n
    refine ⟨k1, k2, fun z => ?_⟩
    rcases z.setM with rfl | z
    · exact h0.ne h n rfl
    · exact k3 z
  r := fun j hj => by
    have ne : i ≠ j := fun z => hi (z ▸ hj)
    obtain ⟨k1, k2⟩ := x.r j hj
    refine ⟨by rw [List.getElem?_set_ne ne]; exact k1, fun xs p e1 e2 => ?_⟩
    rcases k2 xs p e1 e2 with ⟨ys, q⟩ | q
    · exact .inl ⟨ys, by rw [List.getElem?_set_ne ne]; exact q⟩
    · exact .inr q
/-- x = e -/
def dSet (i : Nat) (f : DenF) : DenS := fun env => (f env).bind fun r e => match r with
  | .val d => .ok .nx (e.set i (.val d))
  | .mu xs => .ok .nx (e.set i (.mu xs))
  | _ => .bad
theorem tSet_of {i : Nat} {f : DenF} (hi : i ∉ Γ.R) {σ : L2.St} {H : Hp} {Q : Ends} (h : tS Γ W (dSet i f) Q σ H) : tAsg (tF Γ W f) (gName i) Q σ H := by
  obtain ⟨env, B, s, p⟩ := h
  refine ⟨env, B, s, p.bind.mono fun r e1 B1 H1 s1 x1 q1 v hv => ?_⟩
  obtain ⟨x, q⟩ := q1
  cases r with
  | val d => exact q _ _ _ (s1.setV hv) (x.setV hi)
  | mu xs =>
    obtain ⟨a, vs, rfl, h0, h1, h2, h3, h4⟩ := hv
    exact q _ _ _ (s1.setM h1 h2 h3 h4) (x.setM h0 hi)
  | un => exact q.elim
  | exn _ _ _ => exact q.elim
theorem sSet {i : Nat} {x : Str} {f : DenF} {pos' : Pos} (hi : i ∉ Γ.R) (h : SF X Γ W e f) (hN : X.N.Nodup) (hx : X.N[i]? = some x) (hl : Loc X.env.scope x) (hs : swapsWith e (some (.Name x pos')) pos.line X.env = pure false := by rfl) (hf : X.fn x = true ∨ X.env.scope.names.lookup x = some .local := by first | exact .inl rfl | exact .inr rfl | assumption) :
    SS X Γ W (.Assign [.Name x pos'] e pos) (dSet i f) := imS (ps_set hN hx hl h hs hf) fun Q σ H k => tSet_of hi k
/-! ### targets -/
abbrev Asg := D → Sto → Option Sto
def tG (Γ : Wd) (f : Asg) : TG := fun v σ H Q => ∃ env B d env', StOk Γ env σ B H ∧ Rep Γ B d v ∧ f d env = some env' ∧ ∀ σ', StOk Γ env' σ' B H → Ext Γ env σ B H env' σ' B H → Q σ' H
theorem imG {X : Cx} {e : Expr} {t t' : TG} (h : PG X e t) (i : ∀ v σ H Q, t' v σ H Q → t v σ H Q) : PG X e t' := ⟨fun pins s σ H v u Q I r q => h.run pins s σ H v u Q I r (i v σ H Q q)⟩
end
end Ev

set_option Elab.async false
set_option linter.all false
set_option maxRecDepth 100000
set_option maxHeartbeats 4000000
namespace Ev
open PySem PySem.Spec PyProof.Rows L2

section
variable {X : Cx} {Γ : Wd} {W : WX} {e a b c tg : Expr} {es : List Expr} {pos : Pos} {st : Stmt} {rest body orelse : List Stmt} {f g : DenS}
/-! ### a local list is handed over -/
def dMove (i : Nat) : DenF := fun env => match env[i]? with
  | some (.val d) => .ok (.val d) env
  | some (.mu xs) => .ok (.mu xs) (env.set i .un)
  | _ => .bad
theorem StOk.forget {env : Sto} {σ : L2.St} {B H : Hp} {i : Nat} (s : StOk Γ env σ B H) : StOk Γ (env.set i .un) σ B H where
  same := s.same
  len := by rw [List.length_set]; exact s.len
  ent := fun j e o h1 h2 => by
    rcases Sto.set_get h1 with ⟨_, rfl⟩ | ⟨ne, q⟩
    · trivial
    · exact s.ent j e o q h2
  dis := fun j k ys zs q h1 h2 h3 h4 => by
    rcases Sto.set_get h1 with ⟨_, z⟩ | ⟨n1, q1⟩
    · cases z
    · rcases Sto.set_get h2 with ⟨_, z⟩ | ⟨n2, q2⟩
      · cases z
      · exact s.dis j k ys zs q q1 q2 h3 h4
theorem Own.forget {env : Sto} {σ : L2.St} {i : Nat} {p : Addr} (h : Own (env.set i .un) σ p) : Own env σ p := by
  obtain ⟨j, xs, e1, e2⟩ := h
  rcases Sto.set_get e1 with ⟨_, q⟩ | ⟨n, q⟩
  · cases q
  · exact ⟨j, xs, q, e2⟩
theorem Ext.forget {env : Sto} {σ : L2.St} {B H : Hp} {i : Nat} (hi : i ∉ Γ.R) : Ext Γ env σ B H (env.set i .un) σ B H where
  b := Same.refl _
  t := fun _ h => h
  f := fun p o h n => ⟨h, fun z => z, fun z => n z.forget⟩
  r := fun j hj => ⟨rfl, fun xs p e1 e2 => .inl ⟨xs, by rw [List.getElem?_set_ne (show i ≠ j from fun z => hi (by rw [z]; exact hj))]; exact e1⟩⟩
theorem sMove {i : Nat} (hi : i ∉ Γ.R) (h : PE X e (tVar i)) : SF X Γ W e (dMove i) := imE h fun σ H Q ⟨env, B, s, p⟩ => by
  have p' : Post Γ W env σ B H (fun r env' B' H' => ∀ v, RetOk Γ (FreeR Γ env σ H) env' σ B' H' r v → Q v H') (match env[i]? with
    | some (.val d) => .ok (.val d) env
    | some (.mu xs) => .ok (.mu xs) (env.set i .un)
    | _ => .bad) := p
  cases hh : env[i]? with
  | none => rw [hh] at p'; exact p'.elim
  | some en =>
    rw [hh] at p'
    obtain ⟨o, ho, k⟩ := s.slot hh
    cases en with
    | val d =>
      obtain ⟨v, rfl, r⟩ := k
      exact ⟨v, ho, Post.here s p' v r⟩
    | mu xs =>
      obtain ⟨q, vs, rfl, hb, hq, r⟩ := k
      refine ⟨_, ho, p' B H s.forget (Ext.forget hi) _ ⟨q, vs, rfl, .inr ⟨i, xs, hi, hh, ho⟩, hb, hq, r, ?_⟩⟩
      rintro ⟨j, ys, e1, e2⟩
      rcases Sto.set_get e1 with ⟨_, z⟩ | ⟨n, z⟩
      · cases z
      · exact n (s.dis i j xs ys q hh z ho e2)
    | un => exact p'.elim
    | exn c ns xs => exact p'.elim
/-! ### targets -/
/-- only these slots differ -/
def Touch (own : List Nat) (σ σ' : L2.St) : Prop := σ'.length = σ.length ∧ ∀ j, j ∉ own → σ'[j]? = σ[j]?
theorem Touch.refl {own : List Nat} {σ : L2.St} : Touch own σ σ := ⟨rfl, fun _ _ => rfl⟩
theorem Touch.trans {own : List Nat} {σ σ1 σ2 : L2.St} (a : Touch own σ σ1) (c : Touch own σ1 σ2) : Touch own σ σ2 := ⟨c.1.trans a.1, fun j h => (c.2 j h).trans (a.2 j h)⟩
theorem Touch.set {own : List Nat} {σ : L2.St} {i : Nat} {o : Option V} (h : i ∈ own) : Touch own σ (σ.set i o) := ⟨List.length_set, fun j hj => List.getElem?_set_ne (show i ≠ j from fun z => hj (by rw [← z]; exact h))⟩
def tGo (Γ : Wd) (own : List Nat) (f : Asg) : TG := fun v σ H Q => ∃ env B d env', StOk Γ env σ B H ∧ Rep Γ B d v ∧ f d env = some env' ∧ ∀ σ', StOk Γ env' σ' B H → Ext Γ env σ B H env' σ' B H → Touch own σ σ' → Q σ' H
def asN (i : Nat) : Asg := fun d env => some (env.set i (.val d))
theorem gN {i : Nat} {x : Str} {own : List Nat} (ho : i ∈ own) (hi : i ∉ Γ.R) (hN : X.N.Nodup) (hx : X.N[i]? = some x) (hl : Loc X.env.scope x) (hf : X.fn x = true ∨ X.env.scope.names.lookup x = some .local := by first | exact .inl rfl | exact .inr rfl | assumption) : PG X (.Name x pos) (tGo Γ own (asN i)) :=
  imG (pg_name hN hx hl hf) fun v σ H Q ⟨env, B, d, env', s, r, e, q⟩ => by
    cases e
    exact q _ (s.setV r) (Ext.setV Ext.refl hi) (Touch.set ho)
abbrev Asgs := List D → Sto → Option Sto
def tGs (Γ : Wd) (own : List Nat) (f : Asgs) : TGs := fun vs σ H Q => ∃ env B ds env', StOk Γ env σ B H ∧ Reps Γ B ds vs ∧ f ds env = some env' ∧ ∀ σ', StOk Γ env' σ' B H → Ext Γ env σ B H env' σ' B H → Touch own σ σ' → Q σ' H
theorem imGs {X : Cx} {es : List Expr} {t t' : TGs} (h : PGs X es t) (i : ∀ v σ H Q, t' v σ H Q → t v σ H Q) : PGs X es t' := ⟨fun pins s σ H v u Q I r q => h.run pins s σ H v u Q I r (i v σ H Q q)⟩
def asNil : Asgs := fun ds env => match ds with
  | [] => some env
  | _ => none
def asCons (f : Asg) (g : Asgs) : Asgs := fun ds env => match ds with
  | [] => none
  | d :: ds => (f d env).bind (g ds)
theorem gsNil {own : List Nat} : PGs X [] (tGs Γ own asNil) := imGs pgs_nil fun v σ H Q ⟨env, B, ds, env', s, r, e, q⟩ => by
  cases ds with
  | nil => cases e; exact ⟨r, q σ s Ext.refl Touch.refl⟩
  | cons _ _ => cases e
theorem gsCons {f : Asg} {g : Asgs} {own : List Nat} (h : PG X e (tGo Γ own f)) (k : PGs X es (tGs Γ own g)) (hs : (assignEach (e :: es) X.env).map (·.2) = assign e X.env :: (assignEach es X.env).map (·.2) := by rfl) : PGs X (e :: es) (tGs Γ own (asCons f g)) := imGs (pgs_cons h k hs) fun vs σ H Q ⟨env, B, ds, env', s, r, e, q⟩ => by
  cases ds with
  | nil => cases e
  | cons d ds =>
    obtain ⟨v, r', e1, e2, e3⟩ := r
    cases hf : f d env with
    | none =>
      have e' : (f d env).bind (g ds) = some env' := e
      rw [hf] at e'; cases e'
    | some env1 =>
      have e' : (f d env).bind (g ds) = some env' := e
      rw [hf] at e'
      exact ⟨v, r', e1, env, B, d, env1, s, e2, hf, fun σ1 s1 x1 t1 => ⟨env1, B, ds, env', s1, e3, e', fun σ2 s2 x2 t2 => q σ2 s2 (x1.trans x2) (t1.trans t2)⟩⟩
def asT (n : Nat) (g : Asgs) : Asg := fun d env => match d with
  | .tup ds => if ds.length = n then g ds env else none
  | .lst ds => if ds.length = n then g ds env else none
  | _ => none
theorem PG.or {t t' : TG} (h : PG X tg t) (k : PG X tg t') : PG X tg (fun v σ H Q => t v σ H Q ∨ t' v σ H Q) := ⟨fun pins s σ H v u Q I r q => q.elim (h.run pins s σ H v u Q I r) (k.run pins s σ H v u Q I r)⟩
theorem gT {k n : Nat} {g : Asgs} {own : List Nat} (hK : X.K = Γ.K) (hc : X.calm = true) (h : PGs X es (tGs Γ own g)) (hn : (assignEach es X.env).length = n := by rfl) (hst : (assignEach es X.env).findIdx? (·.1) = none := by rfl) : PG X (.Tuple es k pos) (tGo Γ own (asT n g)) :=
  imG (PG.or (pg_tup hc h hn hst) (pg_unl hc h hn hst)) fun v σ H Q ⟨env, B, d, env', s, r, e, q⟩ => by
    cases d with
    | tup ds =>
      have e' : (if ds.length = n then g ds env else none) = some env' := e
      split at e'
      · rename_i hl
        obtain ⟨a, vs, rfl, k1, k2⟩ := r
        exact .inl ⟨a, vs, rfl, by rw [hK]; exact sqT_mono s.same k1, k2.length.symm.trans hl, env, B, ds, env', s, k2, e', q⟩
      · cases e'
    | lst ds =>
      have e' : (if ds.length = n then g ds env else none) = some env' := e
      split at e'
      · rename_i hl
        obtain ⟨a, vs, rfl, k1, k2⟩ := r
        exact .inr ⟨a, vs, rfl, .inl (.inl (s.same _ _ k1)), k2.length.symm.trans hl, env, B, ds, env', s, k2, e', q⟩
      · cases e'
    | _ => cases e
/-- a target, from a value -/
def dAsg (t : Asg) (f : DenV) : DenS := fun env => (f env).bind fun d e => match t d e with
  | some e' => .ok .nx e'
  | none => .bad
theorem sAsg {t : Asg} {f : DenV} {own : List Nat} (h : SV X Γ W e f) (hg : PG X tg (tGo Γ own t)) (hs : swapsWithSole [tg] e pos.line X.env = pure false := by rfl) (hw : swappedStores [tg] e X.env = pure none := by rfl) (h1 : (assignEach [tg] X.env).map (·.2) = [assign tg X.env] := by rfl) : SS X Γ W (.Assign [tg] e pos) (dAsg t f) :=
  imS (ps_asg h hg hs hw h1) fun Q σ H ⟨env, B, s, p⟩ => by
    refine ⟨env, B, s, p.bind.mono fun d e1 B1 H1 s1 x1 q1 v hv => ?_⟩
    obtain ⟨x, q⟩ := q1
    cases ht : t d e1 with
    | none => rw [ht] at q; exact q.elim
    | some e2 =>
      rw [ht] at q
      exact ⟨e1, B1, d, e2, s1, hv, ht, fun σ2 s2 x2 _ => q σ2 B1 H1 s2 (x.trans x2)⟩
/-- x, y = e1, e2 -/
def dPar (i j : Nat) (fs : DenVs) : DenS := fun env => (fs env).bind fun ds e => match ds with
  | [a, b] => .ok .nx ((e.set i (.val a)).set j (.val b))
  | _ => .bad
theorem sPar {i j : Nat} {x y : Str} {fs : DenVs} {px py pt : Pos} {kt k2 : Nat} {pt2 : Pos} (hi0 : i ∉ Γ.R) (hj0 : j ∉ Γ.R) (hc : X.calm = true) (hN : X.N.Nodup) (hi : X.N[i]? = some x) (hj : X.N[j]? = some y) (hij : i ≠ j)
    (hx : X.env.scope.names.lookup x = some .local) (hy : X.env.scope.names.lookup y = some .local) (ha : SVs X Γ W [a, b] fs)
    (hw : swappedStores [.Tuple [.Name x px, .Name y py] kt pt] (.Tuple [a, b] k2 pt2) X.env = pure (some [x, y]) := by rfl)
    (hs : swapsWithSole [.Tuple [.Name x px, .Name y py] kt pt] (.Tuple [a, b] k2 pt2) pos.line X.env = pure false := by rfl) :
    SS X Γ W (.Assign [.Tuple [.Name x px, .Name y py] kt pt] (.Tuple [a, b] k2 pt2) pos) (dPar i j fs) :=
  imS (ps_par hc hN hi hj hij hx hy ha hw hs) fun Q σ H ⟨env, B, s, p⟩ => by
    refine ⟨env, B, s, p.bind.mono fun ds e1 B1 H1 s1 x1 q1 vs hv => ?_⟩
    obtain ⟨x, q⟩ := q1
    match ds, q, hv with
    | [d1, d2], q, hv =>
      obtain ⟨v, r, e1', k1, w, r2, e2', k2, k3⟩ := hv
      have k3' : r2 = [] := k3
      exact ⟨v, w, by rw [e1', e2', k3'], q _ _ _ ((s1.setV k1).setV k2) ((x.setV hi0).setV hj0)⟩
/-- x op= e -/
def dAug (i : Nat) (g : D → D → Option Ent) (f : DenV) : DenS := fun env => match env[i]? with
  | some (.val d) => (f env).bind fun y e => (match g d y with
    | some (.val z) => .ok .nx (e.set i (.val z))
    | _ => .bad)
  | _ => .bad
theorem sAug {i : Nat} {x : Str} {op : Operator} {ti : TIp} {g : D → D → Option Ent} {f : DenV} {pos' : Pos} (hi : i ∉ Γ.R) (h : SV X Γ W e f) (ho : PIp X op ti) (hg : ∀ {d y z : D} {B H : Hp} {v w : V} {Q : VK}, g d y = some (.val z) → Rep Γ B d v → Rep Γ B y w → (∀ u, Rep Γ B z u → Q u H) → ti v w H Q)
    (hN : X.N.Nodup) (hx : X.N[i]? = some x) (hl : Loc X.env.scope x) (hf : X.fn x = true ∨ X.env.scope.names.lookup x = some .local := by first | exact .inl rfl | exact .inr rfl | assumption) :
    SS X Γ W (.AugAssign (.Name x pos') op e pos) (dAug i g f) := imS (ps_aug hN hx hl h ho hf) fun Q σ H ⟨env, B, s, p⟩ => by
  have p' : PostS Γ W env σ B H Q (match env[i]? with
    | some (.val d) => (f env).bind fun y e => (match g d y with
      | some (.val z) => .ok .nx (e.set i (.val z))
      | _ => .bad)
    | _ => .bad) := p
  cases hh : env[i]? with
  | none => rw [hh] at p'; exact p'.elim
  | some en =>
    rw [hh] at p'
    obtain ⟨o, ho', k⟩ := s.slot hh
    cases en with
    | val d =>
      obtain ⟨v, rfl, r⟩ := k
      refine ⟨v, ho', env, B, s, p'.bind.mono fun y e1 B1 H1 s1 x1 q1 w hw => ?_⟩
      obtain ⟨x, q⟩ := q1
      cases hgd : g d y with
      | none => rw [hgd] at q; exact q.elim
      | some en =>
        rw [hgd] at q
        cases en with
        | val z => exact hg hgd (Rep.mono x1.b d v r) hw fun u hu => q _ _ _ (s1.setV hu) (x.setV hi)
        | _ => exact q.elim
    | _ => exact p'.elim
theorem aug_add {d y z : D} {B H : Hp} {v w : V} {Q : VK} (h : gAdd d y = some (.val z)) (r : Rep Γ B d v) (k : Rep Γ B y w) (hd : ∃ i, d = .int i) (q : ∀ u, Rep Γ B z u → Q u H) : (ipI fun i j => i + j) v w H Q := by
  obtain ⟨i, rfl⟩ := hd
  cases y with
  | int j => cases h; exact ⟨i, j, r, k, q _ rfl⟩
  | _ => cases h
def gAddI : D → D → Option Ent
  | .int i, .int j => some (.val (.int (i + j)))
  | _, _ => none
theorem augI_add {d y z : D} {B H : Hp} {v w : V} {Q : VK} (h : gAddI d y = some (.val z)) (r : Rep Γ B d v) (k : Rep Γ B y w) (q : ∀ u, Rep Γ B z u → Q u H) : (ipI fun i j => i + j) v w H Q := by
  cases d with
  | int i => cases y with
    | int j => cases h; exact ⟨i, j, r, k, q _ rfl⟩
    | _ => cases h
  | _ => cases h
theorem augI_sub {d y z : D} {B H : Hp} {v w : V} {Q : VK} (h : gSub d y = some (.val z)) (r : Rep Γ B d v) (k : Rep Γ B y w) (q : ∀ u, Rep Γ B z u → Q u H) : (ipI fun i j => i - j) v w H Q := by
  cases d with
  | int i => cases y with
    | int j => cases h; exact ⟨i, j, r, k, q _ rfl⟩
    | _ => cases h
  | _ => cases h
/-! ### lists that change -/
theorem StOk.write {env : Sto} {σ : L2.St} {B H : Hp} {i : Nat} {xs ys : List D} {p : Addr} {ws : List V} (s : StOk Γ env σ B H) (hi : env[i]? = some (.mu xs)) (hs : σ[i]? = some (some (.ref p))) (r : Reps Γ B ys ws) :
    StOk Γ (env.set i (.mu ys)) σ B (upd H p (.lst ws)) where
  same := fun q o hq => by
    have hb := (s.own_none ⟨i, xs, hi, hs⟩).1
    rw [upd_ne (ne_of_none hq hb)]
    exact s.same q o hq
  len := by rw [List.length_set]; exact s.len
  ent := fun j e o h1 h2 => by
    have hb := (s.own_none ⟨i, xs, hi, hs⟩).1
    rcases Sto.set_get h1 with ⟨rfl, rfl⟩ | ⟨ne, q⟩
    · rw [hs] at h2
      cases h2
      exact ⟨p, ws, rfl, hb, upd_same, r⟩
    · have k := s.ent j e o q h2
      cases e with
      | un => trivial
      | val d => exact k
      | mu zs =>
        obtain ⟨q', vs, e1, e2, e3, e4⟩ := k
        subst e1
        refine ⟨q', vs, rfl, e2, ?_, e4⟩
        rw [upd_ne]
        · exact e3
        · rintro rfl
          exact ne (s.dis i j xs zs q' hi q hs h2)
      | exn c ns zs =>
        obtain ⟨dd, vs, e1, e2, e3, e4, e5⟩ := k
        refine ⟨dd, vs, e1, e2, ?_, e4, e5⟩
        rw [upd_ne]
        · exact e3
        · rintro rfl
          obtain ⟨_, us, z⟩ := s.own_none ⟨i, xs, hi, hs⟩
          rw [z] at e3
          cases e3
  dis := fun j k ys' zs q h1 h2 h3 h4 => by
    have m : ∀ {j : Nat} {zs : List D}, (env.set i (.mu ys))[j]? = some (.mu zs) → ∃ us, env[j]? = some (.mu us) := fun {j zs} h => by
      rcases Sto.set_get h with ⟨rfl, _⟩ | ⟨_, q⟩
      · exact ⟨_, hi⟩
      · exact ⟨_, q⟩
    obtain ⟨u1, k1⟩ := m h1
    obtain ⟨u2, k2⟩ := m h2
    exact s.dis j k u1 u2 q k1 k2 h3 h4
theorem Own.write {env : Sto} {σ : L2.St} {i : Nat} {xs ys : List D} {q : Addr} (hi : env[i]? = some (.mu xs)) (h : Own (env.set i (.mu ys)) σ q) : Own env σ q := by
  obtain ⟨j, zs, e1, e2⟩ := h
  rcases Sto.set_get e1 with ⟨rfl, _⟩ | ⟨n, k⟩
  · exact ⟨i, xs, hi, e2⟩
  · exact ⟨j, zs, k, e2⟩
theorem Ext.write {env : Sto} {σ : L2.St} {B H : Hp} {i : Nat} {xs ys : List D} {p : Addr} {ws : List V} (s : StOk Γ env σ B H) (hi : env[i]? = some (.mu xs)) (hs : σ[i]? = some (some (.ref p))) :
    Ext Γ env σ B H (env.set i (.mu ys)) σ B (upd H p (.lst ws)) where
  b := Same.refl _
  t := fun q h => by
    by_cases z : q = p
    · subst z; rw [upd_same]; exact fun z => nomatch z
    · rw [upd_ne z]; exact h
  f := fun q o h n => ⟨by
    rw [upd_ne]
    · exact h
    · rintro rfl
      exact n ⟨i, xs, hi, hs⟩, fun z => z, fun z => n (z.write hi)⟩
  r := fun j hj => ⟨rfl, fun zs q e1 e2 => by
    by_cases z : i = j
    · subst z
      exact .inl ⟨ys, List.getElem?_set_self (List.getElem?_eq_some_iff.mp e1).1⟩
    · exact .inl ⟨zs, by rw [List.getElem?_set_ne z]; exact e1⟩⟩
/-- xs[k] = e, xs in slot i -/
def dPut (i : Nat) (fk fe : DenV) : DenS := fun env => (fe env).bind fun d e1 => match e1[i]? with
  | some (.mu _) => (fk e1).bind fun k e2 => (match k, e2[i]? with
    | .int k, some (.mu xs) => (match ixN xs.length k with
      | some j => .ok .nx (e2.set i (.mu (xs.set j d)))
      | none => .bad)
    | _, _ => .bad)
  | _ => .bad
theorem sPut {i : Nat} {fk fe : DenV} {k : Expr} {tpos : Pos} (ho : PE X a (tVar i)) (hk : SV X Γ W k fk) (he : SV X Γ W e fe) (hs : swapsWithSole [.Subscript a k tpos] e pos.line X.env = pure false := by rfl) (hw : swappedStores [.Subscript a k tpos] e X.env = pure none := by rfl)
    (h1 : (assignEach [.Subscript a k tpos] X.env).map (·.2) = [assign (.Subscript a k tpos) X.env] := by rfl)
    (h2 : ∀ v, assign (.Subscript a k tpos) X.env v = (do
      let ov ← holding [v] (eval a X.env)
      let iv ← holding [v, ov] (eval k X.env)
      standAt tpos
      holding [v, ov, iv] (setItem ov iv v)
      release [v, ov, iv] []) := by intro _; rfl) :
    SS X Γ W (.Assign [.Subscript a k tpos] e pos) (dPut i fk fe) := imS (ps_asg he (pg_sub ho hk set_list h2) hs hw h1) fun Q σ H ⟨env, B, s, p⟩ => by
  refine ⟨env, B, s, p.bind.mono fun d e1 B1 H1 s1 x1 q1 v hv => ?_⟩
  obtain ⟨x, q⟩ := q1
  have q' : PostS Γ W e1 σ B1 H1 Q (match e1[i]? with
    | some (.mu _) => (fk e1).bind fun k e2 => (match k, e2[i]? with
      | .int k, some (.mu xs) => (match ixN xs.length k with
        | some j => .ok .nx (e2.set i (.mu (xs.set j d)))
        | none => .bad)
      | _, _ => .bad)
    | _ => .bad) := PostS.fwd s1 x q
  cases hh : e1[i]? with
  | none => rw [hh] at q'; exact q'.elim
  | some en =>
    rw [hh] at q'
    obtain ⟨o, ho', k0⟩ := s1.slot hh
    cases en with
    | mu xs0 =>
      obtain ⟨p0, vs0, rfl, hb, hp, r0⟩ := k0
      refine ⟨_, ho', e1, B1, s1, q'.bind.mono fun kk e2 B2 H2 s2 x2 q2 w hw => ?_⟩
      obtain ⟨x', q3⟩ := q2
      cases kk with
      | int kk =>
        cases h2 : e2[i]? with
        | none => rw [h2] at q3; exact q3.elim
        | some en2 =>
          rw [h2] at q3
          cases en2 with
          | mu xs =>
            obtain ⟨o2, ho2, k2⟩ := s2.slot h2
            obtain ⟨p2, vs, e2', hb2, hp2, r2⟩ := k2
            rw [ho'] at ho2
            cases ho2
            cases e2'
            have q4 : PostS Γ W e1 σ B1 H1 Q (match ixN xs.length kk with
              | some j => .ok .nx (e2.set i (.mu (xs.set j d)))
              | none => .bad) := q3
            cases hj : ixN xs.length kk with
            | none => rw [hj] at q4; exact q4.elim
            | some j =>
              rw [hj] at q4
              exact ⟨p0, vs, kk, j, rfl, hw, hp2, by rw [← r2.length]; exact hj, q4 _ _ _ (s2.write h2 ho' (r2.set (Rep.mono x2.b d v hv) j)) (x'.trans (Ext.write s2 h2 ho'))⟩
          | _ => exact q3.elim
      | _ => exact q3.elim
    | _ => exact q'.elim
/-! ### expressions as statements -/
def dExp (f : DenV) : DenS := fun env => (f env).bind fun _ e => .ok .nx e
theorem sExp {f : DenV} (h : SV X Γ W e f) (hs : swapsWith e none pos.line X.env = pure false := by rfl) : SS X Γ W (.Expr e pos) (dExp f) := imS (ps_expr h hs) fun Q σ H ⟨env, B, s, p⟩ =>
  ⟨env, B, s, p.bind.mono fun d e1 B1 H1 s1 x1 q1 v hv => q1.2 σ B1 H1 s1 q1.1⟩
/-- xs.append(e) -/
def dApp (i : Nat) (f : DenV) : DenV := fun env => match env[i]? with
  | some (.mu _) => (f env).bind fun d e => (match e[i]? with
    | some (.mu xs) => if xs.length < 1000000 then .ok .non (e.set i (.mu (xs ++ [d]))) else .bad
    | _ => .bad)
  | _ => .bad
theorem sApp {i : Nat} {f : DenV} {p1 cpos : Pos} (hK : X.K = Γ.K) (ho : PE X a (tVar i)) (h : SV X Γ W e f) (hbase : attributeBase a "append" X.env (eval a X.env) = eval a X.env := by rfl)
    (hfew : ((backTo cpos (starEach [e] X.env)).all (fun x => !x.1) && (backToKw cpos (keywordEach [] X.env)).all (fun x => x.1.isSome)
      && decide (([e] : List Expr).length + ([] : List Keyword).length + (if ([] : List Keyword).isEmpty then 0 else 1) < 30)) = true := by rfl)
    (hline : (p1.endLine == cpos.line) = true := by rfl) (hs : starEach [e] X.env = (false, eval e X.env) :: starEach [] X.env := by rfl) (hplain : (backTo cpos (starEach [] X.env)).any (·.1) = false := by rfl) :
    SV X Γ W (.Call (.Attribute a "append" p1) [e] [] cpos) (dApp i f) :=
  imE (pe_bm PySem.F.plainAttrs_list PySem.F.slot_list_append PySem.F.type_list_append mt_append ho (pa_cons h pa_nil hs) hbase hfew hline hs hplain) fun σ H Q ⟨env, B, s, p⟩ => by
    have p' : Post Γ W env σ B H (fun d _ B' H' => ∀ v, Rep Γ B' d v → Q v H') (match env[i]? with
      | some (.mu _) => (f env).bind fun d e => (match e[i]? with
        | some (.mu xs) => if xs.length < 1000000 then .ok .non (e.set i (.mu (xs ++ [d]))) else .bad
        | _ => .bad)
      | _ => .bad) := p
    cases hh : env[i]? with
    | none => rw [hh] at p'; exact p'.elim
    | some en =>
      rw [hh] at p'
      obtain ⟨o, ho', k0⟩ := s.slot hh
      cases en with
      | mu xs0 =>
        obtain ⟨p0, vs0, rfl, hb, hp, r0⟩ := k0
        refine ⟨.ref p0, ho', .inl ⟨rfl, vs0, .inl (.inl hp)⟩, env, B, s, p'.bind.mono fun d e1 B1 H1 s1 x1 q1 v hv => ?_⟩
        cases h2 : e1[i]? with
        | none => rw [h2] at q1; exact q1.elim
        | some en2 =>
          rw [h2] at q1
          cases en2 with
          | mu xs =>
            obtain ⟨o2, ho2, k2⟩ := s1.slot h2
            obtain ⟨p2, vs, e2', hb2, hp2, r2⟩ := k2
            rw [ho'] at ho2
            cases ho2
            cases e2'
            have q4 : Post Γ W e1 σ B1 H1 (fun d _ B' H' => ∀ v, Rep Γ B' d v → Q v H') (if xs.length < 1000000 then .ok .non (e1.set i (.mu (xs ++ [d]))) else .bad) := q1
            split at q4
            · rename_i hl
              exact ⟨p0, vs, v, rfl, rfl, hp2, LN_lt (by rw [← r2.length]; omega), q4 _ _ (s1.write h2 ho' (r2.append (Reps.one hv))) (Ext.write s1 h2 ho') _ rfl⟩
            · exact q4.elim
          | _ => exact q1.elim
      | _ => exact p'.elim
/-! ### what is walked -/
structure Grow (B H B' H' : Hp) : Prop where
  b : Same B B'
  h : Same H H'
  s : Same B' H'
  n : ∀ p o, H p = some o → B p = none → B' p = none
theorem Grow.refl {B H : Hp} (s : Same B H) : Grow B H B H := ⟨Same.refl _, Same.refl _, s, fun _ _ _ h => h⟩
theorem StOk.growG {env : Sto} {σ : L2.St} {B H B' H' : Hp} (s : StOk Γ env σ B H) (g : Grow B H B' H') : StOk Γ env σ B' H' :=
  s.grow g.b g.h g.s fun p hp => by
    obtain ⟨h1, vs, h2⟩ := s.own_none hp
    exact g.n p _ h2 h1
theorem Ext.growG {env : Sto} {σ : L2.St} {B H B' H' : Hp} (g : Grow B H B' H') : Ext Γ env σ B H env σ B' H' := Ext.grow g.b g.h g.n
def Walks (Γ : Wd) (J : It) (items : List D) (B : Hp) : Prop := ∀ (i : Nat) (B2 H2 : Hp), Same B B2 → Same B2 H2 →
  (∀ d, items[i]? = some d → J.go i H2 ∧ ∀ x H3, J.yld i H2 x H3 → ∃ B3, Grow B2 H2 B3 H3 ∧ Rep Γ B3 d x) ∧ (items.length ≤ i → J.stop i H2)
theorem Walks.mono {J : It} {items : List D} {B B' : Hp} (h : Walks Γ J items B) (s : Same B B') : Walks Γ J items B' := fun i B2 H2 k1 k2 => h i B2 H2 (s.trans k1) k2
abbrev DenI := Sto → Res (List D)
def tI (Γ : Wd) (W : WX) (f : DenI) : TI := fun σ H R => ∃ env B, StOk Γ env σ B H ∧ Post Γ W env σ B H (fun items _ B' H' => ∀ J, Walks Γ J items B' → R J H') (f env)
abbrev SI (X : Cx) (Γ : Wd) (W : WX) (tg iter : Expr) (f : DenI) : Prop := PI X tg iter (tI Γ W f)
theorem imI {X : Cx} {tg e : Expr} {t t' : TI} (h : PI X tg e t) (i : ∀ σ H Q, t' σ H Q → t σ H Q) : PI X tg e t' := ⟨fun pins s σ H Q I q => h.run pins s σ H Q I (i σ H Q q)⟩
/-- a list or a tuple -/
def iSeq (K : PySem.W.Frag) (tl : TE) : TI := fun σ H R => tl σ H fun x H1 => ∃ a, x = .ref a ∧ (((∃ xs, SqL K H1 a xs) ∧ R (Itl K a) H1) ∨ ((∃ xs, SqT K H1 a xs) ∧ R (Itt K a) H1))
/-- one object, just made -/
theorem one_own {X : Cx} {pins : List (Addr × Obj)} {σ : L2.St} {H : Hp} {s : Shared} (I : Inv X pins σ H s) : ∀ b ∈ [s.heap.objs.size], FpOk X pins H b :=
  List.forall_mem_cons.mpr ⟨I.fpOk (Nat.le_refl _) (I.hok.fresh (Nat.le_refl _)), nofun⟩
theorem starts_list {X : Cx} {pins : List (Addr × Obj)} {σ : L2.St} {H : Hp} {s : Shared} {tg : Expr} {R : It → Hp → Prop} {E : Value → Shared → Prop} {a : Addr} {xs : List V} (I : Inv X pins σ H s) (sq : SqL X.K H a xs) (q : R (Itl X.K a) H) :
    wpAny (model X.prog X.w) X.A (pyIter (.ref a)) (PIE X pins σ tg R) E s :=
  have ⟨_, _, at_, _⟩ := I.list sq
  wpAny_pyIter_list at_.isList ⟨_, _, _, _, H, rfl, I.kept (t' := s.toks) fun _ _ => Heap.get?_push_of_some _, turn_list a _, ⟨_, Heap.get?_push_size _ rfl, rfl, rfl⟩, one_own I, q⟩
theorem starts_tup {X : Cx} {pins : List (Addr × Obj)} {σ : L2.St} {H : Hp} {s : Shared} {tg : Expr} {R : It → Hp → Prop} {E : Value → Shared → Prop} {a : Addr} {xs : List V} (I : Inv X pins σ H s) (sq : SqT X.K H a xs) (q : R (Itt X.K a) H) :
    wpAny (model X.prog X.w) X.A (pyIter (.ref a)) (PIE X pins σ tg R) E s :=
  have ⟨its, _, (at_ : s.heap.IsTuple a its.toArray), _⟩ := I.tuple sq
  wpAny_pyIter_tuple at_ ⟨_, _, _, _, H, rfl, I.kept (t' := s.toks) fun _ _ => Heap.get?_push_of_some _, turn_tuple a _, ⟨_, Heap.get?_push_size _ rfl, rfl, rfl⟩, one_own I, q⟩
theorem pi_seq {l : Expr} {tl : TE} (hl : PE X l tl) : PI X tg l (iSeq X.K tl) := by
  constructor
  intro pins s σ H R I goal
  refine thn (hl.run pins s σ H _ I goal) ?_
  rintro _ s1 ⟨_, G, J, rel, a, rfl, q⟩
  cases rel
  exact q.elim (fun ⟨⟨_, sq⟩, r⟩ => starts_list J sq r) fun ⟨⟨_, sq⟩, r⟩ => starts_tup J sq r
def dIt (f : DenV) : DenI := fun env => (f env).bind fun d e => match d.its with
  | some xs => .ok xs e
  | none => .bad
theorem walks_list {a : Addr} {items : List D} {B : Hp} {vs : List V} (h : SqL Γ.K B a vs) (r : Reps Γ B items vs) : Walks Γ (Itl Γ.K a) items B := fun i B2 H2 k1 k2 => by
  have hq : SqL Γ.K H2 a vs := k2.seq (k1.seq h)
  refine ⟨fun d hd => ?_, fun hl => ⟨vs, hq, by rw [← r.length]; exact hl⟩⟩
  obtain ⟨v, hv, rv⟩ := r.get hd
  refine ⟨⟨vs, v, hq, hv⟩, fun x H3 y => ?_⟩
  obtain ⟨e, y⟩ := y
  subst e
  have e2 : v = x := Option.some.inj (hv.symm.trans (y vs hq))
  subst e2
  exact ⟨B2, Grow.refl k2, Rep.mono k1 d v rv⟩
theorem walks_tup {a : Addr} {items : List D} {B : Hp} {vs : List V} (h : SqT Γ.K B a vs) (r : Reps Γ B items vs) : Walks Γ (Itt Γ.K a) items B := fun i B2 H2 k1 k2 => by
  have hq : SqT Γ.K H2 a vs := sqT_mono k2 (sqT_mono k1 h)
  refine ⟨fun d hd => ?_, fun hl => ⟨vs, hq, by rw [← r.length]; exact hl⟩⟩
  obtain ⟨v, hv, rv⟩ := r.get hd
  refine ⟨⟨vs, v, hq, hv⟩, fun x H3 y => ?_⟩
  obtain ⟨e, y⟩ := y
  subst e
  have e2 : v = x := Option.some.inj (hv.symm.trans (y vs hq))
  subst e2
  exact ⟨B2, Grow.refl k2, Rep.mono k1 d v rv⟩
theorem sIt {f : DenV} (hK : X.K = Γ.K) (h : SV X Γ W e f) : SI X Γ W tg e (dIt f) := imI (pi_seq h) fun σ H R ⟨env, B, s, p⟩ => by
  refine ⟨env, B, s, p.bind.mono fun d e1 B1 H1 s1 x1 q1 v hv => ?_⟩
  cases d with
  | tup xs =>
    obtain ⟨a, vs, rfl, k1, k2⟩ := hv
    exact ⟨a, rfl, .inr ⟨⟨vs, by rw [hK]; exact sqT_mono s1.same k1⟩, by rw [hK]; exact Post.here s1 q1 _ (walks_tup k1 k2)⟩⟩
  | lst xs =>
    obtain ⟨a, vs, rfl, k1, k2⟩ := hv
    exact ⟨a, rfl, .inl ⟨⟨vs, .inl (.inl (s1.same _ _ k1))⟩, by rw [hK]; exact Post.here s1 q1 _ (walks_list (.inl (.inl k1)) k2)⟩⟩
  | fl xs =>
    obtain ⟨a, vs, rfl, k1, k2⟩ := hv
    exact ⟨a, rfl, .inl ⟨⟨vs, by rw [hK]; exact s1.same.seq k1⟩, by rw [hK]; exact Post.here s1 q1 _ (walks_list k1 k2)⟩⟩
  | _ => exact q1.elim
/-- lo, lo + 1, .. -/
def rngD (lo : Int) (n : Nat) : List D := (List.range n).map fun i => .int (lo + (i : Nat))
theorem walks_rng {lo : Int} {n : Nat} {B : Hp} : Walks Γ (Itr lo n) (rngD lo n) B := fun i B2 H2 k1 k2 => by
  unfold rngD
  refine ⟨fun d hd => ?_, fun hl => by rw [List.length_map, List.length_range] at hl; exact hl⟩
  rw [List.getElem?_map] at hd
  cases hr : (List.range n)[i]? with
  | none => rw [hr] at hd; cases hd
  | some j =>
    rw [hr] at hd
    cases hd
    have hi := List.getElem?_eq_some_iff.mp hr
    obtain ⟨h1, h2⟩ := hi
    rw [List.length_range] at h1
    rw [List.getElem_range] at h2
    subst h2
    exact ⟨h1, fun x H3 y => ⟨B2, by rw [y.1]; exact Grow.refl k2, y.2⟩⟩
/-- a bound that is small enough (told so that the kernel never counts) -/
def rngB (i : Int) : Bool := Nat.blt i.natAbs 4611686018427387904
theorem rngB_r {i : Int} (h : rngB i = true) : -(2 ^ 62) ≤ i ∧ i < 2 ^ 62 := by
  have h' : i.natAbs < 4611686018427387904 := Nat.blt_eq.mp h
  omega
theorem rngB_c {i : Int} (h : -1000000 ≤ i ∧ i ≤ 1000000) : rngB i = true := Nat.blt_eq.mpr (by omega)
def dRng1 (f : DenA) : DenI := fun env => (f env).bind fun as e => match getAll as e with
  | some [.int j] => if rngB j = true then .ok (rngD 0 j.toNat) e else .bad
  | _ => .bad
theorem sRng1 {f : DenA} {p : Pos} (hg : Gl X "range") (hm : X.mg "range" = none) (ha : SA X Γ W [a] f) (hs : starEach [a] X.env = [(false, eval a X.env)] := by rfl) : SI X Γ W tg (.Call (.Name "range" p) [a] [] pos) (dRng1 f) :=
  imI (pi_range1 hg hm ha hs) fun σ H R ⟨env, B, s, p⟩ => by
    refine ⟨env, B, s, p.bind.mono fun as e1 B1 H1 s1 x1 q1 vs hv => ?_⟩
    cases hh : getAll as e1 with
    | none => rw [hh] at q1; exact q1.elim
    | some ds =>
      rw [hh] at q1
      have r := getAll_now s1 hv hh
      match ds, q1, r with
      | [.int j], q1, r =>
        obtain ⟨v, rfl, k⟩ := r.one
        have q2 : Post Γ W e1 σ B1 H1 (fun items _ B' H' => ∀ J, Walks Γ J items B' → R J H') (if rngB j = true then .ok (rngD 0 j.toNat) e1 else .bad) := q1
        split at q2
        · rename_i hl
          have hl := rngB_r hl
          exact ⟨j, by rw [k.int], hl.1, hl.2, Post.here s1 q2 _ walks_rng⟩
        · exact q2.elim
def dRng2 (f : DenA) : DenI := fun env => (f env).bind fun as e => match getAll as e with
  | some [.int i, .int j] => if rngB i = true ∧ rngB j = true then .ok (rngD i (j - i).toNat) e else .bad
  | _ => .bad
theorem sRng2 {f : DenA} {p : Pos} (hg : Gl X "range") (hm : X.mg "range" = none) (ha : SA X Γ W [a, b] f) (hs : starEach [a, b] X.env = [(false, eval a X.env), (false, eval b X.env)] := by rfl) (hs2 : starEach [b] X.env = [(false, eval b X.env)] := by rfl) : SI X Γ W tg (.Call (.Name "range" p) [a, b] [] pos) (dRng2 f) :=
  imI (pi_range2 hg hm ha hs hs2) fun σ H R ⟨env, B, s, p⟩ => by
    refine ⟨env, B, s, p.bind.mono fun as e1 B1 H1 s1 x1 q1 vs hv => ?_⟩
    cases hh : getAll as e1 with
    | none => rw [hh] at q1; exact q1.elim
    | some ds =>
      rw [hh] at q1
      have r := getAll_now s1 hv hh
      match ds, q1, r with
      | [.int i, .int j], q1, r =>
        obtain ⟨v, w, rfl, k, k'⟩ := r.two
        have q2 : Post Γ W e1 σ B1 H1 (fun items _ B' H' => ∀ J, Walks Γ J items B' → R J H') (if rngB i = true ∧ rngB j = true then .ok (rngD i (j - i).toNat) e1 else .bad) := q1
        split at q2
        · rename_i hl
          have h1 := rngB_r hl.1
          have h2 := rngB_r hl.2
          exact ⟨i, j, by rw [k.int, k'.int], ⟨h1.1, h1.2, h2.1, h2.2⟩, Post.here s1 q2 _ walks_rng⟩
        · exact q2.elim
/-! ### for -/
def loopF (t : Asg) (body : DenS) : List D → DenS
  | [] => fun env => .ok .nx env
  | d :: ds => fun env => match t d env with
    | none => .bad
    | some e1 => (match body e1 with
      | .ok .nx e2 => loopF t body ds e2
      | .ok .ct e2 => loopF t body ds e2
      | .ok .bk e2 => .ok .nx e2
      | r => r)
def dFor (t : Asg) (it : DenI) (body : DenS) : DenS := fun env => (it env).bind fun items e => loopF t body items e
theorem sFor {t : Asg} {it : DenI} {own : List Nat} (hp : PassesOwn (model X.prog X.w) X.A X.env X.xe) (hc : X.calm = true) (hi : SI X Γ W tg e it) (hg : PG X tg (tGo Γ own t)) (hb : SSs X Γ W body f) (hs : ∀ x, foldedSetIterable e X.env x = pure x := by intro _; rfl) : SS X Γ W (.For tg e body [] pos) (dFor t it f) :=
  imS (ps_for hp hc hi hg hb hs) fun Q σ H ⟨env, B, s, p⟩ => by
    refine ⟨env, B, s, p.bind.mono fun items e1 B1 H1 s1 x1 q1 J hJ => ?_⟩
    obtain ⟨x, q⟩ := q1
    have q0 : PostS Γ W e1 σ B1 H1 Q (loopF t f items e1) := PostS.fwd s1 x q
    refine ⟨fun i m σ2 H2 => m = items.length - i ∧ i ≤ items.length ∧ ∃ e2 B2, StOk Γ e2 σ2 B2 H2 ∧ Same B1 B2 ∧ PostS Γ W e2 σ2 B2 H2 Q (loopF t f (items.drop i) e2),
      ⟨items.length, by simp, Nat.zero_le _, e1, B1, s1, Same.refl _, q0⟩, ?_⟩
    rintro i m σ2 H2 ⟨rfl, hi, e2, B2, s2, sb, q2⟩
    have hw := hJ i B2 H2 sb s2.same
    by_cases hlt : i < items.length
    · obtain ⟨hgo, hyld⟩ := hw.1 items[i] (List.getElem?_eq_getElem hlt)
      refine .inr ⟨hgo, fun σ3 H3 => ∃ e3 B3, StOk Γ e3 σ3 B3 H3 ∧ Same B1 B3 ∧ PostS Γ W e3 σ3 B3 H3 Q (loopF t f (items.drop (i + 1)) e3), fun σ3 H3 ⟨e3, B3, s3, sb3, q3⟩ => ⟨items.length - (i + 1), by omega, rfl, hlt, e3, B3, s3, sb3, q3⟩, fun v H3 hy => ?_⟩
      obtain ⟨B3, gr, rv⟩ := hyld v H3 hy
      have s3 := s2.growG gr
      have q3 := PostS.fwd s3 (Ext.growG gr) q2
      rw [List.drop_eq_getElem_cons hlt] at q3
      have q4 : PostS Γ W e2 σ2 B3 H3 Q (match t items[i] e2 with
        | none => .bad
        | some e1 => (match f e1 with
          | .ok .nx e2 => loopF t f (items.drop (i + 1)) e2
          | .ok .ct e2 => loopF t f (items.drop (i + 1)) e2
          | .ok .bk e2 => .ok .nx e2
          | r => r)) := q3
      cases ht : t items[i] e2 with
      | none => rw [ht] at q4; exact q4.elim
      | some e3 =>
        rw [ht] at q4
        refine ⟨e2, B3, items[i], e3, s3, rv, ht, fun σ4 s4 x4 _ => ⟨e3, B3, s4, ?_⟩⟩
        have q5 : PostS Γ W e3 σ4 B3 H3 Q (match f e3 with
          | .ok .nx e2 => loopF t f (items.drop (i + 1)) e2
          | .ok .ct e2 => loopF t f (items.drop (i + 1)) e2
          | .ok .bk e2 => .ok .nx e2
          | r => r) := PostS.fwd s4 x4 q4
        have sb4 : Same B1 B3 := sb.trans gr.b
        cases hf : f e3 with
        | bad => rw [hf] at q5; exact q5.elim
        | err c ns xs e4 => rw [hf] at q5; exact q5
        | ok fl e4 =>
          rw [hf] at q5
          cases fl with
          | nx => exact fun σ5 B5 H5 s5 x5 => ⟨e4, B5, s5, sb4.trans x5.b, PostS.fwd s5 x5 q5⟩
          | ct => exact fun σ5 B5 H5 s5 x5 => ⟨e4, B5, s5, sb4.trans x5.b, PostS.fwd s5 x5 q5⟩
          | bk => exact q5
          | rt r => exact q5
    · have e : i = items.length := by omega
      subst e
      rw [List.drop_length] at q2
      exact .inl ⟨hw.2 (Nat.le_refl _), q2 _ _ _ s2 Ext.refl⟩
/-! ### while -/
def iterW (c : DenT) (body : DenS) : Nat → Sto → Option (Res Fl)
  | 0, _ => none
  | n + 1, env => match c env with
    | .bad => some .bad
    | .err k ns xs e => some (.err k ns xs e)
    | .ok false e => some (.ok .nx e)
    | .ok true e => (match body e with
      | .ok .nx e2 => iterW c body n e2
      | .ok .ct e2 => iterW c body n e2
      | .ok .bk e2 => some (.ok .nx e2)
      | r => some r)
open Classical in
noncomputable def dWhile (c : DenT) (body : DenS) : DenS := fun env => if h : ∃ n r, iterW c body n env = some r then h.choose_spec.choose else .bad
theorem iterW_mono {c : DenT} {body : DenS} : ∀ {n : Nat} {env : Sto} {r : Res Fl}, iterW c body n env = some r → ∀ k, iterW c body (n + k) env = some r
  | 0, env, r, h, k => by cases h
  | n + 1, env, r, h, k => by
    rw [show n + 1 + k = (n + k) + 1 by omega]
    unfold iterW at h ⊢
    cases hc : c env with
    | bad => rw [hc] at h; exact h
    | err _ _ _ _ => rw [hc] at h; exact h
    | ok b e =>
      rw [hc] at h
      cases b with
      | false => exact h
      | true =>
        have h' : (match body e with
          | .ok .nx e2 => iterW c body n e2
          | .ok .ct e2 => iterW c body n e2
          | .ok .bk e2 => some (.ok .nx e2)
          | r => some r) = some r := h
        show (match body e with
          | .ok .nx e2 => iterW c body (n + k) e2
          | .ok .ct e2 => iterW c body (n + k) e2
          | .ok .bk e2 => some (.ok .nx e2)
          | r => some r) = some r
        cases hb : body e with
        | bad => rw [hb] at h'; exact h'
        | err _ _ _ _ => rw [hb] at h'; exact h'
        | ok fl e2 =>
          rw [hb] at h'
          cases fl with
          | nx => exact iterW_mono h' k
          | ct => exact iterW_mono h' k
          | bk => exact h'
          | rt r => exact h'
theorem iterW_one {c : DenT} {body : DenS} {n m : Nat} {env : Sto} {r q : Res Fl} (h : iterW c body n env = some r) (k : iterW c body m env = some q) : r = q := by
  have h1 := iterW_mono h m
  have k1 := iterW_mono k n
  rw [Nat.add_comm] at k1
  rw [h1] at k1
  exact Option.some.inj k1
theorem dWhile_of {c : DenT} {body : DenS} {n : Nat} {env : Sto} {r : Res Fl} (h : iterW c body n env = some r) : dWhile c body env = r := by
  have hx : ∃ n r, iterW c body n env = some r := ⟨n, r, h⟩
  unfold dWhile
  rw [dif_pos hx]
  exact iterW_one hx.choose_spec.choose_spec h
/-- one turn -/
theorem iterW_turn {c : DenT} {body : DenS} {env e e2 : Sto} (hc : c env = .ok true e) (hb : body e = .ok .nx e2 ∨ body e = .ok .ct e2) (n : Nat) : iterW c body (n + 1) env = iterW c body n e2 := by
  rcases hb with hb | hb
  · unfold iterW
    rw [hc]
    simp only
    rw [hb]
    cases n <;> rfl
  · unfold iterW
    rw [hc]
    simp only
    rw [hb]
    cases n <;> rfl
theorem dWhile_turn {c : DenT} {body : DenS} {env e e2 : Sto} (hc : c env = .ok true e) (hb : body e = .ok .nx e2 ∨ body e = .ok .ct e2) : dWhile c body env = dWhile c body e2 := by
  by_cases h : ∃ n r, iterW c body n e2 = some r
  · obtain ⟨n, r, h⟩ := h
    rw [dWhile_of h]
    exact dWhile_of (n := n + 1) ((iterW_turn hc hb n).trans h)
  · have h2 : ¬ ∃ n r, iterW c body n env = some r := by
      rintro ⟨n, r, k⟩
      cases n with
      | zero => cases k
      | succ n => exact h ⟨n, r, (iterW_turn hc hb n).symm.trans k⟩
    unfold dWhile
    rw [dif_neg h, dif_neg h2]
theorem dWhile_end {c : DenT} {body : DenS} {env e : Sto} (hc : c env = .ok false e) : dWhile c body env = .ok .nx e := dWhile_of (n := 1) (by unfold iterW; rw [hc])
theorem sWhile {t : DenT} (hp : PassesOwn (model X.prog X.w) X.A X.env X.xe) (hc : ST X Γ W c t) (hb : SSs X Γ W body f) : SS X Γ W (.While c body [] pos) (dWhile t f) := imS (ps_while hp hc hb) fun Q σ H ⟨env, B, s, p⟩ => by
  have p' : PostS Γ W env σ B H Q (dWhile t f env) := p
  have hx : ∃ n r, iterW t f n env = some r := by
    by_cases h : ∃ n r, iterW t f n env = some r
    · exact h
    · unfold dWhile at p'
      rw [dif_neg h] at p'
      exact p'.elim
  obtain ⟨n, r, hn⟩ := hx
  rw [dWhile_of hn] at p'
  refine ⟨fun m σ2 H2 => ∃ e2 B2 r2, StOk Γ e2 σ2 B2 H2 ∧ iterW t f m e2 = some r2 ∧ PostS Γ W e2 σ2 B2 H2 Q r2, ⟨n, env, B, r, s, hn, p'⟩, ?_⟩
  rintro m σ2 H2 ⟨e2, B2, r2, s2, hi, q2⟩
  cases m with
  | zero => cases hi
  | succ m =>
    have hi' : (match t e2 with
      | .bad => some .bad
      | .err k ns xs e => some (.err k ns xs e)
      | .ok false e => some (.ok .nx e)
      | .ok true e => (match f e with
        | .ok .nx e2 => iterW t f m e2
        | .ok .ct e2 => iterW t f m e2
        | .ok .bk e2 => some (.ok .nx e2)
        | r => some r)) = some r2 := hi
    refine ⟨e2, B2, s2, ?_⟩
    cases ht : t e2 with
    | bad => rw [ht] at hi'; cases hi'; exact q2.elim
    | err k ns xs e3 => rw [ht] at hi'; cases hi'; exact fun cls d B3 H3 s3 x3 z => q2 cls d σ2 B3 H3 s3 x3 z
    | ok b e3 =>
      rw [ht] at hi'
      intro B3 H3 s3 x3
      cases b with
      | false =>
        cases hi'
        rw [if_neg Bool.false_ne_true]
        exact q2 _ _ _ s3 x3
      | true =>
        rw [if_pos rfl]
        have hi2 : (match f e3 with
          | .ok .nx e2 => iterW t f m e2
          | .ok .ct e2 => iterW t f m e2
          | .ok .bk e2 => some (.ok .nx e2)
          | r => some r) = some r2 := hi'
        refine ⟨fun σ4 H4 => ∃ e4 B4, StOk Γ e4 σ4 B4 H4 ∧ iterW t f m e4 = some r2 ∧ PostS Γ W e4 σ4 B4 H4 Q r2, fun σ4 H4 ⟨e4, B4, s4, h4, q4⟩ => ⟨m, Nat.lt_succ_self m, e4, B4, r2, s4, h4, q4⟩, e3, B3, s3, ?_⟩
        have q3 := PostS.fwd s3 x3 q2
        cases hf : f e3 with
        | bad => rw [hf] at hi2; cases hi2; exact q3.elim
        | err c ns xs e4 => rw [hf] at hi2; cases hi2; exact q3
        | ok fl e4 =>
          rw [hf] at hi2
          cases fl with
          | nx => exact fun σ5 B5 H5 s5 x5 => ⟨e4, B5, s5, hi2, PostS.fwd s5 x5 q3⟩
          | ct => exact fun σ5 B5 H5 s5 x5 => ⟨e4, B5, s5, hi2, PostS.fwd s5 x5 q3⟩
          | bk => cases hi2; exact q3
          | rt r => cases hi2; exact q3
end
end Ev
set_option Elab.async false
set_option linter.all false
set_option maxRecDepth 100000
set_option maxHeartbeats 4000000
namespace Ev
open PySem PySem.Spec PyProof.Rows L2
/-! ### room, and no display of a container under way: what repr of a list or tuple wants to know -/
structure RoomG (k : Nat) (A : Around) : Prop where
  room : Room k A
  gd : A.guards = some []
theorem RoomG.mono {j k : Nat} {A : Around} (r : RoomG k A) (h : j ≤ k) : RoomG j A := ⟨r.room.mono h, r.gd⟩
theorem RoomG.units {k : Nat} {A : Around} (r : RoomG k A) : A.units + 64 < cLine := r.room.units
theorem RoomG.deeper {k : Nat} {A : Around} (r : RoomG (k + 1) A) (env : Env) : RoomG k (A.deeper env) := ⟨r.room.deeper env, r.gd⟩
theorem RoomG.make {k : Nat} {A : Around} (r : RoomG (k + 1) A) (C : Addr) (us : List Value) (kw : List (Str × Value)) : RoomG k (A.under (.builtin "type.__call__" ⟨.ref C :: us, kw⟩)) := ⟨r.room.make C us kw, by
  have z : (Code.builtin "type.__call__" ⟨.ref C :: us, kw⟩).guards = [] := by
    unfold Code.guards
    rw [if_neg]
    intro q
    revert q
    show ¬ (guardIds.contains "type.__call__" = true)
    decide +kernel
  show pushGuards (Code.builtin "type.__call__" ⟨.ref C :: us, kw⟩).guards A.guards = some []
  rw [z]
  exact r.gd⟩
/-- what a def promises where nothing of that kind is under way -/
structure FnOkG (P : Program) (w : World) (K : PySem.W.Frag) (mg : Str → Option Value) (base : Heap) (CX : CXT) (k : Nat) (f : Addr) (fd : FuncData) (ps : List Str) (sp : Sp) : Prop where
  len : ∀ vs H Q E, sp vs H Q E → vs.length = ps.length
  run : ∀ (A : Around) (callers : List Env) (s : Shared) (H : Hp) (as : Args) (us : List Value) (vs : List V) (Q : VK) (E : XK), RoomG k A → Env0 P w K mg base A callers s H → BindsTo s fd as (ps.zip us) → Vals vs us → sp vs H Q E →
    codeAny (model P w) A (.call (.ref f) as) (CR CX callers P w H s Q E) s
section
variable {P : Program} {w : World} {K : PySem.W.Frag} {mg : Str → Option Value} {base : Heap} {CX : CXT} {k : Nat} {f : Addr} {fd : FuncData} {ps : List Str} {sp : Sp}
theorem FnOkG.mono {j : Nat} (F : FnOkG P w K mg base CX j f fd ps sp) (h : j ≤ k) : FnOkG P w K mg base CX k f fd ps sp := ⟨F.len, fun A o s H as us vs Q E r => F.run A o s H as us vs Q E (r.mono h)⟩
theorem _root_.L2.FnOk.toG (F : FnOk P w K mg base CX k f fd ps sp) : FnOkG P w K mg base CX k f fd ps sp := ⟨F.len, fun A o s H as us vs Q E r => F.run A o s H as us vs Q E r.room⟩
/-- a def by its body -/
theorem okG {x qual : Str} {params : Arguments} {body : List Stmt} {scope : Scope} {dvs : List V} {kws : List (Str × V)} {N : List Str} (F : FunD K x qual params body scope dvs kws f fd) (S : FnScope N ps scope) (hlen : ∀ vs H Q E, sp vs H Q E → vs.length = ps.length)
    (hb : ∀ (cdv : Value) (A : Around) (callers : List Env) (s : Shared) (H : Hp) (vs : List V) (Q : VK) (E : XK), RoomG k (A.deeper (envOfC qual scope s.heap.objs.size f cdv)) → sp vs H Q E →
      ∃ t, PSs (cxOf CX P w K mg base N qual scope f cdv A callers s H E) body t ∧ t { nx := fun _ H' => Q .non H', rt := Q } (L2.start N vs) H) : FnOkG P w K mg base CX (k + 1) f fd ps sp := by
  obtain ⟨oc, od, dV, kV, doc, pm, an, cdv, ct, osl, rfl, atF, code, _, _⟩ := F.ex
  constructor
  · exact hlen
  intro A callers s H as us vs Q E room e0 bnd rel pro
  have stays : ∀ b o, base.get? b = some o → s.heap.get? b = some o := fun b o q => (e0.bs b o q).1
  have kin := e0.mod.kin.keeps stays
  have kinds : ∀ y ∈ ps.zip us, scope.names.lookup y.1 = some .local ∨ (scope.names.lookup y.1 = some .cell ∧ ((cellsFrom (s.heap.objs.size + 1) scope.names []).lookup y.1).isSome = true) := by
    rintro ⟨nm, _⟩ mem
    refine (S.par nm (List.of_mem_zip mem).1).imp id fun c => ⟨c, ?_⟩
    exact PySem.W.cellsFrom_some _ _ _ (.inl c)
  refine codeAny_call_function room.room.depth (kin _ _ atF) rfl S.co S.gen rfl (PySem.W.codeRec_of kin code) (bnd _ _ _ _ (wpAny_newFunctionEnv_cells S.kind kinds fun en en_eq s1 inC => ?_))
  cases en_eq
  refine ⟨(e0.mod.nolimit.keeps stays).keeps inC.toInCall.keep, codeAny_func ?_⟩
  obtain ⟨t, bodyOk, goal⟩ := hb cdv A callers s H vs Q E (room.deeper _) pro
  have entry := inv_start (CX := CX) (E := E) S room.room.hd e0 (hlen _ _ _ _ pro) rel inC
  refine wpAny_mono (bodyOk.run [] s1 (L2.start N vs) H _ entry goal) (fun fl s2 fin => ?_) fun _ _ z => z
  cases fl with
  | next =>
    obtain ⟨σ2, H2, J, q⟩ := fin
    exact ⟨.non, H2, J.os, J.bare, J.base, J.hok, rfl, q⟩
  | ret u =>
    obtain ⟨v, σ2, H2, J, rl, q⟩ := fin
    exact ⟨v, H2, J.os, J.bare, J.base, J.hok, rl, q⟩
  | brk =>
    obtain ⟨_, _, _, q⟩ := fin
    exact q.elim
  | cont =>
    obtain ⟨_, _, _, q⟩ := fin
    exact q.elim
end
section
variable {X : Cx} {CX : CXT} {k : Nat} {f : Addr} {fd : FuncData} {ps : List Str} {sp : Sp} {dvs : List V} {ds : List Value} {E : L2.St → XK} {x : Str} {p pos : Pos} {e : Expr} {es : List Expr} {t : TA}
theorem run_fnSG {pins : List (Addr × Obj)} {σ : L2.St} {H : Hp} {s : Shared} {Q : VK} {us : List Value} {vs : List V} (F : FnOkG X.prog X.w X.K X.mg X.base CX k f fd ps sp) (hr : RoomG k X.A) (hb : Binds X.K fd ps ds) (hd : Vals dvs ds) (hx : PassesAt CX X σ (E σ))
    (I : Inv X pins σ H s) (r : Vals vs us) (h : sp (vs ++ dvs) H Q (E σ)) : wpAny (model X.prog X.w) X.A (call (.ref f) us) (EP X pins σ Q) X.xe s := by
  have all := r.append hd
  have nl : (us ++ ds).length = ps.length := all.length.symm.trans (F.len _ _ _ _ h)
  refine wpAny_call (codeAny_mono (F.run X.A X.stack s H ⟨us, []⟩ (us ++ ds) (vs ++ dvs) Q (E σ) hr I.env0 (hb s us I.kIn nl) all h) fun res s2 fin => ?_)
  cases res with
  | ok fl =>
    cases fl with
    | ret u => exact I.after fin
    | next => exact fin.elim
    | brk => exact fin.elim
    | cont => exact fin.elim
  | error err => exact hx pins H s err s2 I fin
theorem pe_callSG (F : FnOkG X.prog X.w X.K X.mg X.base CX k f fd ps sp) (hr : RoomG k X.A) (hg : Gl X x) (hm : X.mg x = some (.ref f)) (hk : PySem.W.keepIn X.K (.ref f) = true) (hb : Binds X.K fd ps ds) (hd : Vals dvs ds) (hx : ∀ σ, PassesAt CX X σ (E σ))
    (ha : PA X (e :: es) t) (hdb : (x == ("__debug__" : Str)) = false := by decide) (he : starEach (e :: es) X.env = (false, eval e X.env) :: starEach es X.env := by rfl) (hpl : (backTo pos (starEach es X.env)).any (·.1) = false := by rfl) :
    PE X (.Call (.Name x p) (e :: es) [] pos) (tCallSD sp dvs E t) :=
  ⟨fun pins s σ H Q I h => wpAny_Call_Name_kw (ld_glob I hg hm (PySem.W.callWith_K (h₀ := X.base) I.ok.mod.kin hk (thn (ha.run pos pins s σ H _ I h) fun us s1 ⟨vs, H1, I1, rl, q⟩ => ⟨I1.kIn, run_fnSG F hr hb hd (hx σ) I1 rl q⟩) he hpl) hdb)⟩
end
end Ev

set_option Elab.async false
set_option linter.all false
set_option maxRecDepth 100000
set_option maxHeartbeats 4000000
namespace Ev
open PySem PySem.Spec PyProof.Rows L2
/-! ### the law is called at the top, where nothing is under way -/
section
variable {P : Program} {w : World} {K : PySem.W.Frag} {mg mb : Str → Option Value} {CX : CXT} {k : Nat} {fa a : Addr} {fd : FuncData} {x : Str} {sp : Sp} {st : Shared} {us : List Value} {ns : List Int}
/-- over an abstract heap that tracks nothing but the script -/
theorem top_callG {H : Hp} (KX : K.In st.heap) (gMain : st.heap.Ns mainGlobals mg) (gBlt : st.heap.Ns builtinsNs mb) (boot : ∀ x : Str, x ≠ "__name__" → mb x = bootBuiltins x) (lim : st.heap.NoLimit) (gens0 : st.gens = #[])
    (ha : st.heap.get? a = some { cls := .type "list", data := .seq us.toArray }) (room : RoomG k callerA) (F : ∀ base : Heap, K.In base → base.Ns mainGlobals mg → FnOkG P w K mg base CX k fa fd [x] sp) (bnd : ∀ (s : Shared) (u : Value), BindsTo s fd ⟨[u], []⟩ [(x, u)])
    (only : Only H) (hok : HOk P w H st.heap) (isA : ∀ b, H b ≠ none → b = a) (notK : H a ≠ none → K.lookup a = none)
    (pro : sp [.ref a] H (fun v _ => v = .bl true) fun _ _ _ => False) (noExc : ∀ e s', CX [] H st (fun _ _ _ => False) e s' → False) :
    codeAny (model P w) callerA (.call (.ref fa) ⟨[.ref a], []⟩) (fun r s' => r = .ok (.ret (.bool true)) ∧ OldK st.heap s'.heap ∧ s'.os = st.os ∧ AllBare s'.gens) st := by
  have unseen : ∀ {b : Addr} {o : Obj}, st.heap.get? b = some o → b ≠ a → H b = none := fun {b o} _ ne => by
    cases q : H b with
    | none => rfl
    | some u => exact absurd (isA b (by rw [q]; exact fun z => nomatch z)) ne
  have nsHid : ∀ {b : Addr} {m : Str → Option Value}, st.heap.Ns b m → (hidT st.heap H).Ns b m := fun {b m} ⟨o, es, ep, g, d, r⟩ => by
    refine ⟨o, es, ep, hidT_get g (unseen g ?_), d, r⟩
    rintro rfl
    rw [ha] at g
    cases g
    cases (show Data.seq us.toArray _ = Data.dict es ep from d)
  have kHid : K.In (hidT st.heap H) := fun b o g => by
    refine hidT_get (KX b o g) ?_
    cases q : H b with
    | none => rfl
    | some u =>
      have nb : H b ≠ none := by rw [q]; exact fun z => nomatch z
      have eb := isA b nb
      subst eb
      rw [notK nb] at g
      cases g
  obtain ⟨mc, lim1, lim2⟩ := lim
  have md : Mod K mg (hidT st.heap H) := ⟨kHid, nsHid gMain, ⟨mb, nsHid gBlt, boot⟩, mc, nsHid lim1, lim2⟩
  have en : Env0 P w K mg (hidT st.heap H) callerA [] st H := {
    frames := rfl
    mod := md
    bs := fun b o g => of_hidT g
    bsz := Nat.le_of_eq (hidT_size _ _)
    funs := trivial
    frf := fun b hb => by cases hb
    hok := hok
    bare := .of_eq gens0 }
  have go := (F _ kHid (nsHid gMain)).run callerA [] st H ⟨[.ref a], []⟩ [.ref a] [.ref a] _ _ room en (bnd st (.ref a)) (.cons rfl .nil) pro
  refine codeAny_mono go fun res s' fin => ?_
  rcases res with e | fl
  · exact (noExc e s' fin).elim
  · cases fl with
    | ret u =>
      obtain ⟨v, H', os, bare, un, hok', rl, rfl⟩ := fin
      obtain rfl : u = Value.bool true := rl
      refine ⟨rfl, OldK.of_keep fun b o g => ?_, os, bare⟩
      cases q : H b with
      | none => exact un.keep b o g q (fun z => by cases z) (by simp)
      | some u =>
        rcases only b with z | ⟨ob, xs, z⟩
        · rw [z] at q; cases q
        · have g1 := (hok b _ z).1
          have g2 := (hok' b _ (un.frzs b ob _ z)).1
          rw [g1] at g
          cases g
          exact g2
    | next => exact fin.elim
    | brk => exact fin.elim
    | cont => exact fin.elim
theorem law_callG (KX : K.In st.heap) (gMain : st.heap.Ns mainGlobals mg) (gBlt : st.heap.Ns builtinsNs mb) (boot : ∀ x : Str, x ≠ "__name__" → mb x = bootBuiltins x) (lim : st.heap.NoLimit) (gens0 : st.gens = #[])
    (ha : st.heap.get? a = some { cls := .type "list", data := .seq us.toArray }) (hi : IntsAre us ns) (hl : ns.length ≤ sizeLine) (room : RoomG k callerA) (F : ∀ base : Heap, K.In base → base.Ns mainGlobals mg → FnOkG P w K mg base CX k fa fd [x] sp) (bnd : ∀ (s : Shared) (u : Value), BindsTo s fd ⟨[u], []⟩ [(x, u)])
    (pro : ∀ H : Hp, Only H → SqL K H a (ns.map V.int) → sp [.ref a] H (fun v _ => v = .bl true) fun _ _ _ => False) (noExc : ∀ H e s', CX [] H st (fun _ _ _ => False) e s' → False) :
    codeAny (model P w) callerA (.call (.ref fa) ⟨[.ref a], []⟩) (fun r s' => r = .ok (.ret (.bool true)) ∧ OldK st.heap s'.heap ∧ s'.os = st.os ∧ AllBare s'.gens) st := by
  have rel := vals_ints hi
  have ln := hi.length
  cases written : K.lookup a with
  | some o =>
    have o2 := KX a o written
    rw [ha] at o2
    cases o2
    have on : Only (fun _ => none) := fun _ => .inl rfl
    exact top_callG KX gMain gBlt boot lim gens0 ha room F bnd on (fun b u z => by cases (show (none : Option HO) = some u from z)) (fun b z => absurd rfl z) (fun z => absurd rfl z) (pro _ on (.inr ⟨_, us.toArray, _, written, rfl, rfl, rfl, by rw [List.size_toArray, ln]; exact hl, by simpa using rel⟩)) (noExc _)
  | none =>
    let ho : HO := .frz { cls := .type "list", data := .seq us.toArray } (.lst (ns.map V.int))
    let H : Hp := fun b => if b = a then some ho else none
    have at_ : H a = some ho := if_pos rfl
    have off : ∀ {b : Addr}, b ≠ a → H b = none := fun h => if_neg h
    have on : Only H := fun b => by
      by_cases q : b = a
      · subst q
        exact .inr ⟨_, _, at_⟩
      · exact .inl (off q)
    refine top_callG KX gMain gBlt boot lim gens0 ha room F bnd on (fun b u z => ?_) (fun b z => ?_) (fun _ => written) (pro _ on (.inl (.inr ⟨_, at_⟩))) (noExc _)
    · by_cases q : b = a
      · subst q
        rw [at_] at z
        cases z
        exact ⟨ha, by rw [List.length_map]; exact hl, us, _, rel, ha⟩
      · rw [off q] at z
        cases z
    · by_cases q : b = a
      · exact q
      · exact absurd (off q) z
end
end Ev

set_option Elab.async false
set_option linter.all false
set_option maxRecDepth 100000
set_option maxHeartbeats 4000000
namespace Ev
open PySem PySem.Spec PyProof.Rows L2

mutual
theorem Rep.ctx {Γ Γ' : Wd} {B : Hp} (hK : Γ.K = Γ'.K) (hm : Γ.mg = Γ'.mg) : ∀ (d : D) (v : V), Rep Γ B d v → Rep Γ' B d v
  | .non, v, h => h
  | .bl b, v, h => h
  | .int i, v, h => h
  | .str s, v, h => h
  | .tup xs, v, h => by
    obtain ⟨a, vs, e1, e2, e3⟩ := h
    exact ⟨a, vs, e1, by rw [← hK]; exact e2, Reps.ctx hK hm xs vs e3⟩
  | .lst xs, v, h => by
    obtain ⟨a, vs, e1, e2, e3⟩ := h
    exact ⟨a, vs, e1, e2, Reps.ctx hK hm xs vs e3⟩
  | .fl xs, v, h => by
    obtain ⟨a, vs, e1, e2, e3⟩ := h
    exact ⟨a, vs, e1, by rw [← hK]; exact e2, Reps.ctx hK hm xs vs e3⟩
  | .ins c ns xs, v, h => by
    obtain ⟨a, dx, C, vs, e1, e2, e3, e4, e5⟩ := h
    exact ⟨a, dx, C, vs, e1, by rw [← hm]; exact e2, e3, e4, Reps.ctx hK hm xs vs e5⟩
  | .fn x, v, h => by
    obtain ⟨f, e1, e2⟩ := h
    exact ⟨f, e1, by rw [← hm]; exact e2⟩
theorem Reps.ctx {Γ Γ' : Wd} {B : Hp} (hK : Γ.K = Γ'.K) (hm : Γ.mg = Γ'.mg) : ∀ (ds : List D) (vs : List V), Reps Γ B ds vs → Reps Γ' B ds vs
  | [], vs, h => h
  | d :: ds, vs, h => by
    obtain ⟨v, r, e1, e2, e3⟩ := h
    exact ⟨v, r, e1, Rep.ctx hK hm d v e2, Reps.ctx hK hm ds r e3⟩
end
theorem XnOk.ctx {Γ Γ' : Wd} {B H : Hp} {c : Str} {ns : List Str} {xs : List D} {cls : Value} {d : Option Addr} (hK : Γ.K = Γ'.K) (hm : Γ.mg = Γ'.mg) (h : XnOk Γ B H c ns xs cls d) : XnOk Γ' B H c ns xs cls d := by
  obtain ⟨C, dd, vs, e1, e2, e3, e4, e5, e6⟩ := h
  exact ⟨C, dd, vs, by rw [← hm]; exact e1, e2, e3, e4, e5, Reps.ctx hK hm xs vs e6⟩

/-! ### functions -/
inductive FR where
  | ok (r : Ent) (ps : List Ent) | err (c : Str) (ns : List Str) (xs : List D) (ps : List Ent) | bad
abbrev Fn := List Ent → FR
def finF (np : Nat) : Res Fl → FR
  | .ok .nx e => .ok (.val .non) (e.take np)
  | .ok (.rt r) e => .ok r (e.take np)
  | .err c ks xs e => .err c ks xs (e.take np)
  | _ => .bad
def mkFn (np ns : Nat) (body : DenS) : Fn := fun args => if args.length = np then finF np (body (args ++ List.replicate (ns - np) .un)) else .bad
theorem mkFn_len {np ns : Nat} {body : DenS} (args : List Ent) (h : args.length ≠ np) : mkFn np ns body args = .bad := if_neg h
/-- what a call leaves -/
structure FExt (Γ : Wd) (args : Sto) (vs : List V) (B H : Hp) (ps : Sto) (B' H' : Hp) : Prop where
  b : Same B B'
  s : Same B' H'
  t : ∀ p, H p ≠ none → H' p ≠ none
  f : ∀ p o, H p = some o → ¬ Own args (vs.map some) p → H' p = some o ∧ (B p = none → B' p = none)
  r : ∀ i ∈ Γ.R, ∀ xs p, args[i]? = some (.mu xs) → vs[i]? = some (.ref p) → ∃ e, ps[i]? = some e ∧ EntOk Γ B' H' e (some (.ref p)) ∧ ((∃ ys, e = .mu ys) ∨ B' p ≠ none)
def RetF (Γ : Wd) (H B' H' : Hp) : Ent → V → Prop
  | .val d, v => Rep Γ B' d v
  | .mu xs, v => ∃ p vs, v = .ref p ∧ H p = none ∧ B' p = none ∧ H' p = some (.lst vs) ∧ Reps Γ B' xs vs
  | _, _ => False
def PostF (Γ : Wd) (args : Sto) (vs : List V) (B H : Hp) (Q : VK) (E : XK) : FR → Prop
  | .ok r ps => ∀ v B' H', FExt Γ args vs B H ps B' H' → RetF Γ H B' H' r v → Q v H'
  | .err c ns xs ps => ∀ cls d B' H', FExt Γ args vs B H ps B' H' → XnOk Γ B' H' c ns xs cls d → E cls d H'
  | .bad => False
/-- the context of a def's body -/
abbrev wdOf (K : PySem.W.Frag) (mg : Str → Option Value) (R : List Nat) : Wd := ⟨K, mg, (0, .none, none), R⟩
def spOf (K : PySem.W.Frag) (mg : Str → Option Value) (R : List Nat) (np : Nat) (g : Fn) : Sp := fun vs H Q E => ∃ B args, args.length = np ∧ StOk (wdOf K mg R) args (vs.map some) B H ∧ (∀ (i : Nat) xs, args[i]? = some (.mu xs) → i ∈ R) ∧ PostF (wdOf K mg R) args vs B H Q E (g args)
theorem spOf_len {K : PySem.W.Frag} {mg : Str → Option Value} {R : List Nat} {np : Nat} {g : Fn} (vs : List V) (H : Hp) (Q : VK) (E : XK) (h : spOf K mg R np g vs H Q E) : vs.length = np := by
  obtain ⟨B, args, h1, h2, _⟩ := h
  have := h2.len
  rw [List.length_map] at this
  omega
section
variable {P : Program} {w : World} {K : PySem.W.Frag} {mg : Str → Option Value} {base : Heap}
/-- a def's body serves its function -/
theorem fn_body {R : List Nat} {np : Nat} {f : DenS} {N : List Str} {vs : List V} {H : Hp} {Q : VK} {E : XK} (h : spOf K mg R np (mkFn np N.length f) vs H Q E) :
    tS (wdOf K mg R) (fun cls d _ H => E cls d H) f { nx := fun _ H' => Q .non H', rt := Q } (L2.start N vs) H := by
  obtain ⟨B, args, hl, s, hm, p⟩ := h
  have hv := spOf_len vs H Q E ⟨B, args, hl, s, hm, p⟩
  have hs : L2.start N vs = vs.map some ++ List.replicate (N.length - np) none := by
    unfold L2.start
    rw [hv]
  have lenA : args.length = (vs.map some).length := s.len
  have lenR : (List.replicate (N.length - np) Ent.un).length = (List.replicate (N.length - np) (none : Option V)).length := by simp
  have getL : ∀ {i : Nat} {e : Ent}, (args ++ List.replicate (N.length - np) Ent.un)[i]? = some e → args[i]? = some e ∨ e = .un := fun {i e} q => by
    rw [List.getElem?_append] at q
    split at q
    · exact .inl q
    · rw [List.getElem?_replicate] at q
      split at q
      · exact .inr (Option.some.inj q).symm
      · cases q
  have getS : ∀ {i : Nat} {e : Ent}, args[i]? = some e → (vs.map some ++ List.replicate (N.length - np) none)[i]? = (vs.map some)[i]? := fun {i e} q => by
    have : i < (vs.map some).length := by rw [← lenA]; exact (List.getElem?_eq_some_iff.mp q).1
    rw [List.getElem?_append_left this]
  have ownE : ∀ {p : Addr}, Own (args ++ List.replicate (N.length - np) Ent.un) (vs.map some ++ List.replicate (N.length - np) none) p → Own args (vs.map some) p := fun {p} ⟨i, xs, e1, e2⟩ => by
    rcases getL e1 with q | q
    · rw [getS q] at e2
      exact ⟨i, xs, q, e2⟩
    · cases q
  have s0 : StOk (wdOf K mg R) (args ++ List.replicate (N.length - np) Ent.un) (L2.start N vs) B H := by
    rw [hs]
    refine ⟨s.same, by rw [List.length_append, List.length_append, lenA, lenR], fun i e o h1 h2 => ?_, fun i j xs ys p h1 h2 h3 h4 => ?_⟩
    · rcases getL h1 with q | q
      · rw [getS q] at h2
        exact s.ent i e o q h2
      · subst q; trivial
    · rcases getL h1 with q | q
      · rcases getL h2 with q' | q'
        · rw [getS q] at h3
          rw [getS q'] at h4
          exact s.dis i j xs ys p q q' h3 h4
        · cases q'
      · cases q
  refine ⟨_, B, s0, ?_⟩
  have fext : ∀ {e σ' B' H'}, StOk (wdOf K mg R) e σ' B' H' → Ext (wdOf K mg R) (args ++ List.replicate (N.length - np) Ent.un) (L2.start N vs) B H e σ' B' H' → FExt (wdOf K mg R) args vs B H (e.take np) B' H' := fun {e σ' B' H'} s' x => by
    refine ⟨x.b, s'.same, x.t, fun p o hp hn => ?_, fun i hi xs p e1 e2 => ?_⟩
    · obtain ⟨k1, k2, _⟩ := x.f p o hp (by rw [hs]; exact fun z => hn (ownE z))
      exact ⟨k1, k2⟩
    · obtain ⟨r1, r2⟩ := x.r i hi
      have hil : i < args.length := (List.getElem?_eq_some_iff.mp e1).1
      have e1' : (args ++ List.replicate (N.length - np) Ent.un)[i]? = some (.mu xs) := by rw [List.getElem?_append_left hil]; exact e1
      have e2' : (L2.start N vs)[i]? = some (some (.ref p)) := by
        rw [hs, getS e1, List.getElem?_map, e2]
        rfl
      have e3 : σ'[i]? = some (some (.ref p)) := r1.trans e2'
      have hl3 : i < e.length := by rw [s'.len]; exact (List.getElem?_eq_some_iff.mp e3).1
      refine ⟨e[i], by rw [List.getElem?_take_of_lt (by omega)]; exact List.getElem?_eq_getElem hl3, s'.ent i _ _ (List.getElem?_eq_getElem hl3) e3, ?_⟩
      rcases r2 xs p e1' e2' with ⟨ys, q⟩ | q
      · rw [List.getElem?_eq_getElem hl3] at q
        exact .inl ⟨ys, Option.some.inj q⟩
      · exact .inr q
  have free : ∀ {p : Addr}, FreeR (wdOf K mg R) (args ++ List.replicate (N.length - np) Ent.un) (L2.start N vs) H p → H p = none := fun {p} q => by
    rcases q with q | ⟨i, xs, hi, e1, e2⟩
    · exact q
    · rcases getL e1 with q | q
      · exact absurd (hm i xs q) hi
      · cases q
  have p' : PostF (wdOf K mg R) args vs B H Q E (finF np (f (args ++ List.replicate (N.length - np) Ent.un))) := by
    unfold mkFn at p
    rw [if_pos hl] at p
    exact p
  cases hf : f (args ++ List.replicate (N.length - np) Ent.un) with
  | bad => rw [hf] at p'; exact p'.elim
  | err c ks xs e =>
    rw [hf] at p'
    exact fun cls d σ' B' H' s' x q => p' cls d B' H' (fext s' x) q
  | ok fl e =>
    rw [hf] at p'
    cases fl with
    | nx => exact fun σ' B' H' s' x => p' .non B' H' (fext s' x) rfl
    | bk => exact p'.elim
    | ct => exact p'.elim
    | rt r =>
      refine fun v σ' B' H' s' x q => p' v B' H' (fext s' x) ?_
      cases r with
      | val d => exact q
      | mu xs =>
        obtain ⟨a, us, e1, e2, e3, e4, e5, _⟩ := q
        exact ⟨a, us, e1, free e2, e3, e4, e5⟩
      | un => exact q.elim
      | exn _ _ _ => exact q.elim
theorem fn_ok {x qual : Str} {params : Arguments} {body : List Stmt} {scope : Scope} {dvs : List V} {kws : List (Str × V)} {a : Addr} {fd : FuncData} {N ps : List Str} {k np : Nat} {R : List Nat} {f : DenS} (F : FunD K x qual params body scope dvs kws a fd) (S : FnScope N ps scope) (hn : ps.length = np)
    (hbody : ∀ (cdv : Value) (A : Around) (outer : List Env) (s : Shared) (H : Hp) (E : XK), RoomG k (A.deeper (envOfC qual scope s.heap.objs.size a cdv)) →
      SSs (cxOf (L2.CX P w) P w K mg base N qual scope a cdv A outer s H E) (wdOf K mg R) (fun cls d _ H => E cls d H) body f) : FnOkG P w K mg base (L2.CX P w) (k + 1) a fd ps (spOf K mg R np (mkFn np N.length f)) :=
  okG F S (fun vs H Q E h => (spOf_len vs H Q E h).trans hn.symm) fun cdv A outer s H vs Q E hr h => ⟨_, hbody cdv A outer s H E hr, fn_body h⟩
end

theorem Reps.toC {Γ : Wd} {R : List Nat} {B : Hp} {ds : List D} {vs : List V} (h : Reps Γ B ds vs) : Reps (wdOf Γ.K Γ.mg R) B ds vs := Reps.ctx (Γ := Γ) (Γ' := wdOf Γ.K Γ.mg R) rfl rfl ds vs h
theorem Reps.ofC {Γ : Wd} {R : List Nat} {B : Hp} {ds : List D} {vs : List V} (h : Reps (wdOf Γ.K Γ.mg R) B ds vs) : Reps Γ B ds vs := Reps.ctx (Γ := wdOf Γ.K Γ.mg R) (Γ' := Γ) rfl rfl ds vs h
theorem Rep.ofC {Γ : Wd} {R : List Nat} {B : Hp} {d : D} {v : V} (h : Rep (wdOf Γ.K Γ.mg R) B d v) : Rep Γ B d v := Rep.ctx (Γ := wdOf Γ.K Γ.mg R) (Γ' := Γ) rfl rfl d v h
theorem Rep.toC {Γ : Wd} {R : List Nat} {B : Hp} {d : D} {v : V} (h : Rep Γ B d v) : Rep (wdOf Γ.K Γ.mg R) B d v := Rep.ctx (Γ := Γ) (Γ' := wdOf Γ.K Γ.mg R) rfl rfl d v h
theorem XnOk.ofC {Γ : Wd} {R : List Nat} {B H : Hp} {c : Str} {ns : List Str} {xs : List D} {cls : Value} {d : Option Addr} (h : XnOk (wdOf Γ.K Γ.mg R) B H c ns xs cls d) : XnOk Γ B H c ns xs cls d := XnOk.ctx (Γ := wdOf Γ.K Γ.mg R) (Γ' := Γ) rfl rfl h
/-! ### calls -/
def frzS (env : Sto) (j : Nat) : Sto := match env[j]? with
  | some (.mu xs) => env.set j (.val (.lst xs))
  | _ => env
def frzAr : List Ar → Sto → Sto
  | [], env => env
  | .v _ :: as, env => frzAr as env
  | .s j :: as, env => frzAr as (frzS env j)
theorem frzS_get {env : Sto} {j : Nat} (a : Ar) : a.get (frzS env j) = a.get env := by
  unfold frzS
  cases h : env[j]? with
  | none => rfl
  | some en =>
    cases en with
    | mu xs =>
      cases a with
      | v d => rfl
      | s k =>
        show (match (env.set j (.val (.lst xs)))[k]? with | some (.val d) => some d | some (.mu xs) => some (.lst xs) | _ => none) = (match env[k]? with | some (.val d) => some d | some (.mu xs) => some (.lst xs) | _ => none)
        by_cases e : j = k
        · subst e
          rw [List.getElem?_set_self (List.getElem?_eq_some_iff.mp h).1, h]
        · rw [List.getElem?_set_ne e]
    | _ => rfl
theorem frzS_all {env : Sto} {j : Nat} : ∀ as : List Ar, getAll as (frzS env j) = getAll as env
  | [] => rfl
  | a :: as => by
    show (match a.get (frzS env j), getAll as (frzS env j) with | some d, some ds => some (d :: ds) | _, _ => none) = _
    rw [frzS_get, frzS_all as]
    rfl
section
variable {Γ : Wd}
theorem frzS_ok {env : Sto} {σ : L2.St} {B H : Hp} {j : Nat} (s : StOk Γ env σ B H) : ∃ B1, StOk Γ (frzS env j) σ B1 H ∧ Ext Γ env σ B H (frzS env j) σ B1 H ∧ ∀ d v, σ[j]? = some (some v) → (Ar.s j).get env = some d → Rep Γ B1 d v := by
  unfold frzS
  cases h : env[j]? with
  | none =>
    refine ⟨B, s, Ext.refl, fun d v _ g => ?_⟩
    have g' : (match env[j]? with | some (.val d) => some d | some (.mu xs) => some (.lst xs) | _ => none) = some d := g
    rw [h] at g'; cases g'
  | some en =>
    obtain ⟨o, ho, k⟩ := s.slot h
    cases en with
    | mu xs =>
      obtain ⟨q, vs, rfl, hb, hq, r⟩ := k
      refine ⟨upd B q (.lst vs), s.freeze h ho hb hq r, Ext.freeze s h ho hb, fun d v hv g => ?_⟩
      have g' : (match env[j]? with | some (.val d) => some d | some (.mu xs) => some (.lst xs) | _ => none) = some d := g
      rw [h] at g'; cases g'
      rw [ho] at hv; cases hv
      exact ⟨q, vs, rfl, upd_same, Reps.mono (same_upd hb) xs vs r⟩
    | val d =>
      refine ⟨B, s, Ext.refl, fun d' v hv g => ?_⟩
      have g' : (match env[j]? with | some (.val d) => some d | some (.mu xs) => some (.lst xs) | _ => none) = some d' := g
      rw [h] at g'; cases g'
      obtain ⟨u, rfl, r⟩ := k
      rw [ho] at hv; cases hv
      exact r
    | un =>
      refine ⟨B, s, Ext.refl, fun d v _ g => ?_⟩
      have g' : (match env[j]? with | some (.val d) => some d | some (.mu xs) => some (.lst xs) | _ => none) = some d := g
      rw [h] at g'; cases g'
    | exn _ _ _ =>
      refine ⟨B, s, Ext.refl, fun d v _ g => ?_⟩
      have g' : (match env[j]? with | some (.val d) => some d | some (.mu xs) => some (.lst xs) | _ => none) = some d := g
      rw [h] at g'; cases g'
theorem frzAr_ok {σ : L2.St} {H : Hp} : ∀ {as : List Ar} {env : Sto} {B : Hp} {vs : List V} {ds : List D}, StOk Γ env σ B H → ArsOk Γ B σ as vs → getAll as env = some ds →
    ∃ B1, StOk Γ (frzAr as env) σ B1 H ∧ Ext Γ env σ B H (frzAr as env) σ B1 H ∧ Reps Γ B1 ds vs
  | [], env, B, vs, ds, s, h, g => by
    cases g
    exact ⟨B, s, Ext.refl, h⟩
  | a :: as, env, B, vs, ds, s, h, g => by
    obtain ⟨v, r, rfl, e2, e3⟩ := h
    have g' : (match a.get env, getAll as env with | some d, some ds => some (d :: ds) | _, _ => none) = some ds := g
    cases ha : a.get env with
    | none => rw [ha] at g'; cases g'
    | some d =>
      cases hr : getAll as env with
      | none => rw [ha, hr] at g'; cases g'
      | some ds' =>
        rw [ha, hr] at g'
        cases g'
        cases a with
        | v d0 =>
          obtain ⟨B1, s1, x1, k1⟩ := frzAr_ok s e3 hr
          have e : d0 = d := Option.some.inj ha
          subst e
          exact ⟨B1, s1, x1, v, r, rfl, Rep.mono x1.b _ _ e2, k1⟩
        | s j =>
          obtain ⟨B1, s1, x1, k1⟩ := frzS_ok (j := j) s
          obtain ⟨B2, s2, x2, k2⟩ := frzAr_ok s1 (ArsOk.mono x1.b e3) ((frzS_all as).trans hr)
          exact ⟨B2, s2, x1.trans x2, v, r, rfl, Rep.mono x2.b _ _ (k1 d v e2 ha), k2⟩
end
/-- nothing of it stands at an address -/
def D.flat : D → Bool
  | .non => true
  | .bl _ => true
  | .int _ => true
  | .str _ => true
  | _ => false
def Ent.flat : Ent → Bool
  | .val d => d.flat
  | _ => false
theorem flat_rep {Γ : Wd} {B B' : Hp} {d : D} {v : V} (h : d.flat = true) (r : Rep Γ B d v) : Rep Γ B' d v := by
  cases d with
  | tup _ => cases h
  | lst _ => cases h
  | fl _ => cases h
  | ins _ _ _ => cases h
  | fn _ => cases h
  | _ => exact r
/-- a call, everything by value -/
def dCall (g : Fn) (dfl : List D) (fs : DenA) : DenF := fun env => (fs env).bind fun as e => match getAll as e with
  | some ds => (match g ((ds ++ dfl).map .val) with
    | .ok r _ => if r.flat = true then .ok r e else .ok r (frzAr as e)
    | .err c ns xs _ => .err c ns xs (frzAr as e)
    | .bad => .bad)
  | none => .bad
section
variable {X : Cx} {Γ : Wd} {W : WX} {e : Expr} {es : List Expr} {pos p : Pos} {x : Str} {f : Addr} {fd : FuncData} {ps : List Str} {k np : Nat} {R : List Nat} {g : Fn} {ds : List Value} {dvs : List V} {dfl : List D} {fs : DenA}
theorem args_ok {σ : L2.St} {B H : Hp} {ds : List D} {vs : List V} (s : Same B H) (r : Reps (wdOf Γ.K Γ.mg R) B ds vs) : StOk (wdOf Γ.K Γ.mg R) (ds.map .val) (vs.map some) B H where
  same := s
  len := by rw [List.length_map, List.length_map, r.length]
  ent := fun i e o h1 h2 => by
    rw [List.getElem?_map] at h1 h2
    cases hd : ds[i]? with
    | none => rw [hd] at h1; cases h1
    | some d =>
      rw [hd] at h1
      cases h1
      obtain ⟨v, hv, rv⟩ := r.get hd
      rw [hv] at h2
      cases h2
      exact ⟨v, rfl, rv⟩
  dis := fun i j xs ys p h1 => by
    rw [List.getElem?_map] at h1
    cases hd : ds[i]? with
    | none => rw [hd] at h1; cases h1
    | some d => rw [hd] at h1; cases h1
theorem no_own {ds : List D} {σ : L2.St} {p : Addr} : ¬ Own (ds.map .val) σ p := by
  rintro ⟨i, xs, h1, _⟩
  rw [List.getElem?_map] at h1
  cases hd : ds[i]? with
  | none => rw [hd] at h1; cases h1
  | some d => rw [hd] at h1; cases h1
/-- the reading of such a call -/
theorem tCall_of (hK : X.K = Γ.K) (hm : X.mg = Γ.mg) (hdf : ∀ B, Reps Γ B dfl dvs) (ga : ∀ args, args.length ≠ np → g args = .bad) {σ : L2.St} {H : Hp} {Q : VK} (h : tF Γ W (dCall g dfl fs) σ H Q) : tCallSD (spOf X.K X.mg R np g) dvs (WE W) (tAr Γ W fs) σ H Q := by
  obtain ⟨env, B, s, p⟩ := h
  have p' : Post Γ W env σ B H (fun r env' B' H' => ∀ v, RetOk Γ (FreeR Γ env σ H) env' σ B' H' r v → Q v H') ((fs env).bind fun as e => match getAll as e with
    | some ds => (match g ((ds ++ dfl).map .val) with
      | .ok r _ => if r.flat = true then .ok r e else .ok r (frzAr as e)
      | .err c ns xs _ => .err c ns xs (frzAr as e)
      | .bad => .bad)
    | none => .bad) := p
  refine ⟨env, B, s, ?_⟩
  cases hfs : fs env with
  | bad => rw [hfs] at p'; exact p'
  | err c ns xs e1 => rw [hfs] at p'; exact p'
  | ok as e1 =>
    have p2 := p'
    rw [hfs] at p2
    have q0 := Post.bind p2
    intro B1 H1 s1 x1 vs hvs
    have q1 : Post Γ W e1 σ B1 H1 (fun r env' B' H' => ∀ v, RetOk Γ (FreeR Γ env σ H) env' σ B' H' r v → Q v H') (match getAll as e1 with
      | some ds => (match g ((ds ++ dfl).map .val) with
        | .ok r _ => if r.flat = true then .ok r e1 else .ok r (frzAr as e1)
        | .err c ns xs _ => .err c ns xs (frzAr as e1)
        | .bad => .bad)
      | none => .bad) := q0 B1 H1 s1 x1
    cases ha : getAll as e1 with
    | none => rw [ha] at q1; exact q1.elim
    | some ds =>
      rw [ha] at q1
      obtain ⟨B2, s2, x2, r2⟩ := frzAr_ok s1 hvs ha
      have rc : Reps (wdOf Γ.K Γ.mg R) B2 (ds ++ dfl) (vs ++ dvs) := (r2.append (hdf B2)).toC
      have q2 : Post Γ W e1 σ B1 H1 (fun r env' B' H' => ∀ v, RetOk Γ (FreeR Γ env σ H) env' σ B' H' r v → Q v H') (match g ((ds ++ dfl).map .val) with
          | .ok r _ => if r.flat = true then .ok r e1 else .ok r (frzAr as e1)
          | .err c ns xs _ => .err c ns xs (frzAr as e1)
          | .bad => .bad) := q1
      have nlen : ((ds ++ dfl).map Ent.val).length = np := by
        by_cases hz : ((ds ++ dfl).map Ent.val).length = np
        · exact hz
        · rw [ga _ hz] at q2
          exact q2.elim
      rw [hK, hm]
      refine ⟨B2, (ds ++ dfl).map .val, nlen, args_ok (σ := σ) s2.same rc, fun i xs hi => ?_, ?_⟩
      · exfalso
        rw [List.getElem?_map] at hi
        cases hd : (ds ++ dfl)[i]? with
        | none => rw [hd] at hi; cases hi
        | some d => rw [hd] at hi; cases hi
      · skip
        have own_up : ∀ {B' H' : Hp} {pz : Sto}, FExt (wdOf Γ.K Γ.mg R) ((ds ++ dfl).map .val) (vs ++ dvs) B2 H1 pz B' H' → Grow B2 H1 B' H' := fun {B' H' pz} fx =>
          ⟨fx.b, fun p o hp => (fx.f p o hp no_own).1, fx.s, fun p o hp => (fx.f p o hp no_own).2⟩
        cases hg : g ((ds ++ dfl).map .val) with
        | bad => rw [hg] at q2; exact q2.elim
        | err c ns xs pz =>
          rw [hg] at q2
          intro cls d B' H' fx xn
          have gr := own_up fx
          exact q2 cls d B' H' (s2.growG gr) (x2.trans (Ext.growG gr)) xn.ofC
        | ok r pz =>
          rw [hg] at q2
          intro v B' H' fx rv
          have gr := own_up fx
          by_cases hfl : r.flat = true
          · have q3 : Post Γ W e1 σ B1 H1 (fun r env' B' H' => ∀ v, RetOk Γ (FreeR Γ env σ H) env' σ B' H' r v → Q v H') (.ok r e1) := by
              rw [← if_pos (c := r.flat = true) (t := Res.ok r e1) (e := Res.ok r (frzAr as e1)) hfl]
              exact q2
            have gr1 : Grow B1 H1 B1 H' := ⟨Same.refl _, gr.h, s1.same.trans gr.h, fun _ _ _ z => z⟩
            refine q3 B1 H' (s1.growG gr1) (Ext.growG gr1) v ?_
            cases r with
            | val d => exact flat_rep hfl (Rep.ofC rv)
            | _ => cases hfl
          · have q3 : Post Γ W e1 σ B1 H1 (fun r env' B' H' => ∀ v, RetOk Γ (FreeR Γ env σ H) env' σ B' H' r v → Q v H') (.ok r (frzAr as e1)) := by
              rw [← if_neg (c := r.flat = true) (t := Res.ok r e1) (e := Res.ok r (frzAr as e1)) hfl]
              exact q2
            refine q3 B' H' (s2.growG gr) (x2.trans (Ext.growG gr)) v ?_
            cases r with
            | val d => exact Rep.ofC rv
            | mu xs =>
              obtain ⟨a, us, e1', e2', e3', e4', e5'⟩ := rv
              exact ⟨a, us, e1', .inl (x1.h0 a e2'), e3', e4', Reps.ofC e5', fun z => s2.own_tracked z e2'⟩
            | un => exact rv.elim
            | exn _ _ _ => exact rv.elim
theorem sCall (hK : X.K = Γ.K) (hm' : X.mg = Γ.mg) (F : FnOkG X.prog X.w X.K X.mg X.base (L2.CX X.prog X.w) k f fd ps (spOf X.K X.mg R np g)) (hr : RoomG k X.A) (gl : Gl X x) (hm : X.mg x = some (.ref f)) (hk : PySem.W.keepIn X.K (.ref f) = true) (hb : Binds X.K fd ps ds) (hd : Vals dvs ds) (hdf : ∀ B, Reps Γ B dfl dvs) (tk : Takes X W)
    (ha : SA X Γ W (e :: es) fs) (ga : ∀ args, args.length ≠ np → g args = .bad)
    (hdb : (x == ("__debug__" : Str)) = false := by decide) (he : starEach (e :: es) X.env = (false, eval e X.env) :: starEach es X.env := by rfl) (hpl : (backTo pos (starEach es X.env)).any (·.1) = false := by rfl) :
    SF X Γ W (.Call (.Name x p) (e :: es) [] pos) (dCall g dfl fs) := imE (pe_callSG F hr gl hm hk hb hd (fun σ => passAt tk σ) ha hdb he hpl) fun σ H Q h => tCall_of hK hm' hdf ga h
theorem EntOk.ofC {B H : Hp} {en : Ent} {o : Option V} (h : EntOk (wdOf Γ.K Γ.mg R) B H en o) : EntOk Γ B H en o := by
  cases en with
  | un => trivial
  | val d =>
    obtain ⟨v, e1, r⟩ := h
    exact ⟨v, e1, Rep.ofC r⟩
  | mu xs =>
    obtain ⟨q, vs, e1, e2, e3, r⟩ := h
    exact ⟨q, vs, e1, e2, e3, Reps.ofC r⟩
  | exn c ns xs =>
    obtain ⟨dd, vs, e1, ⟨e2, _⟩, _⟩ := h
    cases e2
/-- no argument -/
def dCall0 (g : Fn) (dfl : List D) : DenF := fun env => match g (dfl.map .val) with
  | .ok r _ => .ok r env
  | .err c ns xs _ => .err c ns xs env
  | .bad => .bad
theorem pe_call0SD {E : L2.St → XK} {sp : Sp} {CX : CXT} (F : FnOkG X.prog X.w X.K X.mg X.base CX k f fd ps sp) (hr : RoomG k X.A) (hg : Gl X x) (hm : X.mg x = some (.ref f)) (hk : PySem.W.keepIn X.K (.ref f) = true) (hb : Binds X.K fd ps ds) (hd : Vals dvs ds) (hx : ∀ σ, PassesAt CX X σ (E σ))
    (hdb : (x == ("__debug__" : Str)) = false := by decide) : PE X (.Call (.Name x p) [] [] pos) (tCallSD sp dvs E tNil) := by
  refine ⟨fun pins s σ H Q I h => ?_⟩
  refine wpAny_Call_Name_kw (ld_glob I hg hm ?_ hdb)
  exact PySem.W.callWith_K0 I.kIn hk (run_fnSG (us := []) F hr hb hd (hx σ) I .nil h)
theorem sCall0 (hK : X.K = Γ.K) (hm' : X.mg = Γ.mg) (F : FnOkG X.prog X.w X.K X.mg X.base (L2.CX X.prog X.w) k f fd ps (spOf X.K X.mg R np g)) (hr : RoomG k X.A) (gl : Gl X x) (hm : X.mg x = some (.ref f)) (hk : PySem.W.keepIn X.K (.ref f) = true) (hb : Binds X.K fd ps ds) (hd : Vals dvs ds) (hdf : ∀ B, Reps Γ B dfl dvs) (tk : Takes X W)
    (ga : ∀ args, args.length ≠ np → g args = .bad) (hdb : (x == ("__debug__" : Str)) = false := by decide) :
    SF X Γ W (.Call (.Name x p) [] [] pos) (dCall0 g dfl) := imE (pe_call0SD F hr gl hm hk hb hd (fun σ => passAt tk σ) hdb) fun σ H Q ⟨env, B, s, pp⟩ => by
  have p' : Post Γ W env σ B H (fun r env' B' H' => ∀ v, RetOk Γ (FreeR Γ env σ H) env' σ B' H' r v → Q v H') (match g (dfl.map .val) with
    | .ok r _ => .ok r env
    | .err c ns xs _ => .err c ns xs env
    | .bad => .bad) := pp
  have nlen : (dfl.map Ent.val).length = np := by
    by_cases hz : (dfl.map Ent.val).length = np
    · exact hz
    · rw [ga _ hz] at p'
      exact p'.elim
  show spOf X.K X.mg R np g ([] ++ dvs) H Q (WE W σ)
  rw [hK, hm']
  refine ⟨B, dfl.map .val, nlen, args_ok (σ := σ) s.same (hdf B).toC, fun i xs hi => ?_, ?_⟩
  · exfalso
    rw [List.getElem?_map] at hi
    cases hd : dfl[i]? with
    | none => rw [hd] at hi; cases hi
    | some d => rw [hd] at hi; cases hi
  · have own_up : ∀ {B' H' : Hp} {pz : Sto}, FExt (wdOf Γ.K Γ.mg R) (dfl.map .val) ([] ++ dvs) B H pz B' H' → Grow B H B' H' := fun {B' H' pz} fx =>
      ⟨fx.b, fun p o hp => (fx.f p o hp no_own).1, fx.s, fun p o hp => (fx.f p o hp no_own).2⟩
    cases hg : g (dfl.map .val) with
    | bad => rw [hg] at p'; exact p'.elim
    | err c ns xs pz =>
      rw [hg] at p'
      intro cls d B' H' fx xn
      have gr := own_up fx
      exact p' cls d B' H' (s.growG gr) (Ext.growG gr) xn.ofC
    | ok r pz =>
      rw [hg] at p'
      intro v B' H' fx rv
      have gr := own_up fx
      refine p' B' H' (s.growG gr) (Ext.growG gr) v ?_
      cases r with
      | val d => exact Rep.ofC rv
      | mu xs =>
        obtain ⟨a, us, e1', e2', e3', e4', e5'⟩ := rv
        exact ⟨a, us, e1', .inl e2', e3', e4', Reps.ofC e5', fun z => s.own_tracked z e2'⟩
      | un => exact rv.elim
      | exn _ _ _ => exact rv.elim
/-- the first argument by its slot: what the def does to it is seen -/
def hasS (j : Nat) : List Ar → Bool
  | [] => false
  | .v _ :: as => hasS j as
  | .s i :: as => i == j || hasS j as
def dCallR (g : Fn) (j : Nat) (dfl : List D) (fs : DenA) : DenF := fun env => match env[j]? with
  | some (.mu _) => (fs env).bind fun as e => (match e[j]?, getAll as e, hasS j as with
    | some (.mu xs), some ds, false => (match g (.mu xs :: (ds ++ dfl).map .val) with
      | .ok r (p0 :: _) => .ok r ((frzAr as e).set j p0)
      | .err c ns ys (p0 :: _) => .err c ns ys ((frzAr as e).set j p0)
      | _ => .bad)
    | _, _, _ => .bad)
  | some (.val d) => (fs env).bind fun as e => (match getAll as e with
    | some ds => (match g (.val d :: (ds ++ dfl).map .val) with
      | .ok r _ => .ok r (frzAr as e)
      | .err c ns ys _ => .err c ns ys (frzAr as e)
      | _ => .bad)
    | none => .bad)
  | _ => .bad
theorem frzAr_not {j : Nat} : ∀ {as : List Ar} {e : Sto}, hasS j as = false → (frzAr as e)[j]? = e[j]?
  | [], e, _ => rfl
  | .v _ :: as, e, h => frzAr_not (as := as) h
  | .s i :: as, e, h => by
    have h' : (i == j || hasS j as) = false := h
    obtain ⟨h1, h2⟩ := Bool.or_eq_false_iff.mp h'
    have ne : i ≠ j := fun z => by rw [z] at h1; simp at h1
    show (frzAr as (frzS e i))[j]? = e[j]?
    rw [frzAr_not (as := as) h2]
    unfold frzS
    cases he : e[i]? with
    | none => rfl
    | some en =>
      cases en with
      | mu xs => exact List.getElem?_set_ne ne
      | _ => rfl
theorem args_okR {σ : L2.St} {B H : Hp} {ds : List D} {vs : List V} {xs : List D} {q : Addr} {us : List V} (s : Same B H) (hb : B q = none) (hq : H q = some (.lst us)) (rx : Reps (wdOf Γ.K Γ.mg R) B xs us) (r : Reps (wdOf Γ.K Γ.mg R) B ds vs) :
    StOk (wdOf Γ.K Γ.mg R) (.mu xs :: ds.map .val) ((V.ref q :: vs).map some) B H where
  same := s
  len := by simp [r.length]
  ent := fun i e o h1 h2 => by
    cases i with
    | zero =>
      cases h1
      cases h2
      exact ⟨q, us, rfl, hb, hq, rx⟩
    | succ i =>
      have h1' : (ds.map Ent.val)[i]? = some e := by simpa using h1
      have h2' : (vs.map some)[i]? = some o := by simpa using h2
      exact (args_ok (Γ := Γ) (R := R) (σ := σ) s r).ent i e o h1' h2'
  dis := fun i j ys zs p h1 h2 h3 h4 => by
    have no : ∀ {i : Nat} {ys : List D}, (Ent.mu xs :: ds.map Ent.val)[i + 1]? = some (.mu ys) → False := fun {i ys} h => by
      have h' : (ds.map Ent.val)[i]? = some (.mu ys) := by simpa using h
      rw [List.getElem?_map] at h'
      cases hd : ds[i]? with
      | none => rw [hd] at h'; cases h'
      | some d => rw [hd] at h'; cases h'
    cases i with
    | zero => cases j with
      | zero => rfl
      | succ j => exact (no h2).elim
    | succ i => exact (no h1).elim
theorem own_R {ds : List D} {vs : List V} {xs : List D} {q p : Addr} (h : Own (.mu xs :: ds.map .val) ((V.ref q :: vs).map some) p) : p = q := by
  obtain ⟨i, ys, h1, h2⟩ := h
  cases i with
  | zero => cases h2; rfl
  | succ i =>
    have h' : (ds.map Ent.val)[i]? = some (.mu ys) := by simpa using h1
    rw [List.getElem?_map] at h'
    cases hd : ds[i]? with
    | none => rw [hd] at h'; cases h'
    | some d => rw [hd] at h'; cases h'
/-- behind such a call -/
theorem afterR {e : Sto} {σ : L2.St} {B1 H1 B' H' : Hp} {j : Nat} {xs : List D} {q : Addr} {ds : List D} {vs : List V} {p0 : Ent} {rest : List Ent} (s : StOk Γ e σ B1 H1) (hj : e[j]? = some (.mu xs)) (hs : σ[j]? = some (some (.ref q)))
    (fx : FExt (wdOf Γ.K Γ.mg [0]) (.mu xs :: ds.map .val) (.ref q :: vs) B1 H1 (p0 :: rest) B' H') : StOk Γ (e.set j p0) σ B' H' ∧ Ext Γ e σ B1 H1 (e.set j p0) σ B' H' ∧ ∀ p, Own (e.set j p0) σ p → H1 p ≠ none := by
  obtain ⟨pe, hp0, k0, k1⟩ := fx.r 0 (List.mem_singleton.mpr rfl) xs q rfl rfl
  have ep : p0 = pe := Option.some.inj hp0
  subst ep
  have k0 : EntOk Γ B' H' p0 (some (.ref q)) := k0.ofC
  obtain ⟨hb, us, hq⟩ := s.own_none ⟨j, xs, hj, hs⟩
  have fr : ∀ p o, H1 p = some o → p ≠ q → H' p = some o ∧ (B1 p = none → B' p = none) := fun p o hp n => fx.f p o hp fun z => n (own_R z)
  have own2 : ∀ p, Own (e.set j p0) σ p → Own e σ p := fun p ⟨i, ys, h1, h2⟩ => by
    rcases Sto.set_get h1 with ⟨rfl, _⟩ | ⟨n, z⟩
    · exact ⟨j, xs, hj, by rw [hs] at h2 ⊢; exact h2⟩
    · exact ⟨i, ys, z, h2⟩
  refine ⟨⟨fx.s, by rw [List.length_set]; exact s.len, fun i en o h1 h2 => ?_, fun i l ys zs p h1 h2 h3 h4 => ?_⟩, ⟨fx.b, fx.t, fun p o hp n => ?_, fun i hi => ⟨rfl, fun ys p h1 h2 => ?_⟩⟩, fun p hp => s.own_tracked (own2 p hp)⟩
  · rcases Sto.set_get h1 with ⟨rfl, rfl⟩ | ⟨n, z⟩
    · rw [hs] at h2; cases h2
      exact k0
    · have kk := s.ent i en o z h2
      cases en with
      | un => trivial
      | val d =>
        obtain ⟨v, e1, r⟩ := kk
        exact ⟨v, e1, Rep.mono fx.b d v r⟩
      | mu ys =>
        obtain ⟨a, ws, e1, e2, e3, r⟩ := kk
        subst e1
        have na : a ≠ q := fun z2 => by
          subst z2
          exact n (s.dis j i xs ys a hj z hs h2)
        obtain ⟨f1, f2⟩ := fr a _ e3 na
        exact ⟨a, ws, rfl, f2 e2, f1, Reps.mono fx.b ys ws r⟩
      | exn c ns ys =>
        obtain ⟨dd, ws, e1, e2, e3, e4, e5⟩ := kk
        have na : dd ≠ q := fun z2 => by
          subst z2
          rw [hq] at e3
          cases e3
        exact ⟨dd, ws, e1, e2, (fr dd _ e3 na).1, e4, Reps.mono fx.b ys ws e5⟩
  · have m : ∀ {i : Nat} {zs : List D}, (e.set j p0)[i]? = some (.mu zs) → ∃ us, e[i]? = some (.mu us) := fun {i zs} h => by
      rcases Sto.set_get h with ⟨rfl, _⟩ | ⟨_, z⟩
      · exact ⟨xs, hj⟩
      · exact ⟨_, z⟩
    obtain ⟨u1, m1⟩ := m h1
    obtain ⟨u2, m2⟩ := m h2
    exact s.dis i l u1 u2 p m1 m2 h3 h4
  · have np : p ≠ q := fun z => n (z ▸ ⟨j, xs, hj, hs⟩)
    obtain ⟨f1, f2⟩ := fr p o hp np
    exact ⟨f1, f2, fun z => n (own2 p z)⟩
  · by_cases z : j = i
    · subst z
      rw [hs] at h2
      cases h2
      rcases k1 with ⟨zs, k⟩ | k
      · subst k
        exact .inl ⟨zs, List.getElem?_set_self (List.getElem?_eq_some_iff.mp h1).1⟩
      · exact .inr k
    · exact .inl ⟨ys, by rw [List.getElem?_set_ne z]; exact h1⟩
theorem sCallR {e0 : Expr} {j : Nat} (hK : X.K = Γ.K) (hm' : X.mg = Γ.mg) (F : FnOkG X.prog X.w X.K X.mg X.base (L2.CX X.prog X.w) k f fd ps (spOf X.K X.mg [0] np g)) (hr : RoomG k X.A) (gl : Gl X x) (hm : X.mg x = some (.ref f)) (hk : PySem.W.keepIn X.K (.ref f) = true) (hb : Binds X.K fd ps ds) (hd : Vals dvs ds) (hdf : ∀ B, Reps Γ B dfl dvs) (tk : Takes X W)
    (h0 : PE X e0 (tVar j)) (ha : SA X Γ W es fs) (ga : ∀ args, args.length ≠ np → g args = .bad)
    (hdb : (x == ("__debug__" : Str)) = false := by decide) (he : starEach (e0 :: es) X.env = (false, eval e0 X.env) :: starEach es X.env := by rfl) (hpl : (backTo pos (starEach es X.env)).any (·.1) = false := by rfl) :
    SF X Γ W (.Call (.Name x p) (e0 :: es) [] pos) (dCallR g j dfl fs) := imE (pe_callSG F hr gl hm hk hb hd (fun σ => passAt tk σ) (pa_cons h0 ha he) hdb he hpl) fun σ H Q ⟨env, B, s, pp⟩ => by
  have p' : Post Γ W env σ B H (fun r env' B' H' => ∀ v, RetOk Γ (FreeR Γ env σ H) env' σ B' H' r v → Q v H') (match env[j]? with
    | some (.mu _) => (fs env).bind fun as e => (match e[j]?, getAll as e, hasS j as with
      | some (.mu xs), some ds, false => (match g (.mu xs :: (ds ++ dfl).map .val) with
        | .ok r (p0 :: _) => .ok r ((frzAr as e).set j p0)
        | .err c ns ys (p0 :: _) => .err c ns ys ((frzAr as e).set j p0)
        | _ => .bad)
      | _, _, _ => .bad)
    | some (.val d) => (fs env).bind fun as e => (match getAll as e with
      | some ds => (match g (.val d :: (ds ++ dfl).map .val) with
        | .ok r _ => .ok r (frzAr as e)
        | .err c ns ys _ => .err c ns ys (frzAr as e)
        | _ => .bad)
      | none => .bad)
    | _ => .bad) := pp
  cases hh : env[j]? with
  | none => rw [hh] at p'; exact p'.elim
  | some en =>
    rw [hh] at p'
    obtain ⟨o, ho, kk⟩ := s.slot hh
    cases en with
    | un => exact p'.elim
    | exn _ _ _ => exact p'.elim
    | mu xs0 =>
      obtain ⟨q, us0, rfl, hb0, hq0, r0⟩ := kk
      refine ⟨_, ho, env, B, s, p'.bind.mono fun as e1 B1 H1 s1 x1 q1 vs hvs => ?_⟩
      cases hj : e1[j]? with
      | none => rw [hj] at q1; exact q1.elim
      | some en1 =>
        cases en1 with
        | un => rw [hj] at q1; exact q1.elim
        | val _ => rw [hj] at q1; exact q1.elim
        | exn _ _ _ => rw [hj] at q1; exact q1.elim
        | mu xs =>
          cases hga : getAll as e1 with
          | none => rw [hj, hga] at q1; exact q1.elim
          | some ds' =>
            cases hhs : hasS j as with
            | true => rw [hj, hga, hhs] at q1; exact q1.elim
            | false =>
              rw [hj, hga, hhs] at q1
              have q2 : Post Γ W e1 σ B1 H1 (fun r env' B' H' => ∀ v, RetOk Γ (FreeR Γ env σ H) env' σ B' H' r v → Q v H') (match g (.mu xs :: (ds' ++ dfl).map .val) with
                | .ok r (p0 :: _) => .ok r ((frzAr as e1).set j p0)
                | .err c ns ys (p0 :: _) => .err c ns ys ((frzAr as e1).set j p0)
                | _ => .bad) := q1
              obtain ⟨B2, s2, x2, r2⟩ := frzAr_ok s1 hvs hga
              have hj2 : (frzAr as e1)[j]? = some (.mu xs) := (frzAr_not hhs).trans hj
              obtain ⟨o2, ho2, kk2⟩ := s2.slot hj2
              rw [ho] at ho2
              cases ho2
              obtain ⟨q', us, e1', hb2, hq2, rx⟩ := kk2
              cases e1'
              have nlen : (Ent.mu xs :: (ds' ++ dfl).map Ent.val).length = np := by
                by_cases hz : (Ent.mu xs :: (ds' ++ dfl).map Ent.val).length = np
                · exact hz
                · rw [ga _ hz] at q2
                  exact q2.elim
              show spOf X.K X.mg [0] np g (V.ref q :: vs ++ dvs) H1 Q (WE W σ)
              rw [hK, hm']
              refine ⟨B2, .mu xs :: (ds' ++ dfl).map .val, nlen, args_okR (σ := σ) s2.same hb2 hq2 rx.toC (r2.append (hdf B2)).toC, fun i ys hi => ?_, ?_⟩
              · cases i with
                | zero => exact List.mem_singleton.mpr rfl
                | succ i =>
                  exfalso
                  have hi' : ((ds' ++ dfl).map Ent.val)[i]? = some (.mu ys) := by simpa using hi
                  rw [List.getElem?_map] at hi'
                  cases hd : (ds' ++ dfl)[i]? with
                  | none => rw [hd] at hi'; cases hi'
                  | some d => rw [hd] at hi'; cases hi'
              · cases hg : g (.mu xs :: (ds' ++ dfl).map .val) with
                | bad => rw [hg] at q2; exact q2.elim
                | err c ns ys pz =>
                  rw [hg] at q2
                  cases pz with
                  | nil => exact q2.elim
                  | cons p0 pr =>
                    intro cls d B' H' fx xn
                    obtain ⟨s3, x3, _⟩ := afterR s2 hj2 ho fx
                    exact q2 cls d B' H' s3 (x2.trans x3) xn.ofC
                | ok r pz =>
                  rw [hg] at q2
                  cases pz with
                  | nil => exact q2.elim
                  | cons p0 pr =>
                    intro v B' H' fx rv
                    obtain ⟨s3, x3, t3⟩ := afterR s2 hj2 ho fx
                    refine q2 B' H' s3 (x2.trans x3) v ?_
                    cases r with
                    | val d => exact Rep.ofC rv
                    | mu zs =>
                      obtain ⟨a, ws, e1', e2', e3', e4', e5'⟩ := rv
                      exact ⟨a, ws, e1', .inl (x1.h0 a e2'), e3', e4', Reps.ofC e5', fun z => t3 a z e2'⟩
                    | un => exact rv.elim
                    | exn _ _ _ => exact rv.elim
    | val d0 =>
      obtain ⟨v0, rfl, rv0⟩ := kk
      refine ⟨v0, ho, env, B, s, p'.bind.mono fun as e1 B1 H1 s1 x1 q1 vs hvs => ?_⟩
      cases hga : getAll as e1 with
      | none => rw [hga] at q1; exact q1.elim
      | some ds' =>
        rw [hga] at q1
        have q2 : Post Γ W e1 σ B1 H1 (fun r env' B' H' => ∀ v, RetOk Γ (FreeR Γ env σ H) env' σ B' H' r v → Q v H') (match g (.val d0 :: (ds' ++ dfl).map .val) with
          | .ok r _ => .ok r (frzAr as e1)
          | .err c ns ys _ => .err c ns ys (frzAr as e1)
          | _ => .bad) := q1
        obtain ⟨B2, s2, x2, r2⟩ := frzAr_ok s1 hvs hga
        have nlen : (Ent.val d0 :: (ds' ++ dfl).map Ent.val).length = np := by
          by_cases hz : (Ent.val d0 :: (ds' ++ dfl).map Ent.val).length = np
          · exact hz
          · rw [ga _ hz] at q2
            exact q2.elim
        show spOf X.K X.mg [0] np g (v0 :: vs ++ dvs) H1 Q (WE W σ)
        rw [hK, hm']
        have rc : Reps (wdOf Γ.K Γ.mg [0]) B2 (d0 :: (ds' ++ dfl)) (v0 :: (vs ++ dvs)) := ⟨v0, vs ++ dvs, rfl, Rep.toC (Rep.mono (x1.b.trans x2.b) d0 v0 rv0), (r2.append (hdf B2)).toC⟩
        refine ⟨B2, (d0 :: (ds' ++ dfl)).map .val, nlen, args_ok (σ := σ) s2.same rc, fun i ys hi => ?_, ?_⟩
        · exfalso
          rw [List.getElem?_map] at hi
          cases hd : (d0 :: (ds' ++ dfl))[i]? with
          | none => rw [hd] at hi; cases hi
          | some d => rw [hd] at hi; cases hi
        · have own_up : ∀ {B' H' : Hp} {pz : Sto}, FExt (wdOf Γ.K Γ.mg [0]) ((d0 :: (ds' ++ dfl)).map .val) (v0 :: vs ++ dvs) B2 H1 pz B' H' → Grow B2 H1 B' H' := fun {B' H' pz} fx =>
            ⟨fx.b, fun p o hp => (fx.f p o hp no_own).1, fx.s, fun p o hp => (fx.f p o hp no_own).2⟩
          show PostF _ _ _ _ _ _ _ (g (.val d0 :: (ds' ++ dfl).map .val))
          cases hg : g (.val d0 :: (ds' ++ dfl).map .val) with
          | bad => rw [hg] at q2; exact q2.elim
          | err c ns ys pz =>
            rw [hg] at q2
            intro cls d B' H' fx xn
            have gr := own_up fx
            exact q2 cls d B' H' (s2.growG gr) (x2.trans (Ext.growG gr)) xn.ofC
          | ok r pz =>
            rw [hg] at q2
            intro v B' H' fx rv
            have gr := own_up fx
            refine q2 B' H' (s2.growG gr) (x2.trans (Ext.growG gr)) v ?_
            cases r with
            | val d => exact Rep.ofC rv
            | mu zs =>
              obtain ⟨a, ws, e1', e2', e3', e4', e5'⟩ := rv
              exact ⟨a, ws, e1', .inl (x1.h0 a e2'), e3', e4', Reps.ofC e5', fun z => s2.own_tracked z e2'⟩
            | un => exact rv.elim
            | exn _ _ _ => exact rv.elim
end
end Ev

set_option Elab.async false
set_option linter.all false
set_option maxRecDepth 100000
set_option maxHeartbeats 4000000
namespace Ev
open PySem PySem.Spec PyProof.Rows L2

/-! ### an exception class with a plain __init__ -/
/-- what __init__(self, y, ..) with self.f = y, .. leaves -/
def spInit (C : Addr) (ns : List Str) : Sp := fun vs H Q _ => ∃ a ys, vs = .ref a :: ys ∧ ys.length = ns.length ∧ H a = some (exo a C none) ∧
  ∀ dx H2, H dx = none → dx ≠ a → H2 a = some (exo a C (some dx)) → H2 dx = some (exd dx (ns.zip ys).reverse) → (∀ b, b ≠ a → b ≠ dx → H2 b = H b) → Q .non H2
section
variable {P : Program} {w : World} {K : PySem.W.Frag} {mg : Str → Option Value} {base : Heap}
theorem init1 {x qual f s1 y1 : Str} {params : Arguments} {scope : Scope} {dvs : List V} {kws : List (Str × V)} {a C : Addr} {fd : FuncData} {p1 p2 p3 p4 : Pos} (F : FunD K x qual params [.Assign [.Attribute (.Name s1 p1) f p2] (.Name y1 p3) p4] scope dvs kws a fd) (S : FnScope [s1, y1] [s1, y1] scope)
    (T : OexC K C) (hf : PySem.W.findIn K (.ref C) f = some none) (hs1 : Vis scope s1 := by first | exact Or.inl rfl | exact Or.inr (Or.inl rfl)) (hy1 : Vis scope y1 := by first | exact Or.inl rfl | exact Or.inr (Or.inl rfl))
    (d1 : (s1 == ("__debug__" : Str)) = false := by decide) (d2 : (s1 == ("__classdict__" : Str)) = false := by decide) (d3 : (y1 == ("__debug__" : Str)) = false := by decide) (d4 : (y1 == ("__classdict__" : Str)) = false := by decide) :
    FnOk P w K mg base CX0 1 a fd [s1, y1] (spInit C [f]) := by
  refine F.ok S (fun vs H Q E h => ?_) (fun cdv A outer s H vs Q E hr h => ?_)
  · obtain ⟨e, ys, rfl, h1, _⟩ := h
    simp at h1
    simp [h1]
  · obtain ⟨e, ys, rfl, h1, h2, h3⟩ := h
    match ys, h1 with
    | [y], _ =>
      refine ⟨_, pss_one (ps_ost (pe_var (i := 0) rfl hs1 d1 d2) (pe_var (i := 1) rfl hy1 d3 d4)), ?_⟩
      refine ⟨y, rfl, .ref e, rfl, e, C, rfl, T, hf, .inl ⟨h2, fun dx hd hn => ?_⟩⟩
      refine h3 dx _ hd hn upd_same ?_ (fun b hb hb2 => ?_)
      · rw [upd_ne hn, upd_same]
        rfl
      · rw [upd_ne hb, upd_ne hb2]
theorem init2 {x qual f f2 s1 y1 y2 : Str} {params : Arguments} {scope : Scope} {dvs : List V} {kws : List (Str × V)} {a C : Addr} {fd : FuncData} {p1 p2 p3 p4 q1 q2 q3 q4 : Pos} (F : FunD K x qual params [.Assign [.Attribute (.Name s1 p1) f p2] (.Name y1 p3) p4, .Assign [.Attribute (.Name s1 q1) f2 q2] (.Name y2 q3) q4] scope dvs kws a fd) (S : FnScope [s1, y1, y2] [s1, y1, y2] scope)
    (T : OexC K C) (hf : PySem.W.findIn K (.ref C) f = some none) (hf2 : PySem.W.findIn K (.ref C) f2 = some none) (hs1 : Vis scope s1 := by first | exact Or.inl rfl | exact Or.inr (Or.inl rfl)) (hy1 : Vis scope y1 := by first | exact Or.inl rfl | exact Or.inr (Or.inl rfl)) (hy2 : Vis scope y2 := by first | exact Or.inl rfl | exact Or.inr (Or.inl rfl))
    (d1 : (s1 == ("__debug__" : Str)) = false := by decide) (d2 : (s1 == ("__classdict__" : Str)) = false := by decide) (d3 : (y1 == ("__debug__" : Str)) = false := by decide) (d4 : (y1 == ("__classdict__" : Str)) = false := by decide) (d5 : (y2 == ("__debug__" : Str)) = false := by decide) (d6 : (y2 == ("__classdict__" : Str)) = false := by decide) :
    FnOk P w K mg base CX0 1 a fd [s1, y1, y2] (spInit C [f, f2]) := by
  refine F.ok S (fun vs H Q E h => ?_) (fun cdv A outer s H vs Q E hr h => ?_)
  · obtain ⟨e, ys, rfl, h1, _⟩ := h
    simp at h1
    simp [h1]
  · obtain ⟨e, ys, rfl, h1, h2, h3⟩ := h
    match ys, h1 with
    | [y, z], _ =>
      refine ⟨_, pss_cons (ps_ost (pe_var (i := 0) rfl hs1 d1 d2) (pe_var (i := 1) rfl hy1 d3 d4)) (pss_one (ps_ost (pe_var (i := 0) rfl hs1 d1 d2) (pe_var (i := 2) rfl hy2 d5 d6))), ?_⟩
      refine ⟨y, rfl, .ref e, rfl, e, C, rfl, T, hf, .inl ⟨h2, fun dx hd hn => ?_⟩⟩
      refine ⟨z, rfl, .ref e, rfl, e, C, rfl, T, hf2, .inr ⟨dx, [(f, y)], upd_same, by rw [upd_ne hn, upd_same], by simp, ?_⟩⟩
      refine h3 dx _ hd hn (by rw [upd_ne (Ne.symm hn), upd_same]) upd_same (fun b hb hb2 => ?_)
      rw [upd_ne hb2, upd_ne hb, upd_ne hb2]
end
section
variable {X : Cx} {Γ : Wd} {W : WX} {e : Expr} {es : List Expr} {pos p : Pos} {x : Str}
/-- raise C(e, ..) -/
def dRaise (c : Str) (ns : List Str) (fs : List DenV) : DenS := fun env => (dVs fs env).bind fun ds e => if ds.length = ns.length then .err c ns.reverse ds.reverse e else .bad
theorem zip_rev {α β : Type} : ∀ (xs : List α) (ys : List β), xs.length = ys.length → (xs.zip ys).reverse = xs.reverse.zip ys.reverse
  | [], [], _ => rfl
  | [], _ :: _, h => by cases h
  | _ :: _, [], h => by cases h
  | x :: xs, y :: ys, h => by
    have h' : xs.length = ys.length := Nat.succ.inj h
    rw [List.zip_cons_cons, List.reverse_cons, List.reverse_cons, List.reverse_cons, zip_rev xs ys h', List.zip_append (by rw [List.length_reverse, List.length_reverse, h'])]
    rfl
theorem Reps.reverse {B : Hp} : ∀ {ds : List D} {vs : List V}, Reps Γ B ds vs → Reps Γ B ds.reverse vs.reverse
  | [], vs, h => by
    have h' : vs = [] := h
    rw [h']
    rfl
  | d :: ds, vs, h => by
    obtain ⟨v, r, rfl, e2, e3⟩ := h
    rw [List.reverse_cons, List.reverse_cons]
    exact (Reps.reverse e3).append (Reps.one e2)
theorem sRaise {C fI : Addr} {k : Nat} {fd : FuncData} {ps : List Str} {ns : List Str} {fs : List DenV} {p9 : Pos} (hc : X.calm = true) (tk : Takes X W) (T : OexC X.K C) (iC : PySem.W.findIn X.K (.ref C) "__init__" = some (some (.ref fI))) (tI : PySem.W.typeIn X.K (.ref fI) = some (.type "function"))
    (F1 : FnOk X.prog X.w X.K X.mg X.base CX0 k fI fd ps (spInit C ns)) (hr : RoomG (k + 1) X.A) (hb : Binds X.K fd ps []) (hg : Gl X x) (hm : X.mg x = some (.ref C)) (hm' : X.mg = Γ.mg) (ha : SVs X Γ W (e :: es) (dVs fs)) (hz : ns.length ≤ 100)
    (hdb : (x == ("__debug__" : Str)) = false := by decide) (he : starEach (e :: es) X.env = (false, eval e X.env) :: starEach es X.env := by rfl) (hpl : (backTo p (starEach es X.env)).any (·.1) = false := by rfl) :
    SS X Γ W (.Raise (some (.Call (.Name x pos) (e :: es) [] p)) none p9) (dRaise x ns fs) :=
  imS (ps_raise hc tk (pmk_oex T iC tI F1 hr.room hb .nil pass0 hg hm ha hdb he hpl)) fun Q σ H ⟨env, B, s, pp⟩ => by
    refine ⟨env, B, s, pp.bind.mono fun ds e1 B1 H1 s1 x1 q1 vs hvs => ?_⟩
    obtain ⟨x', q⟩ := q1
    split at q
    · rename_i hl
      have hlv : vs.length = ns.length := hvs.length.symm.trans hl
      refine ⟨by omega, fun a ha0 => ?_⟩
      refine ⟨a, vs, by rw [List.append_nil], hlv, upd_same, fun dx H2 hd hn k1 k2 k3 => ⟨rfl, dx, _, k1, k2, ?_, ?_⟩⟩
      · rw [upd_ne hn] at hd
        exact hd
      · rw [upd_ne hn] at hd
        have same : ∀ b o, H1 b = some o → upd (del H2 a) dx (.xd (ns.zip vs).reverse) b = some o := fun b o hb => by
          have nb : b ≠ dx := ne_of_none hb hd
          have na : b ≠ a := ne_of_none hb ha0
          rw [upd_ne nb, del_ne na, k3 b na nb, upd_ne na]
          exact hb
        have gr : Grow B1 H1 B1 (upd (del H2 a) dx (.xd (ns.zip vs).reverse)) := ⟨Same.refl _, same, s1.same.trans same, fun _ _ _ z => z⟩
        refine q (.ref C) (some dx) σ B1 _ (s1.growG gr) (x'.trans (Ext.growG gr)) ⟨C, dx, vs.reverse, by rw [← hm']; exact hm, rfl, rfl, ?_, by rw [List.length_reverse, List.length_reverse, hlv], hvs.reverse⟩
        rw [upd_same, zip_rev ns vs hlv.symm]
    · exact q.elim
end

/-! ### try -/
/-! A clause may bind a name (its slot) or not; one rule for both. -/
/-- the ends of a suite whose name goes behind it -/
def less (D : Ends) : Option Nat → Ends
  | none => D
  | some i => { nx := fun τ G => D.nx (τ.set i none) G, rt := D.rt, bk := fun τ G => D.bk (τ.set i none) G, ct := fun τ G => D.ct (τ.set i none) G }
/-- the clause's name is bound -/
def bound (τ : L2.St) (a : Addr) : Option Nat → L2.St
  | none => τ
  | some i => τ.set i (some (.ref a))
abbrev Clause := Value × Option Nat × (Addr → Value → Option Addr → TS)
/-- what is asked of an exception that reaches these clauses -/
def wMix (K : PySem.W.Frag) (Wout : WX) (D : Ends) : List Clause → WX
  | [] => Wout
  | (c, o, ts) :: rest => fun cls d τ G => ∃ b, PySem.W.exmOne K cls c = some b ∧ (b = true → ∀ a, G a = none → ts a cls d (less D o) (bound τ a o) G) ∧ (b = false → wMix K Wout D rest cls d τ G)
/-- a clause's name and its slot -/
def Slotted (X : Cx) : Option Str → Option Nat → Prop
  | none, none => True
  | some n, some i => X.N[i]? = some n ∧ X.env.kindOf n = some .local
  | _, _ => False
/-- a clause's suite is served -/
def Suited (X : Cx) (suite : List Stmt) (ts : Addr → Value → Option Addr → TS) : Prop :=
  ∀ (a : Addr) (oe : Obj) (cls : Value) (d : Option Addr) (pn : List (Addr × Obj)), Zc cls d oe → (∃ vs, oe.data = .fields vs) → PSs (X.suite a ((a, oe) :: pn)) suite (ts a cls d)
inductive HdsM (X : Cx) : List ExceptHandler → List Clause → Prop
  | nil : HdsM X [] []
  | put {x : Str} {c : Value} {o : Option Nat} {nm : Option Str} {ts : Addr → Value → Option Addr → TS} {st : Stmt} {sts : List Stmt} {q1 q2 : Pos} {hds : List ExceptHandler} {cl : List Clause} (sl : Slotted X nm o) (hc : Names X x c) (hsu : Suited X (st :: sts) ts) (r : HdsM X hds cl) :
      HdsM X (.ExceptHandler (some (.Name x q1)) nm (st :: sts) q2 :: hds) ((c, o, ts) :: cl)
/-- an exception that X's frame has caught -/
def Caught (X : Cx) (pins : List (Addr × Obj)) (τ : L2.St) (G : Hp) (a : Addr) (cls : Value) (d : Option Addr) (u : Shared) : Prop :=
  ∃ (B : Heap) (sI : Shared), Inv X pins τ G sI ∧ (∀ b o, sI.heap.get? b = some o → b ∉ frs X.stack → B.get? b = some o) ∧ sI.heap.UpToSlots u.heap ∧ HandSPX.FlyingZ B X.stack a (Zc cls d) u.heap ∧ G a = none ∧ u.os = sI.os ∧ AllBare u.gens
section
variable {X : Cx} {pins : List (Addr × Obj)} {τ : L2.St} {G : Hp} {a : Addr} {cls : Value} {d : Option Addr} {u : Shared} {D : Ends}
/-- the context of a suite holds there -/
theorem Caught.see (k : Caught X pins τ G a cls d u) (hs : X.stack = X.env :: X.outer) (hf : X.env.frame = some X.env.locals) : ∃ oe, Zc cls d oe ∧ (∃ vs, oe.data = .fields vs) ∧ u.heap.get? a = some oe ∧ Inv (X.suite a ((a, oe) :: (X.pn ++ pins))) [] τ G u := by
  obtain ⟨B, sI, base, nb, up, fly, na, os, ag⟩ := k
  obtain ⟨oe, vs, at_, z, dat⟩ := fly.there
  have out : a ∉ frs X.stack := fun inS => by
    obtain ⟨_, o2, e2, noD⟩ := fly.2.2.1.mem inS
    rw [at_] at e2
    cases e2
    exact noD _ dat
  have split : ∀ {e : Env}, e ∈ X.stack → e.frame = some a → False := fun {e} he hfr => out (List.mem_filterMap.mpr ⟨e, he, hfr⟩)
  refine ⟨oe, z, ⟨vs, dat⟩, at_, (base.landed nb fly.1 up os ag).suite at_ dat na (fun eq => ?_) (fun inF => ?_)⟩
  · exact split (e := X.env) (by rw [hs]; exact .head _) (by rw [hf, eq])
  · obtain ⟨e, he, hfr⟩ := List.mem_filterMap.mp inF
    exact split (e := e) (by rw [hs]; exact .tail _ he) hfr
/-- its flight is set anew -/
theorem Caught.again {M : Model} {A : Around} {E : Value → Shared → Prop} {Q : Unit → Shared → Prop} (k : Caught X pins τ G a cls d u) (h : ∀ u', Caught X pins τ G a cls d u' → Q () u') : wpAny M A (setFlight (.ref a) none) Q E u := by
  obtain ⟨B, sI, base, nb, up, fly, na, os, ag⟩ := k
  exact HandSPX.lands_againZ fly fun h' fly' up' => h { u with heap := h' } ⟨B, sI, base, nb, up.trans up', fly', na, os, ag⟩
/-- no clause is left: it flies on -/
theorem Caught.away {Wout : WX} (k : Caught X pins τ G a cls d u) (hf : X.env.frame = some X.env.locals) (tk : Takes X Wout) (w : Wout cls d τ G) : wpAny (model X.prog X.w) X.A (handleBy (.ref a) X.env []) (SP X pins D) X.xe u := by
  obtain ⟨B, sI, base, nb, up, fly, na, os, ag⟩ := k
  have flies : wpAny (model X.prog X.w) X.A (setFlight (.ref a) X.env.frame) (fun _ u2 => wpAny (model X.prog X.w) X.A (throw (.ref a) : Sem Flow) (SP X pins D) X.xe u2) X.xe u := by
    rw [hf]
    exact HandSPX.setFlight_upZ fly fun h' held up' => wpAny_throw (tk _ _ ⟨a, B, sI, pins, τ, G, cls, d, rfl, base, nb, up.trans up', .inr (.inr held), na, os, ag, w⟩)
  obtain ⟨_, _, _, oe, vs, T, _, _, at_, _, dat, trace, _⟩ := fly
  apply wpAny_handleBy_nil
  unfold PySem.passOn
  apply wpAny_bind (wpAny_field at_ dat trace _)
  rw [if_neg (show ¬ ((Value.ref T == Value.none) = true) from by simp)]
  first
    | exact wpAny_bind flies
    | exact wpAny_bind (wpAny_pure (wpAny_bind flies))
/-- what a suite leaves is the frame's -/
theorem outOf {q : Addr × Obj} {f : Flow} (ok : X.Ok) (h : SP (X.suite a (q :: (X.pn ++ pins))) [] D f u) : SP X pins D f u := by
  cases f
  case ret => obtain ⟨v, τ', G', J, w⟩ := h; exact ⟨v, τ', G', J.unsuite ok, w⟩
  all_goals (obtain ⟨τ', G', J, w⟩ := h; exact ⟨τ', G', J.unsuite ok, w⟩)
/-- and its name goes -/
theorem outOfN {q : Addr × Obj} {f : Flow} {i : Nat} {n : Str} {p : Pos} (ok : X.Ok) (hN : X.N.Nodup) (hi : X.N[i]? = some n) (hl : X.env.kindOf n = some .local) (h : SP (X.suite a (q :: (X.pn ++ pins))) [] (less D (some i)) f u) :
    wpAny (model X.prog X.w) X.A (do bindName X.env n .none; unbindBehindTheSuite X.env n p) (fun _ u3 => SP X pins D f u3) X.xe u := by
  cases f
  case ret => obtain ⟨v, τ', G', J, w⟩ := h; exact gone_ok (J.unsuite ok) hN hi hl fun u3 J3 => ⟨v, _, G', J3, w⟩
  all_goals (obtain ⟨τ', G', J, w⟩ := h; exact gone_ok (J.unsuite ok) hN hi hl fun u3 J3 => ⟨_, G', J3, w⟩)
/-- the clauses, one after the other -/
theorem Caught.walk {Wout : WX} (hs : X.stack = X.env :: X.outer) (hf : X.env.frame = some X.env.locals) (hN : X.N.Nodup) (ok : X.Ok) (tk : Takes X Wout) (k : Caught X pins τ G a cls d u) {hds : List ExceptHandler} {cl : List Clause} (r : HdsM X hds cl) :
    wMix X.K Wout D cl cls d τ G → wpAny (model X.prog X.w) X.A (handleBy (.ref a) X.env hds) (SP X pins D) X.xe u := by
  induction r with
  | nil => exact k.away hf tk
  | @put x c o nm ts st sts q1 q2 hds cl sl hc hsu r ih =>
    rintro ⟨b, is_, yes, no⟩
    obtain ⟨oe, z, _, at_, S⟩ := k.see hs hf
    have na : G a = none := let ⟨_, _, _, _, _, _, q, _⟩ := k; q
    have matched : PySem.W.Looks (model X.prog X.w) u.heap (excMatches (.ref a) c) b := PySem.W.exm_one S.kIn (fun A Q E w keep q => wpAny_typeOf_ref (keep _ _ at_) (by rw [z.1]; exact q)) is_
    refine wpAny_handleBy_cons (codeAny_handlers_test ?_) (fun q => by cases q)
    have clause : ∀ {Q : Value → Shared → Prop} {E : Value → Shared → Prop}, Q c u → wpAny (model X.prog X.w) (X.A.mark (some (.ref a))) (eval (.Name x q1) X.env) Q E u := fun {Q E} q => by
      obtain ⟨glo, ndb, inMain | ⟨notMain, inBlt, noName⟩⟩ := hc
      · exact ld_glob (X := X.suite a ((a, oe) :: (X.pn ++ pins))) S glo inMain q ndb
      · exact ld_blt (X := X.suite a ((a, oe) :: (X.pn ++ pins))) S glo notMain inBlt q noName ndb
    refine clause (matched.here ?_)
    cases b
    · exact ih (no rfl)
    · match nm, o, sl with
      | none, none, _ =>
        exact codeAny_handlers_suite (k.again fun u2 k2 => by
          obtain ⟨oe2, z2, dat2, _, S2⟩ := k2.see hs hf
          exact wpAny_mono ((hsu a oe2 cls d _ z2 dat2).run [] u2 τ G _ S2 (yes rfl a na)) (fun f u3 => outOf ok) fun _ _ bad => bad.elim)
      | some n, some i, ⟨hi, hl⟩ =>
        exact codeAny_handlers_suite_as (k.again fun u2 k2 => by
          obtain ⟨oe2, z2, dat2, _, S2⟩ := k2.see hs hf
          exact store_ok (X := X.suite a ((a, oe2) :: (X.pn ++ pins))) (v := .ref a) S2 hN hi (.inl hl) rfl (fun u3 S3 => wpAny_mono ((hsu a oe2 cls d _ z2 dat2).run [] u3 _ G _ S3 (yes rfl a na)) (fun f u4 => outOfN ok hN hi hl) fun _ _ bad => bad.elim) (.inr hl))
end
section
variable {X : Cx} {body : List Stmt} {h₀ : ExceptHandler} {hds : List ExceptHandler} {cl : List Clause} {pos : Pos} {tb : WX → TS} {Wout : WX}
/-- try: body, then the clauses -/
theorem ps_try_mix (hs : X.stack = X.env :: X.outer) (hf : X.env.frame = some X.env.locals) (hN : X.N.Nodup) (tk : Takes X Wout)
    (hb : ∀ (W : WX) (pn : List (Addr × Obj)) (xe : Value → Shared → Prop), Takes (X.tr pn xe) W → PassesOwn (model X.prog X.w) X.A X.env xe → PSs (X.tr pn xe) body (tb W))
    (hh : HdsM X (h₀ :: hds) cl) : PS X (.Try body (h₀ :: hds) [] [] pos) (fun D τ G => tb (wMix X.K Wout D cl) D τ G) := by
  constructor
  intro pins s τ0 G0 D I goal
  have frames : X.A.frames = some (X.env :: X.outer) := by rw [← hs]; exact I.ok.frames
  let look : Value → Shared → Prop := fun e u => wpAny (model X.prog X.w) X.A (noteFrame e X.env) (fun _ u2 => wpAny (model X.prog X.w) X.A (setFlight e none) (fun _ u3 => wpAny (model X.prog X.w) X.A (handleBy e X.env (h₀ :: hds)) (SP X pins D) X.xe u3) X.xe u2) X.xe u
  have caught : Takes (X.tr (X.pn ++ pins) look) (wMix X.K Wout D cl) := by
    rintro _ u ⟨a, B, sI, pn', τ, G, cls, d, rfl, J, nb, up, sky, na, os, ag, w⟩
    have sky2 : Sky B (X.env :: X.outer) a (Zc cls d) X.env.locals u.heap := by rw [← hs]; exact sky
    refine Sky.land Zc.steady frames hf sky2 fun h' fly up' => ?_
    rw [← hs] at fly
    exact Caught.walk hs hf hN I.ok tk (u := { u with heap := h' }) ⟨B, sI, J.ofTry I.ok, nb, up.trans up', fly, na, os, ag⟩ hh w
  refine wpAny_Try_except (wpAny_mono ((hb _ _ look caught PassesOwn.looking).run [] s τ0 G0 D (I.toTry _) goal) (fun f u h => ?_) fun _ _ h => h)
  cases f
  case next => obtain ⟨τ', G', J, w⟩ := h; exact wpAny_execs_nil ⟨τ', G', J.ofTry I.ok, w⟩
  case ret => obtain ⟨v, τ', G', J, w⟩ := h; exact ⟨v, τ', G', J.ofTry I.ok, w⟩
  all_goals (obtain ⟨τ', G', J, w⟩ := h; exact ⟨τ', G', J.ofTry I.ok, w⟩)
end

def Ent.noX : Ent → Ent
  | .exn _ _ _ => .un
  | e => e
def noX (e : Sto) : Sto := e.map Ent.noX
/-- is the first class under the second (none: not told) -/
abbrev XTab := Str → Str → Option Bool
def finX (o : Option Nat) (r : Res Fl) : Res Fl := match r with
  | .ok f e => .ok f (match o with
    | some i => (noX e).set i .un
    | none => noX e)
  | _ => .bad
def runH (T : XTab) (c : Str) (ns : List Str) (xs : List D) (e : Sto) : List (Str × Option Nat × DenS) → Res Fl
  | [] => .err c ns xs e
  | (h, o, suite) :: r => match T c h with
    | some true => finX o (suite (match o with
      | some i => (noX e).set i (.exn c ns xs)
      | none => noX e))
    | some false => runH T c ns xs e r
    | none => .bad
def dTry (T : XTab) (body : DenS) (hs : List (Str × Option Nat × DenS)) : DenS := fun env => match body env with
  | .err c ns xs e => runH T c ns xs e hs
  | r => r
section
variable {X : Cx} {Γ : Wd} {W : WX} {e : Expr} {pos : Pos}
theorem noX_get {env : Sto} {i : Nat} {en : Ent} (h : (noX env)[i]? = some en) : ∃ e0, env[i]? = some e0 ∧ en = e0.noX := by
  unfold noX at h
  rw [List.getElem?_map] at h
  cases hd : env[i]? with
  | none => rw [hd] at h; cases h
  | some e0 => rw [hd] at h; exact ⟨e0, rfl, (Option.some.inj h).symm⟩
theorem noX_mu {env : Sto} {i : Nat} {xs : List D} : (noX env)[i]? = some (.mu xs) ↔ env[i]? = some (.mu xs) := by
  constructor
  · intro h
    obtain ⟨e0, h1, h2⟩ := noX_get h
    cases e0 with
    | mu ys => cases h2; exact h1
    | _ => cases h2
  · intro h
    unfold noX
    rw [List.getElem?_map, h]
    rfl
theorem noX_own {env : Sto} {σ : L2.St} {q : Addr} : Own (noX env) σ q ↔ Own env σ q := by
  constructor
  · rintro ⟨i, xs, h1, h2⟩
    exact ⟨i, xs, noX_mu.mp h1, h2⟩
  · rintro ⟨i, xs, h1, h2⟩
    exact ⟨i, xs, noX_mu.mpr h1, h2⟩
/-- the exception at hand is forgotten, or another is at hand -/
theorem StOk.noX {Γ Γ' : Wd} {env : Sto} {σ : L2.St} {B H : Hp} (hK : Γ.K = Γ'.K) (hm : Γ.mg = Γ'.mg) (s : StOk Γ env σ B H) : StOk Γ' (Ev.noX env) σ B H where
  same := s.same
  len := by unfold Ev.noX; rw [List.length_map]; exact s.len
  ent := fun i en o h1 h2 => by
    obtain ⟨e0, k1, rfl⟩ := noX_get h1
    have k := s.ent i e0 o k1 h2
    cases e0 with
    | un => trivial
    | val d =>
      obtain ⟨v, e1, r⟩ := k
      exact ⟨v, e1, Rep.ctx hK hm d v r⟩
    | mu xs =>
      obtain ⟨q, vs, e1, e2, e3, r⟩ := k
      exact ⟨q, vs, e1, e2, e3, Reps.ctx hK hm xs vs r⟩
    | exn c ns xs => trivial
  dis := fun i j xs ys q h1 h2 h3 h4 => s.dis i j xs ys q (noX_mu.mp h1) (noX_mu.mp h2) h3 h4
theorem Ext.noX {Γ Γ' : Wd} {env env' : Sto} {σ σ' : L2.St} {B H B' H' : Hp} (hR : Γ.R = Γ'.R) (x : Ext Γ env σ B H env' σ' B' H') : Ext Γ' env σ B H (Ev.noX env') σ' B' H' where
  b := x.b
  t := x.t
  f := fun q o h n => by
    obtain ⟨k1, k2, k3⟩ := x.f q o h n
    exact ⟨k1, k2, fun z => k3 (noX_own.mp z)⟩
  r := fun i hi => by
    obtain ⟨k1, k2⟩ := x.r i (by rw [hR]; exact hi)
    refine ⟨k1, fun xs q h1 h2 => ?_⟩
    rcases k2 xs q h1 h2 with ⟨ys, z⟩ | z
    · exact .inl ⟨ys, noX_mu.mpr z⟩
    · exact .inr z
theorem Ext.noXl {Γ Γ' : Wd} {env env' : Sto} {σ σ' : L2.St} {B H B' H' : Hp} (hR : Γ.R = Γ'.R) (x : Ext Γ (Ev.noX env) σ B H env' σ' B' H') : Ext Γ' env σ B H env' σ' B' H' where
  b := x.b
  t := x.t
  f := fun q o h n => x.f q o h fun z => n (noX_own.mp z)
  r := fun i hi => by
    obtain ⟨k1, k2⟩ := x.r i (by rw [hR]; exact hi)
    exact ⟨k1, fun xs q h1 h2 => k2 xs q (noX_mu.mpr h1) h2⟩
/-- a slot is set to what is no list of its own -/
theorem StOk.setN {env : Sto} {σ : L2.St} {B H : Hp} {i : Nat} {en : Ent} {o : Option V} (s : StOk Γ env σ B H) (hn : ∀ xs, en ≠ .mu xs) (k : EntOk Γ B H en o) : StOk Γ (env.set i en) (σ.set i o) B H where
  same := s.same
  len := by rw [List.length_set, List.length_set]; exact s.len
  ent := fun j e o' h1 h2 => by
    rcases Sto.set_get h1 with ⟨rfl, rfl⟩ | ⟨ne, q⟩
    · have hl : i < σ.length := by
        have z := (List.getElem?_eq_some_iff.mp h2).1
        rw [List.length_set] at z
        exact z
      rw [List.getElem?_set_self hl] at h2
      cases h2
      exact k
    · rw [List.getElem?_set_ne ne] at h2
      exact s.ent j e o' q h2
  dis := fun j k ys zs q h1 h2 h3 h4 => by
    rcases Sto.set_get h1 with ⟨_, z⟩ | ⟨n1, q1⟩
    · exact absurd z.symm (hn ys)
    · rcases Sto.set_get h2 with ⟨_, z⟩ | ⟨n2, q2⟩
      · exact absurd z.symm (hn zs)
      · rw [List.getElem?_set_ne n1] at h3
        rw [List.getElem?_set_ne n2] at h4
        exact s.dis j k ys zs q q1 q2 h3 h4
theorem Ext.setN {env env1 : Sto} {σ σ1 : L2.St} {B H B1 H1 : Hp} {i : Nat} {en : Ent} {o : Option V} (x : Ext Γ env σ B H env1 σ1 B1 H1) (hn : ∀ xs, en ≠ .mu xs) (hi : i ∉ Γ.R) : Ext Γ env σ B H (env1.set i en) (σ1.set i o) B1 H1 where
  b := x.b
  t := x.t
  f := fun p u h n => by
    obtain ⟨k1, k2, k3⟩ := x.f p u h n
    refine ⟨k1, k2, fun z => k3 ?_⟩
    obtain ⟨j, xs, e1, e2⟩ := z
    rcases Sto.set_get e1 with ⟨_, q⟩ | ⟨nn, q⟩
    · exact absurd q.symm (hn xs)
    · rw [List.getElem?_set_ne nn] at e2
      exact ⟨j, xs, q, e2⟩
  r := fun j hj => by
    have ne : i ≠ j := fun z => hi (z ▸ hj)
    obtain ⟨k1, k2⟩ := x.r j hj
    refine ⟨by rw [List.getElem?_set_ne ne]; exact k1, fun xs p e1 e2 => ?_⟩
    rcases k2 xs p e1 e2 with ⟨ys, q⟩ | q
    · exact .inl ⟨ys, by rw [List.getElem?_set_ne ne]; exact q⟩
    · exact .inr q
/-- with an exception at hand -/
abbrev Wd.at_ (Γ : Wd) (a : Addr) (cls : Value) (d : Option Addr) : Wd := { Γ with F := (a, cls, d) }
abbrev W0 : WX := fun _ _ _ _ => False
/-- the clauses -/
inductive Hds (X : Cx) (Γ : Wd) (T : XTab) : List ExceptHandler → List (Str × Option Nat × DenS) → Prop
  | nil : Hds X Γ T [] []
  | cons {h : Str} {Ch : Addr} {g : DenS} {b₀ : Stmt} {suite : List Stmt} {np pos' : Pos} {hds : List ExceptHandler} {l : List (Str × Option Nat × DenS)} (hc : Names X h (.ref Ch)) (hT : ∀ cn C b, T cn h = some b → X.mg cn = some (.ref C) → PySem.W.exmOne X.K (.ref C) (.ref Ch) = some b)
      (hsu : ∀ (a : Addr) (oe : Obj) (cls : Value) (d : Option Addr) (pn : List (Addr × Obj)), Zc cls d oe → (∃ vs, oe.data = .fields vs) → SSs (X.suite a ((a, oe) :: pn)) (Γ.at_ a cls d) W0 (b₀ :: suite) g) (r : Hds X Γ T hds l) :
      Hds X Γ T (.ExceptHandler (some (.Name h np)) none (b₀ :: suite) pos' :: hds) ((h, none, g) :: l)
  | consN {h n : Str} {i : Nat} {Ch : Addr} {g : DenS} {b₀ : Stmt} {suite : List Stmt} {np pos' : Pos} {hds : List ExceptHandler} {l : List (Str × Option Nat × DenS)} (hiR : i ∉ Γ.R) (hi : X.N[i]? = some n) (hln : X.env.kindOf n = some .local) (hc : Names X h (.ref Ch)) (hT : ∀ cn C b, T cn h = some b → X.mg cn = some (.ref C) → PySem.W.exmOne X.K (.ref C) (.ref Ch) = some b)
      (hsu : ∀ (a : Addr) (oe : Obj) (cls : Value) (d : Option Addr) (pn : List (Addr × Obj)), Zc cls d oe → (∃ vs, oe.data = .fields vs) → SSs (X.suite a ((a, oe) :: pn)) (Γ.at_ a cls d) W0 (b₀ :: suite) g) (r : Hds X Γ T hds l) :
      Hds X Γ T (.ExceptHandler (some (.Name h np)) (some n) (b₀ :: suite) pos' :: hds) ((h, some i, g) :: l)
theorem RetOk.noX {P : Addr → Prop} {a : Addr} {cls : Value} {d : Option Addr} {env' : Sto} {σ' : L2.St} {B' H' : Hp} {r : Ent} {v : V} (h : RetOk (Γ.at_ a cls d) P env' σ' B' H' r v) {env2 : Sto} {σ2 : L2.St} (ho : ∀ q, Own env2 σ2 q → Own env' σ' q) : RetOk Γ P env2 σ2 B' H' r v := by
  cases r with
  | val d => exact Rep.ctx (Γ := Γ.at_ a cls _) (Γ' := Γ) rfl rfl d v h
  | mu xs =>
    obtain ⟨p, vs, e1, e2, e3, e4, e5, e6⟩ := h
    exact ⟨p, vs, e1, e2, e3, e4, Reps.ctx (Γ := Γ.at_ a cls d) (Γ' := Γ) rfl rfl xs vs e5, fun z => e6 (ho p z)⟩
  | un => exact h.elim
  | exn _ _ _ => exact h.elim
theorem freeR_noX {a : Addr} {cls : Value} {d : Option Addr} {env : Sto} {σ : L2.St} {H : Hp} {p : Addr} (h : FreeR (Γ.at_ a cls d) (noX env) σ H p) : FreeR Γ env σ H p := by
  rcases h with h | ⟨i, xs, h1, h2, h3⟩
  · exact .inl h
  · exact .inr ⟨i, xs, h1, noX_mu.mp h2, h3⟩
theorem sTry {T : XTab} {body : List Stmt} {h₀ : ExceptHandler} {hds : List ExceptHandler} {l : List (Str × Option Nat × DenS)} {f : DenS} (hK : X.K = Γ.K) (hm : X.mg = Γ.mg) (hs : X.stack = X.env :: X.outer) (hf : X.env.frame = some X.env.locals) (hN : X.N.Nodup) (tk : Takes X W)
    (hb : ∀ (W' : WX) (pn : List (Addr × Obj)) (xe : Value → Shared → Prop), Takes (X.tr pn xe) W' → PassesOwn (model X.prog X.w) X.A X.env xe → SSs (X.tr pn xe) Γ W' body f)
    (hh : Hds X Γ T (h₀ :: hds) l) : SS X Γ W (.Try body (h₀ :: hds) [] [] pos) (dTry T f l) := by
  obtain ⟨l2, h2, hw⟩ : ∃ l2, HdsM X (h₀ :: hds) l2 ∧ ∀ (Dn : Ends) (env : Sto) (σ : L2.St) (B H : Hp) (c : Str) (ns : List Str) (xs : List D) (cls : Value) (d : Option Addr), StOk Γ env σ B H → XnOk Γ B H c ns xs cls d →
      PostS Γ W env σ B H Dn (runH T c ns xs env l) → wMix X.K W Dn l2 cls d σ H := by
    clear hb
    generalize h₀ :: hds = hd0 at hh ⊢
    induction hh with
    | nil => exact ⟨[], .nil, fun Dn env σ B H c ns xs cls d s xn p => p cls d σ B H s Ext.refl xn⟩
    | @cons h Ch g b₀ suite np pos' hds l hc hT hsu r ih =>
      obtain ⟨l2, i1, i2⟩ := ih
      refine ⟨(.ref Ch, none, fun a cls d => tS (Γ.at_ a cls d) W0 g) :: l2, (.put (nm := none) (o := none) trivial hc hsu i1), fun Dn env σ B H c ns xs cls d s xn p => ?_⟩
      have p' : PostS Γ W env σ B H Dn (match T c h with
        | some true => finX none (g (noX env))
        | some false => runH T c ns xs env l
        | none => .bad) := p
      have xn' := xn
      obtain ⟨C, dd, vs, e1, rfl, rfl, e4, e5, e6⟩ := xn
      cases hTc : T c h with
      | none => rw [hTc] at p'; exact p'.elim
      | some b =>
        rw [hTc] at p'
        refine ⟨b, hT c C b hTc (by rw [hm]; exact e1), fun hbt a ha => ?_, fun hbf => ?_⟩
        · subst hbt
          have p2 : PostS Γ W env σ B H Dn (finX none (g (noX env))) := p'
          have s2 : StOk (Γ.at_ a (.ref C) (some dd)) (noX env) σ B H := StOk.noX (Γ := Γ) (Γ' := Γ.at_ a (.ref C) (some dd)) rfl rfl s
          refine ⟨noX env, B, s2, ?_⟩
          cases hg : g (noX env) with
          | bad => rw [hg] at p2; exact p2.elim
          | err _ _ _ _ => rw [hg] at p2; exact p2.elim
          | ok fl e' =>
            rw [hg] at p2
            have back : ∀ {σ' B' H'}, StOk (Γ.at_ a (.ref C) (some dd)) e' σ' B' H' → Ext (Γ.at_ a (.ref C) (some dd)) (noX env) σ B H e' σ' B' H' → StOk Γ (noX e') σ' B' H' ∧ Ext Γ env σ B H (noX e') σ' B' H' := fun {σ' B' H'} s' x' =>
              ⟨StOk.noX (Γ := Γ.at_ a (.ref C) (some dd)) (Γ' := Γ) rfl rfl s', Ext.noXl (Γ := Γ.at_ a (.ref C) (some dd)) rfl (Ext.noX (Γ' := Γ.at_ a (.ref C) (some dd)) rfl x')⟩
            cases fl with
            | nx => exact fun σ' B' H' s' x' => p2 σ' B' H' (back s' x').1 (back s' x').2
            | bk => exact fun σ' B' H' s' x' => p2 σ' B' H' (back s' x').1 (back s' x').2
            | ct => exact fun σ' B' H' s' x' => p2 σ' B' H' (back s' x').1 (back s' x').2
            | rt rr => exact fun v σ' B' H' s' x' hr => p2 v σ' B' H' (back s' x').1 (back s' x').2 ((hr.noX (fun q z => noX_own.mp z)).imp fun p hp => freeR_noX hp)
        · subst hbf
          exact i2 Dn env σ B H c ns xs _ _ s xn' p'
    | @consN h n i Ch g b₀ suite np pos' hds l hiR hi hln hc hT hsu r ih =>
      obtain ⟨l2, i1, i2⟩ := ih
      refine ⟨(.ref Ch, some i, fun a cls d => tS (Γ.at_ a cls d) W0 g) :: l2, (.put (nm := some n) (o := some i) ⟨hi, hln⟩ hc hsu i1), fun Dn env σ B H c ns xs cls d s xn p => ?_⟩
      have p' : PostS Γ W env σ B H Dn (match T c h with
        | some true => finX (some i) (g ((noX env).set i (.exn c ns xs)))
        | some false => runH T c ns xs env l
        | none => .bad) := p
      have xn' := xn
      obtain ⟨C, dd, vs, e1, rfl, rfl, e4, e5, e6⟩ := xn
      cases hTc : T c h with
      | none => rw [hTc] at p'; exact p'.elim
      | some b =>
        rw [hTc] at p'
        refine ⟨b, hT c C b hTc (by rw [hm]; exact e1), fun hbt a ha => ?_, fun hbf => ?_⟩
        · subst hbt
          have p2 : PostS Γ W env σ B H Dn (finX (some i) (g ((noX env).set i (.exn c ns xs)))) := p'
          have s2 : StOk (Γ.at_ a (.ref C) (some dd)) (noX env) σ B H := StOk.noX (Γ := Γ) (Γ' := Γ.at_ a (.ref C) (some dd)) rfl rfl s
          have nm : ∀ ys, Ent.exn c ns xs ≠ .mu ys := fun ys z => by cases z
          have nu : ∀ ys, Ent.un ≠ .mu ys := fun ys z => by cases z
          have s3 : StOk (Γ.at_ a (.ref C) (some dd)) ((noX env).set i (.exn c ns xs)) (σ.set i (some (.ref a))) B H := s2.setN nm ⟨dd, vs, rfl, ⟨rfl, C, e1, rfl⟩, e4, e5, Reps.ctx (Γ := Γ) (Γ' := Γ.at_ a (.ref C) (some dd)) rfl rfl xs vs e6⟩
          have x3 : Ext (Γ.at_ a (.ref C) (some dd)) (noX env) σ B H ((noX env).set i (.exn c ns xs)) (σ.set i (some (.ref a))) B H := Ext.setN Ext.refl nm hiR
          refine ⟨_, B, s3, ?_⟩
          cases hg : g ((noX env).set i (.exn c ns xs)) with
          | bad => rw [hg] at p2; exact p2.elim
          | err _ _ _ _ => rw [hg] at p2; exact p2.elim
          | ok fl e' =>
            rw [hg] at p2
            have back : ∀ {σ' B' H'}, StOk (Γ.at_ a (.ref C) (some dd)) e' σ' B' H' → Ext (Γ.at_ a (.ref C) (some dd)) ((noX env).set i (.exn c ns xs)) (σ.set i (some (.ref a))) B H e' σ' B' H' → StOk Γ (noX e') σ' B' H' ∧ Ext Γ env σ B H (noX e') σ' B' H' := fun {σ' B' H'} s' x' =>
              ⟨StOk.noX (Γ := Γ.at_ a (.ref C) (some dd)) (Γ' := Γ) rfl rfl s', Ext.noXl (Γ := Γ.at_ a (.ref C) (some dd)) rfl (Ext.noX (Γ' := Γ.at_ a (.ref C) (some dd)) rfl (x3.trans x'))⟩
            have back2 : ∀ {σ' B' H'}, StOk (Γ.at_ a (.ref C) (some dd)) e' σ' B' H' → Ext (Γ.at_ a (.ref C) (some dd)) ((noX env).set i (.exn c ns xs)) (σ.set i (some (.ref a))) B H e' σ' B' H' → StOk Γ ((noX e').set i .un) (σ'.set i none) B' H' ∧ Ext Γ env σ B H ((noX e').set i .un) (σ'.set i none) B' H' := fun {σ' B' H'} s' x' =>
              ⟨(back s' x').1.setN nu trivial, (back s' x').2.setN nu hiR⟩
            cases fl with
            | nx => exact fun σ' B' H' s' x' => p2 _ B' H' (back2 s' x').1 (back2 s' x').2
            | bk => exact fun σ' B' H' s' x' => p2 _ B' H' (back2 s' x').1 (back2 s' x').2
            | ct => exact fun σ' B' H' s' x' => p2 _ B' H' (back2 s' x').1 (back2 s' x').2
            | rt rr =>
              refine fun v σ' B' H' s' x' hr => p2 v _ B' H' (back2 s' x').1 (back2 s' x').2 ((hr.noX (fun q z => ?_)).imp fun p hp => freeR_noX (hp.back s3 x3))
              obtain ⟨j, ys, z1, z2⟩ := z
              rcases Sto.set_get z1 with ⟨_, z⟩ | ⟨nn, z⟩
              · cases z
              · rw [List.getElem?_set_ne nn] at z2
                exact ⟨j, ys, noX_mu.mp z, z2⟩
        · subst hbf
          exact i2 Dn env σ B H c ns xs _ _ s xn' p'
  refine imS (ps_try_mix (tb := fun W' => tS Γ W' f) hs hf hN tk hb h2) fun Q σ H ⟨env, B, s, p⟩ => ⟨env, B, s, ?_⟩
  have p' : PostS Γ W env σ B H Q (match f env with
    | .err c ns xs e => runH T c ns xs e l
    | r => r) := p
  cases hfe : f env with
  | bad => rw [hfe] at p'; exact p'
  | ok fl e' =>
    rw [hfe] at p'
    cases fl <;> exact p'
  | err c ns xs e' =>
    rw [hfe] at p'
    exact fun cls d σ' B' H' s' x' xn => hw Q e' σ' B' H' c ns xs cls d s' xn (PostS.fwd s' x' p')
/-- the exception's field -/
def dXf (cs : List Str) (i : Nat) (n : Str) : DenV := fun env => match env[i]? with
  | some (.exn c ns xs) => if cs.contains c = true then (match (ns.zip xs).lookup n with
    | some d => .ok d env
    | none => .bad) else .bad
  | _ => .bad
theorem zip_lookup {B : Hp} {n : Str} : ∀ {ns : List Str} {xs : List D} {vs : List V} {d : D}, Reps Γ B xs vs → (ns.zip xs).lookup n = some d → ∃ v, (ns.zip vs).lookup n = some v ∧ Rep Γ B d v
  | [], xs, vs, d, r, h => by cases h
  | m :: ns, [], vs, d, r, h => by cases h
  | m :: ns, x :: xs, vs, d, r, h => by
    obtain ⟨v, r', rfl, e2, e3⟩ := r
    rw [List.zip_cons_cons, List.lookup_cons] at h ⊢
    cases hmn : (n == m) with
    | true =>
      rw [hmn] at h
      cases h
      exact ⟨v, rfl, e2⟩
    | false =>
      rw [hmn] at h
      exact zip_lookup e3 h
theorem sXf {cs : List Str} {a : Addr} {oe : Obj} {cls : Value} {d : Option Addr} {pn : List (Addr × Obj)} {i : Nat} {n : Str} (hm : X.mg = Γ.mg) (hX : ∀ c ∈ cs, ∀ C, X.mg c = some (.ref C) → XfC X.K C ∧ PySem.W.findIn X.K (.ref C) n = some none)
    (hz : Zc cls d oe) (hf : ∃ vs, oe.data = .fields vs) (he : PE (X.suite a ((a, oe) :: pn)) e (tVar i)) (hb : attributeBase e n X.env (eval e X.env) = eval e X.env := by rfl) :
    SV (X.suite a ((a, oe) :: pn)) (Γ.at_ a cls d) W (.Attribute e n pos) (dXf cs i n) := by
  refine ⟨fun pins s σ H Q I h => ?_⟩
  obtain ⟨env, B, st, p⟩ := h
  have p' : Post (Γ.at_ a cls d) W env σ B H (fun x _ B' H' => ∀ v, Rep (Γ.at_ a cls d) B' x v → Q v H') (match env[i]? with
    | some (.exn c ns xs) => if cs.contains c = true then (match (ns.zip xs).lookup n with
      | some d => .ok d env
      | none => .bad) else .bad
    | _ => .bad) := p
  cases hi : env[i]? with
  | none => rw [hi] at p'; exact p'.elim
  | some en =>
    rw [hi] at p'
    cases en with
    | exn c ns xs =>
      obtain ⟨o, ho, k⟩ := st.slot hi
      obtain ⟨dd, vs, rfl, ⟨e2, C, e3, e4⟩, e5, e6, e7⟩ := k
      have p2 : Post (Γ.at_ a cls d) W env σ B H (fun x _ B' H' => ∀ v, Rep (Γ.at_ a cls d) B' x v → Q v H') (if cs.contains c = true then (match (ns.zip xs).lookup n with
        | some d => .ok d env
        | none => .bad) else .bad) := p'
      by_cases hc : cs.contains c = true
      · rw [if_pos hc] at p2
        obtain ⟨hT, hno⟩ := hX c (List.contains_iff_mem.mp hc) C (by rw [hm]; exact e3)
        cases hl : (ns.zip xs).lookup n with
        | none => rw [hl] at p2; exact p2.elim
        | some x =>
          rw [hl] at p2
          obtain ⟨v, l1, l2⟩ := zip_lookup e7 hl
          exact (pe_xf hT hno hz hf he hb).run pins s σ H Q I ⟨.ref a, ho, rfl, e4, dd, _, v, e2, e5, l1, Post.here st p2 v l2⟩
      · rw [if_neg hc] at p2
        exact p2.elim
    | _ => exact p'.elim
end
end Ev
set_option Elab.async false
set_option linter.all false
set_option maxRecDepth 100000
set_option maxHeartbeats 4000000
namespace Ev
open PySem PySem.Spec PyProof.Rows L2

/-! ### comprehensions -/
def wipeE (e : Sto) : List Nat → Sto
  | [] => e
  | v :: vs => (wipeE e vs).set v .un
def restE (e0 e1 : Sto) : List Nat → Sto
  | [] => e1
  | v :: vs => (restE e0 e1 vs).set v ((e0[v]?).getD .un)
def okOwn (e : Sto) (own : List Nat) : Bool := own.all fun v => match e[v]? with
  | some .un => true
  | some (.val _) => true
  | _ => false
/-- what raises is not told -/
def Res.bindX {α β : Type} (r : Res α) (k : α → Sto → Res β) : Res β := match r with
  | .ok a e => k a e
  | _ => .bad
def loopC (own : List Nat) (t : Asg) (cond : DenT) (elt : DenV) : List D → List D → Sto → Res (List D)
  | [], acc, e => .ok acc e
  | d :: ds, acc, e => match t d e with
    | none => .bad
    | some e1 => (cond e1).bindX fun b e2 => if b = true then (elt e2).bindX fun y e3 => (if acc.length < 1000000 then loopC own t cond elt ds (acc ++ [y]) (wipeE e3 own) else .bad) else loopC own t cond elt ds acc (wipeE e2 own)
def dLc (own : List Nat) (t : Asg) (it : DenI) (cond : DenT) (elt : DenV) : DenF := fun env => (it env).bind fun items e => if okOwn e own = true then (loopC own t cond elt items [] (wipeE e own)).bindX fun acc e' => .ok (.mu acc) (restE e e' own) else .bad
def dTrue : DenT := fun env => .ok true env
theorem wipeE_get {e : Sto} {i : Nat} {en : Ent} : ∀ {vs : List Nat}, (wipeE e vs)[i]? = some en → (i ∈ vs ∧ en = .un) ∨ (i ∉ vs ∧ e[i]? = some en)
  | [], h => .inr ⟨by simp, h⟩
  | v :: vs, h => by
    rcases Sto.set_get h with ⟨rfl, rfl⟩ | ⟨ne, q⟩
    · exact .inl ⟨by simp, rfl⟩
    · rcases wipeE_get q with ⟨h1, h2⟩ | ⟨h1, h2⟩
      · exact .inl ⟨List.mem_cons_of_mem _ h1, h2⟩
      · exact .inr ⟨fun z => (List.mem_cons.mp z).elim (fun z => ne z.symm) h1, h2⟩
theorem wipeE_out {e : Sto} {i : Nat} : ∀ {vs : List Nat}, i ∉ vs → (wipeE e vs)[i]? = e[i]?
  | [], _ => rfl
  | v :: vs, h => by
    have h' : i ≠ v ∧ i ∉ vs := by simpa using h
    show ((wipeE e vs).set v .un)[i]? = _
    rw [List.getElem?_set_ne (Ne.symm h'.1)]
    exact wipeE_out h'.2
theorem wipeE_len {e : Sto} : ∀ {vs : List Nat}, (wipeE e vs).length = e.length
  | [] => rfl
  | v :: vs => by
    show ((wipeE e vs).set v .un).length = _
    rw [List.length_set]
    exact wipeE_len
theorem wipe_out' {σ : L2.St} {i : Nat} : ∀ {vs : List Nat}, i ∉ vs → (wipe σ vs)[i]? = σ[i]?
  | [], _ => rfl
  | v :: vs, h => by
    have h' : i ≠ v ∧ i ∉ vs := by simpa using h
    show ((wipe σ vs).set v none)[i]? = _
    rw [List.getElem?_set_ne (Ne.symm h'.1)]
    exact wipe_out' h'.2
theorem restE_out {e0 e1 : Sto} {i : Nat} : ∀ {vs : List Nat}, i ∉ vs → (restE e0 e1 vs)[i]? = e1[i]?
  | [], _ => rfl
  | v :: vs, h => by
    have h' : i ≠ v ∧ i ∉ vs := by simpa using h
    show ((restE e0 e1 vs).set v _)[i]? = _
    rw [List.getElem?_set_ne (Ne.symm h'.1)]
    exact restE_out h'.2
theorem restE_len {e0 e1 : Sto} : ∀ {vs : List Nat}, (restE e0 e1 vs).length = e1.length
  | [] => rfl
  | v :: vs => by
    show ((restE e0 e1 vs).set v _).length = _
    rw [List.length_set]
    exact restE_len
theorem restE_in {e0 e1 : Sto} {i : Nat} {en : Ent} : ∀ {vs : List Nat}, i ∈ vs → (restE e0 e1 vs)[i]? = some en → en = (e0[i]?).getD .un
  | v :: vs, h, q => by
    rcases Sto.set_get q with ⟨rfl, rfl⟩ | ⟨ne, q⟩
    · rfl
    · rcases List.mem_cons.mp h with h | h
      · exact absurd h.symm ne
      · exact restE_in h q
section
variable {X : Cx} {Γ : Wd} {W : WX}
theorem StOk.wipe {env : Sto} {σ : L2.St} {B H : Hp} (s : StOk Γ env σ B H) : ∀ vs : List Nat, StOk Γ (wipeE env vs) (L2.wipe σ vs) B H
  | [] => s
  | v :: vs => (StOk.wipe s vs).setN (fun _ z => by cases z) trivial
theorem Ext.wipe {env env1 : Sto} {σ σ1 : L2.St} {B H B1 H1 : Hp} (x : Ext Γ env σ B H env1 σ1 B1 H1) : ∀ {vs : List Nat}, (∀ v ∈ vs, v ∉ Γ.R) → Ext Γ env σ B H (wipeE env1 vs) (L2.wipe σ1 vs) B1 H1
  | [], _ => x
  | v :: vs, h => (Ext.wipe x fun u hu => h u (List.mem_cons_of_mem _ hu)).setN (fun _ z => by cases z) (h v (List.mem_cons_self ..))
theorem own_wipe {env : Sto} {σ : L2.St} {vs : List Nat} {p : Addr} (h : Own (wipeE env vs) (L2.wipe σ vs) p) : Own env σ p := by
  obtain ⟨i, xs, h1, h2⟩ := h
  rcases wipeE_get h1 with ⟨_, z⟩ | ⟨hn, z⟩
  · cases z
  · rw [wipe_out' hn] at h2
    exact ⟨i, xs, z, h2⟩
theorem StOk.updD {env : Sto} {σ : L2.St} {B H : Hp} {p : Addr} {vs : List V} {o : HO} (s : StOk Γ env σ B H) (hb : B p = none) (hp : H p = some (.lst vs)) (ho : ¬ Own env σ p) : StOk Γ env σ B (upd H p o) where
  same := fun q u hq => by
    rw [upd_ne (ne_of_none hq hb)]
    exact s.same q u hq
  len := s.len
  ent := fun i en u h1 h2 => by
    have k := s.ent i en u h1 h2
    cases en with
    | un => trivial
    | val d => exact k
    | mu xs =>
      obtain ⟨q, ws, e1, e2, e3, e4⟩ := k
      subst e1
      refine ⟨q, ws, rfl, e2, ?_, e4⟩
      rw [upd_ne]
      · exact e3
      · rintro rfl
        exact ho ⟨i, xs, h1, h2⟩
    | exn c ns xs =>
      obtain ⟨dd, ws, e1, e2, e3, e4, e5⟩ := k
      refine ⟨dd, ws, e1, e2, ?_, e4, e5⟩
      rw [upd_ne]
      · exact e3
      · rintro rfl
        rw [hp] at e3
        cases e3
  dis := s.dis
theorem Ext.updD {env env1 : Sto} {σ σ1 : L2.St} {B H B1 H1 : Hp} {p : Addr} {o : HO} (x : Ext Γ env σ B H env1 σ1 B1 H1) (h0 : H p = none) : Ext Γ env σ B H env1 σ1 B1 (upd H1 p o) where
  b := x.b
  t := fun q h => by
    by_cases z : q = p
    · subst z; exact absurd h0 h
    · rw [upd_ne z]; exact x.t q h
  f := fun q u h n => by
    obtain ⟨k1, k2, k3⟩ := x.f q u h n
    refine ⟨?_, k2, k3⟩
    rw [upd_ne (ne_of_none h h0)]
    exact k1
  r := x.r
theorem StOk.rest {e e' : Sto} {σ : L2.St} {B H B' H' : Hp} {own : List Nat} (s : StOk Γ e σ B H) (hok : okOwn e own = true) (s' : StOk Γ e' (L2.wipe σ own) B' H') (sb : Same B B') : StOk Γ (restE e e' own) σ B' H' where
  same := s'.same
  len := by rw [restE_len, s'.len, wipe_length]
  ent := fun i en o h1 h2 => by
    by_cases hi : i ∈ own
    · have e1 := restE_in hi h1
      have hc := List.all_eq_true.mp hok i hi
      cases he : e[i]? with
      | none => rw [he] at hc; cases hc
      | some en0 =>
        rw [he] at hc e1
        have k := s.ent i en0 o he h2
        cases en0 with
        | un => subst e1; trivial
        | val d =>
          subst e1
          obtain ⟨v, e3, r⟩ := k
          exact ⟨v, e3, Rep.mono sb d v r⟩
        | mu _ => cases hc
        | exn _ _ _ => cases hc
    · rw [restE_out hi] at h1
      exact s'.ent i en o h1 (by rw [wipe_out' hi]; exact h2)
  dis := fun i j xs ys p h1 h2 h3 h4 => by
    have out : ∀ {i : Nat} {xs : List D}, (restE e e' own)[i]? = some (.mu xs) → i ∉ own := fun {i xs} h hi => by
      have e1 := restE_in hi h
      have hc := List.all_eq_true.mp hok i hi
      cases he : e[i]? with
      | none => rw [he] at hc; cases hc
      | some en0 =>
        rw [he] at hc e1
        have e1' : Ent.mu xs = en0 := e1
        subst e1'
        cases hc
    have oi := out h1
    have oj := out h2
    rw [restE_out oi] at h1
    rw [restE_out oj] at h2
    exact s'.dis i j xs ys p h1 h2 (by rw [wipe_out' oi]; exact h3) (by rw [wipe_out' oj]; exact h4)
theorem own_rest {e e' : Sto} {σ : L2.St} {own : List Nat} {p : Addr} (hok : okOwn e own = true) (h : Own (restE e e' own) σ p) : Own e' (L2.wipe σ own) p := by
  obtain ⟨i, xs, h1, h2⟩ := h
  by_cases hi : i ∈ own
  · exfalso
    have e1 := restE_in hi h1
    have hc := List.all_eq_true.mp hok i hi
    cases he : e[i]? with
    | none => rw [he] at hc; cases hc
    | some en0 =>
      rw [he] at hc e1
      have e1' : Ent.mu xs = en0 := e1
      subst e1'
      cases hc
  · rw [restE_out hi] at h1
    exact ⟨i, xs, h1, by rw [wipe_out' hi]; exact h2⟩
theorem Ext.rest {e e' : Sto} {σ : L2.St} {B H B' H' : Hp} {own : List Nat} (hok : okOwn e own = true) (hR : ∀ v ∈ own, v ∉ Γ.R) (x : Ext Γ (wipeE e own) (L2.wipe σ own) B H e' (L2.wipe σ own) B' H') : Ext Γ e σ B H (restE e e' own) σ B' H' where
  b := x.b
  t := x.t
  f := fun p o h n => by
    obtain ⟨k1, k2, k3⟩ := x.f p o h fun z => n (own_wipe z)
    exact ⟨k1, k2, fun z => k3 (own_rest hok z)⟩
  r := fun i hi => by
    have no : i ∉ own := fun z => hR i z hi
    obtain ⟨k1, k2⟩ := x.r i hi
    refine ⟨rfl, fun xs p h1 h2 => ?_⟩
    rcases k2 xs p (by rw [wipeE_out no]; exact h1) (by rw [wipe_out' no]; exact h2) with ⟨ys, q⟩ | q
    · exact .inl ⟨ys, by rw [restE_out no]; exact q⟩
    · exact .inr q
variable {e elt tg iter : Expr} {ifs : List Expr} {scope : Scope} {own : List (Str × Nat)} {pos : Pos} {t : Asg} {it : DenI} {cond : DenT} {f : DenV}
theorem bindX_ok {α β : Type} {r : Res α} {k : α → Sto → Res β} {b : β} {e : Sto} (h : r.bindX k = .ok b e) : ∃ a e1, r = .ok a e1 ∧ k a e1 = .ok b e := by
  cases r with
  | ok a e1 => exact ⟨a, e1, rfl, h⟩
  | err _ _ _ _ => cases h
  | bad => cases h
theorem touch_wipe {vs : List Nat} {σ σ' : L2.St} (h : Touch vs σ σ') : L2.wipe σ' vs = L2.wipe σ vs := by
  have g1 : ∀ (σ : L2.St) (vs : List Nat) (i : Nat), i ∈ vs → i < σ.length → (L2.wipe σ vs)[i]? = some none := by
    intro σ vs i
    induction vs with
    | nil => intro h; simp at h
    | cons v vs ih =>
      intro h hl
      show ((L2.wipe σ vs).set v none)[i]? = some none
      by_cases e : v = i
      · subst e
        rw [List.getElem?_set_self (by rw [wipe_length]; exact hl)]
      · rw [List.getElem?_set_ne e]
        exact ih ((List.mem_cons.mp h).resolve_left fun z => e z.symm) hl
  refine List.ext_getElem? fun i => ?_
  by_cases hi : i ∈ vs
  · by_cases hl : i < σ.length
    · rw [g1 σ' vs i hi (by rw [h.1]; exact hl), g1 σ vs i hi hl]
    · rw [List.getElem?_eq_none (by rw [wipe_length, h.1]; omega), List.getElem?_eq_none (by rw [wipe_length]; omega)]
  · rw [wipe_out' hi, wipe_out' hi]
    exact h.2 i hi
theorem touch_of_wipe {vs : List Nat} {σ : L2.St} : Touch vs (L2.wipe σ vs) σ := ⟨(wipe_length σ vs).symm, fun j hj => (wipe_out' hj).symm⟩
theorem wipe_wipe {vs : List Nat} {σ : L2.St} : L2.wipe (L2.wipe σ vs) vs = L2.wipe σ vs := (touch_wipe (touch_of_wipe (σ := σ) (vs := vs))).symm
theorem tLc_of (hR : ∀ v ∈ own.map (·.2), v ∉ Γ.R) {σ : L2.St} {H : Hp} {Q : VK} (h : tF Γ W (dLc (own.map (·.2)) t it cond f) σ H Q) : tLc (tI Γ W it) (tGo Γ (own.map (·.2)) t) (tT Γ W0 cond) (tV Γ W0 f) (own.map (·.2)) σ H Q := by
  obtain ⟨env, B, s, p⟩ := h
  generalize own.map (·.2) = vs at hR p ⊢
  refine ⟨env, B, s, p.bind.mono fun items e B1 H1 s1 x1 q1 J hJ L hL => ?_⟩
  by_cases hok : okOwn e vs = true
  · rw [if_pos hok] at q1
    have s1w := s1.wipe vs
    -- the end
    have fin : ∀ (acc : List D) (e' : Sto), loopC vs t cond f items [] (wipeE e vs) = .ok acc e' → ∀ B' H' accV, StOk Γ e' (L2.wipe σ vs) B' H' → Ext Γ (wipeE e vs) (L2.wipe σ vs) B1 H1 e' (L2.wipe σ vs) B' H' → H' L = some (.lst accV) → B' L = none → ¬ Own e' (L2.wipe σ vs) L → Reps Γ B' acc accV → Q (.ref L) H' := by
      intro acc e' hl B' H' accV s' x' hd hb ho r
      rw [hl] at q1
      have q2 : Post Γ W e σ B1 H1 (fun r env' B' H' => ∀ v, RetOk Γ (FreeR Γ env σ H) env' σ B' H' r v → Q v H') (.ok (.mu acc) (restE e e' vs)) := q1
      exact q2 B' H' (s1.rest hok s' x'.b) (Ext.rest hok hR x') _ ⟨L, accV, rfl, .inl (x1.h0 L hL), hb, hd, r, fun z => ho (own_rest hok z)⟩
    obtain ⟨acc, e', hl⟩ : ∃ acc e', loopC vs t cond f items [] (wipeE e vs) = .ok acc e' := by
      cases hl : loopC vs t cond f items [] (wipeE e vs) with
      | ok acc e' => exact ⟨acc, e', rfl⟩
      | err _ _ _ _ => rw [hl] at q1; exact q1.elim
      | bad => rw [hl] at q1; exact q1.elim
    refine ⟨fun i m H2 => m = items.length - i ∧ i ≤ items.length ∧ ∃ ec B2 accD accV, StOk Γ ec (L2.wipe σ vs) B2 H2 ∧ Ext Γ (wipeE e vs) (L2.wipe σ vs) B1 H1 ec (L2.wipe σ vs) B2 H2 ∧ H2 L = some (.lst accV) ∧ B2 L = none ∧ ¬ Own ec (L2.wipe σ vs) L ∧ Reps Γ B2 accD accV ∧
      loopC vs t cond f (items.drop i) accD ec = .ok acc e', ⟨items.length, by simp, Nat.zero_le _, wipeE e vs, B1, [], [], s1w.newM hL, Ext.newM hL, upd_same, s1.bfresh hL, s1w.fresh_own hL, rfl, hl⟩, ?_⟩
    rintro i m H2 ⟨rfl, hi, ec, B2, accD, accV, s2, x2, hd2, hb2, ho2, r2, hl2⟩
    have hw := hJ i B2 H2 x2.b s2.same
    by_cases hlt : i < items.length
    · obtain ⟨hgo, hyld⟩ := hw.1 items[i] (List.getElem?_eq_getElem hlt)
      rw [List.drop_eq_getElem_cons hlt] at hl2
      refine .inr ⟨hgo, fun H3 => ∃ ec B3 accD accV, StOk Γ ec (L2.wipe σ vs) B3 H3 ∧ Ext Γ (wipeE e vs) (L2.wipe σ vs) B1 H1 ec (L2.wipe σ vs) B3 H3 ∧ H3 L = some (.lst accV) ∧ B3 L = none ∧ ¬ Own ec (L2.wipe σ vs) L ∧ Reps Γ B3 accD accV ∧
        loopC vs t cond f (items.drop (i + 1)) accD ec = .ok acc e', fun H3 ⟨ec, B3, a1, a2, k⟩ => ⟨items.length - (i + 1), by omega, rfl, hlt, ec, B3, a1, a2, k⟩, fun v H3 hy => ?_⟩
      obtain ⟨B3, gr, rv⟩ := hyld v H3 hy
      have s3 := s2.growG gr
      have x3 := x2.trans (Ext.growG (Γ := Γ) gr)
      have hd3 := gr.h L _ hd2
      have hb3 := gr.n L _ hd2 hb2
      have r3 := Reps.mono gr.b _ _ r2
      have hl3 : (match t items[i] ec with
        | none => Res.bad
        | some e1 => (cond e1).bindX fun b e2 => if b = true then (f e2).bindX fun y e3 => (if accD.length < 1000000 then loopC vs t cond f (items.drop (i + 1)) (accD ++ [y]) (wipeE e3 vs) else .bad) else loopC vs t cond f (items.drop (i + 1)) accD (wipeE e2 vs)) = .ok acc e' := hl2
      cases ht : t items[i] ec with
      | none => rw [ht] at hl3; cases hl3
      | some e1 =>
        rw [ht] at hl3
        refine ⟨ec, B3, items[i], e1, s3, rv, ht, fun σ4 s4 x4 t4 => ?_⟩
        obtain ⟨b, e2, hc, hl4⟩ := bindX_ok hl3
        have hws : L2.wipe σ4 vs = L2.wipe σ vs := (touch_wipe t4).trans wipe_wipe
        refine ⟨hws.trans (by rfl), e1, B3, s4, ?_⟩
        rw [hc]
        intro B5 H5 s5 x5
        have x45 := x4.trans x5
        have x35 := x3.trans x45
        obtain ⟨f1, f2, f3⟩ := x45.f L _ hd3 ho2
        cases b with
        | false =>
          have hl5 : loopC vs t cond f (items.drop (i + 1)) accD (wipeE e2 vs) = .ok acc e' := by
            rw [← if_neg (c := false = true) (t := (f e2).bindX fun y e3 => (if accD.length < 1000000 then loopC vs t cond f (items.drop (i + 1)) (accD ++ [y]) (wipeE e3 vs) else .bad)) (e := loopC vs t cond f (items.drop (i + 1)) accD (wipeE e2 vs)) Bool.false_ne_true]
            exact hl4
          have s5w := s5.wipe vs
          have x5w := Ext.wipe x35 hR
          rw [hws] at s5w x5w
          refine (fun (hh : _) => iteF hh) ⟨wipeE e2 vs, B5, accD, accV, s5w, x5w, f1, f2 hb3, fun z => f3 (own_wipe (by rw [hws]; exact z)), Reps.mono x45.b _ _ r3, hl5⟩
        | true =>
          have hl4' : ((f e2).bindX fun y e3 => (if accD.length < 1000000 then loopC vs t cond f (items.drop (i + 1)) (accD ++ [y]) (wipeE e3 vs) else .bad)) = .ok acc e' := by
            rw [← if_pos (c := true = true) (t := (f e2).bindX fun y e3 => (if accD.length < 1000000 then loopC vs t cond f (items.drop (i + 1)) (accD ++ [y]) (wipeE e3 vs) else .bad)) (e := loopC vs t cond f (items.drop (i + 1)) accD (wipeE e2 vs)) rfl]
            exact hl4
          obtain ⟨y, e3, hf, hl5⟩ := bindX_ok hl4'
          refine (fun (hh : _) => iteT hh) ⟨e2, B5, s5, ?_⟩
          rw [hf]
          intro B6 H6 s6 x6 yv hyv
          have x46 := x45.trans x6
          have x36 := x3.trans x46
          obtain ⟨g1, g2, g3⟩ := x46.f L _ hd3 ho2
          have gb := g2 hb3
          by_cases hlen : accD.length < 1000000
          · rw [if_pos hlen] at hl5
            have s6w := s6.wipe vs
            have x6w := Ext.wipe x36 hR
            rw [hws] at s6w x6w
            have now : ¬ Own (wipeE e3 vs) (L2.wipe σ vs) L := fun z => g3 (own_wipe (by rw [hws]; exact z))
            exact ⟨accV, g1, LN_lt (by rw [← r3.length]; omega), wipeE e3 vs, B6, accD ++ [y], accV ++ [yv], s6w.updD gb g1 now, x6w.updD hL, upd_same, gb, now, (Reps.mono x46.b _ _ r3).append (Reps.one hyv), hl5⟩
          · rw [if_neg hlen] at hl5
            cases hl5
    · have ee : i = items.length := by omega
      subst ee
      rw [List.drop_length] at hl2
      have hl2' : Res.ok accD ec = .ok acc e' := hl2
      cases hl2'
      exact .inl ⟨hw.2 (Nat.le_refl _), fin _ _ hl B2 H2 accV s2 x2 hd2 hb2 ho2 r2⟩
  · rw [if_neg hok] at q1
    exact q1.elim
theorem imTs {X : Cx} {es : List Expr} {t t' : TT} (h : PTs X es t) (i : ∀ σ H Q, t' σ H Q → t σ H Q) : PTs X es t' := ⟨fun pins s σ H Q I q => h.run pins s σ H Q I (i σ H Q q)⟩
abbrev STs (X : Cx) (Γ : Wd) (W : WX) (es : List Expr) (f : DenT) : Prop := PTs X es (tT Γ W f)
theorem sTs0 : STs X Γ W [] dTrue := imTs pts_nil fun σ H Q ⟨env, B, s, p⟩ => Post.here s p
theorem sTs1 {c : Expr} {g : DenT} (h : ST X Γ W c g) : STs X Γ W [c] g := pts_one h
theorem sLc (hR : ∀ v ∈ own.map (·.2), v ∉ Γ.R) (hc : X.calm = true) (hN : X.N.Nodup) (hi : SI X Γ W tg iter it) (ok : BlkOk X.N X.env.scope scope own)
    (hg : ∀ (s : Shared) (H : Hp) (C : Addr) (cl : List (Str × Addr)) (fp : List Addr), PG (X.blk s H scope (compEnvC scope cl C X.env) fp) tg (tGo Γ (own.map (·.2)) t)) (ht : ∀ (s : Shared) (H : Hp) (C : Addr) (cl : List (Str × Addr)) (fp : List Addr), STs (X.blk s H scope (compEnvC scope cl C X.env) fp) Γ W0 ifs cond)
    (he : ∀ (s : Shared) (H : Hp) (C : Addr) (cl : List (Str × Addr)) (fp : List Addr), SV (X.blk s H scope (compEnvC scope cl C X.env) fp) Γ W0 elt f) (hs : ∀ x, foldedSetIterable iter X.env x = pure x := by intro _; rfl) :
    SF X Γ W (.ListComp elt [⟨tg, iter, ifs, 0⟩] scope pos) (dLc (own.map (·.2)) t it cond f) := imE (pe_lc hc hN hi ok hg ht he hs) fun σ H Q h => tLc_of hR h
theorem sSetLc {i : Nat} {y : Str} {py spos : Pos} (hiR : i ∉ Γ.R) (hR : ∀ v ∈ own.map (·.2), v ∉ Γ.R) (hc : X.calm = true) (hN : X.N.Nodup) (hy : X.N[i]? = some y) (hyl : X.env.scope.names.lookup y = some .local)
    (hsw : swapsWith (.ListComp elt [⟨tg, iter, ifs, 0⟩] scope pos) (some (.Name y py)) spos.line X.env = pure true) (hi : SI X Γ W tg iter it) (ok : BlkOk X.N X.env.scope scope own)
    (hg : ∀ (s : Shared) (H : Hp) (C : Addr) (cl : List (Str × Addr)) (fp : List Addr), PG (X.blk s H scope (compEnvC scope cl C X.env) fp) tg (tGo Γ (own.map (·.2)) t)) (ht : ∀ (s : Shared) (H : Hp) (C : Addr) (cl : List (Str × Addr)) (fp : List Addr), STs (X.blk s H scope (compEnvC scope cl C X.env) fp) Γ W0 ifs cond)
    (he : ∀ (s : Shared) (H : Hp) (C : Addr) (cl : List (Str × Addr)) (fp : List Addr), SV (X.blk s H scope (compEnvC scope cl C X.env) fp) Γ W0 elt f) (hs : ∀ x, foldedSetIterable iter X.env x = pure x := by intro _; rfl) :
    SS X Γ W (.Assign [.Name y py] (.ListComp elt [⟨tg, iter, ifs, 0⟩] scope pos) spos) (dSet i (dLc (own.map (·.2)) t it cond f)) :=
  imS (ps_setLc hc hN hy hyl hsw hi ok hg ht he hs) fun Q σ H h => (tSet_of hiR h : tAsg (tF Γ W (dLc (own.map (·.2)) t it cond f)) (gName i) Q σ H) |> fun k => tLc_of hR k
end
end Ev

set_option Elab.async false
set_option linter.all false
set_option maxRecDepth 100000
set_option maxHeartbeats 4000000
namespace Ev
open PySem PySem.Spec PyProof.Rows L2

/-! ### what the head tells -/
/-- an own exception class over ValueError: its object's shape .. -/
def oexS (K : PySem.W.Frag) (C : Addr) : Bool := match K.lookup C with
  | some ⟨.type "type", _, .cls cd, sl⟩ => (match cd.mro, sl.toList with
    | .ref C' :: bm, [_, _, _, _, some (.builtin n), _] => decide (C' = C ∧ n = "ValueError.__new__" ∧ cd.hasDel = false ∧ cd.hasDict = true ∧ HandSPX.refsVE bm = true)
    | _, _ => false)
  | _ => false
/-- .. and how it answers -/
def oexB (K : PySem.W.Frag) (C : Addr) : Bool := oexS K C && decide (PySem.W.findIn K (.ref C) "__setattr__" = some (some (.builtin "object.__setattr__")) ∧ PySem.W.subIn K (.ref C) (.type "BaseException") = some true ∧ PySem.W.typeIn K (.ref C) = some (.type "type") ∧ PySem.W.keepIn K (.ref C) = true)
theorem oexB_ok {K : PySem.W.Frag} {C : Addr} (h : oexB K C = true) : OexC K C := by
  simp only [oexB, Bool.and_eq_true, decide_eq_true_eq] at h
  obtain ⟨shape, sa, sub, ty, keep⟩ := h
  refine { cls := ?_, sa := sa, exC := sub, tyC := ty, kC := keep }
  unfold oexS at shape
  split at shape <;> try cases shape
  rename_i od cd slots there
  split at shape <;> try cases shape
  rename_i C' bm s0 s1 s2 s3 n s5 mro sl
  have ⟨q1, q2, q3, q4, q5⟩ := of_decide_eq_true shape
  subst q1 q2
  have es : slots = #[s0, s1, s2, s3, some (.builtin "ValueError.__new__"), s5] := Array.toList_inj.mp sl
  cases cd
  dsimp only at mro q3 q4
  subst mro q3 q4 es
  exact ⟨_, _, _, _, bm, _, _, _, _, _, s0, s1, s2, s3, s5, there, q5⟩
/-! ### data that stand at a module's name -/
/-- the items of a sequence of the written part (bare: its own dict is none) -/
def heldSeq (K : PySem.W.Frag) (c : String) (bare : Bool) (a : Addr) : Option (Array Value) := match K.lookup a with
  | some ⟨.type c', od, .seq its _, _⟩ => if c' = c ∧ its.size ≤ sizeLine ∧ (bare = true → od = none) then some its else none
  | _ => none
theorem heldSeq_ok {K : PySem.W.Frag} {c : String} {bare : Bool} {a : Addr} {its : Array Value} (h : heldSeq K c bare a = some its) : ∃ od n sl, K.lookup a = some ⟨.type c, od, .seq its n, sl⟩ ∧ its.size ≤ sizeLine ∧ (bare = true → od = none) := by
  unfold heldSeq at h
  split at h
  · rename_i c' od its' n sl there
    split at h
    · rename_i k
      obtain ⟨rfl, few, no⟩ := k
      cases h
      exact ⟨od, n, sl, there, few, no⟩
    · cases h
  · cases h
mutual
def datB (K : PySem.W.Frag) : D → Value → Bool
  | .non, .none => true
  | .bl b, .bool c => decide (b = c)
  | .int i, .int j _ => decide (i = j)
  | .str s, .str t _ => decide (s = t)
  | .tup ds, .ref a => (match heldSeq K "tuple" false a with
    | some its => datsB K ds its.toList
    | none => false)
  | .fl ds, .ref a => (match heldSeq K "list" true a with
    | some its => datsB K ds its.toList
    | none => false)
  | _, _ => false
def datsB (K : PySem.W.Frag) : List D → List Value → Bool
  | [], [] => true
  | d :: ds, v :: vs => datB K d v && datsB K ds vs
  | _, _ => false
end
/-- u is d, wherever one stands -/
abbrev Stands (K : PySem.W.Frag) (d : D) (u : Value) : Prop := ∃ v, RelV v u ∧ ∀ (Γ : Wd) (B : Hp), Γ.K = K → Rep Γ B d v
mutual
theorem datB_ok {K : PySem.W.Frag} (d : D) (u : Value) (h : datB K d u = true) : Stands K d u := by
  match d, u, h with
  | .non, .none, _ => exact ⟨.non, rfl, fun _ _ _ => rfl⟩
  | .bl b, .bool c, h => exact ⟨.bl b, congrArg Value.bool (of_decide_eq_true h).symm, fun _ _ _ => rfl⟩
  | .int i, .int j t, h => exact ⟨.int i, ⟨t, by rw [of_decide_eq_true (show decide (i = j) = true from h)]⟩, fun _ _ _ => rfl⟩
  | .str i, .str j t, h => exact ⟨.str i, ⟨t, by rw [of_decide_eq_true (show decide (i = j) = true from h)]⟩, fun _ _ _ => rfl⟩
  | .tup ds, .ref a, h =>
    have h' : (match heldSeq K "tuple" false a with | some its => datsB K ds its.toList | none => false) = true := h
    cases e : heldSeq K "tuple" false a with
    | none => rw [e] at h'; cases h'
    | some its =>
      rw [e] at h'
      obtain ⟨od, n, sl, there, few, _⟩ := heldSeq_ok e
      obtain ⟨vs, rel, reps⟩ := datsB_ok ds its.toList h'
      exact ⟨.ref a, rfl, fun Γ B eK => ⟨a, vs, rfl, .inr ⟨_, its, n, by rw [eK]; exact there, rfl, rfl, few, rel⟩, reps Γ B eK⟩⟩
  | .fl ds, .ref a, h =>
    have h' : (match heldSeq K "list" true a with | some its => datsB K ds its.toList | none => false) = true := h
    cases e : heldSeq K "list" true a with
    | none => rw [e] at h'; cases h'
    | some its =>
      rw [e] at h'
      obtain ⟨od, n, sl, there, few, no⟩ := heldSeq_ok e
      obtain ⟨vs, rel, reps⟩ := datsB_ok ds its.toList h'
      exact ⟨.ref a, rfl, fun Γ B eK => ⟨a, vs, rfl, .inr ⟨_, its, n, by rw [eK]; exact there, rfl, no rfl, rfl, few, rel⟩, reps Γ B eK⟩⟩
theorem datsB_ok {K : PySem.W.Frag} (ds : List D) (us : List Value) (h : datsB K ds us = true) : ∃ vs, Vals vs us ∧ ∀ (Γ : Wd) (B : Hp), Γ.K = K → Reps Γ B ds vs := by
  match ds, us, h with
  | [], [], _ => exact ⟨[], .nil, fun _ _ _ => rfl⟩
  | d :: ds, u :: us, h =>
    have ⟨one, more⟩ := (Bool.and_eq_true ..).mp (show (datB K d u && datsB K ds us) = true from h)
    obtain ⟨v, r1, r2⟩ := datB_ok d u one
    obtain ⟨vs, r3, r4⟩ := datsB_ok ds us more
    exact ⟨v :: vs, .cons r1 r3, fun Γ B e => ⟨v, vs, rfl, r2 Γ B e, r4 Γ B e⟩⟩
end
/-- a test of what stands at a name of the module -/
def onMain (K : PySem.W.Frag) (x : Str) (p : Value → Bool) : Bool := match PySem.W.nsIn K mainGlobals x with
  | some (some v) => p v
  | _ => false
theorem onMain_ok {K : PySem.W.Frag} {h : Heap} {mg : Str → Option Value} (X : K.In h) (G : h.Ns mainGlobals mg) {x : Str} {p : Value → Bool} (c : onMain K x p = true) : ∃ v, mg x = some v ∧ p v = true := by
  unfold onMain at c
  split at c
  · rename_i v e
    exact ⟨v, PySem.W.mg_of X G e, c⟩
  · cases c
/-- facts by names -/
inductive Fx where
  | glo (x : Str) | free (x : Str) | fun_ (x : Str) (id : String) | oex (x : Str) | ini (x : Str) | nof (x f : Str) | xf (x : Str) | exm (x y : Str) (b : Bool) | tab (x : Str) (vs : List He.Dv) | int (x : Str) (i : Int) | dat (x : Str) (d : D)
  | fa (f : He.Fa) | cl (x : Str) | isc (x : Str) (l : List (Str × Bool)) | isb (x : Str) | bin (x m : Str) (id : String) | prop (x m : Str)
/-- the getter of a property -/
def gAd (K : PySem.W.Frag) (x m : Str) : Addr := match PySem.W.recIn K (He.ma K (He.ga K x) m) "property" with
  | some (.ref g :: _) => g
  | _ => 0
def tyNames : List String := ["NoneType", "bool", "int", "str", "tuple", "list"]
def Fx.ok (K : PySem.W.Frag) : Fx → Bool
  | .glo x => He.eqO (PySem.W.nsIn K mainGlobals x) (some (some (.ref (He.ga K x))))
  | .free x => He.eqO (PySem.W.nsIn K mainGlobals x) (some none)
  | .fun_ x id => He.eqO (PySem.W.nsIn K mainGlobals x) (some (some (.builtin id)))
  | .oex x => oexB K (He.ga K x)
  | .ini x => He.eqO (PySem.W.findIn K (.ref (He.ga K x)) "__init__") (some (some (.ref (He.ma K (He.ga K x) "__init__")))) && decide (PySem.W.typeIn K (.ref (He.ma K (He.ga K x) "__init__")) = some (.type "function"))
  | .nof x f => He.eqO (PySem.W.findIn K (.ref (He.ga K x)) f) (some none)
  | .xf x => xfB K (He.ga K x)
  | .exm x y b => decide (PySem.W.exmOne K (.ref (He.ga K x)) (.ref (He.ga K y)) = some b)
  | .tab x vs => He.tupB K x vs
  | .int x i => onMain K x fun v => match v with
    | .int j _ => decide (j = i)
    | _ => false
  | .dat x d => onMain K x (datB K d)
  | .fa f => f.ok K
  | .cl x => (He.Fa.cls x).ok K && (He.eqO (PySem.W.findIn K (.ref (He.ga K x)) "__class__") (some (some (.builtin "object.__class__"))) && (He.eqO (PySem.W.specialIn K (.builtin "object.__class__") "__get__") (some (some (.builtin "getset_descriptor.__get__"))) && (decide (PySem.W.takesIn K (.builtin "object.__class__") = some true) && decide (PySem.W.mroIn K (He.ga K x) (.type "object") = some true))))
  | .isc x l => (tyNames.all fun t => decide (PySem.W.kitOne K (.type t) (.ref (He.ga K x)) = some false)) && l.all fun p => decide (PySem.W.kitOne K (.ref (He.ga K p.1)) (.ref (He.ga K x)) = some p.2)
  | .isb x => tyNames.all fun t => decide (PySem.W.kitOne K (.ref (He.ga K x)) (.type t) = some false)
  | .bin x m id => He.eqO (PySem.W.findIn K (.ref (He.ga K x)) m) (some (some (.builtin id)))
  | .prop x m => He.eqO (PySem.W.findIn K (.ref (He.ga K x)) m) (some (some (.ref (He.ma K (He.ga K x) m)))) && (He.eqO (PySem.W.specialIn K (.ref (He.ma K (He.ga K x) m)) "__get__") (some (some (.builtin "property.__get__"))) && (decide (PySem.W.takesIn K (.ref (He.ma K (He.ga K x) m)) = some true) && (match PySem.W.recIn K (He.ma K (He.ga K x) m) "property" with
    | some (.ref _ :: _) => true
    | _ => false)))
/-- where a def stands: a global's name, a class's method, a property's getter ("@" ahead of its name) -/
def adOf (K : PySem.W.Frag) (d : He.DefD) : Addr := match d.at_, d.qual with
  | (x, some m), _ => if m == d.name then He.ma K (He.ga K x) m else gAd K x d.name
  | (x, none), _ => He.ga K x
/-- a def of the head, at its address -/
def toA (d : He.DefD) : He5.DefA := ⟨fun K => adOf K d, d.name, d.qual, d.params, d.body, d.scope, d.dfl, d.kwd⟩
abbrev AlX : Type := Bool × List He.FnW
def obsX (fa : List Fx) (fn : List He.DefD) (K : PySem.W.Frag) : AlX := ((fa.all fun f => f.ok K) && fn.all fun d => (toA d).ok K, fn.map fun d => He5.fnA K (adOf K d))
def valX (fn : List He.DefD) : AlX := (true, fn.map He.DefD.val)
def SaysX (fa : List Fx) (fn : List He.DefD) (K : PySem.W.Frag) : Prop := obsX fa fn K = valX fn
/-! the addresses that are seen, level by level, each once (a mask of bits says which) -/
def frN {α : Type} (n : Nat) (k : Nat → α) : α := match n with
  | 0 => k 0
  | m + 1 => k (m + 1)
def visB {β : Type} : List Addr → Nat → List Addr → (Nat → List Addr → β) → β
  | [], mask, acc, k => k mask acc
  | a :: r, mask, acc, k => frN a fun a => match Nat.land (Nat.shiftRight mask a) 1 with
    | 0 => frN (Nat.lor mask (Nat.shiftLeft 1 a)) fun mask => visB r mask (a :: acc) k
    | _ + 1 => visB r mask acc k
def levB {β : Type} (g : Addr → Option Obj) : List Addr → Nat → List Addr → (Nat → List Addr → β) → β
  | [], mask, acc, k => k mask acc
  | a :: r, mask, acc, k => match g a with
    | some o => visB (He.refsD o) mask acc fun mask acc => levB g r mask acc k
    | none => levB g r mask acc k
def bfsB (g : Addr → Option Obj) : Nat → List Addr → Nat → List Addr
  | 0, _, _ => []
  | n + 1, fr, mask => levB g fr mask [] fun mask nx => nx ++ bfsB g n nx mask
def asB (g : Addr → Option Obj) (n : Nat) : List Addr := mainGlobals :: bfsB g n [mainGlobals] (Nat.shiftLeft 1 mainGlobals)
def obsXG (n : Nat) (fa : List Fx) (fn : List He.DefD) (g : Addr → Option Obj) : AlX := obsX fa fn (He.frG g (asB g n))
def hookX (n : Nat) (fa : List Fx) (fn : List He.DefD) : PySem.W.Hook :=
  { α := AlX, val := fun _ => valX fn, obs := fun s => obsXG n fa fn s.heap.get?, says := fun _ h => ∃ K : PySem.W.Frag, K.In h ∧ SaysX fa fn K, of := fun _ _ seen => Exists.intro _ (And.intro He.frG_in seen), keeps := fun _ _ _ said k => said.imp fun _ both => ⟨PySem.W.Frag.In.keeps both.1 k, both.2⟩ }
theorem obsXG_eq {n : Nat} {fa : List Fx} {fn : List He.DefD} {g : Addr → Option Obj} {s : Shared} (h : ∀ a, g a = s.heap.get? a) : obsXG n fa fn g = (hookX n fa fn).obs s := congrArg (obsXG n fa fn) (funext h)
section
variable {fa : List Fx} {fn : List He.DefD} {K : PySem.W.Frag}
/-- all that is said, each by itself -/
theorem SaysX.each (c : SaysX fa fn K) : (∀ f ∈ fa, f.ok K = true) ∧ ∀ d ∈ fn, (toA d).ok K = true ∧ He5.fnA K (adOf K d) = d.val := by
  have ⟨tests, texts⟩ := (Prod.mk.injEq ..).mp (show ((fa.all fun f => f.ok K) && fn.all fun d => (toA d).ok K, fn.map fun d => He5.fnA K (adOf K d)) = (true, fn.map He.DefD.val) from c)
  have ⟨t1, t2⟩ := (Bool.and_eq_true ..).mp tests
  exact ⟨List.all_eq_true.mp t1, fun d hd => ⟨List.all_eq_true.mp t2 d hd, List.map_inj_left.mp texts d hd⟩⟩
theorem SaysX.fact (c : SaysX fa fn K) (i : Nat) {f : Fx} (h : fa[i]? = some f := by rfl) : f.ok K = true := c.each.1 f (List.mem_of_getElem? h)
/-- the function object at an address -/
def fdOf (K : PySem.W.Frag) (a : Addr) : FuncData := match K.lookup a with
  | some ⟨_, _, .func fd, _⟩ => fd
  | _ => PySem.W.fnOf "" "" ⟨[], [], none, [], [], none, []⟩ [] ⟨.function, [], false, false, []⟩ .none .none .none .none none .none .none
theorem SaysX.defA (c : SaysX fa fn K) (i : Nat) {d : He.DefD} (h : fn[i]? = some d) {a : Addr} (ha : adOf K d = a) : FunD K d.name d.qual d.params d.body d.scope (d.dvs K) (d.kws K) a (fdOf K a) := by
  have ⟨fits, text⟩ := c.each.2 d (List.mem_of_getElem? h)
  obtain ⟨fd, F⟩ := He5.DefA.funD (d := toA d) text fits
  replace F : FunD K d.name d.qual d.params d.body d.scope (d.dvs K) (d.kws K) (adOf K d) fd := F
  rw [ha] at F
  have is_ : fdOf K a = fd := by
    unfold fdOf
    obtain ⟨_, _, _, _, _, _, _, _, _, _, _, there, _⟩ := F.ex
    rw [there]
  rw [is_]
  exact F
theorem SaysX.def_ (c : SaysX fa fn K) (i : Nat) {d : He.DefD} (h : fn[i]? = some d := by rfl) (ha : adOf K d = He.fAd K d.at_ := by rfl) : FunD K d.name d.qual d.params d.body d.scope (d.dvs K) (d.kws K) (He.fAd K d.at_) (fdOf K (He.fAd K d.at_)) := c.defA i h ha
variable {h : Heap} {mg : Str → Option Value}
theorem fx_glo (X : K.In h) (G : h.Ns mainGlobals mg) {x : Str} (c : (Fx.glo x).ok K = true) : mg x = some (.ref (He.ga K x)) := PySem.W.mg_of X G (He.eqO_ok c)
theorem fx_free (X : K.In h) (G : h.Ns mainGlobals mg) {x : Str} (c : (Fx.free x).ok K = true) : mg x = none := PySem.W.mg_none_of X G (He.eqO_ok c)
theorem fx_fun (X : K.In h) (G : h.Ns mainGlobals mg) {x : Str} {id : String} (c : (Fx.fun_ x id).ok K = true) : mg x = some (.builtin id) := PySem.W.mg_of X G (He.eqO_ok c)
theorem fx_int (X : K.In h) (G : h.Ns mainGlobals mg) {x : Str} {i : Int} (c : (Fx.int x i).ok K = true) : ∃ t, mg x = some (.int i t) := by
  obtain ⟨v, at_, is_⟩ := onMain_ok X G c
  cases v <;> try cases is_
  exact ⟨_, by rw [at_, of_decide_eq_true is_]⟩
theorem fx_dat (X : K.In h) (G : h.Ns mainGlobals mg) {x : Str} {d : D} (c : (Fx.dat x d).ok K = true) : ∃ v u, mg x = some u ∧ RelV v u ∧ ∀ (Γ : Wd) (B : Hp), Γ.K = K → Rep Γ B d v := by
  obtain ⟨u, at_, is_⟩ := onMain_ok X G c
  obtain ⟨v, rel, rep⟩ := datB_ok d u is_
  exact ⟨v, u, at_, rel, rep⟩
theorem fx_oex {x : Str} (c : (Fx.oex x).ok K = true) : OexC K (He.ga K x) := oexB_ok c
theorem fx_ini {x : Str} (c : (Fx.ini x).ok K = true) : PySem.W.findIn K (.ref (He.ga K x)) "__init__" = some (some (.ref (He.ma K (He.ga K x) "__init__"))) ∧ PySem.W.typeIn K (.ref (He.ma K (He.ga K x) "__init__")) = some (.type "function") := by
  obtain ⟨c1, c2⟩ := Bool.and_eq_true_iff.mp c
  exact ⟨He.eqO_ok c1, of_decide_eq_true c2⟩
theorem fx_nof {x f : Str} (c : (Fx.nof x f).ok K = true) : PySem.W.findIn K (.ref (He.ga K x)) f = some none := He.eqO_ok c
theorem fx_xf {x : Str} (c : (Fx.xf x).ok K = true) : XfC K (He.ga K x) := xfB_ok c
theorem fx_exm {x y : Str} {b : Bool} (c : (Fx.exm x y b).ok K = true) : PySem.W.exmOne K (.ref (He.ga K x)) (.ref (He.ga K y)) = some b := of_decide_eq_true c
theorem fx_fa {f : He.Fa} (c : (Fx.fa f).ok K = true) : f.ok K = true := c
/-- an own class, and what its instances' __class__ is found to be -/
structure ClF (K : PySem.W.Frag) (C : Addr) : Prop where
  cl : Cls K C
  cls : PySem.W.findIn K (.ref C) "__class__" = some (some (.builtin "object.__class__")) ∧ PySem.W.specialIn K (.builtin "object.__class__") "__get__" = some (some (.builtin "getset_descriptor.__get__")) ∧ PySem.W.takesIn K (.builtin "object.__class__") = some true
  hm : PySem.W.mroIn K C (.type "object") = some true
theorem fx_cl {x : Str} (c : (Fx.cl x).ok K = true) : ClF K (He.ga K x) := by
  simp only [Fx.ok, Bool.and_eq_true, decide_eq_true_eq] at c
  exact ⟨He.cls_ok c.1, ⟨He.eqO_ok c.2.1, He.eqO_ok c.2.2.1, c.2.2.2.1⟩, c.2.2.2.2⟩
theorem fx_isc {x : Str} {l : List (Str × Bool)} (c : (Fx.isc x l).ok K = true) : (∀ t ∈ tyNames, PySem.W.kitOne K (.type t) (.ref (He.ga K x)) = some false) ∧ ∀ p ∈ l, PySem.W.kitOne K (.ref (He.ga K p.1)) (.ref (He.ga K x)) = some p.2 := by
  obtain ⟨c1, c2⟩ := Bool.and_eq_true_iff.mp c
  exact ⟨fun t ht => of_decide_eq_true (List.all_eq_true.mp c1 t ht), fun p hp => of_decide_eq_true (List.all_eq_true.mp c2 p hp)⟩
theorem fx_isb {x : Str} (c : (Fx.isb x).ok K = true) : ∀ t ∈ tyNames, PySem.W.kitOne K (.ref (He.ga K x)) (.type t) = some false := fun t ht => of_decide_eq_true (List.all_eq_true.mp c t ht)
theorem fx_prop {x m : Str} (c : (Fx.prop x m).ok K = true) : PropOf K (He.ga K x) m (He.ma K (He.ga K x) m) (gAd K x m) := by
  simp only [Fx.ok, Bool.and_eq_true, decide_eq_true_eq] at c
  refine ⟨He.eqO_ok c.1, He.eqO_ok c.2.1, c.2.2.1, ?_⟩
  have last := c.2.2.2
  unfold gAd
  split at last
  · rename_i g rest e
    rw [e]
    exact ⟨rest, rfl⟩
  · cases last
theorem fx_bin {x m : Str} {id : String} (c : (Fx.bin x m id).ok K = true) : PySem.W.findIn K (.ref (He.ga K x)) m = some (some (.builtin id)) := He.eqO_ok c
theorem fx_tab {x : Str} {vs : List He.Dv} (c : (Fx.tab x vs).ok K = true) (H : Hp) : SqT K H (He.ga K x) (vs.map (He.Dv.v K)) := He.tupB_ok c H
end
/-! ### a table of classes -/
def xtab (l : List (Str × Str × Bool)) : XTab := fun c h => (l.find? fun t => t.1 == c && t.2.1 == h).map (·.2.2)
theorem xtab_mem {l : List (Str × Str × Bool)} {c h : Str} {b : Bool} (e : xtab l c h = some b) : (c, h, b) ∈ l := by
  unfold xtab at e
  cases hf : l.find? (fun t => t.1 == c && t.2.1 == h) with
  | none => rw [hf] at e; cases e
  | some t =>
    rw [hf] at e
    have h1 := List.find?_some hf
    have h2 := List.mem_of_find?_eq_some hf
    simp only [Bool.and_eq_true, beq_iff_eq] at h1
    obtain ⟨c', h', b'⟩ := t
    simp only [Option.map_some, Option.some.injEq] at e
    obtain ⟨rfl, rfl⟩ := h1
    subst e
    exact h2

/-! ### the law -/
theorem reps_ints {Γ : Wd} {B : Hp} : ∀ ns : List Int, Reps Γ B (ns.map D.int) (ns.map V.int)
  | [] => rfl
  | n :: ns => ⟨.int n, ns.map V.int, rfl, rfl, reps_ints ns⟩
theorem walk_ev {l : PySem.W.OpenLaw} {k : Nat} {q : Program} {loose : List Str} {XP : (Str → Option Value) → Heap → Prop} {YP : World → Heap → Prop} {d : DefRec} {x : Str} {g : Fn}
    (hn : l.most = some 63) (hdf : d.params.defaults = []) (hr : RoomG k callerA)
    (F : ∀ (w : World) (mg : Str → Option Value) (fa : Addr) (h : Heap), YP w h → h.Ns mainGlobals mg → mg d.name = some (.ref fa) →
      ∃ (K : PySem.W.Frag) (fd : FuncData), K.In h ∧ (∀ (s : Shared) (u : Value), BindsTo s fd ⟨[u], []⟩ [(x, u)]) ∧
        ∀ base : Heap, K.In base → base.Ns mainGlobals mg → FnOkG l.prog w K mg base (L2.CX l.prog w) k fa fd [x] (spOf K mg [] 1 g))
    (hlaw : ∀ ns : List Int, ns.length ≤ 63 → (∀ z ∈ ns, Builtin.Int.intBits z ≤ 1048576) → ∃ ps, g [.val (.fl (ns.map D.int))] = .ok (.val (.bl true)) ps) :
    PySem.W.WalkO q loose XP YP l.row.toRowW d [] (fun f vs => PySem.call f vs) := by
  refine Att.attach_callB hn hdf fun w s₀ s₁ mg mb fa o pm cd doc a vs ns G Y ho hd hcd hmg hobj hints hlen hbits hg => ?_
  obtain ⟨K, fd, KX, hb, hF⟩ := F w mg fa _ Y G.T.g hmg
  refine law_callG KX G.T.g G.T.b G.T.builtins G.T.nolimit hg hobj hints (Nat.le_trans hlen (by decide)) hr hF hb (fun H hO hS => ?_) fun H e s' h => ?_
  · obtain ⟨ps, hps⟩ := hlaw ns hlen hbits
    refine ⟨H, [.val (.fl (ns.map D.int))], rfl, args_ok (Γ := wdOf K mg []) (ds := [.fl (ns.map D.int)]) (σ := []) (Same.refl _) (Reps.one ⟨a, _, rfl, hS, reps_ints ns⟩), fun i xs hi => ?_, ?_⟩
    · cases i with
      | zero => cases hi
      | succ i => cases hi
    · rw [hps]
      exact fun v B' H' _ r => r
  · obtain ⟨_, _, _, _, _, _, _, _, _, _, _, _, z⟩ := h
    exact z
end Ev
set_option Elab.async false
set_option linter.all false
set_option maxRecDepth 100000
set_option maxHeartbeats 4000000
namespace Ev
open PySem PySem.Spec PyProof.Rows L2

theorem bt_len : bootBuiltins "len" = some (.builtin "len") := by decide +kernel
theorem bt_abs : bootBuiltins "abs" = some (.builtin "abs") := by decide +kernel
theorem bt_isinstance : bootBuiltins "isinstance" = some (.builtin "isinstance") := by decide +kernel
theorem bt_list : bootBuiltins "list" = some (.type "list") := by decide +kernel
theorem bt_tuple : bootBuiltins "tuple" = some (.type "tuple") := by decide +kernel
theorem bt_int : bootBuiltins "int" = some (.type "int") := by decide +kernel
theorem bt_bool : bootBuiltins "bool" = some (.type "bool") := by decide +kernel
theorem bt_str : bootBuiltins "str" = some (.type "str") := by decide +kernel
theorem nR {R : List Nat} {i : Nat} (h : R.contains i = false) : i ∉ R := fun z => by
  rw [List.contains_iff_mem.mpr z] at h
  cases h
theorem nRs {R vs : List Nat} (h : vs.all (fun v => !R.contains v) = true) : ∀ v ∈ vs, v ∉ R := fun v hv => nR (by
  have := List.all_eq_true.mp h v hv
  simpa using this)
theorem xfOne {K : PySem.W.Frag} {mg : Str → Option Value} {c n : Str} {C : Addr} (g : mg c = some (.ref C)) (x : XfC K C) (nf : PySem.W.findIn K (.ref C) n = some none) : ∀ c' ∈ [c], ∀ C', mg c' = some (.ref C') → XfC K C' ∧ PySem.W.findIn K (.ref C') n = some none := fun c' hc C' m => by
  have e : c' = c := by simpa using hc
  subst e
  rw [g] at m
  cases m
  exact ⟨x, nf⟩
section
variable {X : Cx} {Γ : Wd} {W : WX} {e a b c : Expr} {es : List Expr} {pos : Pos} {f1 : DenL}
def dNotL (f : DenL) : DenV := fun env => (dTru f env).bind fun b e => .ok (.bl (!b)) e
theorem sNotL (hK : X.K = Γ.K) (ha : SL X Γ W a f1) : SV X Γ W (.UnaryOp .Not a pos) (dNotL f1) := imE (pe_notT ha) fun σ H Q ⟨env, B, s, p⟩ => by
  unfold dNotL dTru at p
  have p2 := p.bind
  refine ⟨env, B, s, p2.bind.mono fun d e1 B1 H1 s1 x1 q1 v hv => ?_⟩
  cases hd : d.get e1 with
  | none => rw [hd] at q1; exact q1.elim
  | some y =>
    rw [hd] at q1
    have q2 : Post Γ W e1 σ B1 H1 (fun b e1 B1 H1 => Post Γ W e1 σ B1 H1 (fun d _ B' H' => ∀ v, Rep Γ B' d v → Q v H') (.ok (.bl (!b)) e1)) (match truth y with | some b => .ok b e1 | none => .bad) := q1
    cases ht : truth y with
    | none => rw [ht] at q2; exact q2.elim
    | some k =>
      rw [ht] at q2
      refine ⟨k, ?_, Post.here s1 (Post.here s1 q2) _ rfl⟩
      rw [hK]
      exact (Ar.now s1 hv hd).truth s1.same ht
end
/-! ### recursion -/
theorem FnOkG.never {P : Program} {w : World} {K : PySem.W.Frag} {mg : Str → Option Value} {base : Heap} {CX : CXT} {k np : Nat} {R : List Nat} {f : Addr} {fd : FuncData} {ps : List Str} : FnOkG P w K mg base CX k f fd ps (spOf K mg R np fun _ => .bad) :=
  ⟨fun vs H Q E ⟨_, _, _, _, _, z⟩ => z.elim, fun A outer s H args us vs Q E _ _ _ _ ⟨_, _, _, _, _, z⟩ => z.elim⟩
def recFn (np ns : Nat) (den : Fn → DenS) : Nat → Fn
  | 0 => fun _ => .bad
  | n + 1 => mkFn np ns (den (recFn np ns den n))
theorem recFn_len {np ns : Nat} {den : Fn → DenS} : ∀ (n : Nat) (args : List Ent), args.length ≠ np → recFn np ns den n args = .bad
  | 0, _, _ => rfl
  | n + 1, args, h => mkFn_len args h
end Ev

set_option Elab.async false
set_option linter.all false
set_option maxRecDepth 100000
set_option maxHeartbeats 4000000
namespace Ev
open PySem PySem.Spec PyProof.Rows L2
/-! ### a global number -/
theorem sGI {X : Cx} {Γ : Wd} {W : WX} {x : Str} {i : Int} {pos : Pos} (hm : ∃ t, X.mg x = some (.int i t)) (hg : Gl X x) (hd : (x == ("__debug__" : Str)) = false := by decide) : SV X Γ W (.Name x pos) (dC (.int i)) :=
  let ⟨t, h⟩ := hm
  sC (pe_glob (v := .int i) hg h ⟨t, rfl⟩ hd) fun _ => rfl

/-! ### keyword arguments: where each parameter's value comes from -/
inductive Src where
  | p (i : Nat) | k (i : Nat) | d (i : Nat)
def Src.pick {α : Type} (us ws its : List α) : Src → Option α
  | .p i => us[i]?
  | .k i => ws[i]?
  | .d i => its[i]?
def arr {α : Type} (l : List Src) (us ws its : List α) : List α := l.filterMap (Src.pick us ws its)
theorem paired_at {R : V → Value → Prop} : ∀ {xs : List V} {us : List Value}, Paired R xs us → ∀ i : Nat, (xs[i]? = none ∧ us[i]? = none) ∨ ∃ x u, xs[i]? = some x ∧ us[i]? = some u ∧ R x u
  | _, _, .nil, i => .inl ⟨by simp, by simp⟩
  | _, _, .cons h r, 0 => .inr ⟨_, _, rfl, rfl, h⟩
  | _, _, .cons h r, i + 1 => by
    rcases paired_at r i with ⟨a, c⟩ | ⟨x, u, a, c, e⟩
    · exact .inl ⟨by simpa using a, by simpa using c⟩
    · exact .inr ⟨x, u, by simpa using a, by simpa using c, e⟩
theorem pick_rel {vs zs dv : List V} {us ws its : List Value} (r1 : Vals vs us) (r2 : Vals zs ws) (r3 : Vals dv its) (q : Src) : (q.pick vs zs dv = none ∧ q.pick us ws its = none) ∨ ∃ x u, q.pick vs zs dv = some x ∧ q.pick us ws its = some u ∧ RelV x u := by
  cases q with
  | p i => exact paired_at r1 i
  | k i => exact paired_at r2 i
  | d i => exact paired_at r3 i
theorem arr_vals {vs zs dv : List V} {us ws its : List Value} (r1 : Vals vs us) (r2 : Vals zs ws) (r3 : Vals dv its) : ∀ l : List Src, Vals (arr l vs zs dv) (arr l us ws its)
  | [] => .nil
  | q :: l => by
    have ih := arr_vals r1 r2 r3 l
    unfold arr at ih ⊢
    rw [List.filterMap_cons, List.filterMap_cons]
    rcases pick_rel r1 r2 r3 q with ⟨a, c⟩ | ⟨x, u, a, c, e⟩
    · rw [a, c]
      exact ih
    · rw [a, c]
      exact .cons e ih
theorem reps_at {Γ : Wd} {B : Hp} : ∀ {ds : List D} {vs : List V}, Reps Γ B ds vs → ∀ i : Nat, (ds[i]? = none ∧ vs[i]? = none) ∨ ∃ d v, ds[i]? = some d ∧ vs[i]? = some v ∧ Rep Γ B d v
  | [], vs, h, i => by
    have h' : vs = [] := h
    rw [h']
    exact .inl ⟨by simp, by simp⟩
  | d :: ds, vs, h, i => by
    obtain ⟨v, r, e1, e2, e3⟩ := h
    rw [e1]
    cases i with
    | zero => exact .inr ⟨d, v, rfl, rfl, e2⟩
    | succ i =>
      rcases reps_at e3 i with ⟨a, c⟩ | ⟨x, u, a, c, e⟩
      · exact .inl ⟨by simpa using a, by simpa using c⟩
      · exact .inr ⟨x, u, by simpa using a, by simpa using c, e⟩
theorem arr_reps {Γ : Wd} {B : Hp} {ds zs dl : List D} {vs ws dv : List V} (r1 : Reps Γ B ds vs) (r2 : Reps Γ B zs ws) (r3 : Reps Γ B dl dv) : ∀ l : List Src, Reps Γ B (arr l ds zs dl) (arr l vs ws dv)
  | [] => rfl
  | q :: l => by
    have ih := arr_reps r1 r2 r3 l
    have pq : (q.pick ds zs dl = none ∧ q.pick vs ws dv = none) ∨ ∃ x u, q.pick ds zs dl = some x ∧ q.pick vs ws dv = some u ∧ Rep Γ B x u := by
      cases q with
      | p i => exact reps_at r1 i
      | k i => exact reps_at r2 i
      | d i => exact reps_at r3 i
    unfold arr at ih ⊢
    rw [List.filterMap_cons, List.filterMap_cons]
    rcases pq with ⟨a, c⟩ | ⟨x, u, a, c, e⟩
    · rw [a, c]
      exact ih
    · rw [a, c]
      exact ⟨u, _, rfl, e, ih⟩
section
variable {K : PySem.W.Frag} {x qual : Str} {params : Arguments} {body : List Stmt} {scope : Scope} {dvs : List V} {kws : List (Str × V)} {f : Addr} {fd : FuncData} {ps : List Str}
/-- keywords, with defaults that fill up -/
theorem kb1 (F : FunD K x qual params body scope dvs kws f fd) (n : Nat) (ks : List Str) (l : List Src) (hd : dvs ≠ [])
    (h : ∀ (T : Addr) (kV doc pm : Value) (an : Option Addr) (cdv ct : Value) (us its ws : List Value), us.length = n → its.length = dvs.length → ws.length = ks.length →
      ∃ k, bindArgs (PySem.W.fnOf x qual params body scope (.ref T) kV doc pm an cdv ct) ⟨us, ks.zip ws⟩ = seqItems? (.ref T) >>= k ∧ k (some its.toArray) = pure (ps.zip (arr l us ws its))) :
    ∃ its : List Value, KBn K fd ps n ks (fun us ws => arr l us ws its) (fun vs zs => arr l vs zs dvs) := by
  obtain ⟨oc, od, dV, kV, doc, pm, an, cdv, ct, osl, rfl, lk, hcd, hD, hK⟩ := F.ex
  rcases hD with ⟨e, _⟩ | ⟨_, T, o, its, m, rfl, lT, oT, rT⟩
  · exact absurd e hd
  · refine ⟨its, ⟨fun s us ws X l1 l2 => ?_, fun r1 r2 => arr_vals r1 r2 rT l⟩⟩
    obtain ⟨k, e1, e2⟩ := h T kV doc pm an cdv ct us its ws l1 rT.length.symm l2
    refine BindsTo.of_looks fun M => ?_
    rw [e1]
    exact looks_items X lT oT (.of_pure e2)
/-- keywords, no defaults -/
theorem kb0 (F : FunD K x qual params body scope [] kws f fd) (n : Nat) (ks : List Str) (l : List Src)
    (h : ∀ (kV doc pm : Value) (an : Option Addr) (cdv ct : Value) (us ws : List Value), us.length = n → ws.length = ks.length →
      bindArgs (PySem.W.fnOf x qual params body scope .none kV doc pm an cdv ct) ⟨us, ks.zip ws⟩ = pure (ps.zip (arr l us ws []))) :
    ∃ its : List Value, KBn K fd ps n ks (fun us ws => arr l us ws its) (fun vs zs => arr l vs zs []) := by
  obtain ⟨oc, od, dV, kV, doc, pm, an, cdv, ct, osl, rfl, lk, hcd, hD, hK⟩ := F.ex
  rcases hD with ⟨_, rfl⟩ | ⟨e, _⟩
  · exact ⟨[], ⟨fun s us ws X l1 l2 => .of_eq (h kV doc pm an cdv ct us ws l1 l2), fun r1 r2 => arr_vals r1 r2 .nil l⟩⟩
  · exact absurd rfl e
end
section
variable {X : Cx} {Γ : Wd} {W : WX} {e : Expr} {es : List Expr} {kws : List Keyword} {pos p : Pos} {x : Str} {f : Addr} {fd : FuncData} {ps ks : List Str} {k np n : Nat} {R : List Nat} {g : Fn} {dvs : List V} {dfl : List D} {fs gs : DenVs} {l : List Src} {its : List Value}
abbrev SK (X : Cx) (Γ : Wd) (W : WX) (kws : List Keyword) (f : DenVs) : Prop := PK X kws (tVs Γ W f)
theorem imK {kws : List Keyword} {t t' : TA} (h : PK X kws t) (i : ∀ σ H Q, t' σ H Q → t σ H Q) : PK X kws t' := ⟨fun pos pins s σ H Q I q => h.run pos pins s σ H Q I (i σ H Q q)⟩
theorem sKNil : SK X Γ W [] (dVs []) := imK pk_nil fun σ H Q ⟨env, B, s, p⟩ => Post.here s p [] rfl
theorem sKCons {f : DenV} {fs : List DenV} {nm : Option Str} {kpos : Pos} (h : SV X Γ W e f) (r : SK X Γ W kws (dVs fs)) : SK X Γ W (⟨nm, e, kpos⟩ :: kws) (dVs (f :: fs)) :=
  imK (pk_cons h r) fun σ H Q ⟨env, B, s, p⟩ =>
    ⟨env, B, s, p.bind.mono fun d e1 B1 H1 s1 x1 q1 v hv => ⟨e1, B1, s1, q1.bind.mono fun ds e2 B2 H2 s2 x2 q2 vs hvs => Post.here s2 q2 (v :: vs) ⟨v, vs, rfl, Rep.mono x2.b d v hv, hvs⟩⟩⟩
theorem run_fnNS {pins : List (Addr × Obj)} {σ : L2.St} {H : Hp} {s : Shared} {Q : VK} {us ws : List Value} {vs zs : List V} {gg : List Value → List Value → List Value} {gV : List V → List V → List V} {CX : CXT} {sp : Sp} {E : XK} (F : FnOkG X.prog X.w X.K X.mg X.base CX k f fd ps sp) (hr : RoomG k X.A) (hb : KBn X.K fd ps n ks gg gV) (hx : PassesAt CX X σ E)
    (I : Inv X pins σ H s) (r : Vals vs us) (rz : Vals zs ws) (l1 : vs.length = n) (l2 : zs.length = ks.length) (h : sp (gV vs zs) H Q E) : wpAny (model X.prog X.w) X.A (call (.ref f) us (ks.zip ws)) (EP X pins σ Q) X.xe s := by
  have r2 := hb.rel r rz
  have b := hb.to s us ws I.kIn (r.length.symm.trans l1) (rz.length.symm.trans l2)
  refine wpAny_call (codeAny_mono (F.run X.A X.stack s H ⟨us, ks.zip ws⟩ (gg us ws) (gV vs zs) Q E hr I.env0 b r2 h) fun r s' hq => ?_)
  cases r with
  | ok fl =>
    cases fl with
    | ret u => exact I.after hq
    | next => exact False.elim hq
    | brk => exact False.elim hq
    | cont => exact False.elim hq
  | error e => exact hx pins H s e s' I hq
def tCallKS (n m : Nat) (sp : Sp) (gV : List V → List V → List V) (E : L2.St → XK) (t tk : TA) : TE := fun σ H Q => t σ H fun vs H1 => tk σ H1 fun zs H2 => vs.length = n ∧ zs.length = m ∧ sp (gV vs zs) H2 Q (E σ)
theorem pe_callKS {CX : CXT} {sp : Sp} {E : L2.St → XK} {t tk : TA} {gg : List Value → List Value → List Value} {gV : List V → List V → List V} (F : FnOkG X.prog X.w X.K X.mg X.base CX k f fd ps sp) (hr : RoomG k X.A) (hg : Gl X x) (hm : X.mg x = some (.ref f)) (hk : PySem.W.keepIn X.K (.ref f) = true) (hb : KBn X.K fd ps n ks gg gV) (hx : ∀ σ, PassesAt CX X σ (E σ))
    (ha : PA X (e :: es) t) (hkw : PK X kws tk) (hall : (backToKw pos (keywordEach kws X.env)).all (·.1.isSome) = true) (hks : (backToKw pos (keywordEach kws X.env)).filterMap (·.1) = ks)
    (hdb : (x == ("__debug__" : Str)) = false) (he : starEach (e :: es) X.env = (false, eval e X.env) :: starEach es X.env)
    (hpl : ((backTo pos (starEach (e :: es) X.env)).any (·.1) || (backToKw pos (keywordEach kws X.env)).any (·.1.isNone)) = false) :
    PE X (.Call (.Name x p) (e :: es) kws pos) (tCallKS n ks.length sp gV E t tk) := by
  refine ⟨fun pins s σ H Q I h => wpAny_Call_Name_kw (ld_glob I hg hm ?_ hdb)⟩
  refine PySem.W.callWith_KW (h₀ := X.base) I.ok.mod.kin hk hall (thn (ha.run pos pins s σ H _ I h) fun us s1 ⟨vs, H1, I1, r, q⟩ => ?_) hpl he
  refine thn (hkw.run pos pins s1 σ H1 _ I1 q) fun ws s2 ⟨zs, H2, I2, rz, l1, l2, q2⟩ => ⟨I2.kIn, ?_⟩
  subst hks
  exact run_fnNS F hr hb (hx σ) I2 r rz l1 l2 q2
/-- a call with keywords -/
def dCallK (g : Fn) (n m : Nat) (l : List Src) (dfl : List D) (fs gs : DenVs) : DenF := fun env => (fs env).bind fun ds e1 => (gs e1).bind fun zs e2 => if ds.length = n ∧ zs.length = m then (match g ((arr l ds zs dfl).map .val) with
    | .ok r _ => .ok r e2
    | .err c ns xs _ => .err c ns xs e2
    | .bad => .bad) else .bad
theorem sCallK (l : List Src) (hK : X.K = Γ.K) (hm' : X.mg = Γ.mg) (F : FnOkG X.prog X.w X.K X.mg X.base (L2.CX X.prog X.w) k f fd ps (spOf X.K X.mg R np g)) (hr : RoomG k X.A) (gl : Gl X x) (hm : X.mg x = some (.ref f)) (hk : PySem.W.keepIn X.K (.ref f) = true)
    (hb : KBn X.K fd ps n ks (fun us ws => arr l us ws its) (fun vs zs => arr l vs zs dvs)) (hdf : ∀ B, Reps Γ B dfl dvs) (tk : Takes X W) (ha : SVs X Γ W (e :: es) fs) (hkw : SK X Γ W kws gs) (ga : ∀ args, args.length ≠ np → g args = .bad)
    (hall : (backToKw pos (keywordEach kws X.env)).all (·.1.isSome) = true := by rfl) (hks : (backToKw pos (keywordEach kws X.env)).filterMap (·.1) = ks := by rfl)
    (hdb : (x == ("__debug__" : Str)) = false := by decide) (he : starEach (e :: es) X.env = (false, eval e X.env) :: starEach es X.env := by rfl)
    (hpl : ((backTo pos (starEach (e :: es) X.env)).any (·.1) || (backToKw pos (keywordEach kws X.env)).any (·.1.isNone)) = false := by rfl) :
    SF X Γ W (.Call (.Name x p) (e :: es) kws pos) (dCallK g n ks.length l dfl fs gs) := imE (pe_callKS F hr gl hm hk hb (fun σ => passAt tk σ) ha hkw hall hks hdb he hpl) fun σ H Q ⟨env, B, s, pp⟩ => by
  refine ⟨env, B, s, pp.bind.mono fun ds e1 B1 H1 s1 x1 q1 vs hvs => ⟨e1, B1, s1, q1.bind.mono fun zs e2 B2 H2 s2 x2 q2 ws hws => ?_⟩⟩
  have rv : Reps Γ B2 ds vs := Reps.mono x2.b ds vs hvs
  by_cases hl : ds.length = n ∧ zs.length = ks.length
  · rw [if_pos hl] at q2
    refine ⟨rv.length.symm.trans hl.1, hws.length.symm.trans hl.2, ?_⟩
    have rc : Reps (wdOf Γ.K Γ.mg R) B2 (arr l ds zs dfl) (arr l vs ws dvs) := (arr_reps rv hws (hdf B2) l).toC
    have nlen : ((arr l ds zs dfl).map Ent.val).length = np := by
      by_cases hz : ((arr l ds zs dfl).map Ent.val).length = np
      · exact hz
      · rw [ga _ hz] at q2
        exact q2.elim
    rw [hK, hm']
    refine ⟨B2, (arr l ds zs dfl).map .val, nlen, args_ok (σ := σ) s2.same rc, fun i xs hi => ?_, ?_⟩
    · exfalso
      rw [List.getElem?_map] at hi
      cases hd : (arr l ds zs dfl)[i]? with
      | none => rw [hd] at hi; cases hi
      | some d => rw [hd] at hi; cases hi
    · have own_up : ∀ {B' H' : Hp} {pz : Sto}, FExt (wdOf Γ.K Γ.mg R) ((arr l ds zs dfl).map .val) (arr l vs ws dvs) B2 H2 pz B' H' → Grow B2 H2 B' H' := fun {B' H' pz} fx =>
        ⟨fx.b, fun p o hp => (fx.f p o hp no_own).1, fx.s, fun p o hp => (fx.f p o hp no_own).2⟩
      cases hg : g ((arr l ds zs dfl).map .val) with
      | bad => rw [hg] at q2; exact q2.elim
      | err c ns xs pz =>
        rw [hg] at q2
        intro cls d B' H' fx xn
        exact q2 cls d B' H' (s2.growG (own_up fx)) (Ext.growG (own_up fx)) xn.ofC
      | ok r pz =>
        rw [hg] at q2
        intro v B' H' fx rv
        refine q2 B' H' (s2.growG (own_up fx)) (Ext.growG (own_up fx)) v ?_
        cases r with
        | val d => exact Rep.ofC rv
        | mu xs =>
          obtain ⟨a, us, e1', e2', e3', e4', e5'⟩ := rv
          exact ⟨a, us, e1', .inl (x1.h0 a (x2.h0 a e2')), e3', e4', Reps.ofC e5', fun z => s2.own_tracked z e2'⟩
        | un => exact rv.elim
        | exn _ _ _ => exact rv.elim
  · rw [if_neg hl] at q2
    exact q2.elim
end
end Ev

set_option Elab.async false
set_option linter.all false
set_option maxRecDepth 100000
set_option maxHeartbeats 4000000
namespace Ev
open PySem PySem.Spec PyProof.Rows L2
/-! ### lists of ints, of truth values -/
def intsOf : List D → Option (List Int)
  | [] => some []
  | .int i :: ds => (intsOf ds).map (i :: ·)
  | _ :: _ => none
theorem intsOf_eq : ∀ {ds : List D} {ns : List Int}, intsOf ds = some ns → ds = ns.map D.int
  | [], ns, h => by cases h; rfl
  | d :: ds, ns, h => by
    cases d with
    | int i =>
      unfold intsOf at h
      cases e : intsOf ds with
      | none => rw [e] at h; cases h
      | some ms =>
        rw [e] at h
        cases h
        rw [intsOf_eq e]
        rfl
    | _ => cases h
theorem intsOf_map : ∀ ns : List Int, intsOf (ns.map D.int) = some ns
  | [] => rfl
  | n :: ns => by
    rw [List.map_cons]
    unfold intsOf
    rw [intsOf_map ns]
    rfl
def blsOf : List D → Option (List Bool)
  | [] => some []
  | .bl i :: ds => (blsOf ds).map (i :: ·)
  | _ :: _ => none
theorem blsOf_eq : ∀ {ds : List D} {ns : List Bool}, blsOf ds = some ns → ds = ns.map D.bl
  | [], ns, h => by cases h; rfl
  | d :: ds, ns, h => by
    cases d with
    | bl i =>
      unfold blsOf at h
      cases e : blsOf ds with
      | none => rw [e] at h; cases h
      | some ms =>
        rw [e] at h
        cases h
        rw [blsOf_eq e]
        rfl
    | _ => cases h
section
variable {X : Cx} {Γ : Wd} {W : WX}
theorem reps_ints' {B : Hp} : ∀ {ns : List Int} {vs : List V}, Reps Γ B (ns.map D.int) vs → vs = ns.map V.int
  | [], vs, h => h
  | n :: ns, vs, h => by
    obtain ⟨v, r, e1, e2, e3⟩ := h
    have e2' : v = .int n := e2
    rw [e1, e2', reps_ints' e3]
    rfl
theorem reps_bls' {B : Hp} : ∀ {ns : List Bool} {vs : List V}, Reps Γ B (ns.map D.bl) vs → vs = ns.map V.bl
  | [], vs, h => h
  | n :: ns, vs, h => by
    obtain ⟨v, r, e1, e2, e3⟩ := h
    have e2' : v = .bl n := e2
    rw [e1, e2', reps_bls' e3]
    rfl
/-- a list, frozen or not, or from outside -/
def lstOf : D → Option (List D)
  | .lst xs => some xs
  | .fl xs => some xs
  | _ => none
theorem RepT.list {B H : Hp} {d : D} {v : V} {xs : List D} (s : Same B H) (h : RepT Γ B H d v) (e : lstOf d = some xs) : ∃ p vs, v = .ref p ∧ SqL Γ.K H p vs ∧ Reps Γ B xs vs := by
  cases d with
  | lst ys =>
    cases e
    obtain ⟨p, vs, e1, e2, e3⟩ := RepT.lst s h
    exact ⟨p, vs, e1, SqL.of e2, e3⟩
  | fl ys =>
    cases e
    exact RepT.fl s h
  | _ => cases e
def gSum : List D → Option Ent
  | [d] => (lstOf d).bind fun xs => (intsOf xs).map fun ns => .val (.int ns.sum)
  | _ => none
theorem ints_in {B H : Hp} {d : D} {v : V} {xs : List D} {ns : List Int} (s : Same B H) (h : RepT Γ B H d v) (e : lstOf d = some xs) (e2 : intsOf xs = some ns) : ∃ p, v = .ref p ∧ SqL Γ.K H p (ns.map V.int) := by
  obtain ⟨p, vs, e1, q, r⟩ := h.list s e
  rw [intsOf_eq e2] at r
  rw [reps_ints' r] at q
  exact ⟨p, e1, q⟩
theorem bls_in {B H : Hp} {d : D} {v : V} {xs : List D} {ns : List Bool} (s : Same B H) (h : RepT Γ B H d v) (e : lstOf d = some xs) (e2 : blsOf xs = some ns) : ∃ p, v = .ref p ∧ SqL Γ.K H p (ns.map V.bl) := by
  obtain ⟨p, vs, e1, q, r⟩ := h.list s e
  rw [blsOf_eq e2] at r
  rw [reps_bls' r] at q
  exact ⟨p, e1, q⟩
theorem sv_sum : ServesN Γ W (rSum Γ.K) gSum := by
  intro ds ent env σ B H P0 vs Q hg s r h0 q
  match ds, hg, r with
  | [d], hg, r =>
    obtain ⟨v, rfl, rv⟩ := r.one
    unfold gSum at hg
    cases e : lstOf d with
    | none => simp [e] at hg
    | some xs =>
      cases e2 : intsOf xs with
      | none => simp [e, e2] at hg
      | some ns =>
        simp only [e, e2, Option.bind_some, Option.map_some, Option.some.injEq] at hg
        subst hg
        obtain ⟨p, rfl, hq⟩ := ints_in s.same rv e e2
        exact ⟨p, ns, rfl, hq, Post.val s q rfl⟩
  | [], hg, _ => cases hg
  | _ :: _ :: _, hg, _ => cases hg
def gAny : List D → Option Ent
  | [d] => (lstOf d).bind fun xs => (blsOf xs).map fun ns => .val (.bl (ns.any id))
  | _ => none
def gAll : List D → Option Ent
  | [d] => (lstOf d).bind fun xs => (blsOf xs).map fun ns => .val (.bl (ns.all id))
  | _ => none
theorem sv_any : ServesN Γ W (rAny Γ.K) gAny := by
  intro ds ent env σ B H P0 vs Q hg s r h0 q
  match ds, hg, r with
  | [d], hg, r =>
    obtain ⟨v, rfl, rv⟩ := r.one
    unfold gAny at hg
    cases e : lstOf d with
    | none => simp [e] at hg
    | some xs =>
      cases e2 : blsOf xs with
      | none => simp [e, e2] at hg
      | some ns =>
        simp only [e, e2, Option.bind_some, Option.map_some, Option.some.injEq] at hg
        subst hg
        obtain ⟨p, rfl, hq⟩ := bls_in s.same rv e e2
        exact ⟨p, ns, rfl, hq, Post.val s q rfl⟩
  | [], hg, _ => cases hg
  | _ :: _ :: _, hg, _ => cases hg
theorem sv_all : ServesN Γ W (rAll Γ.K) gAll := by
  intro ds ent env σ B H P0 vs Q hg s r h0 q
  match ds, hg, r with
  | [d], hg, r =>
    obtain ⟨v, rfl, rv⟩ := r.one
    unfold gAll at hg
    cases e : lstOf d with
    | none => simp [e] at hg
    | some xs =>
      cases e2 : blsOf xs with
      | none => simp [e, e2] at hg
      | some ns =>
        simp only [e, e2, Option.bind_some, Option.map_some, Option.some.injEq] at hg
        subst hg
        obtain ⟨p, rfl, hq⟩ := bls_in s.same rv e e2
        exact ⟨p, ns, rfl, hq, Post.val s q rfl⟩
  | [], hg, _ => cases hg
  | _ :: _ :: _, hg, _ => cases hg
/-! ### sorted ints -/
def ins1 (x : Int) : List Int → List Int
  | [] => [x]
  | y :: ys => if x ≤ y then x :: y :: ys else y :: ins1 x ys
def srt : List Int → List Int
  | [] => []
  | x :: xs => ins1 x (srt xs)
theorem ins1_perm (x : Int) : ∀ ys : List Int, (ins1 x ys).Perm (x :: ys)
  | [] => List.Perm.refl _
  | y :: ys => by
    unfold ins1
    split
    · exact List.Perm.refl _
    · exact ((ins1_perm x ys).cons y).trans (List.Perm.swap x y ys)
theorem srt_perm : ∀ xs : List Int, (srt xs).Perm xs
  | [] => List.Perm.refl _
  | x :: xs => (ins1_perm x (srt xs)).trans ((srt_perm xs).cons x)
theorem ins1_sorted (x : Int) : ∀ ys : List Int, ys.Pairwise (· ≤ ·) → (ins1 x ys).Pairwise (· ≤ ·)
  | [], _ => List.pairwise_singleton _ _
  | y :: ys, h => by
    have h' := List.pairwise_cons.mp h
    unfold ins1
    split
    · rename_i hx
      refine List.pairwise_cons.mpr ⟨fun z hz => ?_, h⟩
      rcases List.mem_cons.mp hz with rfl | hz
      · exact hx
      · exact Int.le_trans hx (h'.1 z hz)
    · rename_i hx
      refine List.pairwise_cons.mpr ⟨fun z hz => ?_, ins1_sorted x ys h'.2⟩
      rcases List.mem_cons.mp ((ins1_perm x ys).mem_iff.mp hz) with rfl | hz
      · omega
      · exact h'.1 z hz
theorem srt_sorted : ∀ xs : List Int, (srt xs).Pairwise (· ≤ ·)
  | [] => List.Pairwise.nil
  | x :: xs => ins1_sorted x _ (srt_sorted xs)
theorem sorted_one : ∀ {xs ys : List Int}, xs.Perm ys → xs.Pairwise (· ≤ ·) → ys.Pairwise (· ≤ ·) → xs = ys
  | [], ys, p, _, _ => (List.Perm.nil_eq p)
  | x :: xs, [], p, _, _ => absurd p.length_eq (by simp)
  | x :: xs, y :: ys, p, h, k => by
    have h' := List.pairwise_cons.mp h
    have k' := List.pairwise_cons.mp k
    have a : x ≤ y := by
      rcases List.mem_cons.mp (p.mem_iff.mpr (List.mem_cons_self (a := y) (l := ys))) with e | e
      · omega
      · exact h'.1 y e
    have b : y ≤ x := by
      rcases List.mem_cons.mp (p.mem_iff.mp (List.mem_cons_self (a := x) (l := xs))) with e | e
      · omega
      · exact k'.1 x e
    have e : x = y := by omega
    subst e
    rw [sorted_one (List.Perm.cons_inv p) h'.2 k'.2]
def gSorted : List D → Option Ent
  | [d] => (lstOf d).bind fun xs => (intsOf xs).map fun ns => .mu ((srt ns).map .int)
  | _ => none
theorem sv_sorted : ServesN Γ W (rSortedI Γ.K) gSorted := by
  intro ds ent env σ B H P0 vs Q hg s r h0 q
  match ds, hg, r with
  | [d], hg, r =>
    obtain ⟨v, rfl, rv⟩ := r.one
    unfold gSorted at hg
    cases e : lstOf d with
    | none => simp [e] at hg
    | some xs =>
      cases e2 : intsOf xs with
      | none => simp [e, e2] at hg
      | some ns =>
        simp only [e, e2, Option.bind_some, Option.map_some, Option.some.injEq] at hg
        subst hg
        obtain ⟨p, rfl, hq⟩ := ints_in s.same rv e e2
        refine ⟨p, ns, rfl, hq, fun ns' l hp hs hl => ?_⟩
        rw [sorted_one (hp.trans (srt_perm ns).symm) hs (srt_sorted ns)]
        exact Post.newL h0 s q (reps_ints _) hl
  | [], hg, _ => cases hg
  | _ :: _ :: _, hg, _ => cases hg
/-! ### min, max -/
def gMin2 : List D → Option Ent
  | [.int i, .int j] => some (.val (.int (if j < i then j else i)))
  | _ => none
def gMax2 : List D → Option Ent
  | [.int i, .int j] => some (.val (.int (if j > i then j else i)))
  | _ => none
theorem sv_min2 : ServesN Γ W (fun xs H Q => ∃ i j, xs = [.int i, .int j] ∧ Q (.int (if j < i then j else i)) H) gMin2 := by
  intro ds ent env σ B H P0 vs Q hg s r h0 q
  match ds, hg, r with
  | [.int i, .int j], hg, r =>
    obtain ⟨v, w, rfl, rv, rw'⟩ := r.two
    cases hg
    rw [rv.int, rw'.int]
    exact ⟨i, j, rfl, Post.val s q rfl⟩
theorem sv_max2 : ServesN Γ W (fun xs H Q => ∃ i j, xs = [.int i, .int j] ∧ Q (.int (if j > i then j else i)) H) gMax2 := by
  intro ds ent env σ B H P0 vs Q hg s r h0 q
  match ds, hg, r with
  | [.int i, .int j], hg, r =>
    obtain ⟨v, w, rfl, rv, rw'⟩ := r.two
    cases hg
    rw [rv.int, rw'.int]
    exact ⟨i, j, rfl, Post.val s q rfl⟩
def minL : Int → List Int → Int
  | m, [] => m
  | m, x :: xs => minL (if x < m then x else m) xs
def maxL : Int → List Int → Int
  | m, [] => m
  | m, x :: xs => maxL (if m < x then x else m) xs
theorem minL_mem : ∀ (xs : List Int) (m : Int), minL m xs ∈ m :: xs
  | [], m => List.mem_cons_self ..
  | x :: xs, m => by
    unfold minL
    rcases List.mem_cons.mp (minL_mem xs (if x < m then x else m)) with e | e
    · rw [e]
      split
      · exact List.mem_cons_of_mem _ (List.mem_cons_self ..)
      · exact List.mem_cons_self ..
    · exact List.mem_cons_of_mem _ (List.mem_cons_of_mem _ e)
theorem minL_le : ∀ (xs : List Int) (m : Int), ∀ y ∈ m :: xs, minL m xs ≤ y
  | [], m, y, h => by
    rw [List.mem_singleton.mp h]
    exact Int.le_refl _
  | x :: xs, m, y, h => by
    unfold minL
    have ih := minL_le xs (if x < m then x else m)
    have i0 := ih _ (List.mem_cons_self ..)
    rcases List.mem_cons.mp h with rfl | h
    · split at i0 <;> split <;> omega
    · rcases List.mem_cons.mp h with rfl | h
      · split at i0 <;> split <;> omega
      · exact ih y (List.mem_cons_of_mem _ h)
theorem maxL_mem : ∀ (xs : List Int) (m : Int), maxL m xs ∈ m :: xs
  | [], m => List.mem_cons_self ..
  | x :: xs, m => by
    unfold maxL
    rcases List.mem_cons.mp (maxL_mem xs (if m < x then x else m)) with e | e
    · rw [e]
      split
      · exact List.mem_cons_of_mem _ (List.mem_cons_self ..)
      · exact List.mem_cons_self ..
    · exact List.mem_cons_of_mem _ (List.mem_cons_of_mem _ e)
theorem maxL_le : ∀ (xs : List Int) (m : Int), ∀ y ∈ m :: xs, y ≤ maxL m xs
  | [], m, y, h => by
    rw [List.mem_singleton.mp h]
    exact Int.le_refl _
  | x :: xs, m, y, h => by
    unfold maxL
    have ih := maxL_le xs (if m < x then x else m)
    have i0 := ih _ (List.mem_cons_self ..)
    rcases List.mem_cons.mp h with rfl | h
    · split at i0 <;> split <;> omega
    · rcases List.mem_cons.mp h with rfl | h
      · split at i0 <;> split <;> omega
      · exact ih y (List.mem_cons_of_mem _ h)
def gMinL : List D → Option Ent
  | [d] => (lstOf d).bind fun xs => (intsOf xs).bind fun ns => match ns with
    | [] => none
    | m :: ms => some (.val (.int (minL m ms)))
  | _ => none
def gMaxL : List D → Option Ent
  | [d] => (lstOf d).bind fun xs => (intsOf xs).bind fun ns => match ns with
    | [] => none
    | m :: ms => some (.val (.int (maxL m ms)))
  | _ => none
theorem sv_minL : ServesN Γ W (rMin Γ.K) gMinL := by
  intro ds ent env σ B H P0 vs Q hg s r h0 q
  match ds, hg, r with
  | [d], hg, r =>
    obtain ⟨v, rfl, rv⟩ := r.one
    unfold gMinL at hg
    cases e : lstOf d with
    | none => simp [e] at hg
    | some xs =>
      cases e2 : intsOf xs with
      | none => simp [e, e2] at hg
      | some ns =>
        cases ns with
        | nil => simp [e, e2] at hg
        | cons m ms =>
          simp only [e, e2, Option.bind_some, Option.some.injEq] at hg
          subst hg
          obtain ⟨p, rfl, hq⟩ := ints_in s.same rv e e2
          refine ⟨p, m :: ms, rfl, hq, Nat.succ_pos _, fun z hz hle => ?_⟩
          have e3 : z = minL m ms := by
            have a := minL_le ms m z hz
            have b := hle _ (minL_mem ms m)
            omega
          rw [e3]
          exact Post.val s q rfl
  | [], hg, _ => cases hg
  | _ :: _ :: _, hg, _ => cases hg
theorem sv_maxL : ServesN Γ W (rMax Γ.K) gMaxL := by
  intro ds ent env σ B H P0 vs Q hg s r h0 q
  match ds, hg, r with
  | [d], hg, r =>
    obtain ⟨v, rfl, rv⟩ := r.one
    unfold gMaxL at hg
    cases e : lstOf d with
    | none => simp [e] at hg
    | some xs =>
      cases e2 : intsOf xs with
      | none => simp [e, e2] at hg
      | some ns =>
        cases ns with
        | nil => simp [e, e2] at hg
        | cons m ms =>
          simp only [e, e2, Option.bind_some, Option.some.injEq] at hg
          subst hg
          obtain ⟨p, rfl, hq⟩ := ints_in s.same rv e e2
          refine ⟨p, m :: ms, rfl, hq, Nat.succ_pos _, fun z hz hle => ?_⟩
          have e3 : z = maxL m ms := by
            have a := maxL_le ms m z hz
            have b := hle _ (maxL_mem ms m)
            omega
          rw [e3]
          exact Post.val s q rfl
  | [], hg, _ => cases hg
  | _ :: _ :: _, hg, _ => cases hg
/-! ### lcm -/
def gLcm : List D → Option Ent
  | [.int i, .int j] => if i.natAbs.log2 < 6000 ∧ j.natAbs.log2 < 6000 then some (.val (.int ((Nat.lcm i.natAbs j.natAbs : Nat) : Int))) else none
  | _ => none
end
theorem bt_sum : bootBuiltins "sum" = some (.builtin "sum") := by decide +kernel
theorem bt_any : bootBuiltins "any" = some (.builtin "any") := by decide +kernel
theorem bt_all : bootBuiltins "all" = some (.builtin "all") := by decide +kernel
theorem bt_sorted : bootBuiltins "sorted" = some (.builtin "sorted") := by decide +kernel
theorem bt_min : bootBuiltins "min" = some (.builtin "min") := by decide +kernel
theorem bt_max : bootBuiltins "max" = some (.builtin "max") := by decide +kernel
end Ev

set_option Elab.async false
set_option linter.all false
set_option maxRecDepth 100000
set_option maxHeartbeats 4000000
namespace Ev
open PySem PySem.Spec PyProof.Rows L2
/-! ### lcm -/
def rLcm : List V → Hp → VK → Prop := fun vs H Q => ∃ a b : Int, vs = [.int a, .int b] ∧ a.natAbs.log2 < 6000 ∧ b.natAbs.log2 < 6000 ∧ Q (.int ((Nat.lcm a.natAbs b.natAbs : Nat) : Int)) H
theorem log_max {a b n : Nat} (h : a.log2 < n) (k : b.log2 < n) : (max a b).log2 < n := by
  rcases Nat.le_total a b with q | q
  · rw [Nat.max_eq_right q]
    exact k
  · rw [Nat.max_eq_left q]
    exact h
theorem cr_lcm {X : Cx} : CallR X (.builtin "math.lcm") rLcm := by
  intro pins s σ H vs us Q I r h
  obtain ⟨a, b, rfl, ha, hb, q⟩ := h
  obtain ⟨t, u, rfl⟩ := Vals.int2 r
  have e : (Nat.lcm 1 a.natAbs).lcm b.natAbs = Nat.lcm a.natAbs b.natAbs := by rw [Nat.lcm_one_left]
  have h1 : (max 1 a.natAbs).log2 < 6000 := log_max (by decide) ha
  have h2 := log_max ha hb
  have hz : ((((Nat.lcm 1 a.natAbs).lcm b.natAbs : Nat) : Int)).natAbs.log2 < bitsLine := by
    rw [e, Int.natAbs_natCast]
    have le : Nat.lcm a.natAbs b.natAbs ≤ a.natAbs * b.natAbs := Nat.div_le_self _ _
    have la : a.natAbs < 2 ^ 6000 := by
      by_cases z : a.natAbs = 0
      · rw [z]
        exact Nat.two_pow_pos _
      · exact (Nat.log2_lt z).mp ha
    have lb : b.natAbs < 2 ^ 6000 := by
      by_cases z : b.natAbs = 0
      · rw [z]
        exact Nat.two_pow_pos _
      · exact (Nat.log2_lt z).mp hb
    have lt : Nat.lcm a.natAbs b.natAbs < 2 ^ 12000 := by
      refine Nat.lt_of_le_of_lt le ?_
      rw [show (12000 : Nat) = 6000 + 6000 from rfl, Nat.pow_add]
      exact Nat.mul_lt_mul'' la lb
    refine Nat.lt_of_lt_of_le ?_ (show 12000 ≤ bitsLine by decide)
    by_cases z : Nat.lcm a.natAbs b.natAbs = 0
    · rw [z]
      decide
    · exact (Nat.log2_lt z).mpr lt
  have g := PySem.W.mg_run_lcm a t b u (by omega) (by omega) hz
  rw [e] at g
  exact call_function_meets PySem.W.MGF.kind_lcm PySem.W.MGF.plain_lcm PySem.W.MGF.entry_lcm (PySem.W.MGF.args_lcm _ _) g.meets ⟨.int _, H, I.tok _, ⟨_, rfl⟩, q⟩
section
variable {X : Cx} {Γ : Wd} {W : WX}
theorem sv_lcm : ServesN Γ W rLcm gLcm := by
  intro ds ent env σ B H P0 vs Q hg s r h0 q
  match ds, hg, r with
  | [.int i, .int j], hg, r =>
    obtain ⟨v, w, rfl, rv, rw'⟩ := r.two
    have hg' : (if i.natAbs.log2 < 6000 ∧ j.natAbs.log2 < 6000 then some (Ent.val (.int ((Nat.lcm i.natAbs j.natAbs : Nat) : Int))) else none) = some ent := hg
    by_cases c : i.natAbs.log2 < 6000 ∧ j.natAbs.log2 < 6000
    · rw [if_pos c] at hg'
      cases hg'
      rw [rv.int, rw'.int]
      exact ⟨i, j, rfl, c.1, c.2, Post.val s q rfl⟩
    · rw [if_neg c] at hg'
      cases hg'
/-! ### x in xs -/
def inD (x : D) (ys : List D) : Bool := ys.any fun z => deq z x
def gIn : D → D → Option Ent
  | x, .lst ys => if shp 64 x = true ∧ shp 64 (.lst ys) = true then vb (inD x ys) else none
  | x, .fl ys => if shp 64 x = true ∧ shp 64 (.fl ys) = true then vb (inD x ys) else none
  | x, .tup ys => if shp 64 x = true ∧ shp 64 (.tup ys) = true then vb (inD x ys) else none
  | _, _ => none
def gNotIn : D → D → Option Ent
  | x, .lst ys => if shp 64 x = true ∧ shp 64 (.lst ys) = true then vb (!inD x ys) else none
  | x, .fl ys => if shp 64 x = true ∧ shp 64 (.fl ys) = true then vb (!inD x ys) else none
  | x, .tup ys => if shp 64 x = true ∧ shp 64 (.tup ys) = true then vb (!inD x ys) else none
  | _, _ => none
/-- the same of a tuple of data -/
def rInTD (K : PySem.W.Frag) (neg : Bool) : R2 := fun x y H Q => ∃ d ds, (Dp K H x d ∧ SeqAt.shaped d = true) ∧ (Dp K H y (.tuple ds) ∧ SeqAt.shaped (.tuple ds) = true) ∧ Q (.bl (if neg then !(ds.any fun z => PyData.eqv z d) else ds.any fun z => PyData.eqv z d)) H
theorem op_inTD (hu : X.A.units + 65 < cLine) : OpR X (compareOp .In) (rInTD X.K false) := fun pins s σ H x y v u Q I rx ry ⟨d, ds, ⟨hd, sd⟩, ⟨he, se⟩, q⟩ => by
  obtain ⟨_, r1⟩ := Dp.reads I d x v hd rx
  obtain ⟨_, r2⟩ := Dp.reads I (.tuple ds) y u he ry
  refine SeqAt.in_tuple_reads r2 r1 ?_ ?_ ?_ ⟨.bl _, H, I, rfl, q⟩
  · exact SeqAt.canLay_of_shaped se
  · exact SeqAt.canLay_of_shaped sd
  · exact room_in_shaped sd hu
theorem op_notInTD (hu : X.A.units + 65 < cLine) : OpR X (compareOp .NotIn) (rInTD X.K true) := fun pins s σ H x y v u Q I rx ry ⟨d, ds, ⟨hd, sd⟩, ⟨he, se⟩, q⟩ => by
  obtain ⟨_, r1⟩ := Dp.reads I d x v hd rx
  obtain ⟨_, r2⟩ := Dp.reads I (.tuple ds) y u he ry
  refine SeqAt.notIn_tuple_reads r2 r1 ?_ ?_ ?_ ⟨.bl _, H, I, rfl, q⟩
  · exact SeqAt.canLay_of_shaped se
  · exact SeqAt.canLay_of_shaped sd
  · exact room_in_shaped sd hu
def rInE (K : PySem.W.Frag) : R2 := fun x y H Q => rInD K x y H Q ∨ rInTD K false x y H Q
def rNotInE (K : PySem.W.Frag) : R2 := fun x y H Q => rNotInD K x y H Q ∨ rInTD K true x y H Q
theorem room65 {k : Nat} {A : Around} (r : RoomG k A) : A.units + 65 < cLine := by have := r.room.un; omega
theorem op_inE (hu : X.A.units + 65 < cLine) : OpR X (compareOp .In) (rInE X.K) := (op_inD hu).or (op_inTD hu)
theorem op_notInE (hu : X.A.units + 65 < cLine) : OpR X (compareOp .NotIn) (rNotInE X.K) := (op_notInD hu).or (op_notInTD hu)
theorem any_pys {f : PyData → Bool} : ∀ ys : List D, ys.any (fun z => f z.py) = (pys ys).any f
  | [] => rfl
  | y :: ys => by
    unfold pys
    rw [List.any_cons, List.any_cons, any_pys ys]
theorem sv_in : Serves Γ W (rInE Γ.K) gIn := by
  intro x y ent env σ B H P0 v w Q hg s rx ry h0 q
  have key : ∀ (ys : List D), shp 64 x = true → shp 64 y = true → vb (inD x ys) = some ent → (y.py = .list (pys ys) ∨ y.py = .tuple (pys ys)) → rInE Γ.K v w H Q := fun ys c1 c2 e hy => by
    cases e
    have dx := rx.dp s.same c1
    have dy := ry.dp s.same c2
    have sx := shaped_of c1
    have sy := shaped_of c2
    have qq : Q (.bl ((pys ys).any fun z => PyData.eqv z x.py)) H := by
      have e2 : inD x ys = (pys ys).any fun z => PyData.eqv z x.py := any_pys (f := fun z => PyData.eqv z x.py) ys
      rw [← e2]
      exact Post.val s q rfl
    rcases hy with hy | hy
    · rw [hy] at dy sy
      exact .inl ⟨_, _, dx, dy, sx, sy, qq⟩
    · rw [hy] at dy sy
      exact .inr ⟨_, _, ⟨dx, sx⟩, ⟨dy, sy⟩, qq⟩
  cases y with
  | lst ys =>
    change (if shp 64 x = true ∧ shp 64 (.lst ys) = true then vb (inD x ys) else none) = some ent at hg
    by_cases c : shp 64 x = true ∧ shp 64 (.lst ys) = true
    · rw [if_pos c] at hg
      exact key ys c.1 c.2 hg (.inl rfl)
    · rw [if_neg c] at hg
      cases hg
  | fl ys =>
    change (if shp 64 x = true ∧ shp 64 (.fl ys) = true then vb (inD x ys) else none) = some ent at hg
    by_cases c : shp 64 x = true ∧ shp 64 (.fl ys) = true
    · rw [if_pos c] at hg
      exact key ys c.1 c.2 hg (.inl rfl)
    · rw [if_neg c] at hg
      cases hg
  | tup ys =>
    change (if shp 64 x = true ∧ shp 64 (.tup ys) = true then vb (inD x ys) else none) = some ent at hg
    by_cases c : shp 64 x = true ∧ shp 64 (.tup ys) = true
    · rw [if_pos c] at hg
      exact key ys c.1 c.2 hg (.inr rfl)
    · rw [if_neg c] at hg
      cases hg
  | _ => cases hg
theorem sv_notIn : Serves Γ W (rNotInE Γ.K) gNotIn := by
  intro x y ent env σ B H P0 v w Q hg s rx ry h0 q
  have key : ∀ (ys : List D), shp 64 x = true → shp 64 y = true → vb (!inD x ys) = some ent → (y.py = .list (pys ys) ∨ y.py = .tuple (pys ys)) → rNotInE Γ.K v w H Q := fun ys c1 c2 e hy => by
    cases e
    have dx := rx.dp s.same c1
    have dy := ry.dp s.same c2
    have sx := shaped_of c1
    have sy := shaped_of c2
    have qq : Q (.bl (!(pys ys).any fun z => PyData.eqv z x.py)) H := by
      have e2 : inD x ys = (pys ys).any fun z => PyData.eqv z x.py := any_pys (f := fun z => PyData.eqv z x.py) ys
      rw [← e2]
      exact Post.val s q rfl
    rcases hy with hy | hy
    · rw [hy] at dy sy
      exact .inl ⟨_, _, dx, dy, sx, sy, qq⟩
    · rw [hy] at dy sy
      exact .inr ⟨_, _, ⟨dx, sx⟩, ⟨dy, sy⟩, qq⟩
  cases y with
  | lst ys =>
    change (if shp 64 x = true ∧ shp 64 (.lst ys) = true then vb (!inD x ys) else none) = some ent at hg
    by_cases c : shp 64 x = true ∧ shp 64 (.lst ys) = true
    · rw [if_pos c] at hg
      exact key ys c.1 c.2 hg (.inl rfl)
    · rw [if_neg c] at hg
      cases hg
  | fl ys =>
    change (if shp 64 x = true ∧ shp 64 (.fl ys) = true then vb (!inD x ys) else none) = some ent at hg
    by_cases c : shp 64 x = true ∧ shp 64 (.fl ys) = true
    · rw [if_pos c] at hg
      exact key ys c.1 c.2 hg (.inl rfl)
    · rw [if_neg c] at hg
      cases hg
  | tup ys =>
    change (if shp 64 x = true ∧ shp 64 (.tup ys) = true then vb (!inD x ys) else none) = some ent at hg
    by_cases c : shp 64 x = true ∧ shp 64 (.tup ys) = true
    · rw [if_pos c] at hg
      exact key ys c.1 c.2 hg (.inr rfl)
    · rw [if_neg c] at hg
      cases hg
  | _ => cases hg
end
/-! ### data at a module's name -/
theorem sCD {X : Cx} {Γ : Wd} {W : WX} {x : Str} {d : D} {pos : Pos} (hK : Γ.K = X.K) (h : ∃ v u, X.mg x = some u ∧ RelV v u ∧ ∀ (Γ : Wd) (B : Hp), Γ.K = X.K → Rep Γ B d v) (hg : Gl X x) (hd : (x == ("__debug__" : Str)) = false := by decide) : SV X Γ W (.Name x pos) (dC d) :=
  let ⟨v, u, hm, r, k⟩ := h
  sC (pe_glob (v := v) hg hm r hd) fun B => k Γ B hK
end Ev

set_option Elab.async false
set_option linter.all false
set_option maxRecDepth 100000
set_option maxHeartbeats 4000000
namespace Ev
open PySem PySem.Spec PyProof.Rows L2
section
variable {X : Cx} {Γ : Wd} {W : WX} {e : Expr} {es : List Expr} {pos p : Pos} {f1 : DenL}
/-! ### a field of an instance -/
def dAt (cs : List Str) (n : Str) (f : DenL) : DenV := fun env => (f env).bind fun a e => match a.get e with
  | some (.ins c ns xs) => if cs.contains c = true then (match (ns.zip xs).lookup n with
    | some d => .ok d e
    | none => .bad) else .bad
  | _ => .bad
theorem RepT.ins {B H : Hp} {c : Str} {ns : List Str} {xs : List D} {v : V} (s : Same B H) (h : RepT Γ B H (.ins c ns xs) v) : ∃ a dx C vs, v = .ref a ∧ Γ.mg c = some (.ref C) ∧ H a = some (.ins C dx (ns.zip vs)) ∧ ns.length = vs.length ∧ Reps Γ B xs vs := by
  rcases h with h | ⟨ys, _, _, h, _⟩
  · obtain ⟨a, dx, C, vs, e1, e2, e3, e4, e5⟩ := h
    exact ⟨a, dx, C, vs, e1, e2, s _ _ e3, e4, e5⟩
  · cases h
theorem sAt {cs : List Str} {n : Str} (hm : X.mg = Γ.mg) (hX : ∀ c ∈ cs, ∀ C, X.mg c = some (.ref C) → Cls X.K C ∧ NoAttr X.K C n) (he : SL X Γ W e f1) (hb : attributeBase e n X.env (eval e X.env) = eval e X.env := by rfl) : SV X Γ W (.Attribute e n pos) (dAt cs n f1) :=
  imE (pe_fld he hb) fun σ H Q ⟨env, B, s, pp⟩ => by
    refine ⟨env, B, s, pp.bind.mono fun a e1 B1 H1 s1 x1 q1 v hv => ?_⟩
    cases hd : a.get e1 with
    | none => rw [hd] at q1; exact q1.elim
    | some d =>
      rw [hd] at q1
      have rt := Ar.now s1 hv hd
      cases d with
      | ins c ns xs =>
        have q2 : Post Γ W e1 σ B1 H1 (fun d _ B' H' => ∀ v, Rep Γ B' d v → Q v H') (if cs.contains c = true then (match (ns.zip xs).lookup n with
          | some d => .ok d e1
          | none => .bad) else .bad) := q1
        by_cases hc : cs.contains c = true
        · rw [if_pos hc] at q2
          obtain ⟨a', dx, C, vs, e2, e3, e4, e5, e6⟩ := RepT.ins s1.same rt
          obtain ⟨k1, k2⟩ := hX c (List.contains_iff_mem.mp hc) C (by rw [hm]; exact e3)
          cases hl : (ns.zip xs).lookup n with
          | none => rw [hl] at q2; exact q2.elim
          | some x =>
            rw [hl] at q2
            obtain ⟨u, l1, l2⟩ := zip_lookup e6 hl
            exact ⟨a', C, dx, _, u, e2, e4, k1, k2, l1, Post.here s1 q2 u l2⟩
        · rw [if_neg hc] at q2
          exact q2.elim
      | _ => exact q1.elim
end
end Ev

set_option Elab.async false
set_option linter.all false
set_option maxRecDepth 100000
set_option maxHeartbeats 4000000
namespace Ev
open PySem PySem.Spec PyProof.Rows L2
/-! ### an instance that is being made: at a, with the fields so far -/
structure ExtA (a : Addr) (B H B' H' : Hp) : Prop where
  b : Same B B'
  t : ∀ p, H p ≠ none → H' p ≠ none
  f : ∀ p o, p ≠ a → H p = some o → H' p = some o ∧ (B p = none → B' p = none)
theorem ExtA.refl {a : Addr} {B H : Hp} : ExtA a B H B H := ⟨Same.refl _, fun _ h => h, fun _ _ _ h => ⟨h, id⟩⟩
theorem ExtA.trans {a : Addr} {B H B1 H1 B2 H2 : Hp} (x : ExtA a B H B1 H1) (y : ExtA a B1 H1 B2 H2) : ExtA a B H B2 H2 :=
  ⟨x.b.trans y.b, fun p h => y.t p (x.t p h), fun p o n h => ⟨(y.f p o n (x.f p o n h).1).1, fun q => (y.f p o n (x.f p o n h).1).2 ((x.f p o n h).2 q)⟩⟩
/-- no list of its own stands in the slots -/
def noMu (env : Sto) : Prop := ∀ (i : Nat) (xs : List D), env[i]? ≠ some (.mu xs)
section
variable {Γ : Wd} {W : WX} {env env' : Sto} {σ σ' : L2.St} {B H B' H' : Hp}
/-- a thing that no slot owns and no reader knows is changed -/
theorem StOk.updU {p : Addr} {o o' : HO} (s : StOk Γ env σ B H) (hb : B p = none) (hp : H p = some o) (h1 : ∀ vs, o ≠ .lst vs) (h2 : ∀ vs, o ≠ .xd vs) : StOk Γ env σ B (upd H p o') where
  same := fun q u hq => by
    rw [upd_ne (ne_of_none hq hb)]
    exact s.same q u hq
  len := s.len
  ent := fun i en u g1 g2 => by
    have k := s.ent i en u g1 g2
    cases en with
    | un => trivial
    | val d => exact k
    | mu xs =>
      obtain ⟨q, ws, e1, e2, e3, e4⟩ := k
      refine ⟨q, ws, e1, e2, ?_, e4⟩
      rw [upd_ne]
      · exact e3
      · rintro rfl
        rw [hp] at e3
        exact h1 _ (Option.some.inj e3)
    | exn c ns xs =>
      obtain ⟨dd, ws, e1, e2, e3, e4, e5⟩ := k
      refine ⟨dd, ws, e1, e2, ?_, e4, e5⟩
      rw [upd_ne]
      · exact e3
      · rintro rfl
        rw [hp] at e3
        exact h2 _ (Option.some.inj e3)
  dis := s.dis
/-- since the entry at B0, H0 -/
structure ExtO (a : Addr) (B0 H0 : Hp) (env : Sto) (σ : L2.St) (B H : Hp) : Prop where
  b : Same B0 B
  t : ∀ p, H0 p ≠ none → H p ≠ none
  f : ∀ p o, p ≠ a → H0 p = some o → H p = some o ∧ (B0 p = none → B p = none) ∧ ¬ Own env σ p
theorem ExtO.step {a : Addr} {B0 H0 : Hp} (x : ExtO a B0 H0 env σ B H) (y : Ext Γ env σ B H env' σ' B' H') : ExtO a B0 H0 env' σ' B' H' where
  b := x.b.trans y.b
  t := fun p h => y.t p (x.t p h)
  f := fun p o n h => by
    obtain ⟨h1, h2, h3⟩ := x.f p o n h
    obtain ⟨k1, k2, k3⟩ := y.f p o h1 h3
    exact ⟨k1, fun q => k2 (h2 q), k3⟩
theorem ExtO.upd {a : Addr} {B0 H0 : Hp} {o' : HO} (x : ExtO a B0 H0 env σ B H) : ExtO a B0 H0 env σ B (L2.upd H a o') where
  b := x.b
  t := fun p h => by
    by_cases e : p = a
    · subst e
      rw [upd_same]
      exact fun z => nomatch z
    · rw [upd_ne e]
      exact x.t p h
  f := fun p o n h => by
    rw [upd_ne n]
    exact x.f p o n h
theorem ExtO.toA {a : Addr} {B0 H0 : Hp} (x : ExtO a B0 H0 env σ B H) : ExtA a B0 H0 B H := ⟨x.b, x.t, fun p o n h => ⟨(x.f p o n h).1, (x.f p o n h).2.1⟩⟩
/-- what is wanted of the rest of an __init__: vs stand already -/
def PostI (Γ : Wd) (W : WX) (C a dx : Addr) (ns : List Str) (vs : List V) (B0 H0 Bc : Hp) (Dn : Ends) : Res (List D) → Prop
  | .ok ds env' => ∀ σ' B' H' ws, StOk Γ env' σ' B' H' → Same Bc B' → ExtA a B0 H0 B' H' → B' a = none → H' a = some (.ins C dx (ns.zip (vs ++ ws))) → Reps Γ B' ds ws → Dn.nx σ' H'
  | .err c ks xs env' => ∀ cls d σ' B' H', StOk Γ env' σ' B' H' → ExtA a B0 H0 B' H' → XnOk Γ B' H' c ks xs cls d → W cls d σ' H'
  | .bad => False
theorem PostI.up {C a dx : Addr} {ns : List Str} {vs : List V} {B0 H0 B1 B2 : Hp} {Dn : Ends} {r : Res (List D)} (h : PostI Γ W C a dx ns vs B0 H0 B1 Dn r) (e : Same B1 B2) : PostI Γ W C a dx ns vs B0 H0 B2 Dn r := by
  cases r with
  | bad => exact h
  | ok ds e1 => exact fun σ' B' H' ws s' y => h σ' B' H' ws s' (e.trans y)
  | err c ks xs e1 => exact h
/-- the fields, one behind the other -/
def dFlds : List DenV → Sto → Res (List D)
  | [], env => .ok [] env
  | f :: r, env => (f env).bind fun d e => (dFlds r e).bind fun ds e2 => .ok (d :: ds) e2
def preI (f : DenS) (g : Sto → Res (List D)) : Sto → Res (List D) := fun env => match f env with
  | .ok .nx e => g e
  | .err c ks xs e => .err c ks xs e
  | _ => .bad
/-- behind the fields done: the rest g, all names ns -/
def tIni (Γ : Wd) (W : WX) (C : Addr) (done ns : List Str) (g : Sto → Res (List D)) : TS := fun Dn σ H => ∃ env B a dx vs B0 H0, StOk Γ env σ B H ∧ σ[0]? = some (some (.ref a)) ∧ B a = none ∧ H a = some (.ins C dx (done.zip vs)) ∧ done.length = vs.length ∧ ExtO a B0 H0 env σ B H ∧ PostI Γ W C a dx ns vs B0 H0 B Dn (g env)
end
theorem putF_new {f : Str} {v : V} : ∀ {ns : List Str} {vs : List V}, ns.length = vs.length → f ∉ ns → putF f v (ns.zip vs) = (ns ++ [f]).zip (vs ++ [v])
  | [], [], _, _ => rfl
  | [], _ :: _, h, _ => by cases h
  | _ :: _, [], h, _ => by cases h
  | n :: ns, w :: vs, h, hf => by
    have h1 : ¬ n = f := fun e => hf (e ▸ List.mem_cons_self ..)
    show (if n = f then (n, v) :: ns.zip vs else (n, w) :: putF f v (ns.zip vs)) = _
    rw [if_neg h1, putF_new (Nat.succ.inj h) fun z => hf (List.mem_cons_of_mem _ z)]
    rfl
section
variable {X : Cx} {Γ : Wd} {W : WX} {C : Addr} {done ns : List Str} {e : Expr} {st : Stmt} {rest : List Stmt} {f : DenS} {g : Sto → Res (List D)} {pos p1 p2 : Pos}
theorem iNil : PSs X [] (tIni Γ W C ns ns (dFlds [])) := imSs pss_nil fun Dn σ H ⟨env, B, a, dx, vs, B0, H0, s, h0, hb, ha, hl, x, p⟩ => by
  have q := p σ B H [] s (Same.refl _) x.toA hb (by rw [List.append_nil]; exact ha) rfl
  exact q
/-- an ordinary statement ahead of the fields -/
theorem iCons (hR : 0 ∈ Γ.R) (h : SS X Γ W st f) (k : PSs X rest (tIni Γ W C [] ns g)) : PSs X (st :: rest) (tIni Γ W C [] ns (preI f g)) :=
  imSs (pss_cons h k) fun Dn σ H ⟨env, B, a, dx, vs, B0, H0, s, h0, hb, ha, hl, x, p⟩ => by
    have own0 : ¬ Own env σ a := fun z => by
      obtain ⟨_, us, z2⟩ := s.own_none z
      rw [ha] at z2
      cases z2
    refine ⟨env, B, s, ?_⟩
    have p' : PostI Γ W C a dx ns vs B0 H0 B Dn (match f env with
      | .ok .nx e => g e
      | .err c ks xs e => .err c ks xs e
      | _ => .bad) := p
    cases hf : f env with
    | bad => rw [hf] at p'; exact p'
    | err c ks xs e1 =>
      rw [hf] at p'
      exact fun cls d σ' B' H' s' y hx => p' cls d σ' B' H' s' (x.step y).toA hx
    | ok fl e1 =>
      rw [hf] at p'
      cases fl with
      | nx =>
        intro σ' B' H' s' y
        obtain ⟨k1, k2, _⟩ := y.f a _ ha own0
        exact ⟨e1, B', a, dx, vs, B0, H0, s', (y.r 0 hR).1.trans h0, k2 hb, k1, hl, x.step y, p'.up y.b⟩
      | bk => exact p'.elim
      | ct => exact p'.elim
      | rt r => exact p'.elim
/-- self.n = e -/
theorem iFld {n s1 : Str} {fv : DenV} {fs : List DenV} (hv : SV X Γ W e fv) (hs0 : PE X (.Name s1 p1) (tVar 0)) (hR : 0 ∈ Γ.R) (c : Cls X.K C) (na : NoAttr X.K C n) (hn : n ∉ done) (hz : done.length < 1000) (k : PSs X rest (tIni Γ W C (done ++ [n]) ns (dFlds fs)))
    (hs : swapsWith e (some (.Attribute (.Name s1 p1) n p2)) pos.line X.env = pure false := by rfl) : PSs X (.Assign [.Attribute (.Name s1 p1) n p2] e pos :: rest) (tIni Γ W C done ns (dFlds (fv :: fs))) :=
  imSs (pss_cons (ps_fld hs0 hv hs) k) fun Dn σ H ⟨env, B, a, dx, vs, B0, H0, s, h0, hb, ha, hl, x, p⟩ => by
    have own0 : ¬ Own env σ a := fun z => by
      obtain ⟨_, us, z2⟩ := s.own_none z
      rw [ha] at z2
      cases z2
    have p' : PostI Γ W C a dx ns vs B0 H0 B Dn ((fv env).bind fun d e => (dFlds fs e).bind fun ds e2 => .ok (d :: ds) e2) := p
    refine ⟨env, B, s, ?_⟩
    cases hf : fv env with
    | bad => rw [hf] at p'; exact p'
    | err cc ks xs e1 =>
      rw [hf] at p'
      exact fun cls d B' H' s' y hx => p' cls d σ B' H' s' (x.step y).toA hx
    | ok d e1 =>
      rw [hf] at p'
      intro B1 H1 s1' y v rv
      obtain ⟨k1, k2, _⟩ := y.f a _ ha own0
      refine ⟨.ref a, h0, a, C, dx, _, rfl, k1, c, na, ?_, ?_⟩
      · rw [List.length_zip]
        omega
      · rw [putF_new hl hn]
        refine ⟨e1, B1, a, dx, vs ++ [v], B0, H0, s1'.updU (k2 hb) k1 (fun _ z => nomatch z) (fun _ z => nomatch z), h0, k2 hb, upd_same, by rw [List.length_append, List.length_append, hl]; rfl, (x.step y).upd, ?_⟩
        have p2 : PostI Γ W C a dx ns vs B0 H0 B Dn ((dFlds fs e1).bind fun ds e2 => .ok (d :: ds) e2) := p'
        cases hg : dFlds fs e1 with
        | bad => rw [hg] at p2; exact p2
        | err cc ks xs e2 => rw [hg] at p2; exact p2
        | ok ds e2 =>
          rw [hg] at p2
          intro σ' B' H' ws s' zz z hb' ha' hr
          refine p2 σ' B' H' (v :: ws) s' (y.b.trans zz) z hb' ?_ ⟨v, ws, rfl, Rep.mono zz d v rv, hr⟩
          rw [List.append_assoc] at ha'
          exact ha'
end
end Ev

set_option Elab.async false
set_option linter.all false
set_option maxRecDepth 100000
set_option maxHeartbeats 4000000
namespace Ev
open PySem PySem.Spec PyProof.Rows L2
def mkIni (np ns : Nat) (g : Sto → Res (List D)) : List D → Res (List D) := fun ds => if ds.length = np then g (.un :: (ds.map .val ++ List.replicate (ns - (np + 1)) .un)) else .bad
def PostM (Γ : Wd) (C a dx : Addr) (ns : List Str) (B H : Hp) (Q : VK) (E : XK) : Res (List D) → Prop
  | .ok fs _ => ∀ B' H' ws, Same B B' → Same B' H' → ExtA a B H B' H' → B' a = none → H' a = some (.ins C dx (ns.zip ws)) → Reps Γ B' fs ws → Q .non H'
  | .err c ks xs _ => ∀ cls d B' H', Same B' H' → ExtA a B H B' H' → XnOk Γ B' H' c ks xs cls d → E cls d H'
  | .bad => False
def spIni (K : PySem.W.Frag) (mg : Str → Option Value) (C : Addr) (ns : List Str) (np : Nat) (g : List D → Res (List D)) : Sp := fun vs H Q E => ∃ a dx ys ds B, vs = .ref a :: ys ∧ ds.length = np ∧ Reps (wdOf K mg [0]) B ds ys ∧ Same B H ∧ H a = some (.ins C dx []) ∧ B a = none ∧ PostM (wdOf K mg [0]) C a dx ns B H Q E (g ds)
theorem spIni_len {K : PySem.W.Frag} {mg : Str → Option Value} {C : Addr} {ns : List Str} {np : Nat} {g : List D → Res (List D)} (vs : List V) (H : Hp) (Q : VK) (E : XK) (h : spIni K mg C ns np g vs H Q E) : vs.length = np + 1 := by
  obtain ⟨a, dx, ys, ds, B, rfl, h1, h2, _⟩ := h
  rw [List.length_cons, ← h2.length, h1]
section
variable {K : PySem.W.Frag} {mg : Str → Option Value} {C : Addr} {ns : List Str} {np : Nat}
theorem start_ini {a : Addr} {ys : List V} {ds : List D} {B H : Hp} {n : Nat} (s : Same B H) (r : Reps (wdOf K mg [0]) B ds ys) :
    StOk (wdOf K mg [0]) (.un :: (ds.map .val ++ List.replicate n .un)) (some (.ref a) :: (ys.map some ++ List.replicate n none)) B H where
  same := s
  len := by simp [r.length]
  ent := fun i e o h1 h2 => by
    cases i with
    | zero =>
      simp only [List.getElem?_cons_zero, Option.some.injEq] at h1
      subst h1
      trivial
    | succ i =>
      rw [List.getElem?_cons_succ] at h1 h2
      rw [List.getElem?_append] at h1
      split at h1
      · rename_i hi
        rw [List.length_map] at hi
        rw [List.getElem?_append_left (by rw [List.length_map, ← r.length]; exact hi), List.getElem?_map] at h2
        rw [List.getElem?_map] at h1
        cases hd : ds[i]? with
        | none => rw [hd] at h1; cases h1
        | some d =>
          rw [hd] at h1
          cases h1
          obtain ⟨v, hv, rv⟩ := r.get hd
          rw [hv] at h2
          cases h2
          exact ⟨v, rfl, rv⟩
      · rw [List.getElem?_replicate] at h1
        split at h1
        · cases h1
          trivial
        · cases h1
  dis := fun i j xs zs p h1 => by
    exfalso
    cases i with
    | zero => cases h1
    | succ i =>
      rw [List.getElem?_cons_succ, List.getElem?_append] at h1
      split at h1
      · rw [List.getElem?_map] at h1
        cases hd : ds[i]? with
        | none => rw [hd] at h1; cases h1
        | some d => rw [hd] at h1; cases h1
      · rw [List.getElem?_replicate] at h1
        split at h1 <;> cases h1
theorem ini_noown {a p : Addr} {ys : List V} {ds : List D} {n : Nat} : ¬ Own (.un :: (ds.map .val ++ List.replicate n .un)) (some (V.ref a) :: (ys.map some ++ List.replicate n none)) p := by
  rintro ⟨i, xs, h1, _⟩
  cases i with
  | zero => cases h1
  | succ i =>
    rw [List.getElem?_cons_succ, List.getElem?_append] at h1
    split at h1
    · rw [List.getElem?_map] at h1
      cases hd : ds[i]? with
      | none => rw [hd] at h1; cases h1
      | some d => rw [hd] at h1; cases h1
    · rw [List.getElem?_replicate] at h1
      split at h1 <;> cases h1
variable {P : Program} {w : World} {base : Heap}
/-- such an __init__ keeps its promise -/
theorem ini_ok {x qual : Str} {params : Arguments} {body : List Stmt} {scope : Scope} {dvs : List V} {kws : List (Str × V)} {f : Addr} {fd : FuncData} {N ps : List Str} {k : Nat} {g : Sto → Res (List D)} (F : FunD K x qual params body scope dvs kws f fd) (S : FnScope N ps scope) (hn : ps.length = np + 1)
    (hbody : ∀ (cdv : Value) (A : Around) (outer : List Env) (s : Shared) (H : Hp) (E : XK), RoomG k (A.deeper (envOfC qual scope s.heap.objs.size f cdv)) →
      PSs (cxOf (L2.CX P w) P w K mg base N qual scope f cdv A outer s H E) body (tIni (wdOf K mg [0]) (fun cls d _ H => E cls d H) C [] ns g)) : FnOkG P w K mg base (L2.CX P w) (k + 1) f fd ps (spIni K mg C ns np (mkIni np N.length g)) :=
  okG F S (fun vs H Q E h => (spIni_len vs H Q E h).trans hn.symm) fun cdv A outer s H vs Q E hr h => by
    refine ⟨_, hbody cdv A outer s H E hr, ?_⟩
    obtain ⟨a, dx, ys, ds, B, rfl, h1, h2, h3, h4, h5, h6⟩ := h
    have e : L2.start N (.ref a :: ys) = some (.ref a) :: (ys.map some ++ List.replicate (N.length - (np + 1)) none) := by
      unfold L2.start
      rw [List.length_cons, ← h2.length, h1]
      rfl
    rw [e]
    refine ⟨_, B, a, dx, [], B, H, start_ini h3 h2, rfl, h5, h4, rfl, ⟨Same.refl _, fun _ z => z, fun p o n z => ⟨z, id, ini_noown⟩⟩, ?_⟩
    unfold mkIni at h6
    rw [if_pos h1] at h6
    cases hg : g (.un :: (ds.map .val ++ List.replicate (N.length - (np + 1)) .un)) with
    | bad => rw [hg] at h6; exact h6
    | err c ks xs e1 =>
      rw [hg] at h6
      exact fun cls d σ' B' H' s' y hx => h6 cls d B' H' s'.same y hx
    | ok fs e1 =>
      rw [hg] at h6
      exact fun σ' B' H' ws s' zz y hb ha hr => h6 B' H' ws zz s'.same y hb ha hr
end
end Ev

set_option Elab.async false
set_option linter.all false
set_option maxRecDepth 100000
set_option maxHeartbeats 4000000
namespace Ev
open PySem PySem.Spec PyProof.Rows L2
section
variable {X : Cx} {CX : CXT} {k np : Nat} {f C : Addr} {fd : FuncData} {ps : List Str} {ds : List Value} {dvs : List V} {x : Str} {p pos : Pos} {e : Expr} {es : List Expr} {t : TA}
/-- C(..) where what __init__ lets out is wished for at the caller's slots -/
theorem make_at {sp : Sp} {E : XK} {pins : List (Addr × Obj)} {σ : L2.St} {H : Hp} {s : Shared} {Q : VK} {us : List Value} {vs : List V} (M : Mk X.K C f) (F : FnOkG X.prog X.w X.K X.mg X.base CX k f fd ps sp) (hr : RoomG (k + 1) X.A) (hb : Binds X.K fd ps ds) (hd : Vals dvs ds)
    (hx : PassesAt CX X σ E) (I : Inv X pins σ H s) (r : Vals vs us)
    (h : ∀ y dy, H y = none → H dy = none → dy ≠ y → sp (.ref y :: (vs ++ dvs)) (upd (upd H dy (.own y)) y (.ins C dy [])) (fun v H2 => v = .non ∧ Q (.ref y) H2) E) :
    wpAny (model X.prog X.w) X.A (call (.ref C) us) (EP X pins σ Q) X.xe s := by
  let n := s.heap.objs.size
  have want := h (n + 1) n (I.hok.fresh (Nat.le_succ n)) (I.hok.fresh (Nat.le_refl n)) (Nat.ne_of_lt (Nat.lt_succ_self n))
  have J := Inv.made (C := C) I
  have rr : Vals (V.ref (n + 1) :: (vs ++ dvs)) (Value.ref (n + 1) :: (us ++ ds)) := .cons rfl (r.append hd)
  have ll : (Value.ref (n + 1) :: us ++ ds).length = ps.length := rr.length.symm.trans (F.len _ _ _ _ want)
  have bb := hb _ (Value.ref (n + 1) :: us) J.kIn ll
  have go := F.run _ X.stack _ _ ⟨Value.ref (n + 1) :: us, []⟩ (Value.ref (n + 1) :: (us ++ ds)) _ _ E (hr.make C us []) (J.env0.make C us []) bb rr want
  refine wpAny_call (make_map (f := f) I.kIn M.makes M.init (beq_iff_eq.mp M.fn) (codeAny_mono go fun res s2 fin => ?_))
  cases res with
  | ok fl =>
    cases fl with
    | ret u =>
      obtain ⟨v, H3, J3, rv, ev, q⟩ := J.after fin
      subst ev
      exact ⟨rv, V.ref (n + 1), H3, J3, rfl, q⟩
    | next => exact fin.elim
    | brk => exact fin.elim
    | cont => exact fin.elim
  | error err => exact hx pins _ _ err s2 J fin
def tMakeS (C : Addr) (sp : Sp) (dvs : List V) (E : L2.St → XK) (t : TA) : TE := fun σ H Q => t σ H fun vs H1 => ∀ y dy, H1 y = none → H1 dy = none → dy ≠ y →
  sp (.ref y :: (vs ++ dvs)) (upd (upd H1 dy (.own y)) y (.ins C dy [])) (fun v H2 => v = .non ∧ Q (.ref y) H2) (E σ)
theorem pe_makeS {sp : Sp} {E : L2.St → XK} (M : Mk X.K C f) (F : FnOkG X.prog X.w X.K X.mg X.base CX k f fd ps sp) (hr : RoomG (k + 1) X.A) (gl : Gl X x) (hm : X.mg x = some (.ref C)) (hb : Binds X.K fd ps ds) (hd : Vals dvs ds) (hx : ∀ σ, PassesAt CX X σ (E σ))
    (ha : PA X (e :: es) t) (hdb : (x == ("__debug__" : Str)) = false) (he : starEach (e :: es) X.env = (false, eval e X.env) :: starEach es X.env) (hpl : (backTo pos (starEach es X.env)).any (·.1) = false) :
    PE X (.Call (.Name x p) (e :: es) [] pos) (tMakeS C sp dvs E t) := by
  refine ⟨fun pins s σ H Q I h => wpAny_Call_Name_kw (ld_glob I gl hm ?_ hdb)⟩
  exact PySem.W.callWith_K (h₀ := X.base) I.ok.mod.kin M.kp (thn (ha.run pos pins s σ H _ I h) fun us s1 ⟨vs, H1, I1, r, q⟩ => ⟨I1.kIn, make_at M F hr hb hd (hx σ) I1 r q⟩) he hpl
end
/-- C(e, ..): a new instance, at once frozen -/
def dMake (c : Str) (ns : List Str) (g : List D → Res (List D)) (dfl : List D) (fs : DenVs) : DenV := fun env => (fs env).bind fun ds e => match g (ds ++ dfl) with
  | .ok xs _ => if xs.length = ns.length then .ok (.ins c ns xs) e else .bad
  | .err k ks ys _ => .err k ks ys e
  | .bad => .bad
section
variable {X : Cx} {Γ : Wd} {W : WX} {k np : Nat} {f C : Addr} {fd : FuncData} {ps : List Str} {ds : List Value} {dvs : List V} {dfl : List D} {x : Str} {p pos : Pos} {e : Expr} {es : List Expr} {fs : DenVs} {ns : List Str} {g : List D → Res (List D)}
theorem sMake (hK : X.K = Γ.K) (hm' : X.mg = Γ.mg) (M : Mk X.K C f) (F : FnOkG X.prog X.w X.K X.mg X.base (L2.CX X.prog X.w) k f fd ps (spIni X.K X.mg C ns np g)) (hr : RoomG (k + 1) X.A) (gl : Gl X x) (hm : X.mg x = some (.ref C)) (hb : Binds X.K fd ps ds) (hd : Vals dvs ds) (hdf : ∀ B, Reps Γ B dfl dvs) (tk : Takes X W)
    (ha : SVs X Γ W (e :: es) fs) (ga : ∀ args, args.length ≠ np → g args = .bad) (hdb : (x == ("__debug__" : Str)) = false := by decide) (he : starEach (e :: es) X.env = (false, eval e X.env) :: starEach es X.env := by rfl) (hpl : (backTo pos (starEach es X.env)).any (·.1) = false := by rfl) :
    SV X Γ W (.Call (.Name x p) (e :: es) [] pos) (dMake x ns g dfl fs) := imE (pe_makeS M F hr gl hm hb hd (fun σ => passAt tk σ) ha hdb he hpl) fun σ H Q ⟨env, B, s, pp⟩ => by
  refine ⟨env, B, s, pp.bind.mono fun args e1 B1 H1 s1 x1 q1 vs hvs y dy hy hdy hne => ?_⟩
  have rc : Reps (wdOf X.K X.mg [0]) B1 (args ++ dfl) (vs ++ dvs) := by
    rw [hK, hm']
    exact (hvs.append (hdf B1)).toC
  have nlen : (args ++ dfl).length = np := by
    by_cases hz : (args ++ dfl).length = np
    · exact hz
    · rw [ga _ hz] at q1
      exact q1.elim
  have fr : ∀ q o, H1 q = some o → (upd (upd H1 dy (.own y)) y (.ins C dy [])) q = some o := fun q o hq => by
    rw [upd_ne (ne_of_none hq hy), upd_ne (ne_of_none hq hdy)]
    exact hq
  have by_ : B1 y = none := s1.bfresh hy
  have sm : Same B1 (upd (upd H1 dy (.own y)) y (.ins C dy [])) := fun q o hq => fr q o (s1.same q o hq)
  refine ⟨y, dy, vs ++ dvs, args ++ dfl, B1, rfl, nlen, rc, sm, upd_same, by_, ?_⟩
  cases hg : g (args ++ dfl) with
  | bad => rw [hg] at q1; exact q1.elim
  | err c ks xs ee =>
    rw [hg] at q1
    intro cls d B' H' sb x hx
    have gr : Grow B1 H1 B' H' := ⟨x.b, fun q o hq => (x.f q o (ne_of_none hq hy) (fr q o hq)).1, sb, fun q o hq => (x.f q o (ne_of_none hq hy) (fr q o hq)).2⟩
    refine q1 cls d B' H' (s1.growG gr) (Ext.growG gr) (XnOk.ctx (Γ := wdOf X.K X.mg [0]) (Γ' := Γ) hK hm' hx)
  | ok xs ee =>
    rw [hg] at q1
    intro B' H' ws sb s' x hb' ha' hr'
    have q2 : Post Γ W e1 σ B1 H1 (fun d _ B' H' => ∀ v, Rep Γ B' d v → Q v H') (if xs.length = ns.length then .ok (.ins _ ns xs) e1 else .bad) := q1
    by_cases hl : xs.length = ns.length
    · rw [if_pos hl] at q2
      have gr : Grow B1 H1 (upd B' y (.ins C dy (ns.zip ws))) H' := ⟨x.b.trans (same_upd hb'), fun q o hq => (x.f q o (ne_of_none hq hy) (fr q o hq)).1, same_frz s' ha', fun q o hq hn => by
        rw [upd_ne (ne_of_none hq hy)]
        exact (x.f q o (ne_of_none hq hy) (fr q o hq)).2 hn⟩
      refine ⟨rfl, q2 _ H' (s1.growG gr) (Ext.growG gr) _ ⟨y, dy, C, ws, rfl, by rw [← hm']; exact hm, upd_same, by rw [← hl, hr'.length], ?_⟩⟩
      exact Reps.mono (same_upd hb') xs ws (Reps.ctx (Γ := wdOf X.K X.mg [0]) (Γ' := Γ) hK hm' xs ws hr')
    · rw [if_neg hl] at q2
      exact q2.elim
end
end Ev

set_option Elab.async false
set_option linter.all false
set_option maxRecDepth 100000
set_option maxHeartbeats 4000000
/-! ### enumerate(x), zip(x, y), each of them a list or a tuple (k: a list) -/
namespace PySem
/-- enumerate(x): the iterator that x gives, then the enumerate object over it -/
abbrev enumHeap (h : Heap) (o : Obj) : Heap := (h.push o).push { cls := .type "enumerate", data := .fields #[.none, .bool false, .ref h.objs.size, rawInt 0, .none, .none] }
theorem enumHeap_at {h : Heap} {o : Obj} : IsEnum (enumHeap h o) (h.objs.size + 1) h.objs.size 0 .none := by
  have top := Heap.get?_push_size (h.push o) (o := { cls := .type "enumerate", data := .fields #[.none, .bool false, .ref h.objs.size, rawInt 0, .none, .none] }) rfl
  rwa [Heap.size_push] at top
set_option maxHeartbeats 1000000 in
theorem enum_new1 {a : Addr} {o : Obj} {H : Heap → Prop} (B : Begins (.ref a) o H) :
    Meets (Builtin.«enumerate.__new__» ⟨[.type "enumerate", .ref a], []⟩) (fun _ R s => H s.heap ∧ R (.ok (.ret (.ref (s.heap.objs.size + 1)))) { s with heap := enumHeap s.heap o }) :=
  .of_wp fun prog w A R ⟨hh, gg, dd, tt, oo⟩ goal => by
    have made := goal.2
    have size1 : (hh.push o).objs.size = hh.objs.size + 1 := Heap.size_push ..
    have under := sub_enumerate
    have opens : ∀ {A' : Around} {E : Value → Shared → Prop} {Q : Value → Shared → Prop}, Q (.ref hh.objs.size) ⟨hh.push o, gg, dd, tt, oo⟩ → wpAny (model prog w) A' (pyIter (.ref a)) Q E ⟨hh, gg, dd, tt, oo⟩ :=
      fun q => B.iter prog w _ _ _ _ goal.1 q
    wp_walk using opens
    apply wpAny_stack_any
    intro st
    apply wpAny_pure
    split
    case h_1 => rename_i c _ _ _ _ _; cases (c == Value.type "enumerate") <;> (wp_walk using opens; exact ⟨_, rfl, by rw [size1]; exact made⟩)
    all_goals (wp_walk using opens; exact ⟨_, rfl, by rw [size1]; exact made⟩)
section
variable {prog : Program} {w : World} {A : Around} {E : Value → Shared → Prop} {s : Shared}
theorem enum_call1 {a : Addr} {o : Obj} {H : Heap → Prop} {Q : Value → Shared → Prop} (B : Begins (.ref a) o H) (h1 : H s.heap) (h : Q (.ref (s.heap.objs.size + 1)) { s with heap := enumHeap s.heap o }) :
    wpAny (model prog w) A (call (.type "enumerate") [.ref a]) Q E s :=
  callType_new F.called_enumerate (by decide) (F.typeCall_enumerate_1 _) (F.newCall_enumerate_1 _) (fun obj => F.args_object_init_2 obj _) F.entry_enumerate_new (enum_new1 B) ⟨h1, ⟨_, enumHeap_at, rfl⟩, h⟩
end
end PySem
namespace Ev
open PySem PySem.Spec PyProof.Rows L2
/-- the sequence at a, as it is told .. -/
def SqX (K : PySem.W.Frag) (H : Hp) (k : Bool) (a : Addr) (xs : List V) : Prop := bif k then SqL K H a xs else SqT K H a xs
/-- .. and as it stands -/
def LX (h : Heap) (k : Bool) (a : Addr) (ws : Array Value) : Prop := bif k then h.IsList a ws else h.IsTuple a ws
/-- its iterator -/
def ItX (h : Heap) (k : Bool) (it a : Addr) (i : Nat) : Prop := bif k then h.IsListIter it a i else h.IsTupleIter it a i
def obX (k : Bool) (a : Addr) : Obj := bif k then { cls := .type "list_iterator", data := .fields #[.ref a, .int 0 0] } else { cls := .type "tuple_iterator", data := .fields #[.ref a, .int 0 0] }
/-- an iterator under way over what stands -/
abbrev Way (k : Bool) (it a : Addr) (ws : List Value) : Nat → Heap → Prop := fun i h => ItX h k it a i ∧ LX h k a ws.toArray
section
variable {X : Cx} {pins : List (Addr × Obj)} {σ : L2.St} {H : Hp} {s : Shared} {xs ys : List V} {a it : Addr} {k : Bool} {i : Nat} {h h' : Heap} {ws : List Value}
theorem SqX.held (I : Inv X pins σ H s) (q : SqX X.K H k a xs) : ∃ ws : List Value, Vals xs ws ∧ LX s.heap k a ws.toArray := by
  cases k
  · exact (I.tuple q).imp fun _ r => ⟨r.1, r.2.1⟩
  · exact (I.list q).imp fun _ r => ⟨r.1, r.2.1.isList⟩
theorem SqX.one (I : Inv X pins σ H s) (q : SqX X.K H k a xs) (q2 : SqX X.K H k a ys) : xs = ys := by
  cases k
  · exact I.tuple_inj q q2
  · exact I.list_inj q q2
theorem ItX.obj (st : ItX h k it a i) : ∃ o, h.get? it = some o ∧ ∀ v, o.data ≠ .cell v := by
  cases k <;> (obtain ⟨o, at_, _, dat⟩ := st; exact ⟨o, at_, fun v z => by rw [dat] at z; cases z⟩)
theorem ItX.keep (st : ItX h k it a i) (q : ∀ o, h.get? it = some o → h'.get? it = some o) : ItX h' k it a i := by
  cases k
  · exact Heap.IsTupleIter.at st q
  · exact Heap.IsListIter.at st q
theorem LX.keep (st : LX h k a ws.toArray) (q : ∀ o, h.get? a = some o → h'.get? a = some o) : LX h' k a ws.toArray := by
  cases k
  · exact Heap.IsTuple.at st q
  · exact Heap.IsList.at st q
theorem LX.lt (st : LX h k a ws.toArray) : a < h.objs.size := by
  cases k <;> exact Heap.lt_size st.choose_spec.1
/-- an iterator is no sequence -/
theorem ItX.ne (st : ItX h k it a i) (l : LX h k a ws.toArray) : a ≠ it := fun same => by
  subst same
  cases k <;>
  · obtain ⟨o, at_, _, dat⟩ := st
    obtain ⟨o2, at2, _, _, dat2⟩ := l
    cases at_.symm.trans at2
    cases dat.symm.trans dat2
theorem begins_way (k : Bool) (a : Addr) (items : Array Value) : Begins (.ref a) (obX k a) fun h => LX h k a items := by
  cases k
  · exact begins_tuple a items
  · exact begins_list a items
theorem way0 (k : Bool) (q : h.get? it = some (obX k a)) : ItX h k it a 0 := by
  cases k <;> exact ⟨_, q, rfl, rfl⟩
theorem draws_way (I : Inv X pins σ H s) (hc : X.calm = true) (st : ItX s.heap k it a i) (l : LX s.heap k a ws.toArray) :
    Draws X.prog X.w X.A.in1 it [it, a] ws.toArray.size (fun i v => ws.toArray[i]? = some v) (Way k it a ws) := by
  have apart := st.ne l
  have cool : X.A.in1.handled = none := I.ok.hd hc
  cases k
  · exact Draws.tuple cool it a apart ws.toArray
  · exact Draws.list cool it a apart ws.toArray
/-- what a draw gives is the item that was told -/
theorem drawn_is {x : V} {v : Value} (r : Vals xs ws) (hx : xs[i]? = some x) (hv : ws.toArray[i]? = some v) : RelV x v := by
  obtain ⟨u, hu, rl⟩ := r.get hx
  rw [List.getElem?_toArray, hu] at hv
  cases hv
  exact rl
theorem vals_size (r : Vals xs ws) : ws.toArray.size = xs.length := by rw [List.size_toArray, ← r.length]
/-- a couple that was laid -/
theorem couple_ok {P : Program} {w : World} {T : Addr} {x1 x2 : V} {u1 u2 : Value} (at_ : h.get? T = some { cls := .type "tuple", data := .seq #[u1, u2] }) (r1 : RelV x1 u1) (r2 : RelV x2 u2) : ObjOk P w (upd H T (.tup [x1, x2])) h T (.tup [x1, x2]) :=
  ⟨(by decide : 2 ≤ sizeLine), [u1, u2], .cons r1 (.cons r2 .nil), _, at_, rfl, _, rfl⟩
/-- the iterator's own things stay untracked when a new thing is laid -/
theorem untracked {fp : List Addr} {ob : HO} {C : Obj → Prop} (f : ∀ b ∈ fp, FpOk X pins H b) (there : ∀ b ∈ fp, ∃ o, s.heap.get? b = some o ∧ C o) : ∀ b ∈ fp, upd H s.heap.objs.size ob b = none := fun b hb => by
  rw [upd_ne (Nat.ne_of_lt (Heap.lt_size (there b hb).choose_spec.1))]
  exact (f b hb).1
end
/-- enumerate of the sequence at a -/
def IteX (K : PySem.W.Frag) (k : Bool) (a : Addr) (n : Nat) : It where
  go := fun i H => ∃ (xs : List V) (x : V), SqX K H k a xs ∧ xs.length = n ∧ xs[i]? = some x
  yld := fun i H v H' => ∃ T x, v = .ref T ∧ H T = none ∧ H' = upd H T (.tup [.int (i : Nat), x]) ∧ ∀ xs, SqX K H k a xs → xs[i]? = some x
  stop := fun i H => ∃ xs : List V, SqX K H k a xs ∧ xs.length = n ∧ n ≤ i
theorem turn_enumX {P : Program} {w : World} {K : PySem.W.Frag} {elts : List Expr} {kk : Nat} {tpos : Pos} (k : Bool) (n : Nat) (a e it : Addr) :
    Turn P w K (.Tuple elts kk tpos) (IteX K k a n) [e, it] e (fun i h => (∃ prev, IsEnum h e it ((i : Nat) : Int) prev) ∧ ItX h k it a i ∧ e ≠ it ∧ e ≠ a ∧ i ≤ n) := by
  have mem1 : e ∈ [e, it] := .head _
  have mem2 : it ∈ [e, it] := .tail _ (.head _)
  have objs : ∀ i h, ((∃ prev, IsEnum h e it ((i : Nat) : Int) prev) ∧ ItX h k it a i ∧ e ≠ it ∧ e ≠ a ∧ i ≤ n) → ∀ b ∈ [e, it], ∃ o, h.get? b = some o ∧ ∀ v, o.data ≠ .cell v := fun i h st =>
    List.forall_mem_cons.mpr ⟨⟨_, st.1.choose_spec, nofun⟩, List.forall_mem_cons.mpr ⟨st.2.1.obj, nofun⟩⟩
  refine { mem := mem1, obj := objs, keep := ?_, item := ?_, done := ?_, self := fun A i s Q E st q => wpAny_pyIter_enum st.1.choose_spec q }
  · rintro i h h' ⟨⟨prev, en⟩, st, rest⟩ keeps
    exact ⟨⟨prev, keeps e mem1 _ en⟩, st.keep (keeps it mem2), rest⟩
  · rintro X rfl rfl rfl calm i pins s σ H E I own all ⟨xs, x, sq, len, hx⟩
    have ⟨⟨prev, en⟩, st, nit, na, le⟩ := all
    obtain ⟨ws, rel, held⟩ := sq.held I
    have size := vals_size rel
    have lt : i < ws.toArray.size := by rw [size]; exact (List.getElem?_eq_some_iff.mp hx).1
    refine wpAny_pyNext_enum_itemD (draws_way I calm st held) en ⟨st, held⟩ lt nit (by simp [nit, na]) fun v h1 tk hv out ⟨st1, _⟩ laid _ keeps => ⟨_, rfl, ?_⟩
    refine wpAny_letOwnedTupleGo_enum (s := { s with heap := h1, toks := tk + 1 }) out fun h2 en2 ⟨_, same⟩ => ?_
    have at2 := (same s.heap.objs.size (Nat.ne_of_gt (Heap.lt_size en))).trans laid
    have kept : ∀ b o, b ∉ [e, it] → s.heap.get? b = some o → h2.get? b = some o := fun b o out q => by
      rw [List.mem_cons, List.mem_singleton, not_or] at out
      exact (same b out.1).trans (keeps b o out.1 out.2 q)
    refine ⟨.ref s.heap.objs.size, _, I.turnedNew (t' := tk + 1) kept own (Nat.le_refl _) (couple_ok (x1 := .int (i : Nat)) at2 ⟨_, rfl⟩ (drawn_is rel hx hv)), rfl, ⟨_, x, rfl, I.hok.fresh (Nat.le_refl _), rfl, fun ys sq2 => by rw [sq2.one I sq]; exact hx⟩, ⟨⟨v, ?_⟩, st1.keep fun o q => (same it (Ne.symm nit)).trans q, nit, na, ?_⟩, untracked own (objs i _ all)⟩
    · rw [Int.natCast_succ]
      exact en2
    · rw [size, len] at lt
      exact lt
  · rintro X rfl rfl rfl calm i pins s σ H E I own ⟨⟨prev, en⟩, st, _, _, le⟩ ⟨xs, sq, len, ended⟩
    obtain ⟨ws, rel, held⟩ := sq.held I
    have at_ : i = ws.toArray.size := by rw [vals_size rel, len]; exact Nat.le_antisymm le ended
    have ⟨z0, z1, z2, z3, z4, z5⟩ := own it mem2
    exact wpAny_pyNext_enum_endD (draws_way I calm st held) en ⟨at_ ▸ st, held⟩ fun h1 but => ⟨rfl, I.turned (t' := s.toks) (fun b o => but b o) z0 z1 z3 z4 z5⟩
def iEnumX (K : PySem.W.Frag) (ta : TA) : TI := fun σ H R => ta σ H fun vs H1 => ∃ k a xs, vs = [.ref a] ∧ SqX K H1 k a xs ∧ R (IteX K k a xs.length) H1
/-- an iterator's own things, all of them new -/
theorem new_fp {X : Cx} {pins : List (Addr × Obj)} {σ : L2.St} {H : Hp} {s : Shared} (I : Inv X pins σ H s) {fp : List Addr} (le : ∀ b ∈ fp, s.heap.objs.size ≤ b) : ∀ b ∈ fp, FpOk X pins H b := fun b hb => I.fpOk (le b hb) (I.hok.fresh (le b hb))
theorem pi_enumX {X : Cx} {e : Expr} {ta : TA} {p pos tpos : Pos} {elts : List Expr} {kk : Nat} (hg : Gl X "enumerate") (hm : X.mg "enumerate" = none) (ha : PA X [e] ta) (hs : starEach [e] X.env = [(false, eval e X.env)] := by rfl) :
    PI X (.Tuple elts kk tpos) (.Call (.Name "enumerate" p) [e] [] pos) (iEnumX X.K ta) := by
  constructor
  intro pins s σ H R I goal
  refine Call_ (ld_blt I hg hm boot_enumerate (PyProof.Rows.callWith_type1 (thn (ha.run pos pins s σ H _ I goal) ?_) hs rfl))
  rintro us s1 ⟨_, G, J, rel, k, a, xs, rfl, sq, q⟩
  match us, rel with
  | [_], .cons rfl .nil =>
    obtain ⟨ws, _, held⟩ := sq.held J
    have keeps : ∀ b o, s1.heap.get? b = some o → (enumHeap s1.heap (obX k a)).get? b = some o := fun b o q => Heap.get?_push_of_some _ (Heap.get?_push_of_some _ q)
    refine enum_call1 (begins_way k a ws.toArray) held (wpAny_pyIter_enum enumHeap_at ⟨s1.heap.objs.size + 1, [s1.heap.objs.size + 1, s1.heap.objs.size], _, _, G, rfl, J.kept (t' := s1.toks) keeps, turn_enumX k xs.length a _ _, ⟨⟨_, enumHeap_at⟩, way0 k (Heap.get?_push_of_some _ (Heap.get?_push_size _ (begins_way k a ws.toArray).free)), Nat.succ_ne_self _, Nat.ne_of_gt (Nat.lt_succ_of_lt held.lt), Nat.zero_le _⟩, ?_, q⟩)
    exact new_fp J (List.forall_mem_cons.mpr ⟨Nat.le_add_right .., List.forall_mem_cons.mpr ⟨Nat.le_refl _, nofun⟩⟩)
end Ev
set_option Elab.async false
set_option linter.all false
set_option maxRecDepth 100000
set_option maxHeartbeats 4000000
namespace Ev
open PySem PySem.Spec PyProof.Rows L2
/-! ### zip of two -/
def ItzX (K : PySem.W.Frag) (k1 k2 : Bool) (a b : Addr) (n1 n2 : Nat) : It where
  go := fun i H => ∃ (xs ys : List V) (x y : V), SqX K H k1 a xs ∧ SqX K H k2 b ys ∧ xs.length = n1 ∧ ys.length = n2 ∧ xs[i]? = some x ∧ ys[i]? = some y
  yld := fun i H v H' => ∃ T x y, v = .ref T ∧ H T = none ∧ H' = upd H T (.tup [x, y]) ∧ (∀ xs, SqX K H k1 a xs → xs[i]? = some x) ∧ ∀ ys, SqX K H k2 b ys → ys[i]? = some y
  stop := fun i H => ∃ xs ys : List V, SqX K H k1 a xs ∧ SqX K H k2 b ys ∧ xs.length = n1 ∧ ys.length = n2 ∧ (n1 ≤ i ∨ n2 ≤ i)
/-- the zip's own things: itself, its two couples, its iterators; no two of them are one, none is a sequence -/
abbrev zipFp (z TI TO i1 i2 : Addr) : List Addr := [z, TI, TO, i1, i2]
structure Zipped (z TI TO i1 i2 a b : Addr) : Prop where
  own : (zipFp z TI TO i1 i2).Nodup
  na : a ∉ zipFp z TI TO i1 i2
  nb : b ∉ zipFp z TI TO i1 i2
theorem Zipped.sep {z TI TO i1 i2 a b : Addr} (D : Zipped z TI TO i1 i2 a b) : ZipSep2 z TI TO i1 i2 [i1, a] [i2, b] := by
  have own := D.own
  have na := D.na
  have nb := D.nb
  simp only [zipFp, List.nodup_cons, List.mem_cons, List.not_mem_nil, or_false, not_or, List.nodup_nil, and_true, not_false_eq_true] at own na nb
  obtain ⟨⟨q1, q2, q3, q4⟩, ⟨q5, q6, q7⟩, ⟨q8, q9⟩, q10⟩ := own
  obtain ⟨n1, n2, n3, n4, n5⟩ := na
  obtain ⟨m1, m2, m3, m4, m5⟩ := nb
  constructor <;> first
    | assumption
    | exact Ne.symm (by assumption)
    | (simp only [List.mem_cons, List.not_mem_nil, or_false, not_or, true_or, or_true, forall_eq_or_imp, forall_eq]; done)
    | (simp only [List.mem_cons, List.not_mem_nil, or_false, not_or, forall_eq_or_imp, forall_eq]; refine ⟨?_, ?_⟩ <;> first | assumption | exact Ne.symm (by assumption) | (refine ⟨?_, ?_⟩ <;> first | assumption | exact Ne.symm (by assumption)))
section
variable {k1 k2 : Bool} {n1 n2 : Nat} {a b z TI TO i1 i2 : Addr}
/-- how the zip stands ahead of turn i -/
def ZipAt (k1 k2 : Bool) (n1 n2 : Nat) (a b z TI TO i1 i2 : Addr) (i : Nat) (h : Heap) : Prop :=
  IsZip h z TI TO .none ∧ IsTupOf2 h TI (.ref i1) (.ref i2) ∧ (∃ x y, IsTupOf2 h TO x y) ∧ ItX h k1 i1 a i ∧ ItX h k2 i2 b i ∧ i ≤ n1 ∧ i ≤ n2
theorem ZipAt.objs {i : Nat} {h : Heap} (st : ZipAt k1 k2 n1 n2 a b z TI TO i1 i2 i h) : ∀ c ∈ zipFp z TI TO i1 i2, ∃ o, h.get? c = some o ∧ ∀ v, o.data ≠ .cell v := by
  obtain ⟨q1, q2, ⟨_, _, q3⟩, q4, q5, _⟩ := st
  exact List.forall_mem_cons.mpr ⟨⟨_, q1, nofun⟩, List.forall_mem_cons.mpr ⟨⟨_, q2, nofun⟩, List.forall_mem_cons.mpr ⟨⟨_, q3, nofun⟩, List.forall_mem_cons.mpr ⟨q4.obj, List.forall_mem_cons.mpr ⟨q5.obj, nofun⟩⟩⟩⟩⟩
theorem ZipAt.keep {i : Nat} {h h' : Heap} (st : ZipAt k1 k2 n1 n2 a b z TI TO i1 i2 i h) (k : ∀ c ∈ zipFp z TI TO i1 i2, ∀ o, h.get? c = some o → h'.get? c = some o) : ZipAt k1 k2 n1 n2 a b z TI TO i1 i2 i h' := by
  obtain ⟨q1, q2, ⟨x, y, q3⟩, q4, q5, rest⟩ := st
  exact ⟨k _ (by simp) _ q1, k _ (by simp) _ q2, ⟨x, y, k _ (by simp) _ q3⟩, q4.keep (k _ (by simp)), q5.keep (k _ (by simp)), rest⟩
/-- all that is no zip's own is kept -/
theorem zip_kept {h1 h2 : Heap} (k : ∀ c o, c ≠ z → c ≠ TO → c ≠ i1 → c ≠ i2 → h1.get? c = some o → h2.get? c = some o) (c : Addr) (o : Obj) (out : c ∉ zipFp z TI TO i1 i2) (e : h1.get? c = some o) : h2.get? c = some o := by
  simp only [List.mem_cons, List.not_mem_nil, or_false, not_or] at out
  exact k c o out.1 out.2.2.1 out.2.2.2.1 out.2.2.2.2 e
theorem turn_zipX {P : Program} {w : World} {K : PySem.W.Frag} {elts : List Expr} {kk : Nat} {tpos : Pos} (D : Zipped z TI TO i1 i2 a b) :
    Turn P w K (.Tuple elts kk tpos) (ItzX K k1 k2 a b n1 n2) (zipFp z TI TO i1 i2) z (ZipAt k1 k2 n1 n2 a b z TI TO i1 i2) := by
  have S := D.sep
  refine { mem := .head _, obj := fun _ _ => ZipAt.objs, keep := fun _ _ _ => ZipAt.keep, item := ?_, done := ?_, self := fun A i s Q E st q => wpAny_pyIter_zip st.1 q }
  · rintro X rfl rfl rfl calm i pins s σ H E I own st ⟨xs, ys, x, y, sq1, sq2, len1, len2, hx, hy⟩
    have ⟨zp, ti, ⟨_, _, to⟩, w1, w2, _, _⟩ := st
    obtain ⟨us, rel1, held1⟩ := sq1.held I
    obtain ⟨vs, rel2, held2⟩ := sq2.held I
    have size1 := vals_size rel1
    have size2 := vals_size rel2
    have lt1 := (List.getElem?_eq_some_iff.mp hx).1
    have lt2 := (List.getElem?_eq_some_iff.mp hy).1
    refine wpAny_pyNext_zipD2_item S (draws_way I calm w1 held1) (draws_way I calm w2 held2) zp ti to ⟨w1, held1⟩ ⟨w2, held2⟩ (by rw [size1]; exact lt1) (by rw [size2]; exact lt2) fun u v h1 tk hu hv zp1 to1 ⟨s1, _⟩ ⟨s2, _⟩ laid _ keeps => ⟨_, rfl, ?_⟩
    refine wpAny_letOwnedTupleGo_zip (s := { s with heap := h1, toks := tk }) zp1 fun h2 zp2 ⟨_, same⟩ => ?_
    have at2 := (same s.heap.objs.size (Nat.ne_of_gt (Heap.lt_size zp))).trans laid
    have kept : ∀ c o, c ∉ zipFp z TI TO i1 i2 → s.heap.get? c = some o → h2.get? c = some o := fun c o out q => (same c (fun eq => out (by rw [eq]; exact .head _))).trans (zip_kept keeps c o out q)
    have zi1 : i1 ≠ z := fun eq => S.zf1 (by rw [eq]; exact .head _)
    have zi2 : i2 ≠ z := fun eq => S.zf2 (by rw [eq]; exact .head _)
    refine ⟨.ref s.heap.objs.size, _, I.turnedNew (t' := tk) kept own (Nat.le_refl _) (couple_ok at2 (drawn_is rel1 hx hu) (drawn_is rel2 hy hv)), rfl, ⟨_, x, y, rfl, I.hok.fresh (Nat.le_refl _), rfl, fun l sq => by rw [sq.one I sq1]; exact hx, fun l sq => by rw [sq.one I sq2]; exact hy⟩, ⟨zp2, (same _ S.TIz).trans (keeps _ _ S.TIz S.TITO S.TIi1 S.TIi2 ti), ⟨u, v, (same _ S.TOz).trans to1⟩, s1.keep fun o q => (same _ zi1).trans q, s2.keep fun o q => (same _ zi2).trans q, by rw [← len1]; exact lt1, by rw [← len2]; exact lt2⟩, untracked own st.objs⟩
  · rintro X rfl rfl rfl calm i pins s σ H E I own ⟨zp, ti, ⟨_, _, to⟩, w1, w2, le1, le2⟩ ⟨xs, ys, sq1, sq2, len1, len2, ended⟩
    obtain ⟨us, rel1, held1⟩ := sq1.held I
    obtain ⟨vs, rel2, held2⟩ := sq2.held I
    have size1 := (vals_size rel1).trans len1
    have size2 := (vals_size rel2).trans len2
    exact wpAny_pyNext_zipD2_end S (draws_way I calm w1 held1) (draws_way I calm w2 held2) zp ti to ⟨w1, held1⟩ ⟨w2, held2⟩ (by rw [size1]; exact le1) (by rw [size2]; exact le2) (by rw [size1, size2]; exact ended.imp (Nat.le_antisymm le1) (Nat.le_antisymm le2)) fun h1 tk keeps => ⟨rfl, I.turnedL (t' := tk) (zip_kept keeps) own⟩
end
def iZipX (K : PySem.W.Frag) (ta : TA) : TI := fun σ H R => ta σ H fun vs H1 => ∃ k1 k2 a b xs ys, vs = [.ref a, .ref b] ∧ SqX K H1 k1 a xs ∧ SqX K H1 k2 b ys ∧ R (ItzX K k1 k2 a b xs.length ys.length) H1
/-- five new things in a row, ahead of what stood before -/
theorem zipped_new {a b n : Nat} (ha : a < n) (hb : b < n) : Zipped (n + 4) (n + 2) (n + 3) n (n + 1) a b := by
  have out : ∀ c : Nat, c < n → c ∉ zipFp (n + 4) (n + 2) (n + 3) n (n + 1) := fun c lt inC => by
    simp only [List.mem_cons, List.not_mem_nil, or_false] at inC
    rcases inC with e | e | e | e | e
    · exact Nat.lt_irrefl _ (Nat.lt_of_lt_of_le (e ▸ lt : n + 4 < n) (Nat.le_add_right ..))
    · exact Nat.lt_irrefl _ (Nat.lt_of_lt_of_le (e ▸ lt : n + 2 < n) (Nat.le_add_right ..))
    · exact Nat.lt_irrefl _ (Nat.lt_of_lt_of_le (e ▸ lt : n + 3 < n) (Nat.le_add_right ..))
    · exact Nat.lt_irrefl _ (e ▸ lt : n < n)
    · exact Nat.lt_irrefl _ (Nat.lt_of_lt_of_le (e ▸ lt : n + 1 < n) (Nat.le_add_right ..))
  refine ⟨?_, out a ha, out b hb⟩
  simp only [zipFp, List.nodup_cons, List.mem_cons, List.not_mem_nil, or_false, not_or, List.nodup_nil, and_true, not_false_eq_true]
  refine ⟨⟨?_, ?_, ?_, ?_⟩, ⟨?_, ?_, ?_⟩, ⟨?_, ?_⟩, ?_⟩ <;> (show (_ : Nat) ≠ (_ : Nat); omega)
theorem pi_zipX {X : Cx} {e e2 : Expr} {ta : TA} {p pos tpos : Pos} {elts : List Expr} {kk : Nat} (hg : Gl X "zip") (hm : X.mg "zip" = none) (ha : PA X [e, e2] ta)
    (hs : starEach [e, e2] X.env = (false, eval e X.env) :: starEach [e2] X.env := by rfl) (hpl : (backTo pos (starEach [e2] X.env)).any (·.1) = false := by rfl) :
    PI X (.Tuple elts kk tpos) (.Call (.Name "zip" p) [e, e2] [] pos) (iZipX X.K ta) := by
  constructor
  intro pins s σ H R I goal
  refine Call_ (ld_blt I hg hm PyProof.Rows.boot_zip (PyProof.Rows.callWith_type1 (thn (ha.run pos pins s σ H _ I goal) ?_) hs hpl))
  rintro us s1 ⟨_, G, J, rel, k1, k2, a, b, xs, ys, rfl, sq1, sq2, q⟩
  match us, rel with
  | [_, _], .cons rfl (.cons rfl .nil) =>
    obtain ⟨us, _, held1⟩ := sq1.held J
    obtain ⟨vs, _, held2⟩ := sq2.held J
    refine zip_begins2 (begins_way k1 a us.toArray) (begins_way k2 b vs.toArray) held1 held2 fun h1 zp ti to b1 b2 _ keeps => wpAny_pyIter_zip zp ⟨_, _, _, _, G, rfl, J.kept (t' := s1.toks) keeps, turn_zipX (zipped_new held1.lt held2.lt), ⟨zp, ti, ⟨_, _, to⟩, way0 k1 b1, way0 k2 b2, Nat.zero_le _, Nat.zero_le _⟩, new_fp J ?_, q⟩
    exact List.forall_mem_cons.mpr ⟨Nat.le_add_right .., List.forall_mem_cons.mpr ⟨Nat.le_add_right .., List.forall_mem_cons.mpr ⟨Nat.le_add_right .., List.forall_mem_cons.mpr ⟨Nat.le_refl _, List.forall_mem_cons.mpr ⟨Nat.le_add_right .., nofun⟩⟩⟩⟩⟩
/-! ### the same as readings -/
def enumD : Nat → List D → List D
  | _, [] => []
  | k, x :: r => .tup [.int (k : Nat), x] :: enumD (k + 1) r
theorem enumD_get : ∀ {xs : List D} {k i : Nat}, (enumD k xs)[i]? = (xs[i]?).map fun x => .tup [.int ((k + i : Nat)), x]
  | [], k, i => by simp [enumD]
  | x :: r, k, 0 => by simp [enumD]
  | x :: r, k, i + 1 => by
    rw [enumD, List.getElem?_cons_succ, List.getElem?_cons_succ, enumD_get, show k + 1 + i = k + (i + 1) from by omega]
theorem enumD_len : ∀ {xs : List D} {k : Nat}, (enumD k xs).length = xs.length
  | [], k => rfl
  | x :: r, k => by rw [enumD, List.length_cons, List.length_cons, enumD_len]
def zipD : List D → List D → List D
  | x :: r, y :: q => .tup [x, y] :: zipD r q
  | _, _ => []
theorem zipD_get : ∀ {xs ys : List D} {i : Nat}, (zipD xs ys)[i]? = (match xs[i]?, ys[i]? with
    | some x, some y => some (.tup [x, y])
    | _, _ => none)
  | [], ys, i => by simp [zipD]
  | x :: r, [], i => by
    simp only [zipD, List.getElem?_nil]
    cases (x :: r)[i]? <;> rfl
  | x :: r, y :: q, 0 => by simp [zipD]
  | x :: r, y :: q, i + 1 => by rw [zipD, List.getElem?_cons_succ, List.getElem?_cons_succ, List.getElem?_cons_succ, zipD_get]
theorem zipD_len : ∀ {xs ys : List D}, (zipD xs ys).length = min xs.length ys.length
  | [], ys => by simp [zipD]
  | x :: r, [] => by simp [zipD]
  | x :: r, y :: q => by rw [zipD, List.length_cons, List.length_cons, List.length_cons, zipD_len]; omega
section
variable {X : Cx} {Γ : Wd} {W : WX} {tg e e2 : Expr} {pos p tpos : Pos}
theorem grow_tup {B H : Hp} {T : Addr} {vs : List V} (s : Same B H) (h : H T = none) : Grow B H (upd B T (.tup vs)) (upd H T (.tup vs)) :=
  ⟨same_upd (s.free h), same_upd h, same_upd2 s, fun p o hp hb => by rw [upd_ne (ne_of_none hp h)]; exact hb⟩
/-- a value that is walked, as it stands in B -/
def SqB (Γ : Wd) (B : Hp) (d : D) (v : V) (xs : List D) : Prop := ∃ k a vs, v = .ref a ∧ SqX Γ.K B k a vs ∧ Reps Γ B xs vs
theorem SqX.mono {K : PySem.W.Frag} {B B' : Hp} {k : Bool} {a : Addr} {vs : List V} (s : Same B B') (h : SqX K B k a vs) : SqX K B' k a vs := by
  cases k with
  | true => exact s.seq h
  | false => exact sqT_mono s h
theorem Rep.sqx {B : Hp} {d : D} {v : V} {xs : List D} (h : Rep Γ B d v) (e : d.its = some xs) : ∃ k a vs, v = .ref a ∧ SqX Γ.K B k a vs ∧ Reps Γ B xs vs := by
  cases d with
  | tup ys =>
    cases e
    obtain ⟨a, vs, h1, h2, h3⟩ := h
    exact ⟨false, a, vs, h1, h2, h3⟩
  | lst ys =>
    cases e
    obtain ⟨a, vs, h1, h2, h3⟩ := h
    exact ⟨true, a, vs, h1, .inl (.inl h2), h3⟩
  | fl ys =>
    cases e
    obtain ⟨a, vs, h1, h2, h3⟩ := h
    exact ⟨true, a, vs, h1, h2, h3⟩
  | _ => cases e
theorem walks_enumX {k : Bool} {a : Addr} {items : List D} {B : Hp} {vs : List V} (h : SqX Γ.K B k a vs) (r : Reps Γ B items vs) : Walks Γ (IteX Γ.K k a vs.length) (enumD 0 items) B := fun i B2 H2 k1 k2 => by
  have hq : SqX Γ.K H2 k a vs := (h.mono k1).mono k2
  refine ⟨fun d hd => ?_, fun hl => ⟨vs, hq, rfl, by rw [enumD_len, r.length] at hl; exact hl⟩⟩
  rw [enumD_get] at hd
  cases hx : items[i]? with
  | none => rw [hx] at hd; cases hd
  | some d0 =>
    rw [hx] at hd
    have hd' : D.tup [.int ((0 + i : Nat)), d0] = d := Option.some.inj hd
    subst hd'
    obtain ⟨v, hv, rv⟩ := r.get hx
    refine ⟨⟨vs, v, hq, rfl, hv⟩, fun x H3 y => ?_⟩
    obtain ⟨T, u, e1, e2, e3, e4⟩ := y
    subst e1 e3
    have e5 : v = u := Option.some.inj (hv.symm.trans (e4 vs hq))
    subst e5
    refine ⟨_, grow_tup k2 e2, T, _, rfl, .inl (.inl upd_same), ?_⟩
    refine ⟨.int (i : Nat), [v], rfl, ?_, v, [], rfl, Rep.mono (k1.trans (same_upd (k2.free e2))) d0 v rv, rfl⟩
    show V.int (i : Nat) = V.int ((0 + i : Nat))
    rw [Nat.zero_add]
theorem walks_zipX {ka kb : Bool} {a b : Addr} {xs ys : List D} {B : Hp} {vs ws : List V} (h : SqX Γ.K B ka a vs) (r : Reps Γ B xs vs) (h' : SqX Γ.K B kb b ws) (r' : Reps Γ B ys ws) : Walks Γ (ItzX Γ.K ka kb a b vs.length ws.length) (zipD xs ys) B := fun i B2 H2 k1 k2 => by
  have hq : SqX Γ.K H2 ka a vs := (h.mono k1).mono k2
  have hq' : SqX Γ.K H2 kb b ws := (h'.mono k1).mono k2
  refine ⟨fun d hd => ?_, fun hl => ⟨vs, ws, hq, hq', rfl, rfl, by rw [zipD_len, r.length, r'.length] at hl; omega⟩⟩
  rw [zipD_get] at hd
  cases hx : xs[i]? with
  | none => rw [hx] at hd; cases hd
  | some d0 =>
    cases hy : ys[i]? with
    | none => rw [hx, hy] at hd; cases hd
    | some d1 =>
      rw [hx, hy] at hd
      have hd' : D.tup [d0, d1] = d := Option.some.inj hd
      subst hd'
      obtain ⟨v, hv, rv⟩ := r.get hx
      obtain ⟨v', hv', rv'⟩ := r'.get hy
      refine ⟨⟨vs, ws, v, v', hq, hq', rfl, rfl, hv, hv'⟩, fun x H3 y => ?_⟩
      obtain ⟨T, u, u', e1, e2, e3, e4, e5⟩ := y
      subst e1 e3
      have e6 : v = u := Option.some.inj (hv.symm.trans (e4 vs hq))
      have e7 : v' = u' := Option.some.inj (hv'.symm.trans (e5 ws hq'))
      subst e6 e7
      have up := k1.trans (same_upd (o := .tup [v, v']) (k2.free e2))
      exact ⟨_, grow_tup k2 e2, T, _, rfl, .inl (.inl upd_same), v, [v'], rfl, Rep.mono up d0 v rv, v', [], rfl, Rep.mono up d1 v' rv', rfl⟩
def dEnum (f : DenVs) : DenI := fun env => (f env).bind fun ds e => match ds with
  | [d] => (match d.its with
    | some xs => .ok (enumD 0 xs) e
    | none => .bad)
  | _ => .bad
def dZip (f : DenVs) : DenI := fun env => (f env).bind fun ds e => match ds with
  | [d, d2] => (match d.its, d2.its with
    | some xs, some ys => .ok (zipD xs ys) e
    | _, _ => .bad)
  | _ => .bad
theorem sEnum {elts : List Expr} {kk : Nat} {f : DenVs} (hK : X.K = Γ.K) (hg : Gl X "enumerate") (hm : X.mg "enumerate" = none) (h : SVs X Γ W [e] f) (hs : starEach [e] X.env = [(false, eval e X.env)] := by rfl) :
    SI X Γ W (.Tuple elts kk tpos) (.Call (.Name "enumerate" p) [e] [] pos) (dEnum f) := imI (pi_enumX hg hm h hs) fun σ H R ⟨env, B, s, pp⟩ => by
  refine ⟨env, B, s, pp.bind.mono fun ds e1 B1 H1 s1 x1 q1 vs hvs => ?_⟩
  cases ds with
  | nil => exact q1.elim
  | cons d r =>
    cases r with
    | cons _ _ => exact q1.elim
    | nil =>
      obtain ⟨v, r, rfl, hv, hr⟩ := hvs
      cases hr
      cases hi : d.its with
      | none =>
        have q2 : Post Γ W e1 σ B1 H1 (fun items _ B' H' => ∀ J, Walks Γ J items B' → R J H') (match d.its with | some xs => .ok (enumD 0 xs) e1 | none => .bad) := q1
        rw [hi] at q2
        exact q2.elim
      | some xs =>
        have q2 : Post Γ W e1 σ B1 H1 (fun items _ B' H' => ∀ J, Walks Γ J items B' → R J H') (match d.its with | some xs => .ok (enumD 0 xs) e1 | none => .bad) := q1
        rw [hi] at q2
        obtain ⟨k, a, ws, rfl, h1, h2⟩ := Rep.sqx hv hi
        refine ⟨k, a, ws, rfl, by rw [hK]; exact h1.mono s1.same, ?_⟩
        rw [hK]
        exact Post.here s1 q2 _ (walks_enumX h1 h2)
theorem sZip {elts : List Expr} {kk : Nat} {f : DenVs} (hK : X.K = Γ.K) (hg : Gl X "zip") (hm : X.mg "zip" = none) (h : SVs X Γ W [e, e2] f) (hs : starEach [e, e2] X.env = (false, eval e X.env) :: starEach [e2] X.env := by rfl) (hpl : (backTo pos (starEach [e2] X.env)).any (·.1) = false := by rfl) :
    SI X Γ W (.Tuple elts kk tpos) (.Call (.Name "zip" p) [e, e2] [] pos) (dZip f) := imI (pi_zipX hg hm h hs hpl) fun σ H R ⟨env, B, s, pp⟩ => by
  refine ⟨env, B, s, pp.bind.mono fun ds e1 B1 H1 s1 x1 q1 vs hvs => ?_⟩
  rcases ds with _ | ⟨d, _ | ⟨d2, _ | ⟨_, _⟩⟩⟩
  · exact q1.elim
  · exact q1.elim
  · obtain ⟨v, r, rfl, hv, v2, r2, rfl, hv2, hr⟩ := hvs
    cases hr
    have q2 : Post Γ W e1 σ B1 H1 (fun items _ B' H' => ∀ J, Walks Γ J items B' → R J H') (match d.its, d2.its with
      | some xs, some ys => .ok (zipD xs ys) e1
      | _, _ => .bad) := q1
    cases hi : d.its with
    | none => rw [hi] at q2; exact q2.elim
    | some xs =>
      cases hj : d2.its with
      | none => rw [hi, hj] at q2; exact q2.elim
      | some ys =>
        rw [hi, hj] at q2
        obtain ⟨k, a, ws, rfl, h1, h2⟩ := Rep.sqx hv hi
        obtain ⟨k', a', ws', rfl, h1', h2'⟩ := Rep.sqx hv2 hj
        refine ⟨k, k', a, a', ws, ws', rfl, by rw [hK]; exact h1.mono s1.same, by rw [hK]; exact h1'.mono s1.same, ?_⟩
        rw [hK]
        exact Post.here s1 q2 _ (walks_zipX h1 h2 h1' h2')
  · exact q1.elim
end
end Ev
set_option Elab.async false
set_option linter.all false
set_option maxRecDepth 100000
set_option maxHeartbeats 4000000
namespace Ev
open PySem PySem.Spec PyProof.Rows L2
/-! ### defs as values, called by a local name -/
section
variable {X : Cx} {Γ : Wd} {W : WX} {e : Expr} {es : List Expr} {pos p : Pos} {x : Str} {fs : DenA}
theorem sFn {f : Addr} (hm' : X.mg = Γ.mg) (hm : X.mg x = some (.ref f)) (hg : Gl X x) (hd : (x == ("__debug__" : Str)) = false := by decide) : SV X Γ W (.Name x pos) (dC (.fn x)) :=
  sC (pe_glob (v := .ref f) hg hm rfl hd) fun _ => ⟨f, rfl, by rw [← hm']; exact hm⟩
/-- a def by its name: what it does -/
def HeldE (P : Program) (w : World) (K : PySem.W.Frag) (mg : Str → Option Value) (base : Heap) (m : Nat) (x : Str) (g : Fn) : Prop :=
  ∃ (f : Addr) (fd : FuncData) (ps : List Str) (np k : Nat), k ≤ m ∧ mg x = some (.ref f) ∧ PySem.W.keepIn K (.ref f) = true ∧ Binds K fd ps [] ∧ FnOkG P w K mg base (L2.CX P w) k f fd ps (spOf K mg [] np g) ∧ ∀ args, args.length ≠ np → g args = .bad
def tCallLE (i : Nat) (f : Addr) (sp : Sp) (E : L2.St → XK) (t : TA) : TE := fun σ H Q => σ[i]? = some (some (.ref f)) ∧ tCallSD sp [] E t σ H Q
theorem pe_callLE {i k : Nat} {f : Addr} {fd : FuncData} {ps : List Str} {sp : Sp} {CX : CXT} {E : L2.St → XK} {t : TA} (F : FnOkG X.prog X.w X.K X.mg X.base CX k f fd ps sp) (hr : RoomG k X.A) (hN : X.N[i]? = some x) (hv : Vis X.env.scope x) (hk : PySem.W.keepIn X.K (.ref f) = true) (hb : Binds X.K fd ps []) (hx : ∀ σ, PassesAt CX X σ (E σ)) (ha : PA X (e :: es) t)
    (hdb : (x == ("__debug__" : Str)) = false) (hcd : (x == ("__classdict__" : Str)) = false)
    (he : starEach (e :: es) X.env = (false, eval e X.env) :: starEach es X.env) (hpl : (backTo pos (starEach es X.env)).any (·.1) = false) : PE X (.Call (.Name x p) (e :: es) [] pos) (tCallLE i f sp E t) := by
  constructor
  rintro pins s σ H Q I ⟨slot, goal⟩
  have name := (pe_var (pos := p) hN hv hdb hcd).run pins s σ H (fun v G => v = .ref f ∧ G = H) I ⟨_, slot, rfl, rfl⟩
  refine wpAny_Call_Name_kw (thn name ?_)
  rintro _ s1 ⟨_, _, J, rel, rfl, rfl⟩
  cases rel
  have given := ha.run pos pins s1 σ _ _ J goal
  exact PySem.W.callWith_K (h₀ := X.base) I.ok.mod.kin hk (thn given fun us s2 ⟨vs, G, J2, rs, q⟩ => ⟨J2.kIn, run_fnSG F hr hb .nil (hx σ) J2 rs q⟩) he hpl
def dCallV (tab : List (Str × Fn)) (i : Nat) (fs : DenA) : DenF := fun env => match env[i]? with
  | some (.val (.fn x)) => (match tab.lookup x with
    | some g => dCall g [] fs env
    | none => .bad)
  | _ => .bad
theorem lookup_mem {tab : List (Str × Fn)} {y : Str} {g : Fn} (h : tab.lookup y = some g) : (y, g) ∈ tab := by
  induction tab with
  | nil => cases h
  | cons q r ih =>
    obtain ⟨z, g'⟩ := q
    rw [List.lookup_cons] at h
    split at h
    · rename_i hz
      have hz' : y = z := by simpa using hz
      cases h
      rw [hz']
      exact List.mem_cons_self ..
    · exact List.mem_cons_of_mem _ (ih h)
theorem sCallV {tab : List (Str × Fn)} {i m : Nat} (hK : X.K = Γ.K) (hm' : X.mg = Γ.mg) (A : ∀ y g, (y, g) ∈ tab → HeldE X.prog X.w X.K X.mg X.base m y g) (hr : RoomG m X.A) (hN : X.N[i]? = some x) (hv : Vis X.env.scope x) (tk : Takes X W)
    (ha : SA X Γ W (e :: es) fs) (hdb : (x == ("__debug__" : Str)) = false := by decide) (hcd : (x == ("__classdict__" : Str)) = false := by decide)
    (he : starEach (e :: es) X.env = (false, eval e X.env) :: starEach es X.env := by rfl) (hpl : (backTo pos (starEach es X.env)).any (·.1) = false := by rfl) :
    SF X Γ W (.Call (.Name x p) (e :: es) [] pos) (dCallV tab i fs) := ⟨fun pins s σ H Q I h => by
  obtain ⟨env, B, so, pp⟩ := h
  have pp' : Post Γ W env σ B H (fun r env' B' H' => ∀ v, RetOk Γ (FreeR Γ env σ H) env' σ B' H' r v → Q v H') (match env[i]? with
    | some (.val (.fn x)) => (match tab.lookup x with
      | some g => dCall g [] fs env
      | none => .bad)
    | _ => .bad) := pp
  cases hi : env[i]? with
  | none => rw [hi] at pp'; exact pp'.elim
  | some en =>
    rw [hi] at pp'
    cases en with
    | val d =>
      cases d with
      | fn y =>
        have pp2 : Post Γ W env σ B H (fun r env' B' H' => ∀ v, RetOk Γ (FreeR Γ env σ H) env' σ B' H' r v → Q v H') (match tab.lookup y with
          | some g => dCall g [] fs env
          | none => .bad) := pp'
        cases hl : tab.lookup y with
        | none => rw [hl] at pp2; exact pp2.elim
        | some g =>
          rw [hl] at pp2
          obtain ⟨f, fd, ps, np, k, hkm, hm, hk, hb, F, ga⟩ := A y g (lookup_mem hl)
          obtain ⟨o, ho, v, ev, f', ef, hf'⟩ := so.slot hi
          have e1 : f' = f := by
            rw [← hm', hm] at hf'
            cases hf'
            rfl
          subst e1 ev ef
          refine (pe_callLE (i := i) F (hr.mono hkm) hN hv hk hb (fun σ => passAt tk σ) ha hdb hcd he hpl).run pins s σ H Q I ⟨ho, ?_⟩
          exact tCall_of (dvs := []) (dfl := []) hK hm' (fun _ => rfl) ga ⟨env, B, so, pp2⟩
      | _ => exact pp'.elim
    | _ => exact pp'.elim⟩
end
end Ev
set_option Elab.async false
set_option linter.all false
set_option maxRecDepth 100000
set_option maxHeartbeats 4000000
namespace Ev
open PySem PySem.Spec PyProof.Rows L2
/-! ### repr of data -/
mutual
/-- what repr's text may come to -/
def rcost : D → Nat
  | .int _ => 2000
  | .str s => 10 * s.length + 10
  | .tup xs => rcosts xs + 10
  | .lst xs => rcosts xs + 10
  | .fl xs => rcosts xs + 10
  | _ => 10
def rcosts : List D → Nat
  | [] => 0
  | d :: ds => rcost d + 2 + rcosts ds
end
mutual
def rok : D → Bool
  | .int i => decide (i.natAbs.log2 < 1900)
  | .str s => PyData.strOk s
  | .tup xs => roks xs
  | .lst xs => roks xs
  | .fl xs => roks xs
  | .non => true
  | .bl _ => true
  | _ => false
def roks : List D → Bool
  | [] => true
  | d :: ds => rok d && roks ds
end
theorem log2_lt_pow {n k : Nat} (h : n.log2 < k) (hk : 0 < k) : n < 2 ^ k := by
  by_cases z : n = 0
  · rw [z]; exact Nat.two_pow_pos k
  · exact (Nat.log2_lt z).mp h
theorem int_text {i : Int} (h : i.natAbs.log2 < 1900) : (PyData.int i).shown.length ≤ 2000 := by
  have e := int_text_length_le (k := 1900) (by decide) h
  have e2 : (PyData.int i).shown = Str.ofString (toString i) := by simp only [PyData.shown]
  rw [e2, PySem.ofString_length]
  omega
theorem str_text {s : Str} (h : PyData.strOk s = true) : (PyData.str s).shown.length ≤ 10 * s.length + 10 := by
  have e2 : (PyData.str s).shown = reprText s := by simp only [PyData.shown]
  rw [e2]
  have := StrLaws.reprText_len s fun c hc => by
    have z := Array.all_eq_true'.mp h c (Array.mem_def.mpr hc)
    have : c < 0x110000 := of_decide_eq_true z
    exact Nat.lt_of_lt_of_le this (by decide)
  omega
mutual
theorem shown_cost : ∀ d : D, rok d = true → d.py.shown.length ≤ rcost d
  | .non, _ => by simp only [D.py, PyData.shown, rcost]; decide +kernel
  | .bl b, _ => by cases b <;> (simp only [D.py, PyData.shown, rcost]; decide +kernel)
  | .int i, h => int_text (of_decide_eq_true h)
  | .str s, h => str_text h
  | .tup xs, h => by
    have q := shown_costs xs h
    have e := tupleText_len_le (PyData.shownAll (pys xs))
    simp only [D.py, PyData.shown, rcost]
    rw [PyData.shownAll_length, ] at e
    omega
  | .lst xs, h => by
    have q := shown_costs xs h
    have e := listText_len_le (PyData.shownAll (pys xs))
    simp only [D.py, PyData.shown, rcost]
    rw [PyData.shownAll_length] at e
    omega
  | .fl xs, h => by
    have q := shown_costs xs h
    have e := listText_len_le (PyData.shownAll (pys xs))
    simp only [D.py, PyData.shown, rcost]
    rw [PyData.shownAll_length] at e
    omega
  | .ins _ _ _, h => by cases h
  | .fn _, h => by cases h
theorem shown_costs : ∀ ds : List D, roks ds = true → ((PyData.shownAll (pys ds)).map (·.length)).sum + 2 * (pys ds).length ≤ rcosts ds
  | [], _ => by simp [pys, PyData.shownAll, rcosts]
  | d :: ds, h => by
    obtain ⟨h1, h2⟩ := Bool.and_eq_true_iff.mp (show (rok d && roks ds) = true from h)
    have q1 := shown_cost d h1
    have q2 := shown_costs ds h2
    simp only [pys, PyData.shownAll, rcosts, List.map_cons, List.sum_cons, List.length_cons]
    omega
end
mutual
theorem shown_able : ∀ d : D, rok d = true → d.py.showable = true
  | .non, _ => by simp only [D.py, PyData.showable]
  | .bl b, _ => by simp only [D.py, PyData.showable]
  | .int i, h => by
    have := of_decide_eq_true (show decide (i.natAbs.log2 < 1900) = true from h)
    simp only [D.py, PyData.showable, decide_eq_true_eq]
    omega
  | .str s, h => by simp only [D.py, PyData.showable]
  | .tup xs, h => by simpa only [D.py, PyData.showable] using shown_ables xs h
  | .lst xs, h => by simpa only [D.py, PyData.showable] using shown_ables xs h
  | .fl xs, h => by simpa only [D.py, PyData.showable] using shown_ables xs h
  | .ins _ _ _, h => by cases h
  | .fn _, h => by cases h
theorem shown_ables : ∀ ds : List D, roks ds = true → PyData.showableAll (pys ds) = true
  | [], _ => by simp only [pys, PyData.showableAll]
  | d :: ds, h => by
    obtain ⟨h1, h2⟩ := Bool.and_eq_true_iff.mp (show (rok d && roks ds) = true from h)
    simp only [pys, PyData.showableAll, shown_able d h1, shown_ables ds h2, Bool.and_self]
end
def gRepr : List D → Option Ent
  | [d] => if shp 64 d = true ∧ rok d = true ∧ rcost d ≤ 1000000 then some (.val (.str d.py.shown)) else none
  | _ => none
def rRepr (K : PySem.W.Frag) : List V → Hp → VK → Prop := fun xs H Q => ∃ v d, xs = [v] ∧ Dp K H v d ∧ d.showable = true ∧ d.canLay0 = true ∧ d.depth ≤ 64 ∧ d.shown.length ≤ sizeLine ∧ Q (.str d.shown) H
theorem bt_repr : bootBuiltins "repr" = some (.builtin "repr") := by decide +kernel
section
variable {X : Cx} {Γ : Wd} {W : WX}
theorem call_reprD {k : Nat} (hr : RoomG k X.A) : CallR X (.builtin "repr") (rRepr X.K) := by
  intro pins s σ H xs us Q I r h
  obtain ⟨v, d, rfl, hd, h1, h2, h3, h4, q⟩ := h
  cases r with
  | cons rv rn =>
    rename_i u _
    cases rn
    obtain ⟨as, rd⟩ := Dp.reads I d v u hd rv
    have hu := hr.room.un
    have hsm : d.hasDict = true → sysModules ∉ as := PyData.noDict_hsm (PyData.hasDict_of_canLay d h2)
    have fin : ∀ (h' : Heap) (t tk : Tok), (∀ b o, s.heap.get? b = some o → h'.get? b = some o) → EP X pins σ Q (.str d.shown t) { s with heap := h', toks := tk } := fun h' t tk kp => ⟨.str d.shown, H, I.kept (t' := tk) kp, ⟨t, rfl⟩, q⟩
    cases rd with
    | none =>
      have e : (PyData.none).shown = ("None" : Str) := by simp only [PyData.shown]
      rw [e] at fin
      exact PySem.P.repr_of_none (fin s.heap _ _ fun _ _ z => z)
    | bool b =>
      have e : (PyData.bool b).shown = (if b then "True" else "False" : Str) := by simp only [PyData.shown]
      rw [e] at fin
      exact PySem.P.repr_of_bool (fin s.heap _ _ fun _ _ z => z)
    | int i t =>
      have e : (PyData.int i).shown = (toString i : String) := by simp only [PyData.shown]
      rw [e] at fin
      exact PySem.P.repr_of_int (by simpa only [PyData.showable, decide_eq_true_eq] using h1) (fin s.heap _ _ fun _ _ z => z)
    | str x t =>
      have e : (PyData.str x).shown = reprText x := by simp only [PyData.shown]
      rw [e] at fin h4
      exact PySem.P.repr_of_str (fin s.heap _ _ fun _ _ z => z) h4
    | list a1 a2 a3 a4 => exact repr_of_reads' (.list a1 a2 a3 a4) h1 hsm hr.gd (by omega) (fun _ _ z => z) (fun h' t tk kp => fin h' t tk kp) h4
    | tuple a1 a2 a3 a4 => exact repr_of_reads' (.tuple a1 a2 a3 a4) h1 hsm hr.gd (by omega) (fun _ _ z => z) (fun h' t tk kp => fin h' t tk kp) h4
    | dict a1 a2 a3 a4 a5 => exact repr_of_reads' (.dict a1 a2 a3 a4 a5) h1 hsm hr.gd (by omega) (fun _ _ z => z) (fun h' t tk kp => fin h' t tk kp) h4
theorem sv_repr : ServesN Γ W (rRepr Γ.K) gRepr := by
  intro ds ent env σ B H P0 vs Q hg s hx h0 p
  rcases ds with _ | ⟨d, _ | ⟨_, _⟩⟩
  · cases hg
  · obtain ⟨v, rfl, k⟩ := hx.one
    have hg' : (if shp 64 d = true ∧ rok d = true ∧ rcost d ≤ 1000000 then some (Ent.val (.str d.py.shown)) else none) = some ent := hg
    split at hg'
    · rename_i hc
      cases hg'
      obtain ⟨c1, c2⟩ := shp_ok 64 d hc.1
      exact ⟨v, d.py, rfl, k.dp s.same hc.1, shown_able d hc.2.1, c1, c2, LN_le (Nat.le_trans (shown_cost d hc.2.1) hc.2.2), Post.val s p rfl⟩
    · cases hg'
  · cases hg
/-! ### == and != of texts -/
def gEqS : D → D → Option Ent
  | .str a, .str b => vb (decide (a = b))
  | _, _ => none
def gNeS : D → D → Option Ent
  | .str a, .str b => vb (!decide (a = b))
  | _, _ => none
theorem sv_eqS : Serves Γ W rEq gEqS := by
  intro x y ent env σ B H P0 v w Q hg s hx hy h0 p
  cases x with
  | str a => cases y with
    | str b =>
      cases hg
      rw [hx.str, hy.str]
      have z : decide (V.str a = V.str b) = decide (a = b) := by
        by_cases q : a = b
        · simp [q]
        · simp [q]
      refine ⟨rfl, ?_⟩
      rw [z]
      exact Post.val s p rfl
    | _ => cases hg
  | _ => cases hg
theorem sv_neS : Serves Γ W rNe gNeS := by
  intro x y ent env σ B H P0 v w Q hg s hx hy h0 p
  cases x with
  | str a => cases y with
    | str b =>
      cases hg
      rw [hx.str, hy.str]
      have z : decide (V.str a = V.str b) = decide (a = b) := by
        by_cases q : a = b
        · simp [q]
        · simp [q]
      refine ⟨rfl, ?_⟩
      rw [z]
      exact Post.val s p rfl
    | _ => cases hg
  | _ => cases hg
end
end Ev

set_option Elab.async false
set_option linter.all false
set_option maxRecDepth 100000
set_option maxHeartbeats 4000000
namespace Ev
open PySem PySem.Spec PyProof.Rows L2
/-! ### a, b, c = x, y, z -/
section
variable {X : Cx} {Γ : Wd} {W : WX} {a b c e : Expr} {pos : Pos}
def dPar3 (i j l : Nat) (fs : DenVs) : DenS := fun env => (fs env).bind fun ds e => match ds with
  | [a, b, c] => .ok .nx (((e.set i (.val a)).set j (.val b)).set l (.val c))
  | _ => .bad
theorem sPar3 {i j l : Nat} {x y z : Str} {fs : DenVs} {px py pz pt : Pos} {kt k2 : Nat} {pt2 : Pos} (hi0 : i ∉ Γ.R) (hj0 : j ∉ Γ.R) (hl0 : l ∉ Γ.R) (hc : X.calm = true) (hN : X.N.Nodup) (hi : X.N[i]? = some x) (hj : X.N[j]? = some y) (hl : X.N[l]? = some z) (hij : i ≠ j) (hil : i ≠ l) (hjl : j ≠ l)
    (hx : X.env.scope.names.lookup x = some .local) (hy : X.env.scope.names.lookup y = some .local) (hz : X.env.scope.names.lookup z = some .local) (ha : SVs X Γ W [a, b, c] fs)
    (hw : swappedStores [.Tuple [.Name x px, .Name y py, .Name z pz] kt pt] (.Tuple [a, b, c] k2 pt2) X.env = pure (some [x, y, z]) := by rfl)
    (hs : swapsWithSole [.Tuple [.Name x px, .Name y py, .Name z pz] kt pt] (.Tuple [a, b, c] k2 pt2) pos.line X.env = pure false := by rfl) :
    SS X Γ W (.Assign [.Tuple [.Name x px, .Name y py, .Name z pz] kt pt] (.Tuple [a, b, c] k2 pt2) pos) (dPar3 i j l fs) :=
  imS (ps_par3 hc hN hi hj hl hij hil hjl hx hy hz ha hw hs) fun Q σ H ⟨env, B, s, p⟩ => by
    refine ⟨env, B, s, p.bind.mono fun ds e1 B1 H1 s1 x1 q1 vs hv => ?_⟩
    obtain ⟨ext, q⟩ := q1
    match ds, q, hv with
    | [d1, d2, d3], q, hv =>
      obtain ⟨v1, r1, f1, g1, v2, r2, f2, g2, v3, r3, f3, g3, k3⟩ := hv
      have k3' : r3 = [] := k3
      exact ⟨v1, v2, v3, by rw [f1, f2, f3, k3'], q _ _ _ (((s1.setV g1).setV g2).setV g3) (((ext.setV hi0).setV hj0).setV hl0)⟩
end
/-! ### e[::-1], e[:0:-1] -/
theorem rng_rev {n m : Nat} (h : m ≤ n) : (List.range m).map (fun k => n - 1 - k) = ((List.range n).drop (n - m)).reverse := by
  apply List.ext_getElem
  · simp; omega
  · intro i h1 h2
    simp at h1 h2 ⊢
    omega
theorem sliceRange_dn {n m : Nat} (h : m ≤ n) : sliceRange ((n : Int) - 1) ((n : Int) - 1 - m) (-1) = (List.range m).map fun k => n - 1 - k := by
  rcases m with _ | m
  · simp [sliceRange]
  · have count : (((n : Int) - 1 - ((n : Int) - 1 - ((m + 1 : Nat) : Int)) - -1 - 1) / (- -1)).toNat = m + 1 := by
      rw [Int.neg_neg, Int.ediv_one]
      omega
    rw [sliceRange, if_neg (by decide), if_pos (by omega), count]
    exact List.map_congr_left fun k hk => by
      have := List.mem_range.mp hk
      omega
theorem fm_congr {α β : Type} {f g : α → Option β} : ∀ {l : List α}, (∀ a ∈ l, f a = g a) → l.filterMap f = l.filterMap g
  | [], _ => rfl
  | a :: l, h => by
    rw [List.filterMap_cons, List.filterMap_cons, h a (List.mem_cons_self ..), fm_congr fun b hb => h b (List.mem_cons_of_mem _ hb)]
theorem pick_all {α : Type} (xs : List α) (d : Nat) : ((List.range xs.length).drop d).filterMap (xs[·]?) = xs.drop d := by
  induction d generalizing xs with
  | zero =>
    rw [List.drop_zero, List.drop_zero]
    induction xs with
    | nil => rfl
    | cons x xs ih =>
      rw [List.length_cons, List.range_succ_eq_map, List.filterMap_cons, List.filterMap_map]
      simp only [List.getElem?_cons_zero]
      congr 1
  | succ d ih =>
    cases xs with
    | nil => rfl
    | cons x xs =>
      rw [List.length_cons, List.range_succ_eq_map, List.drop_succ_cons, List.drop_succ_cons, ← List.map_drop, List.filterMap_map]
      exact ih xs
theorem pick_dn (its : List Value) (hi : Option Int) (h : hi = none ∨ hi = some 0) : slicePick its.toArray none hi (some (-1)) = ((its.drop (if hi = none then 0 else 1)).reverse).toArray := by
  have key : ∀ (m : Nat), m ≤ its.length → ((sliceRange ((its.length : Int) - 1) ((its.length : Int) - 1 - m) (-1)).filterMap (its.toArray[·]?)) = (its.drop (its.length - m)).reverse := fun m hm => by
    rw [sliceRange_dn hm, rng_rev hm, List.filterMap_reverse]
    congr 1
    have e : (fun x : Nat => its.toArray[x]?) = fun x : Nat => its[x]? := by
      funext x
      rw [List.getElem?_toArray]
    rw [e]
    exact pick_all its _
  unfold slicePick
  rcases h with rfl | rfl
  · have e1 : sliceBounds none none (some (-1)) its.toArray.size = ((its.length : Int) - 1, (its.length : Int) - 1 - its.length, -1) := by
      simp only [sliceBounds, List.size_toArray]
      simp
      omega
    rw [e1]
    show ((sliceRange ((its.length : Int) - 1) ((its.length : Int) - 1 - its.length) (-1)).filterMap (its.toArray[·]?)).toArray = _
    rw [key its.length (Nat.le_refl _)]
    simp
  · cases its with
    | nil =>
      show ((sliceRange _ _ _).filterMap (fun x => ([] : List Value).toArray[x]?)).toArray = _
      rw [if_neg (by simp)]
      congr 1
    | cons v r =>
      have e1 : sliceBounds none (some 0) (some (-1)) (v :: r).toArray.size = (((v :: r).length : Int) - 1, ((v :: r).length : Int) - 1 - r.length, -1) := by
        simp only [sliceBounds, List.size_toArray, List.length_cons]
        simp
        omega
      rw [e1]
      show ((sliceRange (((v :: r).length : Int) - 1) (((v :: r).length : Int) - 1 - r.length) (-1)).filterMap ((v :: r).toArray[·]?)).toArray = _
      rw [key r.length (by simp)]
      rw [if_neg (by simp), List.length_cons, show r.length + 1 - r.length = 1 from by omega]
section
variable {prog : Program} {w : World} {A : Around} {E : Value → Shared → Prop} {s : Shared}
def dnCount (n : Nat) (hi : Option Int) : Nat := if hi = none then n else n - 1
theorem adjust_dn (hi : Option Int) (n : Nat) (h : hi = none ∨ hi = some 0) : Builtin.Slice.sliceAdjust none hi (-1) (n : Int) = ((n : Int) - 1, (n : Int) - 1 - (dnCount n hi : Nat)) := by
  unfold Builtin.Slice.sliceAdjust dnCount
  rcases h with rfl | rfl
  · simp
    omega
  · simp
    omega
theorem places_dn (n : Nat) (hi : Option Int) (h : hi = none ∨ hi = some 0) : Builtin.Slice.slicePlaces ((n : Int) - 1) ((n : Int) - 1 - (dnCount n hi : Nat)) (-1) = dnCount n hi := by
  unfold Builtin.Slice.slicePlaces
  have h1 : ¬ ((-1 : Int) > 0) := by omega
  rw [if_neg h1, show (- -1 : Int) = 1 by decide, Int.ediv_one]
  split <;> omega
/-- a slice's three parts, read -/
theorem applied_dn {sl : Addr} {n : Nat} {vl vu vs : Value} {hi : Option Int} {Q : Int × Int × Nat → Shared → Prop} (hh : hi = none ∨ hi = some 0) (hs : s.heap.IsSliceOf sl vl vu vs) (pl : IsPart vl none) (pu : IsPart vu hi) (ps : IsPart vs (some (-1))) (q : Q ((n : Int) - 1, -1, dnCount n hi) s) :
    wpAny (model prog w) A (Builtin.Slice.sliceApplied (.ref sl) (pure (n : Int))) Q E s := by
  have ⟨_, there, _, dat⟩ := id hs
  have tail : wpAny (model prog w) A (match Builtin.Slice.sliceAdjust none hi (-1) (n : Int) with | (lo, hi) => pure (lo, (-1 : Int), Builtin.Slice.slicePlaces lo hi (-1))) Q E s := by
    rw [adjust_dn hi _ hh]
    show wpAny _ _ (pure ((n : Int) - 1, (-1 : Int), Builtin.Slice.slicePlaces ((n : Int) - 1) ((n : Int) - 1 - (dnCount n hi : Nat)) (-1))) _ _ s
    rw [places_dn _ _ hh]
    exact wpAny_pure q
  unfold Builtin.Slice.sliceApplied Builtin.Slice.sliceFields
  refine wpAny_bind (wpAny_bind (wpAny_field there dat (x := vl) rfl (wpAny_bind (wpAny_field there dat (x := vu) rfl (wpAny_bind (wpAny_field there dat (x := vs) rfl (wpAny_pure (wpAny_bind (HT.slicePart_ ps ?_)))))))))
  show wpAny _ _ (if ((-1 : Int) == 0) = true then _ else _) _ _ s
  rw [if_neg (by decide)]
  exact wpAny_bind (HT.slicePart_ pl (wpAny_bind (HT.slicePart_ pu (wpAny_bind (wpAny_pure tail)))))
/-- what stands at the places of such a slice -/
theorem picked_dn (its : List Value) (hi : Option Int) (hh : hi = none ∨ hi = some 0) : ((List.range (dnCount its.length hi)).filterMap fun (m : Nat) => its.toArray[(((its.length : Int) - 1) + (m : Int) * (-1)).toNat]?) = (its.drop (if hi = none then 0 else 1)).reverse := by
  have le : dnCount its.length hi ≤ its.length := by
    unfold dnCount
    split <;> omega
  have back : ((List.range (dnCount its.length hi)).filterMap fun (m : Nat) => its.toArray[(((its.length : Int) - 1) + (m : Int) * (-1)).toNat]?) = (its.drop (its.length - dnCount its.length hi)).reverse := by
    rw [← pick_all its, ← List.filterMap_reverse, ← rng_rev le, List.filterMap_map]
    refine fm_congr fun m hm => ?_
    have := List.mem_range.mp hm
    rw [show (((its.length : Int) - 1) + (m : Int) * (-1)).toNat = its.length - 1 - m by omega, List.getElem?_toArray]
    rfl
  rw [back]
  rcases hh with rfl | rfl
  · simp [dnCount]
  · cases its <;> simp [dnCount]
theorem getItem_tup_dn {t sl : Addr} {its : List Value} {vl vu vs : Value} {hi : Option Int} {Q : Value → Shared → Prop} (hh : hi = none ∨ hi = some 0) (ht : IsTup s.heap t its.toArray) (hs : s.heap.IsSliceOf sl vl vu vs) (pl : IsPart vl none) (pu : IsPart vu hi) (ps : IsPart vs (some (-1)))
    (q : Q (.ref s.heap.objs.size) { s with heap := s.heap.push { cls := .type "tuple", data := .seq ((its.drop (if hi = none then 0 else 1)).reverse).toArray } }) (hsz : its.length ≤ sizeLine) : wpAny (model prog w) A (getItem (.ref t) (.ref sl)) Q E s := by
  have fits : sizeOk (.seq ((its.drop (if hi = none then 0 else 1)).reverse).toArray) := by
    show List.length _ ≤ sizeLine
    rw [List.length_reverse, List.length_drop]
    omega
  have isSlice : s.TypeIs (.ref sl) "slice" := have ⟨o, there, cls, _⟩ := id hs; ⟨o, there, cls⟩
  have made : wpAny (model prog w) A.in1 (Builtin.Tuple.tupleExact ((its.drop (if hi = none then 0 else 1)).reverse).toArray) (fun v s' => Q v s') E s := by
    exact wpAny_newObj_type q fits
  unfold getItem
  refine wpAny_holding (wpAny_bind (wpAny_sequenceKey ht.typeIs (by decide) (wpAny_bind (wpAny_callSpecial?_slot (name := Str.ofString "__getitem__") ht.typeIs PyProof.Rows.slot_tuple_getitem (wpAny_call_entry PyProof.Rows.slot_tuple_getitem ht.typeIs entry_tuple_getitem ?_ (args_tuple_getitem _ _))))))
  show wpAny _ _ (Builtin.Tuple.tupleItemsOf (.ref t) >>= _) _ _ s
  refine wpAny_bind (PyProof.Rows.tupleItemsOf_ ht (wpAny_bind (wpAny_typeOf isSlice ?_)))
  rw [if_pos (by decide)]
  have len : its.toArray.size = its.length := List.size_toArray
  rw [len]
  refine wpAny_bind (applied_dn hh hs pl pu ps ?_)
  show wpAny _ _ (if (((its.length : Int) - 1) == 0 && ((-1 : Int) == 1) && (dnCount its.length hi == its.length)) = true then _ else _) _ _ s
  rw [if_neg (by simp), picked_dn its hi hh]
  exact wpAny_bind (m := Builtin.Tuple.tupleExact _) (wpAny_mono made (fun v s' q' => wpAny_pure ⟨v, rfl, wpAny_pure q'⟩) fun _ _ z => z)
end
/-- backwards, from the end to the start or to the second item -/
def rRev (K : PySem.W.Frag) : V → Option Int → Hp → VK → Prop := fun x hi H Q => (hi = none ∨ hi = some 0) ∧ ∃ a xs, x = .ref a ∧
  ((SqL K H a xs ∧ ∀ p, H p = none → Q (.ref p) (upd H p (.lst (xs.drop (if hi = none then 0 else 1)).reverse))) ∨ (SqT K H a xs ∧ ∀ p, H p = none → Q (.ref p) (upd H p (.tup (xs.drop (if hi = none then 0 else 1)).reverse))))
theorem vals_drop {xs : List V} {us : List Value} (r : Vals xs us) : ∀ n, Vals (xs.drop n) (us.drop n)
  | 0 => r
  | n + 1 => by
    cases r with
    | nil => exact .nil
    | cons h t => exact vals_drop t n
theorem vals_rev : ∀ {xs : List V} {us : List Value}, Vals xs us → Vals xs.reverse us.reverse
  | _, _, .nil => .nil
  | _, _, .cons h t => by
    rw [List.reverse_cons, List.reverse_cons]
    exact (vals_rev t).append (.cons h .nil)
theorem pe_rev {X : Cx} {e : Expr} {te : TE} {th : TO} {hi : Option Expr} {k : Nat} {p1 p2 p3 pos : Pos} (he : PE X e te) (hu : PO X hi th) :
    PE X (.Subscript e (.Slice none hi (some (.UnaryOp .USub (.Constant (.int 1) k p1) p2)) p3) pos) (fun σ H Q => te σ H fun x H1 => th σ H1 fun u H2 => rRev X.K x u H2 Q) := by
  refine ⟨fun pins s σ H Q I h => Subscript_ (thn (he.run pins s σ H _ I h) fun v s1 ⟨x, H1, I1, r1, q1⟩ => ?_)⟩
  have stp : PO X (some (.UnaryOp .USub (.Constant (.int 1) k p1) p2)) (tPart (tUn (rU fun i => .int (-i)) (tC (.int 1)))) := po_some (pe_un un_neg pe_int)
  refine wpAny_Slice (thn (po_none.run pins s1 σ H1 (fun o H2 => o = none ∧ H2 = H1) I1 ⟨rfl, rfl⟩) fun vl s2 ⟨l, H2, I2, pl, el, e2⟩ => ?_)
  cases el
  cases e2
  refine thn (hu.run pins s2 σ H1 _ I2 q1) fun vu s3 ⟨u, H3, I3, pu, q3⟩ => ?_
  refine thn (stp.run pins s3 σ H3 (fun o H4 => o = some (-1) ∧ H4 = H3) I3 ⟨1, rfl, -1, rfl, rfl, rfl⟩) fun vs s4 ⟨o, H4, I4, ps, eo, e4⟩ => ?_
  cases eo
  cases e4
  obtain ⟨hh, a, xs, rfl, q⟩ := q3
  cases r1
  have I5 : Inv X pins σ H3 { s4 with heap := s4.heap.push { cls := .type "slice", data := .fields #[vl, vu, vs] } } := I4.kept (t' := s4.toks) fun b ob z => Heap.get?_push_of_some _ z
  have sl := Heap.IsSliceOf.new s4.heap vl vu vs
  show wpAny (model X.prog X.w) X.A (subscriptTail e (.Slice none hi (some (.UnaryOp .USub (.Constant (.int 1) k p1) p2)) p3) (.ref a) (.ref s4.heap.objs.size)) (EP X pins σ Q) X.xe { s4 with heap := s4.heap.push { cls := .type "slice", data := .fields #[vl, vu, vs] } }
  rcases q with ⟨hq, q⟩ | ⟨hq, q⟩
  · obtain ⟨its, r, ht, hz⟩ := I5.list hq
    have ln := r.length
    refine tail_any (ops := [.ref a, .ref s4.heap.objs.size]) ht.isList.typeIs (PySem.slot_list_getitem.lookup) ?_ (by with_unfolding_all rfl)
    refine wpAny_getItem_list_slice ht.isList sl pl pu ps (by decide) ?_ (by rw [List.size_toArray]; omega)
    rw [pick_dn its u hh]
    refine ⟨.ref _, _, I5.laid (t' := s4.toks) (o := .lst (xs.drop (if u = none then 0 else 1)).reverse) (fun b ob z => Heap.get?_push_of_some _ z) (Nat.le_refl _) ?_, rfl, q _ (I5.hok.fresh (Nat.le_refl _))⟩
    exact ⟨by rw [List.length_reverse, List.length_drop]; omega, _, 0, vals_rev (vals_drop r _), Heap.get?_push_size _ rfl⟩
  · obtain ⟨its, r, ht, hz⟩ := I5.tuple hq
    have ln := r.length
    refine tail_any (ops := [.ref a, .ref s4.heap.objs.size]) ht.typeIs (PyProof.Rows.slot_tuple_getitem.lookup) ?_ (by with_unfolding_all rfl)
    refine getItem_tup_dn hh ht sl pl pu ps ?_ (by omega)
    refine ⟨.ref _, _, I5.laid (t' := s4.toks) (o := .tup (xs.drop (if u = none then 0 else 1)).reverse) (fun b ob z => Heap.get?_push_of_some _ z) (Nat.le_refl _) ?_, rfl, q _ (I5.hok.fresh (Nat.le_refl _))⟩
    exact ⟨by rw [List.length_reverse, List.length_drop]; omega, _, vals_rev (vals_drop r _), ⟨_, Heap.get?_push_size _ rfl, rfl, _, rfl⟩⟩
def gRev (x : D) (hi : Option Int) : Option Ent := if hi = none ∨ hi = some 0 then (match x with
  | .tup xs => some (.val (.tup (xs.drop (if hi = none then 0 else 1)).reverse))
  | .lst xs => some (.mu (xs.drop (if hi = none then 0 else 1)).reverse)
  | .fl xs => some (.mu (xs.drop (if hi = none then 0 else 1)).reverse)
  | _ => none) else none
def dRev (f : DenL) (h : DenP) : DenF := fun env => (f env).bind fun a e1 => (h e1).bind fun hi e2 => match a.get e2 with
  | some x => (match gRev x hi with
    | some r => .ok r e2
    | none => .bad)
  | none => .bad
section
variable {X : Cx} {Γ : Wd} {W : WX} {e : Expr} {pos : Pos} {f1 : DenL}
theorem sRev {hi : Option Expr} {h : DenP} {k : Nat} {p1 p2 p3 : Pos} (hK : X.K = Γ.K) (ha : SL X Γ W e f1) (hh : SP' X Γ W hi h) : SF X Γ W (.Subscript e (.Slice none hi (some (.UnaryOp .USub (.Constant (.int 1) k p1) p2)) p3) pos) (dRev f1 h) :=
  imE (pe_rev ha hh) fun σ H Q ⟨env, B, s, p⟩ => by
    refine ⟨env, B, s, p.bind.mono fun a' e1 B1 H1 s1 x1 q1 v hv => ⟨e1, B1, s1, q1.bind.mono fun u e2 B2 H2 s2 x2 q2 => ?_⟩⟩
    cases ha : a'.get e2 with
    | none => rw [ha] at q2; exact q2.elim
    | some x =>
      rw [ha] at q2
      have hx := Ar.now s2 (hv.mono x2.b) ha
      have h0 : ∀ p, H2 p = none → FreeR Γ env σ H p := fun p hp => .inl (x1.h0 p (x2.h0 p hp))
      have q3 : Post Γ W e2 σ B2 H2 (fun r env' B' H' => ∀ v, RetOk Γ (FreeR Γ env σ H) env' σ B' H' r v → Q v H') (match gRev x u with
        | some r => .ok r e2
        | none => .bad) := q2
      by_cases hu : u = none ∨ u = some 0
      · cases x with
        | tup xs =>
          have eg : gRev (.tup xs) u = some (.val (.tup (xs.drop (if u = none then 0 else 1)).reverse)) := if_pos hu
          rw [eg] at q3
          obtain ⟨q, vs, k1, k2, k3⟩ := hx.tup s2.same
          exact ⟨hu, q, vs, k1, .inr ⟨by rw [hK]; exact k2, fun p hp => Post.newT s2 q3 ((k3.drop _).reverse) hp⟩⟩
        | lst xs =>
          have eg : gRev (.lst xs) u = some (.mu (xs.drop (if u = none then 0 else 1)).reverse) := if_pos hu
          rw [eg] at q3
          obtain ⟨q, vs, k1, k2, k3⟩ := hx.lst s2.same
          exact ⟨hu, q, vs, k1, .inl ⟨.inl (.inl k2), fun p hp => Post.newL h0 s2 q3 ((k3.drop _).reverse) hp⟩⟩
        | fl xs =>
          have eg : gRev (.fl xs) u = some (.mu (xs.drop (if u = none then 0 else 1)).reverse) := if_pos hu
          rw [eg] at q3
          obtain ⟨q, vs, k1, k2, k3⟩ := hx.fl s2.same
          exact ⟨hu, q, vs, k1, .inl ⟨by rw [hK]; exact k2, fun p hp => Post.newL h0 s2 q3 ((k3.drop _).reverse) hp⟩⟩
        | _ =>
          unfold gRev at q3
          rw [if_pos hu] at q3
          exact q3.elim
      · unfold gRev at q3
        rw [if_neg hu] at q3
        exact q3.elim
end
end Ev
set_option Elab.async false
set_option linter.all false
set_option maxRecDepth 100000
set_option maxHeartbeats 4000000
namespace Ev
open PySem PySem.Spec PyProof.Rows L2
/-! ### isinstance where instances of own classes may come -/
def NotTys (K : PySem.W.Frag) (mg : Str → Option Value) (ks : List Str) : Prop := ∀ k ∈ ks, ∀ C, mg k = some (.ref C) → ClF K C ∧ ∀ t ∈ tyNames, PySem.W.kitOne K (.ref C) (.type t) = some false
theorem NotTys.nil {K : PySem.W.Frag} {mg : Str → Option Value} : NotTys K mg [] := fun _ h => by cases h
theorem NotTys.cons {K : PySem.W.Frag} {mg : Str → Option Value} {k : Str} {ks : List Str} {C : Addr} (g : mg k = some (.ref C)) (c : ClF K C) (h : ∀ t ∈ tyNames, PySem.W.kitOne K (.ref C) (.type t) = some false) (r : NotTys K mg ks) : NotTys K mg (k :: ks) := fun k' hk C' hC' => by
  rcases List.mem_cons.mp hk with rfl | hk
  · rw [g] at hC'
    cases hC'
    exact ⟨c, h⟩
  · exact r k' hk C' hC'
def OwnTab (K : PySem.W.Frag) (mg : Str → Option Value) (C : Addr) (l : List (Str × Bool)) : Prop := (∀ t ∈ tyNames, PySem.W.kitOne K (.type t) (.ref C) = some false) ∧ ∀ p ∈ l, ∀ D, mg p.1 = some (.ref D) → ClF K D ∧ PySem.W.kitOne K (.ref D) (.ref C) = some p.2
theorem OwnTab.nil {K : PySem.W.Frag} {mg : Str → Option Value} {C : Addr} (h : ∀ t ∈ tyNames, PySem.W.kitOne K (.type t) (.ref C) = some false) : OwnTab K mg C [] := ⟨h, fun _ h => by cases h⟩
theorem OwnTab.cons {K : PySem.W.Frag} {mg : Str → Option Value} {C D : Addr} {k : Str} {b : Bool} {l : List (Str × Bool)} (g : mg k = some (.ref D)) (c : ClF K D) (h : PySem.W.kitOne K (.ref D) (.ref C) = some b) (r : OwnTab K mg C l) : OwnTab K mg C ((k, b) :: l) := ⟨r.1, fun p hp D' hD' => by
  rcases List.mem_cons.mp hp with rfl | hp
  · rw [g] at hD'
    cases hD'
    exact ⟨c, h⟩
  · exact r.2 p hp D' hD'⟩
def isTK (ks : List Str) (d : D) (cs : List String) : Option Bool := match d with
  | .ins k _ _ => if ks.contains k = true then some false else none
  | .fn _ => none
  | d => some (isTs d cs)
def isOwn (l : List (Str × Bool)) : D → Option Bool
  | .ins k _ _ => l.lookup k
  | .fn _ => none
  | _ => some false
def dIsK (g : D → Option Bool) (f : DenL) : DenV := fun env => (f env).bind fun a e => match a.get e with
  | some d => (match g d with
    | some b => .ok (.bl b) e
    | none => .bad)
  | none => .bad
section
variable {X : Cx} {Γ : Wd} {W : WX} {a : Expr} {es : List Expr} {pos : Pos} {f1 : DenL} {g : D → Option Bool}
theorem tIsK {σ : L2.St} {H : Hp} {Q : VK} (h : tV Γ W (dIsK g f1) σ H Q) : tL Γ W f1 σ H fun v H1 => ∃ d b e1 B1, StOk Γ e1 σ B1 H1 ∧ RepT Γ B1 H1 d v ∧ g d = some b ∧ ∀ B2 H2, StOk Γ e1 σ B2 H2 → Ext Γ e1 σ B1 H1 e1 σ B2 H2 → Q (.bl b) H2 := by
  obtain ⟨env, B, s, p⟩ := h
  refine ⟨env, B, s, p.bind.mono fun a e1 B1 H1 s1 x1 q1 v hv => ?_⟩
  cases ha : a.get e1 with
  | none => rw [ha] at q1; exact q1.elim
  | some d =>
    rw [ha] at q1
    have q2 : Post Γ W e1 σ B1 H1 (fun d _ B' H' => ∀ v, Rep Γ B' d v → Q v H') (match g d with | some b => .ok (.bl b) e1 | none => .bad) := q1
    cases hn : g d with
    | some b =>
      rw [hn] at q2
      exact ⟨d, b, e1, B1, s1, Ar.now s1 hv ha, hn, fun B2 H2 s2 x2 => q2 B2 H2 s2 x2 _ rfl⟩
    | none =>
      rw [hn] at q2
      exact q2.elim
theorem RepT.tyI {B H : Hp} {c : Str} {ns : List Str} {xs : List D} {v : V} (s : Same B H) (h : RepT Γ B H (.ins c ns xs) v) (hc : ∀ C, Γ.mg c = some (.ref C) → ClF Γ.K C) : ∃ C, Γ.mg c = some (.ref C) ∧ TyX Γ.K H v (.ref C) := by
  obtain ⟨a, dx, C, vs, rfl, e2, e3, _, _⟩ := RepT.ins s h
  have k := hc C e2
  exact ⟨C, e2, .base (.ins e3 k.cl k.cls.1 k.cls.2.1 k.cls.2.2 k.hm)⟩
theorem tyN_mem {d : D} (h : tyN d ≠ "") : tyN d ∈ tyNames := by
  cases d with
  | ins _ _ _ => exact absurd rfl h
  | fn _ => exact absurd rfl h
  | _ => simp [tyN, tyNames]
theorem okT_mem {c : String} (h : okT c = true) : c ∈ tyNames := by
  unfold okT at h
  simp only [Bool.or_eq_true, beq_iff_eq] at h
  rcases h with (((h | h) | h) | h) | h <;> subst h <;> decide
theorem isTs_one {d : D} {c : String} : isTs d [c] = isT d c := by
  unfold isTs
  rw [List.any_cons, List.any_nil, Bool.or_false]
theorem kitAny_ff {K : PySem.W.Frag} {t : Value} : ∀ {cs : List String}, (∀ c ∈ cs, PySem.W.kitOne K t (.type c) = some false) → PySem.W.kitAny K t (cs.map Value.type) = some false
  | [], _ => kitAny_nil
  | c :: cs, h => kitAny_cons (h c (List.mem_cons_self ..)) (fun _ => kitAny_ff fun z hz => h z (List.mem_cons_of_mem _ hz)) fun z => by cases z
/-- the answer of one built-in class -/
theorem ty_ans {B H : Hp} {ks : List Str} {c : String} {d : D} {v : V} {b : Bool} (s : Same B H) (r : RepT Γ B H d v) (hk : NotTys Γ.K Γ.mg ks) (ok : okT c = true) (e : isTK ks d [c] = some b) : ∃ t, TyX Γ.K H v t ∧ PySem.W.kitOne Γ.K t (.type c) = some b := by
  by_cases nd : tyN d = ""
  · cases d with
    | ins k ns xs =>
      have e' : (if ks.contains k = true then some false else none) = some b := e
      split at e'
      · rename_i hc
        cases e'
        have hm := List.contains_iff_mem.mp hc
        obtain ⟨C, hC, ty⟩ := RepT.tyI s r fun C hC => (hk k hm C hC).1
        exact ⟨_, ty, (hk k hm C hC).2 c (okT_mem ok)⟩
      · cases e'
    | fn _ => cases e
    | _ => simp [tyN] at nd
  · refine ⟨_, r.ty s nd, ?_⟩
    rw [kit_isT nd ok]
    have e' : isTK ks d [c] = some (isTs d [c]) := by
      cases d with
      | ins _ _ _ => exact absurd rfl nd
      | fn _ => exact absurd rfl nd
      | _ => rfl
    rw [e', isTs_one] at e
    exact e
theorem tys_ans {B H : Hp} {ks : List Str} {cs : List String} {d : D} {v : V} {b : Bool} (s : Same B H) (r : RepT Γ B H d v) (hk : NotTys Γ.K Γ.mg ks) (ok : cs.all okT = true) (e : isTK ks d cs = some b) : ∃ t, TyX Γ.K H v t ∧ PySem.W.kitAny Γ.K t (cs.map Value.type) = some b := by
  by_cases nd : tyN d = ""
  · cases d with
    | ins k ns xs =>
      have e' : (if ks.contains k = true then some false else none) = some b := e
      split at e'
      · rename_i hc
        cases e'
        have hm := List.contains_iff_mem.mp hc
        obtain ⟨C, hC, ty⟩ := RepT.tyI s r fun C hC => (hk k hm C hC).1
        exact ⟨_, ty, kitAny_ff fun c hc2 => (hk k hm C hC).2 c (okT_mem (List.all_eq_true.mp ok c hc2))⟩
      · cases e'
    | fn _ => cases e
    | _ => simp [tyN] at nd
  · refine ⟨_, r.ty s nd, ?_⟩
    rw [kit_isTs nd ok]
    have e' : isTK ks d cs = some (isTs d cs) := by
      cases d with
      | ins _ _ _ => exact absurd rfl nd
      | fn _ => exact absurd rfl nd
      | _ => rfl
    rw [e'] at e
    exact e
theorem own_ans {B H : Hp} {C : Addr} {l : List (Str × Bool)} {d : D} {v : V} {b : Bool} (s : Same B H) (r : RepT Γ B H d v) (ho : OwnTab Γ.K Γ.mg C l) (e : isOwn l d = some b) : ∃ t, TyX Γ.K H v t ∧ PySem.W.kitOne Γ.K t (.ref C) = some b := by
  by_cases nd : tyN d = ""
  · cases d with
    | ins k ns xs =>
      have hm : (k, b) ∈ l := by
        have e' : l.lookup k = some b := e
        clear e r nd ho
        induction l with
        | nil => cases e'
        | cons q l ih =>
          obtain ⟨z, b'⟩ := q
          rw [List.lookup_cons] at e'
          split at e'
          · rename_i hz
            have hz' : k = z := by simpa using hz
            cases e'
            rw [hz']
            exact List.mem_cons_self ..
          · exact List.mem_cons_of_mem _ (ih e')
      obtain ⟨D, hD, ty⟩ := RepT.tyI s r fun D hD => (ho.2 _ hm D hD).1
      exact ⟨_, ty, (ho.2 _ hm D hD).2⟩
    | fn _ => cases e
    | _ => simp [tyN] at nd
  · refine ⟨_, r.ty s nd, ?_⟩
    rw [ho.1 _ (tyN_mem nd)]
    cases d with
    | ins _ _ _ => exact absurd rfl nd
    | fn _ => exact absurd rfl nd
    | _ => exact e
theorem sIsK {ks : List Str} {c : String} {x n : Str} {p p2 : Pos} (hK : X.K = Γ.K) (hm' : X.mg = Γ.mg) (hk : NotTys X.K X.mg ks) (gl : Gl X x) (hm : X.mg x = none) (hv : bootBuiltins x = some (.builtin "isinstance")) (ha : SL X Γ W a f1) (hc : PE X (.Name n p2) (tC (.ty c))) (ok : okT c = true) (hn : x ≠ "__name__" := by decide) (hdb : (x == ("__debug__" : Str)) = false := by decide)
    (he : starEach [a, .Name n p2] X.env = (false, eval a X.env) :: starEach [.Name n p2] X.env := by rfl) : SV X Γ W (.Call (.Name x p) [a, .Name n p2] [] pos) (dIsK (fun d => isTK ks d [c]) f1) :=
  imE (pe_callB (call_isi (X := X)) gl hm hv (pa_cons ha (pa_cons hc pa_nil) he) hn hdb he) fun σ H Q h => by
    obtain ⟨env, B, s, p⟩ := tIsK h
    refine ⟨env, B, s, p.mono fun a e1 B1 H1 s1 x1 q1 v hv => ?_⟩
    obtain ⟨d, b, e2, B2, s2, r2, eg, q2⟩ := q1 v hv
    rw [hK, hm'] at hk
    obtain ⟨t, ty, an⟩ := ty_ans s2.same r2 hk ok eg
    exact ⟨v, .ty c, t, .type c, b, rfl, .ty c, by rw [hK]; exact ty, by rw [hK]; exact an, q2 B2 H1 s2 Ext.refl⟩
theorem sIsO {l : List (Str × Bool)} {C : Addr} {x n : Str} {p p2 : Pos} (hK : X.K = Γ.K) (hm' : X.mg = Γ.mg) (ho : OwnTab X.K X.mg C l) (gl : Gl X x) (hm : X.mg x = none) (hv : bootBuiltins x = some (.builtin "isinstance")) (ha : SL X Γ W a f1) (hc : PE X (.Name n p2) (tC (.ref C))) (hn : x ≠ "__name__" := by decide) (hdb : (x == ("__debug__" : Str)) = false := by decide)
    (he : starEach [a, .Name n p2] X.env = (false, eval a X.env) :: starEach [.Name n p2] X.env := by rfl) : SV X Γ W (.Call (.Name x p) [a, .Name n p2] [] pos) (dIsK (isOwn l) f1) :=
  imE (pe_callB (call_isi (X := X)) gl hm hv (pa_cons ha (pa_cons hc pa_nil) he) hn hdb he) fun σ H Q h => by
    obtain ⟨env, B, s, p⟩ := tIsK h
    refine ⟨env, B, s, p.mono fun a e1 B1 H1 s1 x1 q1 v hv => ?_⟩
    obtain ⟨d, b, e2, B2, s2, r2, eg, q2⟩ := q1 v hv
    rw [hK, hm'] at ho
    obtain ⟨t, ty, an⟩ := own_ans s2.same r2 ho eg
    exact ⟨v, .ref C, t, .ref C, b, rfl, .own C, by rw [hK]; exact ty, by rw [hK]; exact an, q2 B2 H1 s2 Ext.refl⟩
theorem sIsKT {ks : List Str} {cs : List String} {x : Str} {p p2 : Pos} {k : Nat} (hK : X.K = Γ.K) (hm' : X.mg = Γ.mg) (hk : NotTys X.K X.mg ks) (gl : Gl X x) (hm : X.mg x = none) (hv : bootBuiltins x = some (.builtin "isinstance")) (ha : SL X Γ W a f1) (hc : TyNames X es cs) (ok : cs.all okT = true) (hz : cs.length ≤ 100) (hn : x ≠ "__name__" := by decide) (hdb : (x == ("__debug__" : Str)) = false := by decide)
    (he : starEach [a, .Tuple es k p2] X.env = (false, eval a X.env) :: starEach [.Tuple es k p2] X.env := by rfl) : SV X Γ W (.Call (.Name x p) [a, .Tuple es k p2] [] pos) (dIsK (fun d => isTK ks d cs) f1) :=
  imE (pe_callB (call_isiT (X := X)) gl hm hv (pa_cons ha (pa_cons (pe_tup hc.pa) pa_nil) he) hn hdb he) fun σ H Q h => by
    obtain ⟨env, B, s, p⟩ := tIsK h
    refine ⟨env, B, s, p.mono fun a e1 B1 H1 s1 x1 q1 v hv => ⟨LN_le (by rw [List.length_map]; omega), fun t ht => ?_⟩⟩
    obtain ⟨d, b, e2, B2, s2, r2, eg, q2⟩ := q1 v hv
    rw [hK, hm'] at hk
    have s3 := s2.newM (o := .tup (cs.map V.ty)) ht
    have r3 : RepT Γ B2 (upd H1 t (.tup (cs.map V.ty))) d v := by
      rcases r2 with r | ⟨xs, p, vs, e1, e2, e3, e4⟩
      · exact .inl r
      · exact .inr ⟨xs, p, vs, e1, e2, same_upd ht _ _ e3, e4⟩
    obtain ⟨ty, tyx, an⟩ := tys_ans s3.same r3 hk ok eg
    exact ⟨v, t, cs.map V.ty, ty, cs.map Value.type, b, rfl, upd_same, clsv_all cs, by rw [hK]; exact tyx, by rw [hK]; exact an, q2 B2 _ s3 (Ext.newM ht)⟩
end
end Ev
set_option Elab.async false
set_option linter.all false
set_option maxRecDepth 100000
set_option maxHeartbeats 4000000
namespace Ev
open PySem PySem.Spec PyProof.Rows L2
/-! ### classes in one row: which have the field -/
def AtOk (K : PySem.W.Frag) (mg : Str → Option Value) (n : Str) (cs : List Str) : Prop := ∀ c ∈ cs, ∀ C, mg c = some (.ref C) → Cls K C ∧ NoAttr K C n
theorem AtOk.nil {K : PySem.W.Frag} {mg : Str → Option Value} {n : Str} : AtOk K mg n [] := fun _ h => by cases h
theorem AtOk.cons {K : PySem.W.Frag} {mg : Str → Option Value} {n c : Str} {cs : List Str} {C : Addr} (g : mg c = some (.ref C)) (k : Cls K C) (a : NoAttr K C n) (r : AtOk K mg n cs) : AtOk K mg n (c :: cs) := fun c' h C' hC' => by
  rcases List.mem_cons.mp h with rfl | h
  · rw [g] at hC'
    cases hC'
    exact ⟨k, a⟩
  · exact r c' h C' hC'
theorem mkIni_len {np ns : Nat} {g : Sto → Res (List D)} (ds : List D) (h : ds.length ≠ np) : mkIni np ns g ds = .bad := if_neg h
/-- the defs that a local name may hold -/
def HeldT (P : Program) (w : World) (K : PySem.W.Frag) (mg : Str → Option Value) (base : Heap) (m : Nat) (tab : List (Str × Fn)) : Prop := ∀ y g, (y, g) ∈ tab → HeldE P w K mg base m y g
theorem HeldT.nil {P : Program} {w : World} {K : PySem.W.Frag} {mg : Str → Option Value} {base : Heap} {m : Nat} : HeldT P w K mg base m [] := fun _ _ h => by cases h
theorem HeldT.cons {P : Program} {w : World} {K : PySem.W.Frag} {mg : Str → Option Value} {base : Heap} {m : Nat} {x : Str} {g : Fn} {tab : List (Str × Fn)} (h : HeldE P w K mg base m x g) (r : HeldT P w K mg base m tab) : HeldT P w K mg base m ((x, g) :: tab) := fun y g' q => by
  rcases List.mem_cons.mp q with q | q
  · cases q
    exact h
  · exact r y g' q
end Ev

set_option Elab.async false
set_option linter.all false
set_option maxRecDepth 100000
set_option maxHeartbeats 4000000
namespace EvN
open PySem PySem.Spec PyProof.Rows PySem.SeqAt
/-! ### != of an object whose class has an == of its own: object's __ne__ asks this == and turns the answer -/
section
variable {M : Model} {prog : Program} {w : World} {A : Around} {E : Value → Shared → Prop} {s : Shared} {K : PySem.W.Frag} {x C f : Addr} {ox : Obj} {od : Option Obj} {b tb : Value}
/-- a def that answers a truth value r; what is wanted of its opposite -/
abbrev Answers (prog : Program) (w : World) (A : Around) (f x : Addr) (b : Value) (E : Value → Shared → Prop) (s : Shared) (Q : Value → Shared → Prop) : Prop :=
  wpAny (model prog w) A (call (.ref f) [.ref x, b]) (fun v s' => ∃ r, v = .bool r ∧ Q (.bool (!r)) s') E s
theorem object_ne {Q : Value → Shared → Prop} (X : K.In s.heap) (I : PySem.W.InstAt s.heap x ox C od) (hs : PySem.W.findIn K (.ref C) "__eq__" = some (some (.ref f))) (hf : PySem.W.isFn K (.ref f) = true) (hu : A.units < cLine) (h : Answers prog w A f x b E s Q) :
    wpAny (model prog w) A (Builtin.«object.__ne__» ⟨[.ref x, b], []⟩) (fun fin s' => ∃ v, fin = .done (.ret v) ∧ Q v s') E s := by
  have asked : wpAny (model prog w) A (callSpecialIfBound? (.ref x) "__eq__" [b]) (fun o s' => ∃ r, o = some (.bool r) ∧ Q (.bool (!r)) s') E s :=
    PySem.W.ifBound_K X I hs hf (wpAny_mono h (fun _ _ ⟨r, is_, q⟩ => ⟨r, congrArg some is_, q⟩) fun _ _ raised => raised)
  unfold Builtin.«object.__ne__»
  refine wpAny_bind (wpAny_of_eq (show slotArgs "__ne__" 1 ⟨[.ref x, b], []⟩ = pure (.ref x, [b]) from rfl) ?_)
  refine wpAny_bind (wpAny_cRoomFor hu (wpAny_bind (wpAny_mono asked ?_ fun _ _ raised => raised)))
  rintro _ s' ⟨r, rfl, q⟩
  exact wpAny_bind (wpAny_truthy_bool (wpAny_pure ⟨_, rfl, q⟩))
/-- x.__ne__(b), bound by its class -/
theorem asks_ne {Q : Value → Shared → Prop} (X : K.In s.heap) (I : PySem.W.InstAt s.heap x ox C od) (hne : PySem.W.findIn K (.ref C) "__ne__" = some (some (.builtin "object.__ne__"))) (hm : PySem.W.mroIn K C (.type "object") = some true) (hs : PySem.W.findIn K (.ref C) "__eq__" = some (some (.ref f)))
    (hf : PySem.W.isFn K (.ref f) = true) (hu : A.units + 1 < cLine) (h : Answers prog w A.in1 f x b E s Q) : wpAny (model prog w) A (tryCompare (.ref x) "__ne__" b) (fun r s' => ∃ v, r = some v ∧ Q v s') E s := by
  have called : wpAny (model prog w) A (call (.builtin "object.__ne__") [.ref x, b]) (fun v s' => (∃ r, v = .bool r) ∧ Q v s') E s :=
    wpAny_call (codeAny_call_builtin F.cmp_object.ne.plain F.cmpEntry_ne (PySem.W.check_slot F.cmpKind_ne F.cmpSplit_ne (I.type.andThen (PySem.W.looks_mroIn X hm)) (F.cmpArgs_ne _ _)
      (wpAny_mono (object_ne (A := A.in1) (Q := fun v s' => (∃ r, v = .bool r) ∧ Q v s') X I hs hf hu (wpAny_mono h (fun _ _ ⟨r, is_, q⟩ => ⟨r, is_, ⟨_, rfl⟩, q⟩) fun _ _ raised => raised)) (fun _ _ ⟨_, is_, q⟩ => is_ ▸ q) fun _ _ raised => raised)))
  have given : ∀ {R : Option Value → Shared → Prop}, (∀ v s', (∃ r, v = .bool r) → Q v s' → R (some v) s') → wpAny (model prog w) A (call (.builtin "object.__ne__") ([.ref x] ++ [b]) >>= fun v => pure (some v)) R E s := fun {R} k =>
    wpAny_bind (wpAny_mono called (fun v s' both => wpAny_pure (k v s' both.1 both.2)) fun _ _ raised => raised)
  have bound : ∀ {R : Option Value → Shared → Prop}, (∀ v s', (∃ r, v = .bool r) → Q v s' → R (some v) s') → wpAny (model prog w) A (callSpecialIfBound? (.ref x) "__ne__" [b]) R E s := fun {R} k => by
    simp only [callSpecialIfBound?, bindSpecialIfBound?]
    apply wpAny_holding
    refine wpAny_bind (wpAny_bind (wpAny_bind (I.type.here ((PySem.W.looks_findIn X hne).here (wpAny_bind (wpAny_askSetting (wpAny_ite ?_)))))))
    split
    case isTrue => exact wpAny_bind (wpAny_of_eq (F.cmp_object.ne.bind _) (wpAny_pure (given k)))
    case isFalse => exact wpAny_tryCatch (wpAny_bind (wpAny_of_eq (F.cmp_object.ne.bind _) (wpAny_pure (given k))))
  unfold tryCompare
  exact wpAny_bind (bound fun v s' ⟨_, is_⟩ q => by subst is_; exact wpAny_pure ⟨_, rfl, q⟩)
/-- x != b -/
theorem rc_ne {Q : Value → Shared → Prop} (hu : A.units + 1 < cLine) (X : K.In s.heap) (I : PySem.W.InstAt s.heap x ox C od) (hb : PySem.W.Looks (model prog w) s.heap (typeOf b) tb) (hn : PySem.W.notFirst K C tb = true)
    (hne : PySem.W.findIn K (.ref C) "__ne__" = some (some (.builtin "object.__ne__"))) (hm : PySem.W.mroIn K C (.type "object") = some true) (hs : PySem.W.findIn K (.ref C) "__eq__" = some (some (.ref f))) (hf : PySem.W.isFn K (.ref f) = true)
    (h : wpAny (model prog w) A.in1 (call (.ref f) [.ref x, b]) (fun v s' => ∃ r, v = .bool r ∧ Q (.bool (!r)) s') E s) : wpAny (model prog w) A (richCompare .NotEq (.ref x) b) Q E s := by
  have answer := asks_ne X I hne hm hs hf hu h
  have under : (Value.ref C != tb) = true → PySem.W.subIn K tb (.ref C) = some false := fun ne =>
    ((Bool.or_eq_true ..).mp hn).elim (fun one => absurd ne (by rw [beq_iff_eq.mp one]; simp)) beq_iff_eq.mp
  unfold richCompare
  apply wpAny_holding
  simp only [oneThing_ref]
  refine wpAny_bind (wpAny_cRoomFor (by omega) (wpAny_bind (I.type.here (wpAny_bind (hb.here ?_)))))
  -- the other side is not asked first
  by_cases ne : (Value.ref C != tb) = true
  case pos => rw [if_pos ne]; refine wpAny_bind ((PySem.W.looks_subIn X (under ne)).here ?_); rw [if_neg Bool.false_ne_true]; exact wpAny_bind (wpAny_mono answer (fun _ s' ⟨v, is_, q⟩ => by subst is_; exact wpAny_pure q) fun _ _ raised => raised)
  case neg => rw [if_neg ne]; refine wpAny_bind (wpAny_pure ?_); rw [if_neg Bool.false_ne_true]; exact wpAny_bind (wpAny_mono answer (fun _ s' ⟨v, is_, q⟩ => by subst is_; exact wpAny_pure q) fun _ _ raised => raised)
end
end EvN
set_option Elab.async false
set_option linter.all false
set_option maxRecDepth 100000
set_option maxHeartbeats 4000000
namespace Ev
open PySem PySem.Spec PyProof.Rows L2
/-! ### == and != of two instances of one class with an == of its own -/
theorem RoomG.in1 {k : Nat} {A : Around} (r : RoomG (k + 1) A) : RoomG k A.in1 := ⟨Room.in1 r.room, r.gd⟩
/-- what a class's own == does -/
def EqOf (P : Program) (w : World) (K : PySem.W.Frag) (mg : Str → Option Value) (base : Heap) (m : Nat) (C : Addr) (g : Fn) : Prop :=
  ∃ (f : Addr) (fd : FuncData) (ps : List Str) (k : Nat), k ≤ m ∧ PySem.W.findIn K (.ref C) "__eq__" = some (some (.ref f)) ∧ PySem.W.isFn K (.ref f) = true ∧ PySem.W.findIn K (.ref C) "__ne__" = some (some (.builtin "object.__ne__")) ∧ PySem.W.mroIn K C (.type "object") = some true ∧ Binds K fd ps [] ∧
    FnOkG P w K mg base (L2.CX P w) k f fd ps (spOf K mg [] 2 g) ∧ ∀ args, args.length ≠ 2 → g args = .bad
def EqTab (P : Program) (w : World) (K : PySem.W.Frag) (mg : Str → Option Value) (base : Heap) (m : Nat) (tab : List (Str × Fn)) : Prop := ∀ c g, (c, g) ∈ tab → ∀ C, mg c = some (.ref C) → EqOf P w K mg base m C g
theorem EqTab.nil {P : Program} {w : World} {K : PySem.W.Frag} {mg : Str → Option Value} {base : Heap} {m : Nat} : EqTab P w K mg base m [] := fun _ _ h => by cases h
theorem EqTab.cons {P : Program} {w : World} {K : PySem.W.Frag} {mg : Str → Option Value} {base : Heap} {m : Nat} {c : Str} {g : Fn} {C : Addr} {tab : List (Str × Fn)} (e : mg c = some (.ref C)) (h : EqOf P w K mg base m C g) (r : EqTab P w K mg base m tab) : EqTab P w K mg base m ((c, g) :: tab) := fun c' g' q C' e' => by
  rcases List.mem_cons.mp q with q | q
  · cases q
    rw [e] at e'
    cases e'
    exact h
  · exact r c' g' q C' e'
def ifn (neg b : Bool) : Bool := if neg = true then !b else b
def gOwn (tab : List (Str × Fn)) (neg : Bool) (x y : D) : Option Ent := match x, y with
  | .ins c ns xs, .ins c' ns' ys => if c = c' then (match tab.lookup c with
    | some g => (match g [.val (.ins c ns xs), .val (.ins c' ns' ys)] with
      | .ok (.val (.bl b)) _ => some (.val (.bl (ifn neg b)))
      | _ => none)
    | none => none) else none
  | x, y => if neg = true then gNe x y else gEq x y
section
variable {X : Cx} {Γ : Wd} {W : WX}
def rOwn (X : Cx) (m : Nat) (neg : Bool) : R2 := fun x y H Q => (∃ (C : Addr) (g : Fn) (a b dx dy : Addr) (fs gs : List (Str × V)), EqOf X.prog X.w X.K X.mg X.base m C g ∧ x = .ref a ∧ y = .ref b ∧ H a = some (.ins C dx fs) ∧ H b = some (.ins C dy gs) ∧
  spOf X.K X.mg [] 2 g [.ref a, .ref b] H (fun v H' => ∃ r, v = .bl r ∧ Q (.bl (ifn neg r)) H') (fun _ _ _ => False)) ∨ (if neg = true then rNeD X.K x y H Q else rEqD X.K x y H Q)
theorem op_ownEq {m : Nat} (hr : RoomG (m + 1) X.A) : OpR X (compareOp .Eq) (rOwn X m false) := by
  intro pins s σ H x y v u Q I rx ry hq
  rcases hq with ⟨C, g, a, b, dx, dy, fs, gs, ⟨f, fd, ps, k, hk, hs, hf, hne, hm, hb, F, ga⟩, rfl, rfl, ha, hb', hsp⟩ | hq
  · cases rx
    cases ry
    obtain ⟨mA, J, _⟩ := ins_get I.hok ha
    obtain ⟨mB, J', _⟩ := ins_get I.hok hb'
    obtain ⟨od, J, _⟩ := J.look
    obtain ⟨od', J', _⟩ := J'.look
    obtain ⟨mm, hF⟩ := I.fr
    show wpAny (model X.prog X.w) X.A (richCompare .Eq (.ref a) (.ref b)) (EP X pins σ Q) X.xe s
    refine PySem.W.cmp_K (op := .Eq) (tb := .ref C) hr.room.units0 hF I.ok.mod.kin J J'.type (by simp [PySem.W.notFirst]) hs hf ?_
    refine wpAny_mono (run_fnSG (E := fun _ _ _ _ => False) F (hr.mono (by omega)) hb .nil (fun _ _ _ _ _ _ c => by
      obtain ⟨_, _, _, _, _, _, _, _, _, _, _, _, hE⟩ := c
      exact hE.elim) I (show Vals [V.ref a, V.ref b] [Value.ref a, Value.ref b] from .cons rfl (.cons rfl .nil)) hsp) (fun z s' q => ?_) fun _ _ e => e
    obtain ⟨v, H', I', rv, r, rfl, q⟩ := q
    cases rv
    exact ⟨.bl r, H', I', rfl, q⟩
  · exact op_eqD hr.units pins s σ H x y v u Q I rx ry hq
theorem op_ownNe {m : Nat} (hr : RoomG (m + 1) X.A) : OpR X (compareOp .NotEq) (rOwn X m true) := by
  intro pins s σ H x y v u Q I rx ry hq
  rcases hq with ⟨C, g, a, b, dx, dy, fs, gs, ⟨f, fd, ps, k, hk, hs, hf, hne, hm, hb, F, ga⟩, rfl, rfl, ha, hb', hsp⟩ | hq
  · cases rx
    cases ry
    obtain ⟨mA, J, _⟩ := ins_get I.hok ha
    obtain ⟨mB, J', _⟩ := ins_get I.hok hb'
    obtain ⟨od, J, _⟩ := J.look
    obtain ⟨od', J', _⟩ := J'.look
    show wpAny (model X.prog X.w) X.A (richCompare .NotEq (.ref a) (.ref b)) (EP X pins σ Q) X.xe s
    refine EvN.rc_ne (tb := .ref C) (by have := hr.units; omega) I.kIn J J'.type (by simp [PySem.W.notFirst]) hne hm hs hf ?_
    have r2 : Vals [V.ref a, V.ref b] [Value.ref a, Value.ref b] := .cons rfl (.cons rfl .nil)
    have nl : ([Value.ref a, Value.ref b]).length = ps.length := r2.length.symm.trans (F.len _ _ _ _ hsp)
    refine wpAny_call (codeAny_mono (F.run X.A.in1 X.stack s H ⟨[.ref a, .ref b], []⟩ [.ref a, .ref b] [.ref a, .ref b] _ _ ((hr.in1).mono (by omega)) I.env0.in1 (by
      have := hb s [.ref a, .ref b] I.kIn (by simpa using nl)
      simpa using this) r2 hsp) fun r s' hq => ?_)
    cases r with
    | error e =>
      obtain ⟨_, _, _, _, _, _, _, _, _, _, _, _, hE⟩ := hq
      exact hE.elim
    | ok fl =>
      cases fl with
      | ret w =>
        obtain ⟨z, H', I', rz, r, rfl, q⟩ := I.after hq
        cases rz
        exact ⟨r, rfl, .bl (!r), H', I', rfl, q⟩
      | next => exact False.elim hq
      | brk => exact False.elim hq
      | cont => exact False.elim hq
  · exact op_neD hr.units pins s σ H x y v u Q I rx ry hq
theorem sv_own {m : Nat} {tab : List (Str × Fn)} {neg : Bool} (hK : X.K = Γ.K) (hm' : X.mg = Γ.mg) (T : EqTab X.prog X.w X.K X.mg X.base m tab) : Serves Γ W (rOwn X m neg) (gOwn tab neg) := by
  intro x y ent env σ B H P0 v w Q hg s hx hy h0 p
  have ord : (if neg = true then gNe x y else gEq x y) = some ent → rOwn X m neg v w H Q := fun e => by
    refine .inr ?_
    cases neg with
    | true =>
      rw [if_pos rfl] at e ⊢
      rw [hK]
      exact sv_ne e s hx hy h0 p
    | false =>
      rw [if_neg (by decide)] at e ⊢
      rw [hK]
      exact sv_eq e s hx hy h0 p
  cases x with
  | ins c ns xs =>
    cases y with
    | ins c' ns' ys =>
      have hg' : (if c = c' then (match tab.lookup c with
        | some g => (match g [.val (.ins c ns xs), .val (.ins c' ns' ys)] with
          | .ok (.val (.bl b)) _ => some (Ent.val (.bl (ifn neg b)))
          | _ => none)
        | none => none) else none) = some ent := hg
      by_cases hc : c = c'
      · rw [if_pos hc] at hg'
        subst hc
        obtain ⟨a, dx, C, vs, rfl, e2, e3, e4, e5⟩ := RepT.ins s.same hx
        obtain ⟨b, dy, C', ws, rfl, f2, f3, f4, f5⟩ := RepT.ins s.same hy
        rw [e2] at f2
        cases f2
        cases hl : tab.lookup c with
        | none => rw [hl] at hg'; cases hg'
        | some g =>
          rw [hl] at hg'
          have E := T c g (lookup_mem hl) C (by rw [hm']; exact e2)
          refine .inl ⟨C, g, a, b, dx, dy, _, _, E, rfl, rfl, e3, f3, ?_⟩
          have hg2 : (match g [.val (.ins c ns xs), .val (.ins c ns' ys)] with
            | .ok (.val (.bl b)) _ => some (Ent.val (.bl (ifn neg b)))
            | _ => none) = some ent := hg'
          cases hgg : g [.val (.ins c ns xs), .val (.ins c ns' ys)] with
          | bad => rw [hgg] at hg2; cases hg2
          | err _ _ _ _ => rw [hgg] at hg2; cases hg2
          | ok r pz =>
            rw [hgg] at hg2
            cases r with
            | val d =>
              cases d with
              | bl bb =>
                cases hg2
                have rx : Rep Γ B (.ins c ns xs) (.ref a) := by
                  rcases hx with h | ⟨_, _, _, h, _⟩
                  · exact h
                  · cases h
                have ry : Rep Γ B (.ins c ns' ys) (.ref b) := by
                  rcases hy with h | ⟨_, _, _, h, _⟩
                  · exact h
                  · cases h
                have rc : Reps (wdOf X.K X.mg []) B [.ins c ns xs, .ins c ns' ys] [.ref a, .ref b] := by
                  rw [hK, hm']
                  exact Reps.toC ⟨_, _, rfl, rx, _, _, rfl, ry, rfl⟩
                rw [hK, hm'] at rc ⊢
                refine ⟨B, [.val (.ins c ns xs), .val (.ins c ns' ys)], rfl, args_ok (σ := σ) (ds := [.ins c ns xs, .ins c ns' ys]) s.same rc, fun i zs hi => ?_, ?_⟩
                · match i, hi with
                  | 0, hi => cases hi
                  | 1, hi => cases hi
                  | _ + 2, hi => cases hi
                · rw [hgg]
                  intro v B' H' fx rv
                  have gr : Grow B H B' H' := ⟨fx.b, fun p o hp => (fx.f p o hp (no_own (ds := [.ins c ns xs, .ins c ns' ys]))).1, fx.s, fun p o hp => (fx.f p o hp (no_own (ds := [.ins c ns xs, .ins c ns' ys]))).2⟩
                  have ev : v = .bl bb := rv
                  exact ⟨bb, ev, p B' H' (s.growG gr) (Ext.growG gr) (.bl (ifn neg bb)) rfl⟩
              | _ => cases hg2
            | _ => cases hg2
      · rw [if_neg hc] at hg'
        cases hg'
    | _ => exact ord hg
  | _ => exact ord hg
end
end Ev

set_option Elab.async false
set_option linter.all false
set_option maxRecDepth 100000
set_option maxHeartbeats 4000000
namespace Ev
open PySem PySem.Spec PyProof.Rows L2
/-! ### a property of an own class -/
section
variable {X : Cx} {CX : CXT} {k : Nat} {C p g a dx : Addr} {fs : List (Str × V)} {f : Str} {fd : FuncData} {ps : List Str} {sp : Sp} {e : Expr} {pos : Pos} {ta : TE}
theorem getprop_G {pins : List (Addr × Obj)} {σ : L2.St} {H : Hp} {s : Shared} {Q : VK} {b : Bool} (I : Inv X pins σ H s) (ea : H a = some (.ins C dx fs)) (c : Cls X.K C) (hp : PropOf X.K C f p g)
    (F : FnOkG X.prog X.w X.K X.mg X.base CX k g fd ps sp) (hr : RoomG (k + 1) X.A) (hb : Binds X.K fd ps []) (h : sp [.ref a] H Q (fun _ _ _ => False)) (CXe : ∀ e s', CX X.stack H { s with toks := s.toks + 1 } (fun _ _ _ => False) e s' → False) :
    wpAny (model X.prog X.w) X.A (getAttr (.ref a) f b) (EP X pins σ Q) X.xe s := by
  have J := I.tok (s.toks + 1)
  have ⟨_, inst, _⟩ := ins_get I.hok ea
  have ⟨dct, laid, _⟩ := inst.look
  have ⟨_, getter⟩ := hp.rec_
  have known : (PySem.W.clsIn X.K C).isSome = true := Option.isSome_iff_exists.mpr (have ⟨cd, e, _⟩ := PySem.W.any_some c.hd; ⟨cd, e⟩)
  have bound := hb { s with toks := s.toks + 1 } [.ref a] J.kIn ((F.len _ _ _ _ h).symm ▸ rfl)
  -- the getter, called with the instance
  have given := F.run X.A.in1 X.stack { s with toks := s.toks + 1 } H ⟨[.ref a], []⟩ [.ref a] [.ref a] Q (fun _ _ _ => False) hr.in1 J.env0.in1 (by simpa using bound) (.cons rfl .nil) h
  have reach := PySem.W.findObj_data (od := dct) known hp.at_ hp.get hp.tak
  have own := PySem.W.plainGet_of (c.get f)
  refine PySem.W.get_bind I.kIn laid own.1 reach own.2 (wpAny_call (PySem.W.prop_get (s := { s with toks := s.toks + 1 }) I.kIn getter (codeAny_mono given ?_)))
  rintro (x | fl) s' came
  · exact (CXe x s' came).elim
  · match fl, came with
    | .next, no | .brk, no | .cont, no => exact no.elim
    | .ret u, came =>
      have ⟨v, G, J', rel, q⟩ := J.after came
      show wpAny _ _ (handedOut u) _ _ _
      rw [PySem.W.handedOut_of (handed_of rel)]
      exact wpAny_pure ⟨v, G, J', rel, q⟩
def tPropG (C : Addr) (sp : Sp) (ta : TE) : TE := fun σ H Q => ta σ H fun x H1 => ∃ a dx fs, x = .ref a ∧ H1 a = some (.ins C dx fs) ∧ sp [.ref a] H1 Q (fun _ _ _ => False)
theorem pe_propG (he : PE X e ta) (c : Cls X.K C) (hp : PropOf X.K C f p g) (F : FnOkG X.prog X.w X.K X.mg X.base (L2.CX X.prog X.w) k g fd ps sp) (hr : RoomG (k + 1) X.A) (hb : Binds X.K fd ps [])
    (hab : attributeBase e f X.env (eval e X.env) = eval e X.env) : PE X (.Attribute e f pos) (tPropG C sp ta) := by
  refine ⟨fun pins s σ H Q I h => ?_⟩
  refine attr_of hab (thn (he.run pins s σ H _ I h) fun u s1 ⟨x, H1, I1, rx, a, dx, fs, ex, ea, q⟩ => ?_)
  subst ex
  obtain rfl : u = Value.ref a := rx
  exact getprop_G I1 ea c hp F hr hb q fun _ _ c => by
    obtain ⟨_, _, _, _, _, _, _, _, _, _, _, _, hE⟩ := c
    exact hE.elim
end
/-- e.f of a class c: what its getter gives -/
def dProp (c : Str) (g : Fn) (f : DenV) : DenF := fun env => (f env).bind fun d e => match d with
  | .ins k ns xs => if k = c then (match g [.val (.ins k ns xs)] with
    | .ok r _ => .ok r e
    | _ => .bad) else .bad
  | _ => .bad
section
variable {X : Cx} {Γ : Wd} {W : WX} {k : Nat} {C p gA : Addr} {f c : Str} {fd : FuncData} {ps : List Str} {e : Expr} {pos : Pos} {fv : DenV} {g : Fn}
theorem sProp (hK : X.K = Γ.K) (hm' : X.mg = Γ.mg) (hm : X.mg c = some (.ref C)) (cl : Cls X.K C) (hp : PropOf X.K C f p gA) (F : FnOkG X.prog X.w X.K X.mg X.base (L2.CX X.prog X.w) k gA fd ps (spOf X.K X.mg [] 1 g)) (hr : RoomG (k + 1) X.A) (hb : Binds X.K fd ps [])
    (he : SV X Γ W e fv) (hab : attributeBase e f X.env (eval e X.env) = eval e X.env := by rfl) : SF X Γ W (.Attribute e f pos) (dProp c g fv) :=
  imE (pe_propG he cl hp F hr hb hab) fun σ H Q ⟨env, B, s, pp⟩ => by
    refine ⟨env, B, s, pp.bind.mono fun d e1 B1 H1 s1 x1 q1 v hv => ?_⟩
    cases d with
    | ins k' ns xs =>
      have q2 : Post Γ W e1 σ B1 H1 (fun r env' B' H' => ∀ v, RetOk Γ (FreeR Γ env σ H) env' σ B' H' r v → Q v H') (if k' = c then (match g [.val (.ins k' ns xs)] with
        | .ok r _ => .ok r e1
        | _ => .bad) else .bad) := q1
      by_cases hc : k' = c
      · rw [if_pos hc] at q2
        subst hc
        obtain ⟨a, dx, C', vs, rfl, e3, e4, e5, e6⟩ := RepT.ins s1.same (.inl hv : RepT Γ B1 H1 (.ins k' ns xs) v)
        have ec : C' = C := by
          rw [← hm', hm] at e3
          cases e3
          rfl
        subst ec
        refine ⟨a, dx, _, rfl, e4, ?_⟩
        have rc : Reps (wdOf Γ.K Γ.mg []) B1 [.ins k' ns xs] [.ref a] := Reps.toC ⟨_, _, rfl, hv, rfl⟩
        rw [hK, hm']
        refine ⟨B1, [.val (.ins k' ns xs)], rfl, args_ok (σ := σ) (ds := [.ins k' ns xs]) s1.same rc, fun i zs hi => ?_, ?_⟩
        · match i, hi with
          | 0, hi => cases hi
          | _ + 1, hi => cases hi
        · have own_up : ∀ {B' H' : Hp} {pz : Sto}, FExt (wdOf Γ.K Γ.mg []) ([D.ins k' ns xs].map .val) [.ref a] B1 H1 pz B' H' → Grow B1 H1 B' H' := fun {B' H' pz} fx =>
            ⟨fx.b, fun p o hp => (fx.f p o hp no_own).1, fx.s, fun p o hp => (fx.f p o hp no_own).2⟩
          cases hg : g [.val (.ins k' ns xs)] with
          | bad => rw [hg] at q2; exact q2.elim
          | err c ns' xs' pz => rw [hg] at q2; exact q2.elim
          | ok r pz =>
            rw [hg] at q2
            intro v B' H' fx rv
            have gr := own_up fx
            refine q2 B' H' (s1.growG gr) (Ext.growG gr) v ?_
            cases r with
            | val d => exact Rep.ofC rv
            | mu zs =>
              obtain ⟨q, us, e1', e2', e3', e4', e5'⟩ := rv
              exact ⟨q, us, e1', .inl (x1.h0 q e2'), e3', e4', Reps.ofC e5', fun z => s1.own_tracked z e2'⟩
            | un => exact rv.elim
            | exn _ _ _ => exact rv.elim
      · rw [if_neg hc] at q2
        exact q2.elim
    | _ => exact q1.elim
end
end Ev
set_option Elab.async false
set_option linter.all false
set_option maxRecDepth 100000
set_option maxHeartbeats 4000000
namespace Ev
open PySem PySem.Spec PyProof.Rows L2
/-! ### reversed(x) -/
def dRevI (f : DenV) : DenI := fun env => (f env).bind fun d e => match d.its with
  | some xs => .ok xs.reverse e
  | none => .bad
section
variable {X : Cx} {Γ : Wd} {W : WX} {tg e : Expr} {p pos : Pos}
theorem rev_get {α : Type} {xs : List α} {i : Nat} (h : i < xs.length) : xs.reverse[i]? = xs[xs.length - 1 - i]? := List.getElem?_reverse h
theorem walks_rev {a : Addr} {items : List D} {B : Hp} {vs : List V} (h : SqL Γ.K B a vs) (r : Reps Γ B items vs) : Walks Γ (Itv Γ.K a vs.length) items.reverse B := fun i B2 H2 k1 k2 => by
  have hq : SqL Γ.K H2 a vs := k2.seq (k1.seq h)
  refine ⟨fun d hd => ?_, fun hl => by rw [List.length_reverse, r.length] at hl; exact hl⟩
  have hi : i < items.length := by
    rcases Nat.lt_or_ge i items.length with q | q
    · exact q
    · rw [List.getElem?_eq_none (by rw [List.length_reverse]; exact q)] at hd
      cases hd
  rw [rev_get hi] at hd
  obtain ⟨v, hv, rv⟩ := r.get hd
  rw [r.length] at hv hi
  exact ⟨⟨hi, vs, v, hq, hv⟩, fun x H3 y => by
    obtain ⟨e1, e2⟩ := y
    have e3 : v = x := Option.some.inj (hv.symm.trans (e2 vs hq))
    subst e3
    subst e1
    exact ⟨B2, ⟨Same.refl _, Same.refl _, k2, fun _ _ _ z => z⟩, Rep.mono k1 d v rv⟩⟩
theorem walks_revT {a : Addr} {items : List D} {B : Hp} {vs : List V} (h : SqT Γ.K B a vs) (r : Reps Γ B items vs) : Walks Γ (RT.ItvT Γ.K a vs.length) items.reverse B := fun i B2 H2 k1 k2 => by
  have hq : SqT Γ.K H2 a vs := sqT_mono k2 (sqT_mono k1 h)
  refine ⟨fun d hd => ?_, fun hl => by rw [List.length_reverse, r.length] at hl; exact hl⟩
  have hi : i < items.length := by
    rcases Nat.lt_or_ge i items.length with q | q
    · exact q
    · rw [List.getElem?_eq_none (by rw [List.length_reverse]; exact q)] at hd
      cases hd
  rw [rev_get hi] at hd
  obtain ⟨v, hv, rv⟩ := r.get hd
  rw [r.length] at hv hi
  exact ⟨⟨hi, vs, v, hq, hv⟩, fun x H3 y => by
    obtain ⟨e1, e2⟩ := y
    have e3 : v = x := Option.some.inj (hv.symm.trans (e2 vs hq))
    subst e3
    subst e1
    exact ⟨B2, ⟨Same.refl _, Same.refl _, k2, fun _ _ _ z => z⟩, Rep.mono k1 d v rv⟩⟩
theorem sRevI {f : DenV} (hK : X.K = Γ.K) (hg : Gl X "reversed") (hm : X.mg "reversed" = none) (h : SV X Γ W e f) (hs : starEach [e] X.env = (false, eval e X.env) :: starEach [] X.env := by rfl) :
    SI X Γ W tg (.Call (.Name "reversed" p) [e] [] pos) (dRevI f) := imI (RT.pi_revA hg hm h hs) fun σ H R ⟨env, B, s, pp⟩ => by
  refine ⟨env, B, s, pp.bind.mono fun d e1 B1 H1 s1 x1 q1 v hv => ?_⟩
  cases d with
  | tup xs =>
    obtain ⟨a, vs, rfl, k1, k2⟩ := hv
    refine ⟨a, vs, rfl, .inr ⟨by rw [hK]; exact sqT_mono s1.same k1, ?_⟩⟩
    rw [hK]
    exact Post.here s1 q1 _ (walks_revT k1 k2)
  | lst xs =>
    obtain ⟨a, vs, rfl, k1, k2⟩ := hv
    refine ⟨a, vs, rfl, .inl ⟨.inl (.inl (s1.same _ _ k1)), ?_⟩⟩
    rw [hK]
    exact Post.here s1 q1 _ (walks_rev (.inl (.inl k1)) k2)
  | fl xs =>
    obtain ⟨a, vs, rfl, k1, k2⟩ := hv
    refine ⟨a, vs, rfl, .inl ⟨by rw [hK]; exact s1.same.seq k1, ?_⟩⟩
    rw [hK]
    exact Post.here s1 q1 _ (walks_rev k1 k2)
  | _ => exact q1.elim
end
/-! ### sorted of data that are alike -/
abbrev VP := V × PyData
def leP : VP → VP → Bool := PySem.W.dataLe false (·.2)
def rSortedDt (K : PySem.W.Frag) : List V → Hp → VK → Prop := fun vs H Q => ∃ (a : Addr) (zs : List VP), vs = [.ref a] ∧ SqL K H a (zs.map (·.1)) ∧ (∀ z ∈ zs, Dp K H z.1 z.2) ∧ PySem.W.AllAlike (zs.map (·.2)) ∧ PySem.W.Sortable (zs.map (·.2)) ∧ (∀ z ∈ zs, z.2.depth ≤ 32) ∧
  ∀ p, H p = none → Q (.ref p) (upd H p (.lst ((zs.mergeSort leP).map (·.1))))
theorem each_of_vals {K : PySem.W.Frag} {R : Value → VP → Prop} : ∀ {zs : List VP} {us : List Value}, Vals (zs.map (·.1)) us → (∀ z ∈ zs, ∀ u, RelV z.1 u → R u z) → PySem.W.EachIs R us zs
  | [], us, r, h => by
    cases r
    exact .nil
  | z :: zs, us, r, h => by
    rw [List.map_cons] at r
    cases r with
    | cons r1 r2 => exact .cons (h z (List.mem_cons_self ..) _ r1) (each_of_vals (K := K) r2 fun y hy => h y (List.mem_cons_of_mem _ hy))
theorem vals_of_each : ∀ {zs : List VP} {us : List Value}, PySem.W.EachIs (fun u (z : VP) => RelV z.1 u) us zs → Vals (zs.map (·.1)) us
  | [], _, .nil => .nil
  | _ :: _, _, .cons h t => .cons h (vals_of_each t)
theorem cr_sortedDt {X : Cx} (hu : X.A.units + 64 < cLine) : CallR X (.builtin "sorted") (rSortedDt X.K) := by
  intro pins s σ H vs us Q I r h
  obtain ⟨a, zs, rfl, hs, hd, ha, hk, hdep, q⟩ := h
  obtain ⟨its, rv, hl, hz⟩ := I.list hs
  obtain ⟨u, rfl, ru⟩ := vals1 r
  obtain rfl : u = Value.ref a := ru
  have e := each_of_vals (K := X.K) (R := fun u (z : VP) => RelV z.1 u) rv fun z hz u hu => hu
  have er := each_of_vals (K := X.K) (R := fun u (z : VP) => ∃ as, Reads s.heap u z.2 as) rv fun z hz u hu => Dp.reads I z.2 z.1 u (hd z hz) hu
  have hz' : zs.length ≤ sizeLine := by rw [List.length_map] at hz; exact hz
  refine PySem.W.sorted_data (enc := fun z : VP => z.2) hl.isList e er ha hk hz' (fun b hb => ?_) fun out hlen ho => ?_
  · have := hdep b hb
    show X.A.units + 2 + b.2.depth < cLine
    omega
  · obtain ⟨n, hn⟩ := sortedAll_at s.heap its (List.toArray out)
    have kp : ∀ b u, s.heap.get? b = some u → (sortedAll s.heap its (List.toArray out)).get? b = some u := fun b u h => sortedAll_old h
    have hlen2 : ((zs.mergeSort leP).map (·.1)).length ≤ sizeLine := by
      rw [List.length_map, List.length_mergeSort]
      exact hz'
    exact ⟨.ref (s.heap.objs.size + 1), upd H (s.heap.objs.size + 1) (.lst ((zs.mergeSort leP).map (·.1))), I.laid (t' := s.toks) kp (Nat.le_succ _) ⟨hlen2, out, n, vals_of_each ho, hn⟩, rfl, q _ (I.hok.fresh (Nat.le_succ _))⟩
def rSortedA (K : PySem.W.Frag) : List V → Hp → VK → Prop := fun vs H Q => rSortedI K vs H Q ∨ rSortedDt K vs H Q
theorem cr_sortedA {X : Cx} (hu : X.A.units + 64 < cLine) : CallR X (.builtin "sorted") (rSortedA X.K) := by
  intro pins s σ H vs us Q I r h
  rcases h with h | h
  · exact cr_sortedI pins s σ H vs us Q I r h
  · exact cr_sortedDt hu pins s σ H vs us Q I r h
/-- a tuple that is not empty -/
def tupNE : D → Bool
  | .tup (_ :: _) => true
  | _ => false
def atomNT : D → Bool
  | .bl _ => true
  | .int _ => true
  | .str _ => true
  | .lst _ => true
  | .fl _ => true
  | _ => false
def allAl (xs : List D) : Bool := xs.all fun x => xs.all fun y => PySem.W.alike x.py y.py
def okSort (xs : List D) : Bool := shps 32 xs && (allAl xs && (xs.all tupNE || xs.all atomNT))
def dle (a b : D) : Bool := !PySem.W.dataLt b.py a.py
def pickS : Option Ent → D → Option Ent
  | some r, _ => some r
  | none, d => (lstOf d).bind fun xs => if okSort xs = true then some (.mu (xs.mergeSort dle)) else none
def gSortA : List D → Option Ent
  | [d] => pickS (gSorted [d]) d
  | _ => none
theorem shps_all {n : Nat} : ∀ {xs : List D}, shps n xs = true → ∀ x ∈ xs, shp n x = true
  | x :: xs, h, y, hy => by
    have h' : shp n x = true ∧ shps n xs = true := by simpa [shps] using h
    rcases List.mem_cons.mp hy with rfl | hy
    · exact h'.1
    · exact shps_all h'.2 y hy
theorem shp_up : ∀ {n m : Nat} (d : D), shp n d = true → n ≤ m → shp m d = true := by
  have key : (∀ (d : D) (n m : Nat), shp n d = true → n ≤ m → shp m d = true) := by
    intro d
    refine D.rec (motive_1 := fun d => ∀ n m : Nat, shp n d = true → n ≤ m → shp m d = true) (motive_2 := fun ds => ∀ n m : Nat, shps n ds = true → n ≤ m → shps m ds = true) ?_ ?_ ?_ ?_ ?_ ?_ ?_ ?_ ?_ ?_ ?_ d
    · intro n m _ _; cases m <;> rfl
    · intro b n m _ _; cases m <;> rfl
    · intro b n m _ _; cases m <;> rfl
    · intro s n m h _
      have h' : PyData.strOk s = true := by cases n <;> exact h
      cases m <;> exact h'
    · intro xs ih n m h l
      cases n with
      | zero => cases h
      | succ n => cases m with
        | zero => omega
        | succ m => exact ih n m h (by omega)
    · intro xs ih n m h l
      cases n with
      | zero => cases h
      | succ n => cases m with
        | zero => omega
        | succ m => exact ih n m h (by omega)
    · intro xs ih n m h l
      cases n with
      | zero => cases h
      | succ n => cases m with
        | zero => omega
        | succ m => exact ih n m h (by omega)
    · intro c ns xs ih n m h l
      cases n <;> cases h
    · intro x n m h l
      cases n <;> cases h
    · intro n m _ _; rfl
    · intro d ds ih1 ih2 n m h l
      have h' : shp n d = true ∧ shps n ds = true := by simpa [shps] using h
      show (shp m d && shps m ds) = true
      rw [ih1 n m h'.1 l, ih2 n m h'.2 l]
      rfl
  exact fun {n m} d h l => key d n m h l
section
variable {Γ : Wd} {W : WX}
theorem Reps.all {B : Hp} : ∀ {xs : List D} {vs : List V}, Reps Γ B xs vs → ∀ q ∈ vs.zip xs, Rep Γ B q.2 q.1
  | [], vs, h, q, hq => by
    have h' : vs = [] := h
    rw [h'] at hq
    simp at hq
  | x :: xs, vs, h, q, hq => by
    obtain ⟨v, r, rfl, e2, e3⟩ := h
    rcases List.mem_cons.mp (show q ∈ (v, x) :: r.zip xs from hq) with rfl | hq
    · exact e2
    · exact Reps.all e3 q hq
theorem Reps.of_all {B : Hp} : ∀ (qs : List (V × D)), (∀ q ∈ qs, Rep Γ B q.2 q.1) → Reps Γ B (qs.map (·.2)) (qs.map (·.1))
  | [], _ => rfl
  | q :: qs, h => ⟨q.1, qs.map (·.1), rfl, h q (List.mem_cons_self ..), Reps.of_all qs fun z hz => h z (List.mem_cons_of_mem _ hz)⟩
theorem zip_fst {B : Hp} {xs : List D} {vs : List V} (h : Reps Γ B xs vs) : (vs.zip xs).map (·.1) = vs := by
  rw [List.map_fst_zip (by rw [h.length]; exact Nat.le_refl _)]
theorem zip_snd {B : Hp} {xs : List D} {vs : List V} (h : Reps Γ B xs vs) : (vs.zip xs).map (·.2) = xs := by
  rw [List.map_snd_zip (by rw [h.length]; exact Nat.le_refl _)]
theorem sv_sortA : ServesN Γ W (rSortedA Γ.K) gSortA := by
  intro ds ent env σ B H P0 vs Q hg s r h0 q
  match ds, hg, r with
  | [d], hg, r =>
    replace hg : pickS (gSorted [d]) d = some ent := hg
    cases hi : gSorted [d] with
    | some e =>
      rw [hi] at hg
      cases hg
      exact .inl (sv_sorted hi s r h0 q)
    | none =>
      rw [hi] at hg
      unfold pickS at hg
      obtain ⟨v, rfl, rv⟩ := r.one
      cases e : lstOf d with
      | none => simp [e] at hg
      | some xs =>
        simp only [e, Option.bind_some] at hg
        split at hg
        · rename_i ok
          cases hg
          obtain ⟨p, vs, rfl, hq, hr⟩ := rv.list s.same e
          unfold okSort allAl at ok
          simp only [Bool.and_eq_true, Bool.or_eq_true, List.all_eq_true] at ok
          obtain ⟨ok1, ok2, ok3⟩ := ok
          have hall := hr.all
          refine .inr ⟨p, (vs.zip xs).map fun z => (z.1, z.2.py), rfl, ?_, ?_, ?_, ?_, ?_, fun p' hp' => ?_⟩
          · rw [List.map_map]
            show SqL Γ.K H p ((vs.zip xs).map (·.1))
            rw [zip_fst hr]
            exact hq
          · intro z hz
            obtain ⟨w, hw, rfl⟩ := List.mem_map.mp hz
            have hx : w.2 ∈ xs := by
              have := List.mem_map_of_mem (f := fun z : V × D => z.2) hw
              rw [zip_snd hr] at this
              exact this
            exact RepT.dp s.same (shp_up _ (shps_all ok1 _ hx) (by decide)) (.inl (hall w hw))
          · intro d hd d' hd'
            rw [List.map_map] at hd hd'
            obtain ⟨w, hw, rfl⟩ := List.mem_map.mp hd
            obtain ⟨w', hw', rfl⟩ := List.mem_map.mp hd'
            have hx := List.mem_map_of_mem (f := fun z : V × D => z.2) hw
            have hx' := List.mem_map_of_mem (f := fun z : V × D => z.2) hw'
            rw [zip_snd hr] at hx hx'
            exact ok2 _ hx _ hx'
          · rw [List.map_map]
            have e2 : (vs.zip xs).map ((fun x : VP => x.2) ∘ fun z => (z.1, z.2.py)) = xs.map D.py := by
              conv => rhs; rw [← zip_snd hr, List.map_map]
              rfl
            rw [e2]
            rcases ok3 with ok3 | ok3
            · refine .inl fun d hd => ?_
              obtain ⟨x, hx, rfl⟩ := List.mem_map.mp hd
              have := ok3 x hx
              cases x with
              | tup ys => cases ys with
                | nil => cases this
                | cons y ys => exact ⟨y.py, pys ys, rfl⟩
              | _ => cases this
            · refine .inr fun d hd => ?_
              obtain ⟨x, hx, rfl⟩ := List.mem_map.mp hd
              have := ok3 x hx
              cases x with
              | non => cases this
              | tup _ => cases this
              | ins _ _ _ => cases this
              | fn _ => cases this
              | _ => exact ⟨fun z => by simp [D.py] at z, fun xs z => by simp [D.py] at z⟩
          · intro z hz
            obtain ⟨w, hw, rfl⟩ := List.mem_map.mp hz
            have hx := List.mem_map_of_mem (f := fun z : V × D => z.2) hw
            rw [zip_snd hr] at hx
            exact (shp_ok 32 _ (shps_all ok1 _ hx)).2
          · have key : ((vs.zip xs).mergeSort fun a b => dle a.2 b.2).map (fun z => (z.1, z.2.py)) = ((vs.zip xs).map fun z => (z.1, z.2.py)).mergeSort leP := List.map_mergeSort fun a _ b _ => rfl
            have key2 : ((vs.zip xs).mergeSort fun a b => dle a.2 b.2).map (·.2) = xs.mergeSort dle := by
              rw [List.map_mergeSort (s := dle) fun a _ b _ => rfl, zip_snd hr]
            have rr := Reps.of_all (Γ := Γ) (B := B) ((vs.zip xs).mergeSort fun a b => dle a.2 b.2) fun z hz => hall z ((List.mergeSort_perm _ _).mem_iff.mp hz)
            rw [key2] at rr
            have e3 : ((((vs.zip xs).map fun z => (z.1, z.2.py)).mergeSort leP).map (·.1)) = ((vs.zip xs).mergeSort fun a b => dle a.2 b.2).map (·.1) := by
              rw [← key, List.map_map]
              rfl
            rw [e3]
            exact Post.newL h0 s q rr hp'
        · cases hg
  | [], hg, _ => cases hg
  | _ :: _ :: _, hg, _ => cases hg
/-! ### min and max of data that are alike -/
def rMinDt (K : PySem.W.Frag) (mx : Bool) : List V → Hp → VK → Prop := fun vs H Q => ∃ (a : Addr) (z0 : VP) (zs : List VP), vs = [.ref a] ∧ (SqL K H a ((z0 :: zs).map (·.1)) ∨ SqT K H a ((z0 :: zs).map (·.1))) ∧ (∀ z ∈ z0 :: zs, Dp K H z.1 z.2) ∧ PySem.W.AlikeAll ((z0 :: zs).map (·.2)) ∧ (∀ z ∈ z0 :: zs, z.2.depth ≤ 32) ∧
  ∀ z ∈ z0 :: zs, z.2 = (if mx = true then PySem.W.maxD z0.2 (zs.map (·.2)) else PySem.W.minD z0.2 (zs.map (·.2))) → Q z.1 H
theorem vals_get {xs : List V} {us : List Value} (r : Vals xs us) : ∀ {i : Nat} {u : Value}, us[i]? = some u → ∃ x, xs[i]? = some x ∧ RelV x u := by
  induction r with
  | nil => intro i u h; simp at h
  | cons r1 r2 ih =>
    intro i u h
    cases i with
    | zero => exact ⟨_, rfl, by cases (Option.some.inj (show some _ = some u from h)); exact r1⟩
    | succ i => exact ih (by simpa using h)
theorem dAll_le {n : Nat} : ∀ {ds : List PyData}, (∀ d ∈ ds, d.depth ≤ n) → PyData.depthAll ds ≤ n
  | [], _ => by simp [PyData.depthAll]
  | d :: ds, h => by
    have h1 := h d (List.mem_cons_self ..)
    have h2 := dAll_le fun e he => h e (List.mem_cons_of_mem d he)
    simp only [PyData.depthAll]
    omega
theorem minD_mem : ∀ (xs : List PyData) (x : PyData), PySem.W.minD x xs ∈ x :: xs
  | [], x => List.mem_singleton.mpr rfl
  | y :: xs, x => by
    show PySem.W.minD (if PySem.W.dataLt y x = true then y else x) xs ∈ _
    rcases List.mem_cons.mp (minD_mem xs (if PySem.W.dataLt y x = true then y else x)) with h | h
    · rw [h]
      split <;> simp
    · simp [h]
theorem maxD_mem : ∀ (xs : List PyData) (x : PyData), PySem.W.maxD x xs ∈ x :: xs
  | [], x => List.mem_singleton.mpr rfl
  | y :: xs, x => by
    show PySem.W.maxD (if PySem.W.dataLt x y = true then y else x) xs ∈ _
    rcases List.mem_cons.mp (maxD_mem xs (if PySem.W.dataLt x y = true then y else x)) with h | h
    · rw [h]
      split <;> simp
    · simp [h]
theorem dps_of {K : PySem.W.Frag} {H : Hp} : ∀ {zs : List VP}, (∀ z ∈ zs, Dp K H z.1 z.2) → DpAll K H (zs.map (·.1)) (zs.map (·.2))
  | [], _ => .nil
  | z :: zs, h => .cons (h z (List.mem_cons_self ..)) (dps_of fun y hy => h y (List.mem_cons_of_mem _ hy))
theorem cr_minDt {X : Cx} {mx : Bool} (hc : X.calm = true) (hu : X.A.units + 64 < cLine) : CallR X (.builtin (if mx = true then "max" else "min")) (rMinDt X.K mx) := by
  intro pins s σ H vs us Q I r h
  obtain ⟨a, z0, zs, rfl, hs, hd, ha, hdep, q⟩ := h
  obtain ⟨u, rfl, ru⟩ := vals1 r
  obtain rfl : u = Value.ref a := ru
  have hdp : PyData.depthAll ((z0 :: zs).map (·.2)) ≤ 32 := dAll_le fun d hd => by
    obtain ⟨z, hz, rfl⟩ := List.mem_map.mp hd
    exact hdep z hz
  have hu' : X.A.units + 1 + PyData.depthAll ((z0 :: zs).map (·.2)) < cLine := by omega
  have hm : (if mx = true then PySem.W.maxD z0.2 (zs.map (·.2)) else PySem.W.minD z0.2 (zs.map (·.2))) ∈ (z0 :: zs).map (·.2) := by
    cases mx with
    | true => exact maxD_mem _ _
    | false => exact minD_mem _ _
  have fin : ∀ {its : List Value}, Vals ((z0 :: zs).map (·.1)) its → ∀ (i : Nat) v h' tk bs, its.toArray[i]? = some v → Reads h' v (if mx = true then PySem.W.maxD z0.2 (zs.map (·.2)) else PySem.W.minD z0.2 (zs.map (·.2))) bs → (∀ b o, s.heap.get? b = some o → h'.get? b = some o) → EP X pins σ Q v { s with heap := h', toks := tk } := fun rv i v h' tk bs hv hr hk => by
    obtain ⟨x, hx, rx⟩ := vals_get rv (by simpa using hv)
    rw [List.getElem?_map] at hx
    cases hz : (z0 :: zs)[i]? with
    | none => rw [hz] at hx; cases hx
    | some z =>
      rw [hz] at hx
      have e : z.1 = x := Option.some.inj hx
      subst e
      have hm2 : z ∈ z0 :: zs := List.mem_of_getElem? hz
      obtain ⟨as, r1⟩ := Dp.reads I z.2 z.1 v (hd z hm2) rx
      have eq := PySem.W.alike_unique (h := h') z.2 _ v as bs (ha.1 _ (List.mem_map_of_mem (f := fun z : VP => z.2) hm2) _ hm) (PySem.W.reads_keeps hk r1) hr
      exact ⟨z.1, H, I.kept (t' := tk) hk, rx, q z hm2 eq⟩
  rcases hs with hs | hs
  · obtain ⟨its, rv, hl, hz⟩ := I.list hs
    obtain ⟨as, ra⟩ := Dp.readsAll I _ _ _ (dps_of hd) rv
    cases mx with
    | true => exact PySem.W.max_list_data (I.ok.hd hc) hl.isList (by simpa using ra) ha hu' (fin rv)
    | false => exact PySem.W.min_list_data (I.ok.hd hc) hl.isList (by simpa using ra) ha hu' (fin rv)
  · obtain ⟨its, rv, hl, hz⟩ := I.tuple hs
    obtain ⟨as, ra⟩ := Dp.readsAll I _ _ _ (dps_of hd) rv
    cases mx with
    | true => exact PySem.W.max_tuple_data (I.ok.hd hc) hl (by simpa using ra) ha hu' (fin rv)
    | false => exact PySem.W.min_tuple_data (I.ok.hd hc) hl (by simpa using ra) ha hu' (fin rv)
mutual
/-- no frozen lists from outside, no instance within -/
def cln : D → Bool
  | .non => true
  | .bl _ => true
  | .int _ => true
  | .str _ => true
  | .tup xs => clns xs
  | .lst xs => clns xs
  | _ => false
def clns : List D → Bool
  | [] => true
  | d :: ds => cln d && clns ds
end
mutual
theorem py_inj : ∀ (a b : D), cln a = true → cln b = true → a.py = b.py → a = b
  | .non, b, _, hb, e => by cases b <;> first | rfl | (simp [D.py] at e; done) | cases hb
  | .bl x, b, _, hb, e => by cases b <;> first | (simp only [D.py, PyData.bool.injEq] at e; rw [e]; done) | (simp [D.py] at e; done) | cases hb
  | .int x, b, _, hb, e => by cases b <;> first | (simp only [D.py, PyData.int.injEq] at e; rw [e]; done) | (simp [D.py] at e; done) | cases hb
  | .str x, b, _, hb, e => by cases b <;> first | (simp only [D.py, PyData.str.injEq] at e; rw [e]; done) | (simp [D.py] at e; done) | cases hb
  | .tup xs, b, ha, hb, e => by
    cases b with
    | tup ys =>
      simp only [D.py, PyData.tuple.injEq] at e
      rw [pys_inj xs ys ha hb e]
    | ins _ _ _ => cases hb
    | fn _ => cases hb
    | fl _ => cases hb
    | _ => simp [D.py] at e
  | .lst xs, b, ha, hb, e => by
    cases b with
    | lst ys =>
      simp only [D.py, PyData.list.injEq] at e
      rw [pys_inj xs ys ha hb e]
    | ins _ _ _ => cases hb
    | fn _ => cases hb
    | fl _ => cases hb
    | _ => simp [D.py] at e
  | .fl _, _, ha, _, _ => by cases ha
  | .ins _ _ _, _, ha, _, _ => by cases ha
  | .fn _, _, ha, _, _ => by cases ha
theorem pys_inj : ∀ (xs ys : List D), clns xs = true → clns ys = true → pys xs = pys ys → xs = ys
  | [], [], _, _, _ => rfl
  | [], _ :: _, _, _, e => by simp [pys] at e
  | _ :: _, [], _, _, e => by simp [pys] at e
  | x :: xs, y :: ys, ha, hb, e => by
    have ha' : cln x = true ∧ clns xs = true := by simpa [clns] using ha
    have hb' : cln y = true ∧ clns ys = true := by simpa [clns] using hb
    simp only [pys, List.cons.injEq] at e
    rw [py_inj x y ha'.1 hb'.1 e.1, pys_inj xs ys ha'.2 hb'.2 e.2]
end
theorem clns_all : ∀ {xs : List D}, clns xs = true → ∀ x ∈ xs, cln x = true
  | x :: xs, h, y, hy => by
    have h' : cln x = true ∧ clns xs = true := by simpa [clns] using h
    rcases List.mem_cons.mp hy with rfl | hy
    · exact h'.1
    · exact clns_all h'.2 y hy
def okMin (xs : List D) : Bool := shps 32 xs && (allAl xs && ((xs.all fun x => !x.isN) && clns xs))
def minDd (x : D) (r : List D) : D := r.foldl (fun a y => if PySem.W.dataLt y.py a.py = true then y else a) x
def maxDd (x : D) (r : List D) : D := r.foldl (fun a y => if PySem.W.dataLt a.py y.py = true then y else a) x
theorem minDd_mem : ∀ (xs : List D) (x : D), minDd x xs ∈ x :: xs
  | [], x => List.mem_singleton.mpr rfl
  | y :: xs, x => by
    show minDd (if PySem.W.dataLt y.py x.py = true then y else x) xs ∈ _
    rcases List.mem_cons.mp (minDd_mem xs (if PySem.W.dataLt y.py x.py = true then y else x)) with h | h
    · rw [h]
      split <;> simp
    · simp [h]
theorem maxDd_mem : ∀ (xs : List D) (x : D), maxDd x xs ∈ x :: xs
  | [], x => List.mem_singleton.mpr rfl
  | y :: xs, x => by
    show maxDd (if PySem.W.dataLt x.py y.py = true then y else x) xs ∈ _
    rcases List.mem_cons.mp (maxDd_mem xs (if PySem.W.dataLt x.py y.py = true then y else x)) with h | h
    · rw [h]
      split <;> simp
    · simp [h]
theorem minDd_py : ∀ (xs : List D) (x : D), (minDd x xs).py = PySem.W.minD x.py (xs.map D.py)
  | [], x => rfl
  | y :: xs, x => by
    show (minDd (if PySem.W.dataLt y.py x.py = true then y else x) xs).py = PySem.W.minD (if PySem.W.dataLt y.py x.py = true then y.py else x.py) (xs.map D.py)
    rw [minDd_py]
    congr 1
    split <;> rfl
theorem maxDd_py : ∀ (xs : List D) (x : D), (maxDd x xs).py = PySem.W.maxD x.py (xs.map D.py)
  | [], x => rfl
  | y :: xs, x => by
    show (maxDd (if PySem.W.dataLt x.py y.py = true then y else x) xs).py = PySem.W.maxD (if PySem.W.dataLt x.py y.py = true then y.py else x.py) (xs.map D.py)
    rw [maxDd_py]
    congr 1
    split <;> rfl
def pickM (mx : Bool) : Option Ent → D → Option Ent
  | some r, _ => some r
  | none, d => d.its.bind fun xs => match xs with
    | [] => none
    | x :: r => if okMin (x :: r) = true then some (.val (if mx = true then maxDd x r else minDd x r)) else none
def gMinA : List D → Option Ent
  | [d] => pickM false (gMinL [d]) d
  | _ => none
def gMaxA : List D → Option Ent
  | [d] => pickM true (gMaxL [d]) d
  | _ => none
theorem reps_zip {B : Hp} {x : D} {r : List D} {vs : List V} (hr : Reps Γ B (x :: r) vs) : ∃ (z0 : VP) (zs : List VP), (z0 :: zs).map (·.1) = vs ∧ (z0 :: zs).map (·.2) = (x :: r).map D.py ∧ ∀ z ∈ z0 :: zs, ∃ d ∈ x :: r, z.2 = d.py ∧ Rep Γ B d z.1 := by
  obtain ⟨v, ws, rfl, e2, e3⟩ := id hr
  refine ⟨(v, x.py), (ws.zip r).map fun z => (z.1, z.2.py), ?_, ?_, ?_⟩
  · rw [List.map_cons, List.map_map]
    show v :: (ws.zip r).map (·.1) = _
    rw [zip_fst e3]
  · rw [List.map_cons, List.map_cons, List.map_map]
    show x.py :: (ws.zip r).map (fun z => z.2.py) = _
    congr 1
    conv => rhs; rw [← zip_snd e3, List.map_map]
    rfl
  · intro z hz
    rcases List.mem_cons.mp hz with rfl | hz
    · exact ⟨x, List.mem_cons_self .., rfl, e2⟩
    · obtain ⟨w, hw, rfl⟩ := List.mem_map.mp hz
      have hx := List.mem_map_of_mem (f := fun z : V × D => z.2) hw
      rw [zip_snd e3] at hx
      exact ⟨w.2, List.mem_cons_of_mem _ hx, rfl, e3.all w hw⟩
theorem sv_pickM {mx : Bool} {d : D} {ent : Ent} {env : Sto} {σ : L2.St} {B H : Hp} {P0 : Addr → Prop} {v : V} {Q : VK} (hg : pickM mx none d = some ent) (s : StOk Γ env σ B H) (rv : RepT Γ B H d v) (q : Post Γ W env σ B H (fun r env' B' H' => ∀ v, RetOk Γ P0 env' σ B' H' r v → Q v H') (.ok ent env)) : rMinDt Γ.K mx [v] H Q := by
  unfold pickM at hg
  cases e : d.its with
  | none => simp [e] at hg
  | some xs =>
    cases xs with
    | nil => simp [e] at hg
    | cons x r =>
      simp only [e, Option.bind_some] at hg
      split at hg
      · rename_i ok
        cases hg
        obtain ⟨p, vs, rfl, hq, hr⟩ := rv.seq s.same e
        unfold okMin allAl at ok
        simp only [Bool.and_eq_true, List.all_eq_true] at ok
        obtain ⟨ok1, ok2, ok3, ok4⟩ := ok
        obtain ⟨z0, zs, hz1, hz2, hz3⟩ := reps_zip hr
        refine ⟨p, z0, zs, rfl, by rw [hz1]; exact hq, ?_, ?_, ?_, ?_⟩
        · intro z hz
          obtain ⟨d, hd, e1, e2⟩ := hz3 z hz
          rw [e1]
          exact RepT.dp s.same (shp_up _ (shps_all ok1 _ hd) (by decide)) (.inl e2)
        · rw [hz2]
          refine ⟨fun a ha b hb => ?_, fun a ha => ?_⟩
          · obtain ⟨a', ha', rfl⟩ := List.mem_map.mp ha
            obtain ⟨b', hb', rfl⟩ := List.mem_map.mp hb
            exact ok2 _ ha' _ hb'
          · obtain ⟨a', ha', rfl⟩ := List.mem_map.mp ha
            have n := ok3 _ ha'
            cases a' with
            | non => cases n
            | ins _ _ _ => exact fun z => by simp [D.py] at z
            | fn _ => exact fun z => by simp [D.py] at z
            | _ => exact fun z => by simp [D.py] at z
        · intro z hz
          obtain ⟨d, hd, e1, e2⟩ := hz3 z hz
          rw [e1]
          exact (shp_ok 32 _ (shps_all ok1 _ hd)).2
        · intro z hz hm
          obtain ⟨d, hd, e1, e2⟩ := hz3 z hz
          rw [List.map_cons, List.map_cons] at hz2
          have hz4 := (List.cons.inj hz2).1
          have hz5 := (List.cons.inj hz2).2
          rw [e1, hz4, hz5] at hm
          have key : d = (if mx = true then maxDd x r else minDd x r) := by
            refine py_inj _ _ (clns_all ok4 _ hd) (clns_all ok4 _ ?_) ?_
            · split
              · exact maxDd_mem _ _
              · exact minDd_mem _ _
            · rw [hm]
              split
              · exact (maxDd_py _ _).symm
              · exact (minDd_py _ _).symm
          rw [← key] at q
          exact Post.val s q e2
      · cases hg
theorem sv_minA : ServesN Γ W (fun vs H Q => rMin Γ.K vs H Q ∨ rMinDt Γ.K false vs H Q) gMinA := by
  intro ds ent env σ B H P0 vs Q hg s r h0 q
  match ds, hg, r with
  | [d], hg, r =>
    replace hg : pickM false (gMinL [d]) d = some ent := hg
    cases hi : gMinL [d] with
    | some e =>
      rw [hi] at hg
      cases hg
      exact .inl (sv_minL hi s r h0 q)
    | none =>
      rw [hi] at hg
      obtain ⟨v, rfl, rv⟩ := r.one
      exact .inr (sv_pickM hg s rv q)
  | [], hg, _ => cases hg
  | _ :: _ :: _, hg, _ => cases hg
theorem sv_maxA : ServesN Γ W (fun vs H Q => rMax Γ.K vs H Q ∨ rMinDt Γ.K true vs H Q) gMaxA := by
  intro ds ent env σ B H P0 vs Q hg s r h0 q
  match ds, hg, r with
  | [d], hg, r =>
    replace hg : pickM true (gMaxL [d]) d = some ent := hg
    cases hi : gMaxL [d] with
    | some e =>
      rw [hi] at hg
      cases hg
      exact .inl (sv_maxL hi s r h0 q)
    | none =>
      rw [hi] at hg
      obtain ⟨v, rfl, rv⟩ := r.one
      exact .inr (sv_pickM hg s rv q)
  | [], hg, _ => cases hg
  | _ :: _ :: _, hg, _ => cases hg
theorem cr_minA {X : Cx} (hc : X.calm = true) (hu : X.A.units + 64 < cLine) : CallR X (.builtin "min") (fun vs H Q => rMin X.K vs H Q ∨ rMinDt X.K false vs H Q) := by
  intro pins s σ H vs us Q I r h
  rcases h with h | h
  · exact cr_min hc pins s σ H vs us Q I r h
  · exact cr_minDt (mx := false) hc hu pins s σ H vs us Q I r h
theorem cr_maxA {X : Cx} (hc : X.calm = true) (hu : X.A.units + 64 < cLine) : CallR X (.builtin "max") (fun vs H Q => rMax X.K vs H Q ∨ rMinDt X.K true vs H Q) := by
  intro pins s σ H vs us Q I r h
  rcases h with h | h
  · exact cr_max hc pins s σ H vs us Q I r h
  · exact cr_minDt (mx := true) hc hu pins s σ H vs us Q I r h
end
end Ev

set_option Elab.async false
set_option linter.all false
set_option maxRecDepth 100000
set_option maxHeartbeats 4000000
/-! comprehensions of any number of clauses -/
namespace Ev
open PySem PySem.Spec PyProof.Rows L2
/-! ### one turn, at any clause -/
section
variable {elt : Expr} {gs : List Comprehension} {scope : Scope} {pos : Pos} {k : Nat} {t i : Expr} {ifs : List Expr}
/-- what a turn of clause k does behind its tests, and then κ -/
def bodyK (elt : Expr) (gs : List Comprehension) (scope : Scope) (pos : Pos) (k : Nat) (acc : Value) (env : Env) (κ : Sem Fin) : Sem Fin :=
  match gs[k + 1]? with
  | some g' => do
    let x ← eval g'.iter env
    standAt g'.iter.pos
    let x ← foldedSetIterable g'.iter env x
    let _ ← runOwn (.compStart (.ListComp elt gs scope pos) (k + 1) (← holding [x] (pyIter x)) acc env) env
    κ
  | none => do
    (do let _ ← call (.builtin "list.append") [acc, ← eval elt env])
    κ
/-- the clause behind is none, or a plain one -/
def Plain (gs : List Comprehension) (k : Nat) : Prop := gs[k]? = none ∨ ∃ t i ifs, gs[k]? = some ⟨t, i, ifs, 0⟩
/-- the next value, stepped out of its iterator's own tuple where it is one -/
def draw (t : Expr) (it : Value) : Sem (Option Value) := do
  match ← pyNext it with
  | none => pure none
  | some v =>
    letOwnedTupleGo t it v
    pure (some v)
/-- .. given to the target, and asked: what the tests say -/
def pick (t : Expr) (ifs : List Expr) (it : Value) (env : Env) : Sem (Option Bool) := do
  match ← draw t it with
  | none => pure none
  | some v =>
    assign t env v
    some <$> (forIn ifs true fun c r => if r = true then do let ok ← isTrue c env (eval c env); pure (ForInStep.yield ok) else pure (ForInStep.yield r))
theorem compTurn_at (h : gs[k]? = some ⟨t, i, ifs, 0⟩) (hn : Plain gs (k + 1)) (it acc : Value) (env : Env) :
    compTurn (.ListComp elt gs scope pos) k it acc env = (do
      standAt i.pos
      match ← pick t ifs it env with
      | none => pure (.done .next)
      | some true => bodyK elt gs scope pos k acc env (again (.compLoop (.ListComp elt gs scope pos) k it acc env))
      | some false => again (.compLoop (.ListComp elt gs scope pos) k it acc env)) := by
  have e : compTurn (.ListComp elt gs scope pos) k it acc env = (do
      standAt i.pos
      match ← pyNext it with
      | none => pure (.done .next)
      | some v =>
        letOwnedTupleGo t it v
        assign t env v
        let ok ← forIn ifs true fun c r => if r = true then do let ok ← isTrue c env (eval c env); pure (ForInStep.yield ok) else pure (ForInStep.yield r)
        if ok = true then bodyK elt gs scope pos k acc env (again (.compLoop (.ListComp elt gs scope pos) k it acc env))
        else again (.compLoop (.ListComp elt gs scope pos) k it acc env)) := by
    unfold compTurn bodyK
    rcases hn with hn | ⟨t', i', ifs', hn⟩ <;> (simp only [h, hn]; rfl)
  rw [e]
  unfold pick draw
  refine congrArg (standAt i.pos >>= ·) (funext fun _ => ?_)
  simp only [bind_assoc]
  refine congrArg (pyNext it >>= ·) (funext fun r => ?_)
  cases r with
  | none => rfl
  | some v =>
    simp only [bind_assoc, pure_bind, bind_map_left]
    refine congrArg (letOwnedTupleGo t it v >>= ·) (funext fun _ => congrArg (assign t env v >>= ·) (funext fun _ => congrArg (_ >>= ·) (funext fun ok => ?_)))
    cases ok <;> rfl
variable {prog : Program} {w : World} {A : Around} {R : Result → Shared → Prop} {s : Shared} {it acc : Value} {env : Env}
/-- the turns one behind the other: I what stands ahead of a turn of measure n -/
theorem loops (hg : gs[k]? = some ⟨t, i, ifs, 0⟩) (hn : Plain gs (k + 1)) (I : Nat → Shared → Prop)
    (turn : ∀ n s, I n s → wpAny (model prog w) A (pick t ifs it env) (fun r s' => match r with
      | none => R (.ok .next) s'
      | some false => ∃ m, m < n ∧ I m s'
      | some true => ∀ (κ : Sem Fin) (Q : Fin → Shared → Prop) (E : Value → Shared → Prop), (∀ s₂, (∃ m, m < n ∧ I m s₂) → wpAny (model prog w) A κ Q E s₂) → wpAny (model prog w) A (bodyK elt gs scope pos k acc env κ) Q E s') (fun _ _ => False) s)
    (n : Nat) (h : I n s) : codeAny (model prog w) A (.compLoop (.ListComp elt gs scope pos) k it acc env) R s := by
  have one : ∀ n s, I n s → wpAny (model prog w) A (compTurn (.ListComp elt gs scope pos) k it acc env) (fun fin s' => match fin with | .done f => R (.ok f) s' | .again c' => c' = .compLoop (.ListComp elt gs scope pos) k it acc env ∧ ∃ m, m < n ∧ I m s') (notedBy (model prog w) A env fun e s' => R (.error e) s') s := fun n s hI => by
    rw [compTurn_at hg hn]
    refine wpAny_bind (wpAny_standAt (wpAny_bind (thnF (turn n s hI) fun r s' after => ?_)))
    match r, after with
    | none, q => exact wpAny_pure q
    | some false, q => exact wpAny_pure ⟨rfl, q⟩
    | some true, q => exact q _ _ _ fun _ q' => wpAny_pure ⟨rfl, q'⟩
  exact codeAny_loop rfl I (fun n s hI => wpAny_noted (m := compTurn (.ListComp elt gs scope pos) k it acc env) (one n s hI)) n h
theorem compStart_at (hg : gs[k]? = some ⟨t, i, ifs, 0⟩) (h0 : codeAny (model prog w) A (.compLoop (.ListComp elt gs scope pos) k it acc env) R s)
    (h : wpAny (model prog w) A (pyIter it) (fun it' s' => codeAny (model prog w) A (.compLoop (.ListComp elt gs scope pos) k it' acc env) R s') (notedBy (model prog w) A env fun x s' => R (.error x) s') s) :
    codeAny (model prog w) A (.compStart (.ListComp elt gs scope pos) k it acc env) R s := by
  refine codeAny_of_tree ?_
  show wpAny _ _ ((compStart (.ListComp elt gs scope pos) k it acc env).onRaise (fun x => do noteFrame x env; standAt theWindowsPlace)) _ _ s
  refine wpAny_notedAt ?_
  have e : compStart (.ListComp elt gs scope pos) k it acc env = (do
      if (← ask).params.followText "comprehension-iter-twice" then return ← again (.compLoop (.ListComp elt gs scope pos) k it acc env)
      rule "comprehension.iter-twice"
      standAt i.pos
      again (.compLoop (.ListComp elt gs scope pos) k (← pyIter it) acc env)) := by
    unfold compStart
    have c : clausesOf (.ListComp elt gs scope pos) = gs := rfl
    simp only [c, hg]
    rfl
  rw [e]
  refine wpAny_bind (wpAny_askSetting (wpAny_ite ?_))
  split
  · first
      | exact wpAny_bind (wpAny_pure (wpAny_pure (And.intro rfl h0)))
      | exact wpAny_pure (And.intro rfl h0)
  · exact wpAny_bind (wpAny_rule (wpAny_bind (wpAny_standAt (wpAny_bind (wpAny_mono h (fun it' s' h' => wpAny_pure (And.intro rfl h')) fun _ _ x => x)))))
end
/-! ### what stands behind a clause's tests, by the abstract heap -/
abbrev TN := L2.St → Hp → (Hp → Prop) → Prop
def Keeps (vs : List Nat) (σ σ' : L2.St) : Prop := (L2.wipe σ vs).length = σ'.length ∧ ∀ (j : Nat) v, (L2.wipe σ vs)[j]? = some (some v) → σ'[j]? = some (some v)
def RestOk (X : Cx) (body : Sem Fin → Sem Fin) (vs : List Nat) (tr : TN) : Prop := ∀ (pins : List (Addr × Obj)) (s : Shared) (σ : L2.St) (H : Hp) (Nx : Hp → Prop), Inv X pins σ H s → tr σ H Nx →
  ∀ (κ : Sem Fin) (Q : Fin → Shared → Prop) (E : Value → Shared → Prop), (∀ s' σ' H', Inv X pins σ' H' s' → Keeps vs σ σ' → Nx H' → wpAny (model X.prog X.w) X.A κ Q E s') → wpAny (model X.prog X.w) X.A (body κ) Q E s
def tEnd (te : TE) (D : Addr) : TN := fun σ H Nx => te σ H fun y H1 => ∃ acc, H1 D = some (.lst acc) ∧ acc.length < sizeLine ∧ Nx (upd H1 D (.lst (acc ++ [y])))
/-- the turns of a clause -/
def tTurn (J : It) (g : TG) (tt : TT) (vs : List Nat) (r : TN) (σ : L2.St) (Nx : Hp → Prop) (H1 : Hp) : Prop := ∃ W : Nat → Nat → Hp → Prop, (∃ m, W 0 m H1) ∧ ∀ j k H, W j k H →
  (J.stop j H ∧ Nx H) ∨ (J.go j H ∧ ∃ Nx1 : Hp → Prop, (∀ H', Nx1 H' → ∃ k', k' < k ∧ W (j + 1) k' H') ∧ ∀ x H', J.yld j H x H' → g x (L2.wipe σ vs) H' fun σ3 H5 => L2.wipe σ3 vs = L2.wipe σ vs ∧ tt σ3 H5 fun b H6 =>
    if b = true then r σ3 H6 Nx1 else Nx1 H6)
def tCls (wi : TI) (g : TG) (tt : TT) (vs : List Nat) (r : TN) : TN := fun σ H Nx => wi σ H fun J H1 => tTurn J g tt vs r σ Nx H1
/-! ### an iterator that is walked within one context -/
/-- fp the iterator's own objects, tn where it stands -/
structure Roams (X : Cx) (t : Expr) (J : It) (fp : List Addr) (it : Addr) (tn : Nat → Heap → Prop) : Prop where
  held : ∀ {i h}, tn i h → ∀ b ∈ fp, ∃ o, h.get? b = some o ∧ ∀ v, o.data ≠ .cell v
  keep : ∀ {i h h'}, tn i h → (∀ b ∈ fp, ∀ o, h.get? b = some o → h'.get? b = some o) → tn i h'
  self : ∀ {A i s} {Q : Value → Shared → Prop} {E : Value → Shared → Prop}, tn i s.heap → Q (.ref it) s → wpAny (model X.prog X.w) A (pyIter (.ref it)) Q E s
  over : ∀ {i pins s σ H}, Inv X pins σ H s → (∀ b ∈ fp, FpOk X pins H b) → tn i s.heap → J.stop i H → wpAny (model X.prog X.w) X.A (draw t (.ref it)) (fun r s' => r = none ∧ Inv X pins σ H s') (fun _ _ => False) s
  item : ∀ {i pins s σ H}, Inv X pins σ H s → (∀ b ∈ fp, FpOk X pins H b) → tn i s.heap → J.go i H →
    wpAny (model X.prog X.w) X.A (draw t (.ref it)) (fun r s' => ∃ u x H', r = some u ∧ RelV x u ∧ J.yld i H x H' ∧ Inv X pins σ H' s' ∧ tn (i + 1) s'.heap ∧ ∀ b ∈ fp, H' b = none) (fun _ _ => False) s
theorem roams_of {X : Cx} {t : Expr} {J : It} {fp : List Addr} {it : Addr} {tn : Nat → Heap → Prop} (T : Turn X.prog X.w X.K t J fp it tn) (c : X.calm = true) : Roams X t J fp it tn where
  held st := T.obj _ _ st
  keep st := T.keep _ _ _ st
  self st q := T.self _ _ _ _ _ st q
  over I own st stop := wpAny_bind (thnF (T.done X rfl rfl rfl c _ _ _ _ _ (fun _ _ => False) I own st stop) fun r s' ⟨e, I'⟩ => by subst e; exact wpAny_pure ⟨rfl, I'⟩)
  item I own st go := wpAny_bind (thnF (T.item X rfl rfl rfl c _ _ _ _ _ (fun _ _ => False) I own st go) fun r s' ⟨u, e, q⟩ => by
    subst e
    exact wpAny_bind (thnF q fun _ s2 ⟨x, H', I', r', y, st', no⟩ => wpAny_pure ⟨u, x, H', rfl, r', y, I', st', no⟩))
section
variable {X : Cx} {elt : Expr} {gs : List Comprehension} {scope : Scope} {pos : Pos} {k : Nat} {t i : Expr} {ifs : List Expr} {wi : TI} {g : TG} {tt : TT} {te : TE} {vs vs' : List Nat} {r : TN} {D : Addr}
theorem keeps_self {σ : L2.St} : Keeps vs σ σ := ⟨L2.wipe_length σ vs, fun j v e => (L2.wipe_some e).1⟩
theorem rest_end (hxe : X.xe = fun _ _ => False) (h : gs[k + 1]? = none) (he : PE X elt te) : RestOk X (bodyK elt gs scope pos k (.ref D) X.env) vs (tEnd te D) := fun pins s σ H Nx I q κ Q E hk => by
  unfold bodyK
  rw [h]
  have per := he.run _ s σ H _ I q
  rw [hxe] at per
  exact wpAny_bind (wpAny_bind (thnF per fun z s1 ⟨y, H1, I1, r1, acc, hD, hz, nx⟩ => wpAny_bind (app_ok I1 hD hz r1 fun s2 I2 => wpAny_pure (hk _ σ _ I2 keeps_self nx))))
theorem Keeps.back {pins : List (Addr × Obj)} {s : Shared} {σ σ5 σ' : L2.St} {H : Hp} (kp : Keeps vs' σ5 σ') (hsub : ∀ v ∈ vs', v ∈ vs) (e : L2.wipe σ5 vs = L2.wipe σ vs) (I : Inv X pins σ' H s) : Inv X pins (L2.wipe σ vs) H s := by
  rw [← e]
  refine I.weak (by rw [L2.wipe_length, ← kp.1, L2.wipe_length]) fun j v q => ?_
  have ⟨at5, out⟩ := L2.wipe_some q
  exact kp.2 j v ((L2.wipe_out fun z => out (hsub j z)).trans at5)
section
variable {J : It} {fp : List Addr} {it : Addr} {tn : Nat → Heap → Prop} {pins : List (Addr × Obj)} {s : Shared} {σ : L2.St} {H : Hp}
/-- the iterator stands ahead of item j, and its objects are held since h0 -/
def Kept (X : Cx) (pins : List (Addr × Obj)) (fp : List Addr) (tn : Nat → Heap → Prop) (j : Nat) (h0 : Heap) (σ : L2.St) (H : Hp) (s : Shared) : Prop := tn j h0 ∧ Inv X (pins ++ pinsAt fp h0) σ H s
theorem Kept.look {j : Nat} {h0 : Heap} (W : Roams X t J fp it tn) (p : Kept X pins fp tn j h0 σ H s) : tn j s.heap ∧ ∀ b ∈ fp, H b = none := by
  have there : ∀ b ∈ fp, ∀ o, h0.get? b = some o → s.heap.get? b = some o ∧ H b = none := fun b hb o e =>
    have z := p.2.pin (b, o) (by simp only [List.mem_append]; exact .inr (.inr (mem_pinsAt hb e)))
    And.intro z.1 z.2.1
  exact ⟨W.keep p.1 fun b hb o e => (there b hb o e).1, fun b hb => have ⟨o, e, _⟩ := W.held p.1 b hb; (there b hb o e).2⟩
/-- one turn up to its tests -/
theorem picks (hxe : X.xe = fun _ _ => False) (W : Roams X t J fp it tn) (hg : PG X t g) (ht : PTs X ifs tt) {j : Nat} {P : L2.St → Prop} {Z : L2.St → Bool → Hp → Prop} (I : Inv X pins σ H s) (own : ∀ b ∈ fp, FpOk X pins H b) (st : tn j s.heap) (go : J.go j H)
    (step : ∀ x H', J.yld j H x H' → g x σ H' fun σ3 H5 => P σ3 ∧ tt σ3 H5 (Z σ3)) :
    wpAny (model X.prog X.w) X.A (pick t ifs (.ref it) X.env) (fun r s' => ∃ b h0 σ3 H', r = some b ∧ Kept X pins fp tn (j + 1) h0 σ3 H' s' ∧ P σ3 ∧ Z σ3 b H') (fun _ _ => False) s := by
  refine wpAny_bind (thnF (W.item I own st go) ?_)
  rintro _ s1 ⟨u, x, H1, rfl, rel, y, I1, st1, no1⟩
  have I1p := I1.pinned (fun b hb => And.intro (no1 b hb) (own b hb).2) (W.held st1)
  have toTarget := hg.run _ s1 σ H1 x u _ I1p rel (step x H1 y)
  rw [hxe] at toTarget
  refine wpAny_bind (thnF toTarget ?_)
  rintro _ s2 ⟨σ3, H2, I2, p3, q2⟩
  have asked := ht.run _ s2 σ3 H2 _ I2 q2
  rw [hxe] at asked
  show wpAny _ _ (some <$> _) _ _ s2
  rw [map_eq_pure_bind]
  exact wpAny_bind (thnF asked fun b s3 ⟨H3, I3, q3⟩ => wpAny_pure ⟨b, s1.heap, σ3, H3, rfl, ⟨st1, I3⟩, p3, q3⟩)
/-- the loop of a clause -/
theorem cls_loop (hxe : X.xe = fun _ _ => False) (hk : gs[k]? = some ⟨t, i, ifs, 0⟩) (hn : Plain gs (k + 1)) (hg : PG X t g) (ht : PTs X ifs tt) (hsub : ∀ v ∈ vs', v ∈ vs) (hr : RestOk X (bodyK elt gs scope pos k (.ref D) X.env) vs' r)
    {Nx : Hp → Prop} (W : Roams X t J fp it tn) (st : tn 0 s.heap) (own : ∀ b ∈ fp, FpOk X pins H b) (I : Inv X pins (L2.wipe σ vs) H s) (q : tTurn J g tt vs r σ Nx H) :
    codeAny (model X.prog X.w) X.A (.compLoop (.ListComp elt gs scope pos) k (.ref it) (.ref D) X.env) (fun r s' => match r with
      | .ok f => f = .next ∧ ∃ H', Inv X pins (L2.wipe σ vs) H' s' ∧ Nx H'
      | .error _ => False) s := by
  obtain ⟨V, ⟨m0, v0⟩, turn⟩ := q
  refine loops hk hn (fun n s' => ∃ j H', Inv X pins (L2.wipe σ vs) H' s' ∧ (tn j s'.heap ∧ ∀ b ∈ fp, H' b = none) ∧ V j n H') ?_ m0 ⟨0, H, I, ⟨st, fun b hb => (own b hb).1⟩, v0⟩
  rintro n s1 ⟨j, H1, I1, ⟨st1, no1⟩, v1⟩
  have own1 : ∀ b ∈ fp, FpOk X pins H1 b := fun b hb => And.intro (no1 b hb) (own b hb).2
  rcases turn j n H1 v1 with ⟨stop, nx⟩ | ⟨go, Nx1, hNx1, step⟩
  · refine wpAny_bind (thnF (W.over I1 own1 st1 stop) ?_)
    rintro _ s2 ⟨rfl, I2⟩
    exact wpAny_pure ⟨rfl, H1, I2, nx⟩
  · refine thnF (picks hxe W hg ht (P := fun σ3 => L2.wipe σ3 vs = L2.wipe σ vs) (Z := fun σ3 b H6 => if b = true then r σ3 H6 Nx1 else Nx1 H6) I1 own1 st1 go step) ?_
    rintro _ s2 ⟨b, h0, σ3, H2, rfl, p, hw, z⟩
    have ends : ∀ {s' : Shared} {σ' : L2.St} {H' : Hp}, Kept X pins fp tn (j + 1) h0 σ' H' s' → Keeps vs' σ3 σ' → Nx1 H' → ∃ m, m < n ∧ ∃ j H', Inv X pins (L2.wipe σ vs) H' s' ∧ (tn j s'.heap ∧ ∀ b ∈ fp, H' b = none) ∧ V j m H' := fun p kp nx =>
      have ⟨m, lt, v⟩ := hNx1 _ nx
      ⟨m, lt, j + 1, _, (kp.back hsub hw p.2).unpinned, p.look W, v⟩
    cases b with
    | false =>
      rw [if_neg Bool.false_ne_true] at z
      exact ends p keeps_self z
    | true =>
      rw [if_pos rfl] at z
      exact fun κ Q E hκ => hr _ s2 σ3 H2 Nx1 p.2 z κ Q E fun s3 σ4 H3 I3 kp nx => hκ s3 (ends ⟨p.1, I3⟩ kp nx)
end
/-- a clause behind another one: its loop is run within the turn -/
theorem rest_cls (hxe : X.xe = fun _ _ => False) (hc : X.calm = true) (hk : gs[k + 1]? = some ⟨t, i, ifs, 0⟩) (hn : Plain gs (k + 1 + 1)) (hi : PI X t i wi) (hg : PG X t g) (ht : PTs X ifs tt) (hs : ∀ x, foldedSetIterable i X.env x = pure x) (hsub : ∀ v ∈ vs', v ∈ vs)
    (hr : RestOk X (bodyK elt gs scope pos (k + 1) (.ref D) X.env) vs' r) : RestOk X (bodyK elt gs scope pos k (.ref D) X.env) vs (tCls wi g tt vs r) := by
  intro pins s σ H Nx I q κ Q E hκ
  unfold bodyK
  rw [hk]
  have seq := hi.run pins s σ H _ I q
  rw [hxe] at seq
  refine wpAny_bind (thnF seq fun v s1 at1 => wpAny_bind (wpAny_standAt (wpAny_bind (wpAny_of_eq (hs v) (wpAny_bind (wpAny_holding (thnF at1 ?_)))))))
  rintro _ s2 ⟨it, fp, tn, J, H2, rfl, I2, T, st2, own2, q2⟩
  have loop := cls_loop hxe hk hn hg ht hsub hr (roams_of T hc) st2 own2 (I2.weak (L2.wipe_length σ vs) fun j v e => (L2.wipe_some e).1) q2
  refine wpAny_bind (wpAny_runOwn ?_ (by intro z; cases z))
  rw [Around.mark_none]
  refine codeAny_mono (compStart_at hk loop (T.self X.A 0 _ _ _ st2 loop)) fun r s' hr => ?_
  match r, hr with
  | .ok f, ⟨_, H', I', nx⟩ => exact hκ s' (L2.wipe σ vs) H' I' ⟨rfl, fun j v e => e⟩ nx
  | .error e, no => exact no.elim
end
/-! ### the outermost clause -/
def tLcN (wi : TI) (g : TG) (tt : TT) (vs : List Nat) (r : Addr → TN) : TE := fun σ H Q => wi σ H fun J H1 => ∀ D, H1 D = none → tTurn J g tt vs (r D) σ (fun H' => Q (.ref D) H') (upd H1 D (.lst []))
/-- a block's context in which the objects q are held as well -/
abbrev blkM (X : Cx) (q : List (Addr × Obj)) (s : Shared) (H : Hp) (scope : Scope) (cenv : Env) (fp : List Addr) : Cx := (X.blk s H scope cenv fp).tr q (fun _ _ => False)
/-- an iterator has come, and Wk is known of it -/
def Comes (X : Cx) (Wk : It → List Addr → Addr → (Nat → Heap → Prop) → Prop) (pins : List (Addr × Obj)) (σ : L2.St) (R : It → Hp → Prop) (itv : Value) (s2 : Shared) : Prop :=
  ∃ (it : Addr) (fp : List Addr) (tn : Nat → Heap → Prop) (J : It) (H' : Hp), itv = .ref it ∧ Inv X pins σ H' s2 ∧ Wk J fp it tn ∧ tn 0 s2.heap ∧ (∀ b ∈ fp, FpOk X pins H' b) ∧ R J H'
section
variable {X : Cx} {pins q : List (Addr × Obj)} {s : Shared} {σ : L2.St} {H : Hp} {scope : Scope} {own : List (Str × Nat)} {fp : List Addr}
/-- the environment that a block gets -/
abbrev envIn (X : Cx) (s : Shared) (scope : Scope) : Env := compEnvC scope (cellsFrom (s.heap.objs.size + 1) scope.names (cloFrom X.env.cells scope.names [])) s.heap.objs.size X.env
/-- the state in which it starts -/
abbrev inIt (s : Shared) (scope : Scope) : Shared := { s with heap := pushCells (s.heap.push { cls := .type "dict", data := .dict #[] }) scope.names }
theorem list_begun (I : Inv X pins σ H s) : Inv X pins σ (upd H s.heap.objs.size (.lst [])) { s with heap := s.heap.push { cls := .type "list", data := .seq ([] : List Value).toArray } } :=
  I.laid (t' := s.toks) (fun _ _ => Heap.get?_push_of_some _) (Nat.le_refl _) ⟨Nat.zero_le _, [], 0, .nil, Heap.get?_push_size _ rfl⟩
theorem inIt_keeps {b : Addr} {o : Obj} (e : s.heap.get? b = some o) : (inIt s scope).heap.get? b = some o := pushCells_keeps _ _ _ _ (Heap.get?_push_of_some _ e)
theorem enters (I : Inv X pins σ H s) (ok : BlkOk X.N X.env.scope scope own) (hN : X.N.Nodup) (hq : ∀ p ∈ q, p ∈ X.pn) (hfp : ∀ b ∈ fp, FpOk X pins H b ∧ b < s.heap.objs.size) :
    Inv (blkM X q s H scope (envIn X s scope) fp) [] (L2.wipe σ (own.map (·.2))) H (inIt s scope) := by
  refine ((block_start I ok hN hfp).pins_of (pins' := q) fun p hp => ?_).toTry _
  obtain ⟨at_, none_, out, outs, plain⟩ := I.pin p (List.mem_append_left _ (hq p hp))
  exact ⟨inIt_keeps at_, none_, Nat.ne_of_lt (Heap.lt_size at_), fun hm => (List.mem_cons.mp (I.stkSub p.1 hm)).elim out outs, plain⟩
theorem owned_in {σ' : L2.St} {s' : Shared} {H0 : Hp} {ce : Env} (B : Inv (blkM X q s H0 scope ce fp) [] σ' H s') (no : ∀ b ∈ fp, H b = none) (apart : ∀ p ∈ q, ∀ b ∈ fp, p.1 ≠ b) : ∀ b ∈ fp, FpOk (blkM X q s H0 scope ce fp) [] H b := by
  intro b hb
  have ⟨z1, z2⟩ := B.ok.exf b hb
  exact ⟨no b hb, z1, B.ok.exfs b hb, .inl hb, fun x c => z2 x c, fun p hp => apart p (by rwa [List.append_nil] at hp) b hb⟩
theorem leaves {σ' : L2.St} {pins' : List (Addr × Obj)} {s' : Shared} {H' : Hp} (I : Inv X pins σ H s) (own' : ∀ b ∈ fp, FpOk X pins H b) (B : Inv (blkM X q s H scope (envIn X s scope) fp) pins' σ' H' s') :
    Inv X pins σ H' s' ∧ FpOk X pins H' s.heap.objs.size ∧ ∃ m, s'.heap.Ns s.heap.objs.size m := by
  have ⟨m, names, _⟩ := B.loc
  refine ⟨I.call' (ch := fp) B.os B.base B.hok B.bare fun b hb => ?_, I.fpOk (Nat.le_refl _) B.free, m, names⟩
  have ⟨_, z1, z2, z3, z4, z5⟩ := own' b hb
  exact ⟨z3, z1, z4, z5⟩
variable {elt tg iter : Expr} {gs : List Comprehension} {pos : Pos} {ifs : List Expr} {wi : TI} {g : TG} {tt : TT} {vs' : List Nat} {r : Addr → TN}
/-- the block, from its start to its end -/
theorem block_runs {J : It} {it D : Addr} {tn : Nat → Heap → Prop} {Q : VK} (I : Inv X pins σ H s) (hN : X.N.Nodup) (ok : BlkOk X.N X.env.scope scope own) (hn : Plain (⟨tg, iter, ifs, 0⟩ :: gs) 1) (hsub : ∀ v ∈ vs', v ∈ own.map (·.2)) (hq : ∀ p ∈ q, p ∈ X.pn)
    (hfp : ∀ b ∈ fp, FpOk X pins H b ∧ b < s.heap.objs.size) (W : Roams (blkM X q s H scope (envIn X s scope) fp) tg J fp it tn) (st : tn 0 s.heap) (hg : PG (blkM X q s H scope (envIn X s scope) fp) tg g) (ht : PTs (blkM X q s H scope (envIn X s scope) fp) ifs tt)
    (hr : RestOk (blkM X q s H scope (envIn X s scope) fp) (bodyK elt (⟨tg, iter, ifs, 0⟩ :: gs) scope pos 0 (.ref D) (envIn X s scope)) vs' (r D)) (h : tTurn J g tt (own.map (·.2)) (r D) σ (fun H' => Q (.ref D) H') H) :
    codeAny (model X.prog X.w) X.A (.compStart (.ListComp elt (⟨tg, iter, ifs, 0⟩ :: gs) scope pos) 0 (.ref it) (.ref D) (envIn X s scope)) (compPost (model X.prog X.w) X.A X.xe none (EP X pins σ Q) (.ref D) s.heap.objs.size) (inIt s scope) := by
  have B := enters I ok hN hq hfp
  have stB : tn 0 (inIt s scope).heap := W.keep st fun _ _ _ => inIt_keeps
  have apart : ∀ p ∈ q, ∀ b ∈ fp, p.1 ≠ b := fun p hp b hb =>
    have ⟨_, _, _, _, _, z⟩ := (hfp b hb).1
    z p (List.mem_append_left _ (hq p hp))
  have loop := cls_loop (X := blkM X q s H scope (envIn X s scope) fp) (elt := elt) (gs := ⟨tg, iter, ifs, 0⟩ :: gs) (k := 0) (scope := scope) (pos := pos) rfl rfl hn hg ht hsub hr W stB (owned_in B (fun b hb => (hfp b hb).1.1) apart) B h
  have done := codeAny_mono loop (R' := compPost (model X.prog X.w) X.A X.xe none (EP X pins σ Q) (.ref D) s.heap.objs.size) fun r s' hr => by
    match r, hr with
    | .error e, no => exact no.elim
    | .ok f, ⟨_, H', B', nx⟩ =>
      obtain ⟨I', ⟨z0, z1, z2, z3, z4, z5⟩, m, names⟩ := leaves I (fun b hb => (hfp b hb).1) B'
      exact ⟨m, names, fun h' same => ⟨.ref D, H', I'.turned (t' := s'.toks) (fun b o out e => (same.2 b out).trans e) z0 z1 z3 z4 z5, rfl, nx⟩⟩
  exact compStart_at rfl done (W.self stB done)
/-- a comprehension over whatever iterator its context allows -/
theorem pe_lcM {Wk : It → List Addr → Addr → (Nat → Heap → Prop) → Prop} (hN : X.N.Nodup) (hq : ∀ p ∈ q, p ∈ X.pn)
    (hi : ∀ (pins : List (Addr × Obj)) (s : Shared) (σ : L2.St) (H : Hp) (R : It → Hp → Prop), Inv X pins σ H s → wi σ H R → wpAny (model X.prog X.w) X.A (eval iter X.env) (fun v s1 => wpAny (model X.prog X.w) X.A (pyIter v) (Comes X Wk pins σ R) X.xe s1) X.xe s)
    (hw : ∀ {J fp it tn}, Wk J fp it tn → ∀ (s : Shared) (H : Hp) (ce : Env) (fp' : List Addr), Roams (blkM X q s H scope ce fp') tg J fp it tn)
    (ok : BlkOk X.N X.env.scope scope own) (hn : Plain (⟨tg, iter, ifs, 0⟩ :: gs) 1) (hsub : ∀ v ∈ vs', v ∈ own.map (·.2))
    (hg : ∀ (s : Shared) (H : Hp) (C : Addr) (cl : List (Str × Addr)) (fp : List Addr), PG (blkM X q s H scope (compEnvC scope cl C X.env) fp) tg g) (ht : ∀ (s : Shared) (H : Hp) (C : Addr) (cl : List (Str × Addr)) (fp : List Addr), PTs (blkM X q s H scope (compEnvC scope cl C X.env) fp) ifs tt)
    (hr : ∀ (s : Shared) (H : Hp) (C : Addr) (cl : List (Str × Addr)) (fp : List Addr) (D : Addr), RestOk (blkM X q s H scope (compEnvC scope cl C X.env) fp) (bodyK elt (⟨tg, iter, ifs, 0⟩ :: gs) scope pos 0 (.ref D) (compEnvC scope cl C X.env)) vs' (r D))
    (hs : ∀ x, foldedSetIterable iter X.env x = pure x) : PE X (.ListComp elt (⟨tg, iter, ifs, 0⟩ :: gs) scope pos) (tLcN wi g tt (own.map (·.2)) r) := by
  constructor
  intro pins s σ H Q I h
  have cell : ∀ y ∈ scope.names, y.2 = .free → ∃ c, X.env.cells.lookup y.1 = some c := fun y hy e => I.ok.has _ (ok.free y hy e)
  rw [eval_ListComp]
  refine wpAny_comprehension_free rfl hs (closure_ok cell) ok.kind (fun y hy e => (ok.uniq y hy).trans (congrArg some e)) (thn (hi pins s σ H _ I h) fun v s1 at1 => thn at1 ?_)
  rintro _ s2 ⟨it, fp, tn, J, H2, rfl, I2, w2, st2, own2, q2⟩
  refine wpAny_newObj_type (newEnv_comp ?_) (by show 0 ≤ sizeLine; decide)
  have lt : ∀ b ∈ fp, b < s2.heap.objs.size := fun b hb => have ⟨_, e, _⟩ := (hw w2 s2 H2 X.env fp).held st2 b hb; Heap.lt_size e
  have fresh := I2.hok.fresh (Nat.le_refl s2.heap.objs.size)
  have I3 := list_begun I2
  refine block_runs I3 hN ok hn hsub hq (fun b hb => ⟨⟨?_, (own2 b hb).2⟩, ?_⟩) (hw w2 _ _ _ _) ((hw w2 s2 H2 X.env fp).keep st2 fun _ _ _ => Heap.get?_push_of_some _) (hg _ _ _ _ _) (ht _ _ _ _ _) (hr _ _ _ _ _ _) (q2 _ fresh)
  · rw [upd_ne (Nat.ne_of_lt (lt b hb))]
    exact (own2 b hb).1
  · rw [Heap.size_push]
    exact Nat.lt_succ_of_lt (lt b hb)
theorem pe_lcN (hc : X.calm = true) (hN : X.N.Nodup) (hi : PI X tg iter wi) (ok : BlkOk X.N X.env.scope scope own) (hn : Plain (⟨tg, iter, ifs, 0⟩ :: gs) 1) (hsub : ∀ v ∈ vs', v ∈ own.map (·.2))
    (hg : ∀ (s : Shared) (H : Hp) (C : Addr) (cl : List (Str × Addr)) (fp : List Addr), PG (X.blk s H scope (compEnvC scope cl C X.env) fp) tg g) (ht : ∀ (s : Shared) (H : Hp) (C : Addr) (cl : List (Str × Addr)) (fp : List Addr), PTs (X.blk s H scope (compEnvC scope cl C X.env) fp) ifs tt)
    (hr : ∀ (s : Shared) (H : Hp) (C : Addr) (cl : List (Str × Addr)) (fp : List Addr) (D : Addr), RestOk (X.blk s H scope (compEnvC scope cl C X.env) fp) (bodyK elt (⟨tg, iter, ifs, 0⟩ :: gs) scope pos 0 (.ref D) (compEnvC scope cl C X.env)) vs' (r D))
    (hs : ∀ x, foldedSetIterable iter X.env x = pure x) : PE X (.ListComp elt (⟨tg, iter, ifs, 0⟩ :: gs) scope pos) (tLcN wi g tt (own.map (·.2)) r) :=
  pe_lcM (q := []) hN (fun _ no => absurd no (by simp)) hi.run (fun T s H ce fp' => roams_of T hc) ok hn hsub hg ht hr hs
end
end Ev
set_option Elab.async false
set_option linter.all false
set_option maxRecDepth 100000
set_option maxHeartbeats 4000000
/-! comprehensions of any number of clauses: the denotation -/
namespace Ev
open PySem PySem.Spec PyProof.Rows L2
abbrev DenR := List D → Sto → Res (List D)
def loopG (vs : List Nat) (t : Asg) (c : DenT) (r : DenR) : List D → List D → Sto → Res (List D)
  | [], acc, env => .ok acc env
  | d :: ds, acc, env => match t d env with
    | none => .bad
    | some e1 => (c e1).bindX fun b e2 => if b = true then (r acc e2).bindX fun acc' e3 => loopG vs t c r ds acc' (wipeE e3 vs) else loopG vs t c r ds acc (wipeE e2 vs)
def rEnd (f : DenV) : DenR := fun acc env => (f env).bindX fun y e => if acc.length < 1000000 then .ok (acc ++ [y]) e else .bad
def rCls (vs : List Nat) (t : Asg) (it : DenI) (c : DenT) (r : DenR) : DenR := fun acc env => (it env).bindX fun items e => loopG vs t c r items acc (wipeE e vs)
def dLcN (own : List Nat) (t : Asg) (it : DenI) (c : DenT) (r : DenR) : DenF := fun env => (it env).bind fun items e => if okOwn e own = true then (loopG own t c r items [] (wipeE e own)).bindX fun acc e' => .ok (.mu acc) (restE e e' own) else .bad
section
variable {Γ : Wd} {W : WX}
/-- what is known of things older than the list at L stays known -/
def XB (Γ : Wd) (L : Addr) (env : Sto) (σ : L2.St) (B H : Hp) (env' : Sto) (σ' : L2.St) (B' H' : Hp) : Prop := Same B B' ∧ ∀ eb σb Bb Hb, Hb L = none → Ext Γ eb σb Bb Hb env σ B H → Ext Γ eb σb Bb Hb env' σ' B' H'
theorem XB.trans {L : Addr} {e1 e2 e3 : Sto} {σ1 σ2 σ3 : L2.St} {B1 H1 B2 H2 B3 H3 : Hp} (a : XB Γ L e1 σ1 B1 H1 e2 σ2 B2 H2) (c : XB Γ L e2 σ2 B2 H2 e3 σ3 B3 H3) : XB Γ L e1 σ1 B1 H1 e3 σ3 B3 H3 :=
  ⟨a.1.trans c.1, fun eb σb Bb Hb h x => c.2 eb σb Bb Hb h (a.2 eb σb Bb Hb h x)⟩
theorem XB.of {L : Addr} {e1 e2 : Sto} {σ1 σ2 : L2.St} {B1 H1 B2 H2 : Hp} (x : Ext Γ e1 σ1 B1 H1 e2 σ2 B2 H2) : XB Γ L e1 σ1 B1 H1 e2 σ2 B2 H2 := ⟨x.b, fun _ _ _ _ _ h => h.trans x⟩
theorem XB.wipe {L : Addr} {e : Sto} {σ : L2.St} {B H : Hp} {vs : List Nat} (hR : ∀ v ∈ vs, v ∉ Γ.R) : XB Γ L e σ B H (wipeE e vs) (L2.wipe σ vs) B H := ⟨Same.refl _, fun _ _ _ _ _ h => Ext.wipe h hR⟩
def RSnd (Γ : Wd) (vs : List Nat) (r : DenR) (tr : Addr → TN) : Prop := ∀ (L : Addr) (σ : L2.St) (env : Sto) (B H : Hp) (acc acc' : List D) (accV : List V) (env' : Sto) (Nx : Hp → Prop), StOk Γ env σ B H → H L = some (.lst accV) → B L = none → ¬ Own env σ L → Reps Γ B acc accV → r acc env = .ok acc' env' →
  (∀ σ' B' H' accV', Touch vs σ σ' → StOk Γ env' σ' B' H' → XB Γ L env σ B H env' σ' B' H' → H' L = some (.lst accV') → B' L = none → ¬ Own env' σ' L → Reps Γ B' acc' accV' → Nx H') → tr L σ H Nx
theorem rsnd_end {f : DenV} {vs : List Nat} : RSnd Γ vs (rEnd f) (tEnd (tV Γ W0 f)) := fun L σ env B H acc acc' accV env' Nx s hd hb ho hr h k => by
  obtain ⟨y, e, hf, h2⟩ := bindX_ok h
  by_cases hlen : acc.length < 1000000
  · rw [if_pos hlen] at h2
    cases h2
    refine ⟨env, B, s, ?_⟩
    rw [hf]
    intro B6 H6 s6 x6 yv hyv
    obtain ⟨g1, g2, g3⟩ := x6.f L _ hd ho
    have gb := g2 hb
    exact ⟨accV, g1, LN_lt (by rw [← hr.length]; omega), k σ B6 _ (accV ++ [yv]) Touch.refl (s6.updD gb g1 g3) ⟨x6.b, fun eb σb Bb Hb hL xx => (xx.trans x6).updD hL⟩ upd_same gb g3 ((Reps.mono x6.b _ _ hr).append (Reps.one hyv))⟩
  · rw [if_neg hlen] at h2
    cases h2
variable {t : Asg} {it : DenI} {c : DenT} {r : DenR} {tr : Addr → TN} {vs vs' : List Nat}
theorem touch_sub {σ σ' : L2.St} (h : Touch vs' σ σ') (hsub : ∀ v ∈ vs', v ∈ vs) : Touch vs σ σ' := ⟨h.1, fun j hj => h.2 j fun z => hj (hsub j z)⟩
theorem turn_of (hR : ∀ v ∈ vs, v ∉ Γ.R) (hsub : ∀ v ∈ vs', v ∈ vs) (hr : RSnd Γ vs' r tr) {items acc acc' : List D} {J : It} {L : Addr} {σ : L2.St} {e0 e' : Sto} {B1 H1 : Hp} {accV : List V} {Nx : Hp → Prop} (hJ : Walks Γ J items B1) (s : StOk Γ e0 (L2.wipe σ vs) B1 H1)
    (hd : H1 L = some (.lst accV)) (hb : B1 L = none) (ho : ¬ Own e0 (L2.wipe σ vs) L) (ha : Reps Γ B1 acc accV) (hl : loopG vs t c r items acc e0 = .ok acc' e')
    (fin : ∀ B' H' accV', StOk Γ e' (L2.wipe σ vs) B' H' → XB Γ L e0 (L2.wipe σ vs) B1 H1 e' (L2.wipe σ vs) B' H' → H' L = some (.lst accV') → B' L = none → ¬ Own e' (L2.wipe σ vs) L → Reps Γ B' acc' accV' → Nx H') :
    tTurn J (tGo Γ vs t) (tT Γ W0 c) vs (tr L) σ Nx H1 := by
  refine ⟨fun j m H2 => m = items.length - j ∧ j ≤ items.length ∧ ∃ ec B2 accD accV, StOk Γ ec (L2.wipe σ vs) B2 H2 ∧ XB Γ L e0 (L2.wipe σ vs) B1 H1 ec (L2.wipe σ vs) B2 H2 ∧ H2 L = some (.lst accV) ∧ B2 L = none ∧ ¬ Own ec (L2.wipe σ vs) L ∧ Reps Γ B2 accD accV ∧
    loopG vs t c r (items.drop j) accD ec = .ok acc' e', ⟨items.length, by simp, Nat.zero_le _, e0, B1, acc, accV, s, XB.of Ext.refl, hd, hb, ho, ha, hl⟩, ?_⟩
  rintro j m H2 ⟨rfl, hj, ec, B2, accD, accV, s2, x2, hd2, hb2, ho2, r2, hl2⟩
  have hw := hJ j B2 H2 x2.1 s2.same
  by_cases hlt : j < items.length
  · obtain ⟨hgo, hyld⟩ := hw.1 items[j] (List.getElem?_eq_getElem hlt)
    rw [List.drop_eq_getElem_cons hlt] at hl2
    refine .inr ⟨hgo, fun H3 => ∃ ec B3 accD accV, StOk Γ ec (L2.wipe σ vs) B3 H3 ∧ XB Γ L e0 (L2.wipe σ vs) B1 H1 ec (L2.wipe σ vs) B3 H3 ∧ H3 L = some (.lst accV) ∧ B3 L = none ∧ ¬ Own ec (L2.wipe σ vs) L ∧ Reps Γ B3 accD accV ∧
      loopG vs t c r (items.drop (j + 1)) accD ec = .ok acc' e', fun H3 ⟨ec, B3, a1, a2, k⟩ => ⟨items.length - (j + 1), by omega, rfl, hlt, ec, B3, a1, a2, k⟩, fun v H3 hy => ?_⟩
    obtain ⟨B3, gr, rv⟩ := hyld v H3 hy
    have s3 := s2.growG gr
    have x3 : XB Γ L e0 (L2.wipe σ vs) B1 H1 ec (L2.wipe σ vs) B3 H3 := x2.trans (XB.of (Ext.growG (Γ := Γ) gr))
    have hd3 := gr.h L _ hd2
    have hb3 := gr.n L _ hd2 hb2
    have r3 := Reps.mono gr.b _ _ r2
    have hl3 : (match t items[j] ec with
      | none => Res.bad
      | some e1 => (c e1).bindX fun b e2 => if b = true then (r accD e2).bindX fun acc' e3 => loopG vs t c r (items.drop (j + 1)) acc' (wipeE e3 vs) else loopG vs t c r (items.drop (j + 1)) accD (wipeE e2 vs)) = .ok acc' e' := hl2
    cases ht : t items[j] ec with
    | none => rw [ht] at hl3; cases hl3
    | some e1 =>
      rw [ht] at hl3
      refine ⟨ec, B3, items[j], e1, s3, rv, ht, fun σ4 s4 x4 t4 => ?_⟩
      obtain ⟨b, e2, hc, hl4⟩ := bindX_ok hl3
      have hws : L2.wipe σ4 vs = L2.wipe σ vs := (touch_wipe t4).trans wipe_wipe
      refine ⟨hws.trans (by rfl), e1, B3, s4, ?_⟩
      rw [hc]
      intro B5 H5 s5 x5
      have x45 := x4.trans x5
      have x35 := x3.trans (XB.of x45)
      obtain ⟨f1, f2, f3⟩ := x45.f L _ hd3 ho2
      have r5 := Reps.mono x45.b _ _ r3
      cases b with
      | false =>
        have hl5 : loopG vs t c r (items.drop (j + 1)) accD (wipeE e2 vs) = .ok acc' e' := by
          rw [← if_neg (c := false = true) (t := (r accD e2).bindX fun acc' e3 => loopG vs t c r (items.drop (j + 1)) acc' (wipeE e3 vs)) (e := loopG vs t c r (items.drop (j + 1)) accD (wipeE e2 vs)) Bool.false_ne_true]
          exact hl4
        have s5w := s5.wipe vs
        have x5w := x35.trans (XB.wipe hR)
        rw [hws] at s5w x5w
        refine (fun (hh : _) => iteF hh) ⟨wipeE e2 vs, B5, accD, accV, s5w, x5w, f1, f2 hb3, fun z => f3 (own_wipe (by rw [hws]; exact z)), r5, hl5⟩
      | true =>
        have hl4' : ((r accD e2).bindX fun acc' e3 => loopG vs t c r (items.drop (j + 1)) acc' (wipeE e3 vs)) = .ok acc' e' := by
          rw [← if_pos (c := true = true) (t := (r accD e2).bindX fun acc' e3 => loopG vs t c r (items.drop (j + 1)) acc' (wipeE e3 vs)) (e := loopG vs t c r (items.drop (j + 1)) accD (wipeE e2 vs)) rfl]
          exact hl4
        obtain ⟨acc2, e3, hf, hl5⟩ := bindX_ok hl4'
        refine (fun (hh : _) => iteT hh) (hr L σ4 e2 B5 H5 accD acc2 accV e3 _ s5 f1 (f2 hb3) f3 r5 hf fun σ7 B7 H7 accV7 t7 s7 x7 hd7 hb7 ho7 r7 => ?_)
        have hw7 : L2.wipe σ7 vs = L2.wipe σ vs := (touch_wipe (touch_sub t7 hsub)).trans hws
        have s7w := s7.wipe vs
        have x7w := (x35.trans x7).trans (XB.wipe hR)
        rw [hw7] at s7w x7w
        exact ⟨wipeE e3 vs, B7, acc2, accV7, s7w, x7w, hd7, hb7, fun z => ho7 (own_wipe (by rw [hw7]; exact z)), r7, hl5⟩
  · have ee : j = items.length := by omega
    subst ee
    rw [List.drop_length] at hl2
    have hl2' : Res.ok accD ec = .ok acc' e' := hl2
    cases hl2'
    exact .inl ⟨hw.2 (Nat.le_refl _), fin B2 H2 accV s2 x2 hd2 hb2 ho2 r2⟩
theorem rsnd_cls (hR : ∀ v ∈ vs, v ∉ Γ.R) (hsub : ∀ v ∈ vs', v ∈ vs) (hr : RSnd Γ vs' r tr) : RSnd Γ vs (rCls vs t it c r) (fun L => tCls (tI Γ W0 it) (tGo Γ vs t) (tT Γ W0 c) vs (tr L)) := fun L σ env B H acc acc' accV env' Nx s hd hb ho ha h k => by
  obtain ⟨items, e, hi, h2⟩ := bindX_ok h
  refine ⟨env, B, s, ?_⟩
  rw [hi]
  intro B1 H1 s1 x1 J hJ
  obtain ⟨f1, f2, f3⟩ := x1.f L _ hd ho
  refine turn_of hR hsub hr hJ (s1.wipe vs) f1 (f2 hb) (fun z => f3 (own_wipe z)) (Reps.mono x1.b _ _ ha) h2 fun B' H' accV' s' x' hd' hb' ho' r' => ?_
  exact k (L2.wipe σ vs) B' H' accV' ⟨L2.wipe_length σ vs, fun j hj => wipe_out' hj⟩ s' (((XB.of x1).trans (XB.wipe hR)).trans x') hd' hb' ho' r'
theorem tLcN_of (hR : ∀ v ∈ vs, v ∉ Γ.R) (hsub : ∀ v ∈ vs', v ∈ vs) (hr : RSnd Γ vs' r tr) {σ : L2.St} {H : Hp} {Q : VK} (h : tF Γ W (dLcN vs t it c r) σ H Q) : tLcN (tI Γ W it) (tGo Γ vs t) (tT Γ W0 c) vs tr σ H Q := by
  obtain ⟨env, B, s, p⟩ := h
  refine ⟨env, B, s, p.bind.mono fun items e B1 H1 s1 x1 q1 J hJ L hL => ?_⟩
  by_cases hok : okOwn e vs = true
  · rw [if_pos hok] at q1
    have s1w := s1.wipe vs
    obtain ⟨acc, e', hl⟩ : ∃ acc e', loopG vs t c r items [] (wipeE e vs) = .ok acc e' := by
      cases hl : loopG vs t c r items [] (wipeE e vs) with
      | ok acc e' => exact ⟨acc, e', rfl⟩
      | err _ _ _ _ => rw [hl] at q1; exact q1.elim
      | bad => rw [hl] at q1; exact q1.elim
    refine turn_of (acc := []) (accV := []) hR hsub hr hJ (s1w.newM hL) upd_same (s1.bfresh hL) (s1w.fresh_own hL) (show Reps Γ B1 [] [] from rfl) hl fun B' H' accV s' x' hd hb ho r => ?_
    rw [hl] at q1
    have q2 : Post Γ W e σ B1 H1 (fun r env' B' H' => ∀ v, RetOk Γ (FreeR Γ env σ H) env' σ B' H' r v → Q v H') (.ok (.mu acc) (restE e e' vs)) := q1
    have x'' : Ext Γ (wipeE e vs) (L2.wipe σ vs) B1 H1 e' (L2.wipe σ vs) B' H' := x'.2 _ _ _ _ hL (Ext.newM hL)
    exact q2 B' H' (s1.rest hok s' x''.b) (Ext.rest hok hR x'') _ ⟨L, accV, rfl, .inl (x1.h0 L hL), hb, hd, r, fun z => ho (own_rest hok z)⟩
  · rw [if_neg hok] at q1
    exact q1.elim
end
section
variable {X : Cx} {Γ : Wd} {W : WX} {elt tg iter : Expr} {gs : List Comprehension} {scope : Scope} {pos : Pos} {ifs : List Expr} {t : Asg} {it : DenI} {c : DenT} {r : DenR} {tr : Addr → TN} {vs' : List Nat} {own : List (Str × Nat)}
theorem sLcN (hR : ∀ v ∈ own.map (·.2), v ∉ Γ.R) (hc : X.calm = true) (hN : X.N.Nodup) (hi : SI X Γ W tg iter it) (ok : BlkOk X.N X.env.scope scope own) (hn : Plain (⟨tg, iter, ifs, 0⟩ :: gs) 1) (hsub : ∀ v ∈ vs', v ∈ own.map (·.2)) (hrs : RSnd Γ vs' r tr)
    (hg : ∀ (s : Shared) (H : Hp) (C : Addr) (cl : List (Str × Addr)) (fp : List Addr), PG (X.blk s H scope (compEnvC scope cl C X.env) fp) tg (tGo Γ (own.map (·.2)) t)) (ht : ∀ (s : Shared) (H : Hp) (C : Addr) (cl : List (Str × Addr)) (fp : List Addr), STs (X.blk s H scope (compEnvC scope cl C X.env) fp) Γ W0 ifs c)
    (hr : ∀ (s : Shared) (H : Hp) (C : Addr) (cl : List (Str × Addr)) (fp : List Addr) (D : Addr), RestOk (X.blk s H scope (compEnvC scope cl C X.env) fp) (bodyK elt (⟨tg, iter, ifs, 0⟩ :: gs) scope pos 0 (.ref D) (compEnvC scope cl C X.env)) vs' (tr D))
    (hs : ∀ x, foldedSetIterable iter X.env x = pure x := by intro _; rfl) : SF X Γ W (.ListComp elt (⟨tg, iter, ifs, 0⟩ :: gs) scope pos) (dLcN (own.map (·.2)) t it c r) :=
  imE (pe_lcN hc hN hi ok hn hsub hg ht hr hs) fun σ H Q h => tLcN_of hR hsub hrs h
end
end Ev

set_option Elab.async false
set_option linter.all false
set_option maxRecDepth 100000
set_option maxHeartbeats 4000000
/-! sorted of a tuple of alike data: its items are collected, then list.sort -/
namespace PySem.W
open PySem PySem.Calls PyProof.Rows
/-- where a sorted list was made: it stands behind h, all that was before stands on -/
structure SortedAt (h : Heap) (out : List Value) (h' : Heap) : Prop where
  old : ∀ b o, h.get? b = some o → h'.get? b = some o
  at_ : ∃ n, h'.get? h.objs.size = some (seqObj "list" out.toArray n)
section
variable {prog : Program} {w : World} {A : Around} {E : Value → Shared → Prop} {s : Shared}
theorem sorted_tup {β : Type} {vs : List Value} {bs : List β} {enc : β → PyData} {R : Value → β → Prop} {l : Addr} {Q : Value → Shared → Prop} (hl : IsTup s.heap l vs.toArray) (e : EachIs R vs bs) (er : EachIs (fun v b => ∃ as, Reads s.heap v (enc b) as) vs bs) (hal : AllAlike (bs.map enc)) (hk : Sortable (bs.map enc)) (few : bs.length ≤ sizeLine)
    (room : ∀ b, b ∈ bs → A.units + 2 + (enc b).depth < cLine) (h : ∀ h1 out h', (∀ b o, s.heap.get? b = some o → h1.get? b = some o) → SortedAt h1 out h' → out.length = bs.length → EachIs R out (bs.mergeSort (dataLe false enc)) → Q (.ref h1.objs.size) { s with heap := h' }) :
    wpAny (model prog w) A (call (.builtin "sorted") [.ref l]) Q E s := by
  have few' : vs.length ≤ sizeLine := e.length ▸ few
  obtain ⟨o, there, isT, _, dat⟩ := hl
  have main : ∀ h1 : Heap, (∀ b o', s.heap.get? b = some o' → h1.get? b = some o') → ∀ E' : Value → Shared → Prop,
      wpAny (model prog w) A.in1.in1 (Builtin.«list.sort» ⟨[.ref h1.objs.size], []⟩) (fun f s' => f = .done (.ret .none) ∧ Q (.ref h1.objs.size) s') E' { s with heap := h1.push (seqObj "list" vs.toArray 0) } := fun h1 keeps E' => by
    have copy : (h1.push (seqObj "list" vs.toArray 0)).get? h1.objs.size = some (seqObj "list" vs.toArray 0) := Heap.get?_push_size _ rfl
    have other : ∀ {b o'}, h1.get? b = some o' → b ≠ h1.objs.size ∧ (h1.push (seqObj "list" vs.toArray 0)).get? b = some o' := fun {b o'} q => ⟨Nat.ne_of_lt (Heap.lt_size q), Heap.get?_push_of_some _ q⟩
    have reads := er.mono fun v b ⟨as, r⟩ => (⟨as, Reads.keeps (fun c o' q => sortingHeap_old (vs := vs) (other (keeps c o' q)).1 (other (keeps c o' q)).2) r⟩ : ∃ as, Reads (sortingHeap (h1.push (seqObj "list" vs.toArray 0)) h1.objs.size vs) v (enc b) as)
    have keys := SortsAt.data (prog := prog) (w := w) (A := A.in1.in1) (s := { s with heap := sortingHeap (h1.push (seqObj "list" vs.toArray 0)) h1.objs.size vs }) (each_map (R := fun v d => ∃ as, Reads (sortingHeap (h1.push (seqObj "list" vs.toArray 0)) h1.objs.size vs) v d as) enc reads) hal hk (bound_map room)
    refine list_sort_vals (s := { s with heap := h1.push (seqObj "list" vs.toArray 0) }) copy keys few' ⟨rfl, h h1 _ _ keeps ⟨fun b o' q => (sortedHeap_old (other q).1 (Heap.lt_size (other q).2)).trans (other q).2, sortedHeap_at copy⟩ (by rw [sortVals_length false rfl, e.length]) (sortVals_data false e reads hal)⟩
  refine call_function_entry_kw kind_sorted plain_sorted entry_sorted (args_sorted1 _) ?_
  unfold Builtin.«sorted»
  refine wpAny_bind (m := checkCount "sorted" 1 1 _) (wpAny_pure (wpAny_bind (wpAny_collect_seq l (.inr rfl) there isT dat (fun h1 keeps => ?_) (by rw [List.size_toArray]; exact few'))))
  refine wpAny_bind (wpAny_newList (wpAny_bind (wpAny_holding (wpAny_call_entry_kw slot_list_sort ⟨_, Heap.get?_push_size _ rfl, rfl⟩ entry_list_sort (wpAny_mono (main h1 keeps E) ?_ fun _ _ raised => raised) (args_list_sort _)))) few')
  rintro _ s' ⟨rfl, q⟩
  exact ⟨_, rfl, wpAny_pure ⟨_, rfl, q⟩⟩
end
end PySem.W
namespace Ev
open PySem PySem.Spec PyProof.Rows L2
def rSortedDT (K : PySem.W.Frag) : List V → Hp → VK → Prop := fun vs H Q => ∃ (a : Addr) (zs : List VP), vs = [.ref a] ∧ SqT K H a (zs.map (·.1)) ∧ (∀ z ∈ zs, Dp K H z.1 z.2) ∧ PySem.W.AllAlike (zs.map (·.2)) ∧ PySem.W.Sortable (zs.map (·.2)) ∧ (∀ z ∈ zs, z.2.depth ≤ 32) ∧
  ∀ p, H p = none → Q (.ref p) (upd H p (.lst ((zs.mergeSort leP).map (·.1))))
theorem cr_sortedDT {X : Cx} (hu : X.A.units + 64 < cLine) : CallR X (.builtin "sorted") (rSortedDT X.K) := by
  rintro pins s σ H _ us Q I rel ⟨a, zs, rfl, sq, dps, like, sortable, shallow, goal⟩
  obtain ⟨_, rfl, rfl⟩ := vals1 rel
  obtain ⟨its, vals, held, few⟩ := I.tuple sq
  rw [List.length_map] at few
  refine PySem.W.sorted_tup (enc := fun z : VP => z.2) held (each_of_vals (K := X.K) (R := fun u (z : VP) => RelV z.1 u) vals fun _ _ _ r => r) (each_of_vals (K := X.K) (R := fun u (z : VP) => ∃ as, Reads s.heap u z.2 as) vals fun z hz u r => Dp.reads I z.2 z.1 u (dps z hz) r) like sortable few (fun z hz => ?_) fun h1 out h' keeps made len each => ?_
  · have := shallow z hz
    show X.A.units + 2 + z.2.depth < cLine
    omega
  · obtain ⟨n, at_⟩ := made.at_
    have few2 : ((zs.mergeSort leP).map (·.1)).length ≤ sizeLine := by rw [List.length_map, List.length_mergeSort]; exact few
    have I1 := I.kept (t' := s.toks) keeps
    exact ⟨.ref h1.objs.size, upd H h1.objs.size (.lst ((zs.mergeSort leP).map (·.1))), I1.laid (t' := s.toks) made.old (Nat.le_refl _) ⟨few2, out, n, vals_of_each each, at_⟩, rfl, goal _ (I1.hok.fresh (Nat.le_refl _))⟩
def rSortedB (K : PySem.W.Frag) : List V → Hp → VK → Prop := fun vs H Q => rSortedA K vs H Q ∨ rSortedDT K vs H Q
theorem cr_sortedB {X : Cx} (hu : X.A.units + 64 < cLine) : CallR X (.builtin "sorted") (rSortedB X.K) := by
  intro pins s σ H vs us Q I r h
  rcases h with h | h
  · exact cr_sortedA hu pins s σ H vs us Q I r h
  · exact cr_sortedDT hu pins s σ H vs us Q I r h
theorem dle_int (a b : Int) : dle (.int a) (.int b) = decide (a ≤ b) := by
  show (!PySem.W.dataLt (.int b) (.int a)) = _
  rw [show PySem.W.dataLt (.int b) (.int a) = decide (b < a) from PySem.W.dataLt_int b a]
  by_cases h : a ≤ b
  · rw [decide_eq_true h, decide_eq_false (by omega)]; rfl
  · rw [decide_eq_false h, decide_eq_true (by omega)]; rfl
def srtD (xs : List D) : List D := match intsOf xs with
  | some ns => (srt ns).map .int
  | none => xs.mergeSort dle
theorem srtD_eq (xs : List D) : srtD xs = xs.mergeSort dle := by
  unfold srtD
  cases h : intsOf xs with
  | none => rfl
  | some ns =>
    have e := intsOf_eq h
    subst e
    have h1 : (ns.mergeSort fun a b => decide (a ≤ b)).map D.int = (ns.map D.int).mergeSort dle := List.map_mergeSort fun a _ b _ => (dle_int a b).symm
    rw [← h1]
    refine congrArg _ (List.Perm.eq_of_pairwise (le := fun a b : Int => a ≤ b) (fun a b _ _ h1 h2 => Int.le_antisymm h1 h2) (srt_sorted ns) ?_ ((srt_perm ns).trans ?_))
    rotate_left
    · exact (List.mergeSort_perm _ _).symm
    · have := List.pairwise_mergeSort (le := fun a b : Int => decide (a ≤ b)) (fun a b c h1 h2 => by simp only [decide_eq_true_eq] at *; omega) (fun a b => by simp only [Bool.or_eq_true, decide_eq_true_eq]; omega) ns
      exact this.imp fun h => by simpa using h
def gSortB : List D → Option Ent
  | [.tup xs] => if okSort xs = true then some (.mu (srtD xs)) else none
  | ds => gSortA ds
theorem sv_sortB : ServesN Γ W (rSortedB Γ.K) gSortB := by
  intro ds ent env σ B H P0 vs Q hg s r h0 q
  by_cases ht : ∃ xs, ds = [.tup xs]
  · obtain ⟨xs, rfl⟩ := ht
    replace hg : (if okSort xs = true then some (Ent.mu (srtD xs)) else none) = some ent := hg
    rw [srtD_eq] at hg
    split at hg
    · rename_i ok
      cases hg
      obtain ⟨v, rfl, rv⟩ := r.one
      obtain ⟨p, vs, rfl, hq, hr⟩ := RepT.tup s.same rv
      unfold okSort allAl at ok
      simp only [Bool.and_eq_true, Bool.or_eq_true, List.all_eq_true] at ok
      obtain ⟨ok1, ok2, ok3⟩ := ok
      have hall := hr.all
      refine .inr ⟨p, (vs.zip xs).map fun z => (z.1, z.2.py), rfl, ?_, ?_, ?_, ?_, ?_, fun p' hp' => ?_⟩
      · rw [List.map_map]
        show SqT Γ.K H p ((vs.zip xs).map (·.1))
        rw [zip_fst hr]
        exact hq
      · intro z hz
        obtain ⟨w, hw, rfl⟩ := List.mem_map.mp hz
        have hx : w.2 ∈ xs := by
          have := List.mem_map_of_mem (f := fun z : V × D => z.2) hw
          rw [zip_snd hr] at this
          exact this
        exact RepT.dp s.same (shp_up _ (shps_all ok1 _ hx) (by decide)) (.inl (hall w hw))
      · intro d hd d' hd'
        rw [List.map_map] at hd hd'
        obtain ⟨w, hw, rfl⟩ := List.mem_map.mp hd
        obtain ⟨w', hw', rfl⟩ := List.mem_map.mp hd'
        have hx := List.mem_map_of_mem (f := fun z : V × D => z.2) hw
        have hx' := List.mem_map_of_mem (f := fun z : V × D => z.2) hw'
        rw [zip_snd hr] at hx hx'
        exact ok2 _ hx _ hx'
      · rw [List.map_map]
        have e2 : (vs.zip xs).map ((fun x : VP => x.2) ∘ fun z => (z.1, z.2.py)) = xs.map D.py := by
          conv => rhs; rw [← zip_snd hr, List.map_map]
          rfl
        rw [e2]
        rcases ok3 with ok3 | ok3
        · refine .inl fun d hd => ?_
          obtain ⟨x, hx, rfl⟩ := List.mem_map.mp hd
          have := ok3 x hx
          cases x with
          | tup ys => cases ys with
            | nil => cases this
            | cons y ys => exact ⟨y.py, pys ys, rfl⟩
          | _ => cases this
        · refine .inr fun d hd => ?_
          obtain ⟨x, hx, rfl⟩ := List.mem_map.mp hd
          have := ok3 x hx
          cases x with
          | non => cases this
          | tup _ => cases this
          | ins _ _ _ => cases this
          | fn _ => cases this
          | _ => exact ⟨fun z => by simp [D.py] at z, fun xs z => by simp [D.py] at z⟩
      · intro z hz
        obtain ⟨w, hw, rfl⟩ := List.mem_map.mp hz
        have hx := List.mem_map_of_mem (f := fun z : V × D => z.2) hw
        rw [zip_snd hr] at hx
        exact (shp_ok 32 _ (shps_all ok1 _ hx)).2
      · have key : ((vs.zip xs).mergeSort fun a b => dle a.2 b.2).map (fun z => (z.1, z.2.py)) = ((vs.zip xs).map fun z => (z.1, z.2.py)).mergeSort leP := List.map_mergeSort fun a _ b _ => rfl
        have key2 : ((vs.zip xs).mergeSort fun a b => dle a.2 b.2).map (·.2) = xs.mergeSort dle := by
          rw [List.map_mergeSort (s := dle) fun a _ b _ => rfl, zip_snd hr]
        have rr := Reps.of_all (Γ := Γ) (B := B) ((vs.zip xs).mergeSort fun a b => dle a.2 b.2) fun z hz => hall z ((List.mergeSort_perm _ _).mem_iff.mp hz)
        rw [key2] at rr
        have e3 : ((((vs.zip xs).map fun z => (z.1, z.2.py)).mergeSort leP).map (·.1)) = ((vs.zip xs).mergeSort fun a b => dle a.2 b.2).map (·.1) := by
          rw [← key, List.map_map]
          rfl
        rw [e3]
        exact Post.newL h0 s q rr hp'
    · cases hg
  · have e : gSortB ds = gSortA ds := by
      unfold gSortB
      split
      · exact absurd ⟨_, rfl⟩ ht
      · rfl
    rw [e] at hg
    exact .inl (sv_sortA hg s r h0 q)
end Ev
set_option Elab.async false
set_option linter.all false
set_option maxRecDepth 100000
set_option maxHeartbeats 4000000
/-! a call whose result holds no list: the lists that were handed over stay the caller's own -/
namespace Ev
open PySem PySem.Spec PyProof.Rows L2
mutual
def D.nol : D → Bool
  | .non => true
  | .bl _ => true
  | .int _ => true
  | .str _ => true
  | .tup xs => nols xs
  | .lst _ => false
  | .fl _ => false
  | .ins _ _ xs => nols xs
  | .fn _ => true
def nols : List D → Bool
  | [] => true
  | d :: ds => d.nol && nols ds
end
def Ent.nol : Ent → Bool
  | .val d => d.nol
  | _ => false
/-- B' without the lists that B does not know -/
def cutB (B B' : Hp) : Hp := fun q => match B' q with
  | some (.lst _) => B q
  | o => o
theorem cutB_n {B B' : Hp} {q : Addr} {o : HO} (h : B' q = some o) (n : ∀ vs, o ≠ .lst vs) : cutB B B' q = some o := by
  unfold cutB
  rw [h]
  cases o <;> first | rfl | exact absurd rfl (n _)
mutual
theorem nol_rep {Γ : Wd} {B B' : Hp} : ∀ (d : D) (v : V), d.nol = true → Rep Γ B' d v → Rep Γ (cutB B B') d v
  | .non, v, _, h => h
  | .bl b, v, _, h => h
  | .int i, v, _, h => h
  | .str s, v, _, h => h
  | .lst xs, v, n, _ => by cases n
  | .fl xs, v, n, _ => by cases n
  | .fn x, v, _, h => h
  | .tup xs, v, n, h => by
    obtain ⟨a, vs, e1, e2, e3⟩ := h
    refine ⟨a, vs, e1, ?_, nols_rep xs vs n e3⟩
    rcases e2 with (e2 | ⟨o, e2⟩) | e2
    · exact .inl (.inl (cutB_n e2 fun vs z => by cases z))
    · exact .inl (.inr ⟨o, cutB_n e2 fun vs z => by cases z⟩)
    · exact .inr e2
  | .ins c ns xs, v, n, h => by
    obtain ⟨a, dx, C, vs, e1, e2, e3, e4, e5⟩ := h
    exact ⟨a, dx, C, vs, e1, e2, cutB_n e3 (fun vs z => by cases z), e4, nols_rep xs vs n e5⟩
theorem nols_rep {Γ : Wd} {B B' : Hp} : ∀ (ds : List D) (vs : List V), nols ds = true → Reps Γ B' ds vs → Reps Γ (cutB B B') ds vs
  | [], vs, _, h => h
  | d :: ds, vs, n, h => by
    obtain ⟨v, r, e1, e2, e3⟩ := h
    have n' : d.nol = true ∧ nols ds = true := by simpa [nols] using n
    exact ⟨v, r, e1, nol_rep d v n'.1 e2, nols_rep ds r n'.2 e3⟩
end
def dCallU (g : Fn) (dfl : List D) (fs : DenA) : DenF := fun env => (fs env).bind fun as e => match getAll as e with
  | some ds => (match g ((ds ++ dfl).map .val) with
    | .ok r _ => if r.nol = true then .ok r e else .ok r (frzAr as e)
    | .err c ns xs _ => .err c ns xs (frzAr as e)
    | .bad => .bad)
  | none => .bad
section
variable {X : Cx} {Γ : Wd} {W : WX} {e : Expr} {es : List Expr} {pos p : Pos} {x : Str} {f : Addr} {fd : FuncData} {ps : List Str} {k np : Nat} {R : List Nat} {g : Fn} {ds : List Value} {dvs : List V} {dfl : List D} {fs : DenA}
theorem tCallU_of (hK : X.K = Γ.K) (hm : X.mg = Γ.mg) (hdf : ∀ B, Reps Γ B dfl dvs) (ga : ∀ args, args.length ≠ np → g args = .bad) {σ : L2.St} {H : Hp} {Q : VK} (h : tF Γ W (dCallU g dfl fs) σ H Q) : tCallSD (spOf X.K X.mg R np g) dvs (WE W) (tAr Γ W fs) σ H Q := by
  obtain ⟨env, B, s, p⟩ := h
  have p' : Post Γ W env σ B H (fun r env' B' H' => ∀ v, RetOk Γ (FreeR Γ env σ H) env' σ B' H' r v → Q v H') ((fs env).bind fun as e => match getAll as e with
    | some ds => (match g ((ds ++ dfl).map .val) with
      | .ok r _ => if r.nol = true then .ok r e else .ok r (frzAr as e)
      | .err c ns xs _ => .err c ns xs (frzAr as e)
      | .bad => .bad)
    | none => .bad) := p
  refine ⟨env, B, s, ?_⟩
  cases hfs : fs env with
  | bad => rw [hfs] at p'; exact p'
  | err c ns xs e1 => rw [hfs] at p'; exact p'
  | ok as e1 =>
    have p2 := p'
    rw [hfs] at p2
    have q0 := Post.bind p2
    intro B1 H1 s1 x1 vs hvs
    have q1 : Post Γ W e1 σ B1 H1 (fun r env' B' H' => ∀ v, RetOk Γ (FreeR Γ env σ H) env' σ B' H' r v → Q v H') (match getAll as e1 with
      | some ds => (match g ((ds ++ dfl).map .val) with
        | .ok r _ => if r.nol = true then .ok r e1 else .ok r (frzAr as e1)
        | .err c ns xs _ => .err c ns xs (frzAr as e1)
        | .bad => .bad)
      | none => .bad) := q0 B1 H1 s1 x1
    cases ha : getAll as e1 with
    | none => rw [ha] at q1; exact q1.elim
    | some ds =>
      rw [ha] at q1
      obtain ⟨B2, s2, x2, r2⟩ := frzAr_ok s1 hvs ha
      have rc : Reps (wdOf Γ.K Γ.mg R) B2 (ds ++ dfl) (vs ++ dvs) := (r2.append (hdf B2)).toC
      have q2 : Post Γ W e1 σ B1 H1 (fun r env' B' H' => ∀ v, RetOk Γ (FreeR Γ env σ H) env' σ B' H' r v → Q v H') (match g ((ds ++ dfl).map .val) with
          | .ok r _ => if r.nol = true then .ok r e1 else .ok r (frzAr as e1)
          | .err c ns xs _ => .err c ns xs (frzAr as e1)
          | .bad => .bad) := q1
      have nlen : ((ds ++ dfl).map Ent.val).length = np := by
        by_cases hz : ((ds ++ dfl).map Ent.val).length = np
        · exact hz
        · rw [ga _ hz] at q2
          exact q2.elim
      rw [hK, hm]
      refine ⟨B2, (ds ++ dfl).map .val, nlen, args_ok (σ := σ) s2.same rc, fun i xs hi => ?_, ?_⟩
      · exfalso
        rw [List.getElem?_map] at hi
        cases hd : (ds ++ dfl)[i]? with
        | none => rw [hd] at hi; cases hi
        | some d => rw [hd] at hi; cases hi
      · have own_up : ∀ {B' H' : Hp} {pz : Sto}, FExt (wdOf Γ.K Γ.mg R) ((ds ++ dfl).map .val) (vs ++ dvs) B2 H1 pz B' H' → Grow B2 H1 B' H' := fun {B' H' pz} fx =>
          ⟨fx.b, fun p o hp => (fx.f p o hp no_own).1, fx.s, fun p o hp => (fx.f p o hp no_own).2⟩
        cases hg : g ((ds ++ dfl).map .val) with
        | bad => rw [hg] at q2; exact q2.elim
        | err c ns xs pz =>
          rw [hg] at q2
          intro cls d B' H' fx xn
          have gr := own_up fx
          exact q2 cls d B' H' (s2.growG gr) (x2.trans (Ext.growG gr)) xn.ofC
        | ok r pz =>
          rw [hg] at q2
          intro v B' H' fx rv
          have gr := own_up fx
          by_cases hfl : r.nol = true
          · have q3 : Post Γ W e1 σ B1 H1 (fun r env' B' H' => ∀ v, RetOk Γ (FreeR Γ env σ H) env' σ B' H' r v → Q v H') (.ok r e1) := by
              rw [← if_pos (c := r.nol = true) (t := Res.ok r e1) (e := Res.ok r (frzAr as e1)) hfl]
              exact q2
            have b1 : Same B1 B' := x2.b.trans gr.b
            have sb : Same B1 (cutB B1 B') := fun q o hq => by
              have h1 := b1 q o hq
              unfold cutB
              rw [h1]
              cases o <;> first | rfl | exact hq
            have sh : Same (cutB B1 B') H' := fun q o hq => by
              have cs : B' q = some o ∨ B1 q = some o := by
                unfold cutB at hq
                cases hb : B' q with
                | none => rw [hb] at hq; cases hq
                | some u =>
                  rw [hb] at hq
                  cases u <;> first | exact .inl hq | exact .inr hq
              rcases cs with cs | cs
              · exact gr.s q o cs
              · exact gr.h q o (s1.same q o cs)
            have gr1 : Grow B1 H1 (cutB B1 B') H' := ⟨sb, gr.h, sh, fun q o hq hn => by
              cases hb : B' q with
              | none => unfold cutB; rw [hb]
              | some u =>
                have hu := gr.s q u hb
                have e : u = o := by
                  have := gr.h q o hq
                  rw [hu] at this
                  exact Option.some.inj this
                subst e
                have n2 : B2 q ≠ none := fun z => by
                  have := gr.n q _ hq z
                  rw [hb] at this
                  cases this
                have ow : Own e1 σ q := by
                  refine Classical.byContradiction fun z => ?_
                  exact n2 ((x2.f q u hq z).2.1 hn)
                obtain ⟨_, ws, h2⟩ : B1 q = none ∧ ∃ ws, H1 q = some (.lst ws) := s1.own_none ow
                rw [hq] at h2
                cases h2
                unfold cutB
                rw [hb]
                exact hn⟩
            refine q3 (cutB B1 B') H' (s1.growG gr1) (Ext.growG gr1) v ?_
            cases r with
            | val d => exact nol_rep d v hfl (Rep.ofC rv)
            | _ => cases hfl
          · have q3 : Post Γ W e1 σ B1 H1 (fun r env' B' H' => ∀ v, RetOk Γ (FreeR Γ env σ H) env' σ B' H' r v → Q v H') (.ok r (frzAr as e1)) := by
              rw [← if_neg (c := r.nol = true) (t := Res.ok r e1) (e := Res.ok r (frzAr as e1)) hfl]
              exact q2
            refine q3 B' H' (s2.growG gr) (x2.trans (Ext.growG gr)) v ?_
            cases r with
            | val d => exact Rep.ofC rv
            | mu xs =>
              obtain ⟨a, us, e1', e2', e3', e4', e5'⟩ := rv
              exact ⟨a, us, e1', .inl (x1.h0 a e2'), e3', e4', Reps.ofC e5', fun z => s2.own_tracked z e2'⟩
            | un => exact rv.elim
            | exn _ _ _ => exact rv.elim
theorem sCallU (hK : X.K = Γ.K) (hm' : X.mg = Γ.mg) (F : FnOkG X.prog X.w X.K X.mg X.base (L2.CX X.prog X.w) k f fd ps (spOf X.K X.mg R np g)) (hr : RoomG k X.A) (gl : Gl X x) (hm : X.mg x = some (.ref f)) (hk : PySem.W.keepIn X.K (.ref f) = true) (hb : Binds X.K fd ps ds) (hd : Vals dvs ds) (hdf : ∀ B, Reps Γ B dfl dvs) (tk : Takes X W)
    (ha : SA X Γ W (e :: es) fs) (ga : ∀ args, args.length ≠ np → g args = .bad)
    (hdb : (x == ("__debug__" : Str)) = false := by decide) (he : starEach (e :: es) X.env = (false, eval e X.env) :: starEach es X.env := by rfl) (hpl : (backTo pos (starEach es X.env)).any (·.1) = false := by rfl) :
    SF X Γ W (.Call (.Name x p) (e :: es) [] pos) (dCallU g dfl fs) := imE (pe_callSG F hr gl hm hk hb hd (fun σ => passAt tk σ) ha hdb he hpl) fun σ H Q h => tCallU_of hK hm' hdf ga h
end
end Ev

set_option Elab.async false
set_option linter.all false
set_option maxRecDepth 100000
set_option maxHeartbeats 4000000
namespace Ev
open PySem PySem.Spec PyProof.Rows L2
/-! ### evaluation, by simp -/
section
variable {env : Sto} {f g : DenV} {u u2 : DenF} {l l2 l3 : DenL} {t t2 : DenT} {s s2 : DenS} {i j : Nat} {d : D}
theorem dC_a : dC d env = .ok d env := rfl
theorem dVar_a : dVar i env = match env[i]? with
  | some (.val d) => .ok d env
  | some (.mu xs) => .ok (.lst xs) (env.set i (.val (.lst xs)))
  | _ => .bad := rfl
theorem dSlot_a : dSlot i env = match env[i]? with
  | some (.val d) => .ok (.v d) env
  | some (.mu xs) => .ok (.s i) env
  | _ => .bad := rfl
theorem dMove_a : dMove i env = match env[i]? with
  | some (.val d) => .ok (.val d) env
  | some (.mu xs) => .ok (.mu xs) (env.set i .un)
  | _ => .bad := rfl
theorem dLV_a : dLV f env = (f env).bind fun d e => .ok (.v d) e := rfl
theorem dFrz_a : dFrz u env = (u env).bind frzE := rfl
theorem frzE_val {e : Sto} : frzE (.val d) e = .ok d e := rfl
theorem frzE_mu {xs : List D} {e : Sto} : frzE (.mu xs) e = .ok (.lst xs) e := rfl
theorem dVal_a : dVal f env = (f env).bind fun d e => .ok (.val d) e := rfl
theorem get_v {e : Sto} : (Ar.v d).get e = some d := rfl
theorem get_s {e : Sto} : (Ar.s i).get e = match e[i]? with
    | some (.val d) => some d
    | some (.mu xs) => some (.lst xs)
    | _ => none := rfl
theorem dBin_a {g : D → D → Option Ent} : dBin g l l2 env = (l env).bind fun a e1 => (l2 e1).bind fun b e2 => match a.get e2, b.get e2 with
  | some x, some y => (match g x y with
    | some r => .ok r e2
    | none => .bad)
  | _, _ => .bad := rfl
theorem dNeg_a : dNeg f env = (f env).bind fun d e => match d with
  | .int i => .ok (.int (-i)) e
  | _ => .bad := rfl
theorem dTB_a : dTB u env = (u env).bind fun r e => match r with
  | .val (.bl b) => .ok b e
  | _ => .bad := rfl
theorem dBT_a : dBT f env = (f env).bind fun d e => match d with
  | .bl b => .ok b e
  | _ => .bad := rfl
theorem dTru_a : dTru l env = (l env).bind fun a e => match a.get e with
  | some d => (match truth d with
    | some b => .ok b e
    | none => .bad)
  | none => .bad := rfl
theorem dNotT_a : dNotT t env = (t env).bind fun b e => .ok (!b) e := rfl
theorem dAndT_a : dAndT t t2 env = (t env).bind fun b e => if b = true then t2 e else .ok false e := rfl
theorem dOrT_a : dOrT t t2 env = (t env).bind fun b e => if b = true then .ok true e else t2 e := rfl
theorem dAndV_a : dAndV f g env = (dBT f env).bind fun b e => if b = true then g e else .ok (.bl false) e := rfl
theorem dOrV_a : dOrV f g env = (dBT f env).bind fun b e => if b = true then .ok (.bl true) e else g e := rfl
theorem dNotL_a : dNotL l env = (dTru l env).bind fun b e => .ok (.bl (!b)) e := rfl
theorem dIf_a : dIf t f g env = (t env).bind fun b e => if b = true then f e else g e := rfl
theorem dIfF_a : dIfF t u u2 env = (t env).bind fun b e => if b = true then u e else u2 e := rfl
theorem dChain_a {g g' : D → D → Option Ent} : dChain g g' l l2 l3 env = (l env).bind fun a e1 => (l2 e1).bind fun b e2 => match a.get e2, b.get e2 with
  | some x, some y => (match g x y with
    | some (.val (.bl true)) => (l3 e2).bind fun c e3 => (match b.get e3, c.get e3 with
      | some y, some z => (match g' y z with
        | some r => .ok r e3
        | none => .bad)
      | _, _ => .bad)
    | some (.val (.bl false)) => .ok (.val (.bl false)) e2
    | _ => .bad)
  | _, _ => .bad := rfl
theorem dVs_n : dVs [] env = .ok [] env := rfl
theorem dVs_c {fs : List DenV} : dVs (f :: fs) env = (f env).bind fun d e => (dVs fs e).bind fun ds e2 => .ok (d :: ds) e2 := rfl
theorem dArs_n : dArs [] env = .ok [] env := rfl
theorem dArs_c {fs : List DenL} : dArs (l :: fs) env = (l env).bind fun d e => (dArs fs e).bind fun ds e2 => .ok (d :: ds) e2 := rfl
theorem dTup_a {fs : List DenV} : dTup fs env = (dVs fs env).bind fun ds e => if ds.length ≤ 1000000 then .ok (.tup ds) e else .bad := rfl
theorem dLst_a {fs : List DenV} : dLst fs env = (dVs fs env).bind fun ds e => if ds.length ≤ 1000000 then .ok (.mu ds) e else .bad := rfl
theorem getAll_n {e : Sto} : getAll [] e = some [] := rfl
theorem getAll_c {a : Ar} {as : List Ar} {e : Sto} : getAll (a :: as) e = match a.get e, getAll as e with
    | some d, some ds => some (d :: ds)
    | _, _ => none := rfl
theorem dCB_a {g : List D → Option Ent} {fs : DenA} : dCB g fs env = (fs env).bind fun as e => match getAll as e with
  | some ds => (match g ds with
    | some r => .ok r e
    | none => .bad)
  | none => .bad := rfl
theorem dCall_a {g : Fn} {dfl : List D} {fs : DenA} : dCall g dfl fs env = (fs env).bind fun as e => match getAll as e with
  | some ds => (match g ((ds ++ dfl).map .val) with
    | .ok r _ => if r.flat = true then .ok r e else .ok r (frzAr as e)
    | .err c ns xs _ => .err c ns xs (frzAr as e)
    | .bad => .bad)
  | none => .bad := rfl
theorem dCall0_a {g : Fn} {dfl : List D} : dCall0 g dfl env = match g (dfl.map .val) with
  | .ok r _ => .ok r env
  | .err c ns xs _ => .err c ns xs env
  | .bad => .bad := rfl
theorem dCallR_a {g : Fn} {dfl : List D} {fs : DenA} : dCallR g j dfl fs env = match env[j]? with
  | some (.mu _) => (fs env).bind fun as e => (match e[j]?, getAll as e, hasS j as with
    | some (.mu xs), some ds, false => (match g (.mu xs :: (ds ++ dfl).map .val) with
      | .ok r (p0 :: _) => .ok r ((frzAr as e).set j p0)
      | .err c ns ys (p0 :: _) => .err c ns ys ((frzAr as e).set j p0)
      | _ => .bad)
    | _, _, _ => .bad)
  | some (.val d) => (fs env).bind fun as e => (match getAll as e with
    | some ds => (match g (.val d :: (ds ++ dfl).map .val) with
      | .ok r _ => .ok r (frzAr as e)
      | .err c ns ys _ => .err c ns ys (frzAr as e)
      | _ => .bad)
    | none => .bad)
  | _ => .bad := rfl
theorem dIsi_a {cs : List String} : dIsi cs l env = (l env).bind fun a e => match a.get e with
  | some d => if noIns d = true then .ok (.bl (isTs d cs)) e else .bad
  | none => .bad := rfl
theorem dSeq_a : dSeq s s2 env = match s env with
  | .ok .nx e => s2 e
  | r => r := rfl
theorem dSkip_a : dSkip env = .ok .nx env := rfl
theorem dIfS_a : dIfS t s s2 env = (t env).bind fun b e => if b = true then s e else s2 e := rfl
theorem dRet_a : dRet u env = (u env).bind fun r e => .ok (.rt r) e := rfl
theorem dSet_a : dSet i u env = (u env).bind fun r e => match r with
  | .val d => .ok .nx (e.set i (.val d))
  | .mu xs => .ok .nx (e.set i (.mu xs))
  | _ => .bad := rfl
theorem dAsg_a {t : Asg} : dAsg t f env = (f env).bind fun d e => match t d e with
  | some e' => .ok .nx e'
  | none => .bad := rfl
theorem asN_a {e : Sto} : asN i d e = some (e.set i (.val d)) := rfl
theorem asT_a {n : Nat} {g : Asgs} {ds : List D} {e : Sto} : asT n g (.tup ds) e = if ds.length = n then g ds e else none := rfl
theorem asT_l {n : Nat} {g : Asgs} {ds : List D} {e : Sto} : asT n g (.lst ds) e = if ds.length = n then g ds e else none := rfl
theorem asC_a {f : Asg} {g : Asgs} {ds : List D} {e : Sto} : asCons f g (d :: ds) e = (f d e).bind (g ds) := rfl
theorem asNil_a {e : Sto} : asNil [] e = some e := rfl
theorem dPar_a {fs : DenVs} : dPar i j fs env = (fs env).bind fun ds e => match ds with
  | [a, b] => .ok .nx ((e.set i (.val a)).set j (.val b))
  | _ => .bad := rfl
theorem dPut_a : dPut i f g env = (g env).bind fun d e1 => match e1[i]? with
  | some (.mu _) => (f e1).bind fun k e2 => (match k, e2[i]? with
    | .int k, some (.mu xs) => (match ixN xs.length k with
      | some j => .ok .nx (e2.set i (.mu (xs.set j d)))
      | none => .bad)
    | _, _ => .bad)
  | _ => .bad := rfl
theorem dExp_a : dExp f env = (f env).bind fun _ e => .ok .nx e := rfl
theorem dApp_a : dApp i f env = match env[i]? with
  | some (.mu _) => (f env).bind fun d e => (match e[i]? with
    | some (.mu xs) => if xs.length < 1000000 then .ok .non (e.set i (.mu (xs ++ [d]))) else .bad
    | _ => .bad)
  | _ => .bad := rfl
theorem dFor_a {t : Asg} {it : DenI} : dFor t it s env = (it env).bind fun items e => loopF t s items e := rfl
theorem loopF_n {t : Asg} {b : DenS} : loopF t b [] env = .ok .nx env := rfl
theorem dIt_a : dIt f env = (f env).bind fun d e => match d.its with
  | some xs => .ok xs e
  | none => .bad := rfl
theorem mkFn_a {np ns : Nat} {b : DenS} {args : List Ent} : mkFn np ns b args = if args.length = np then finF np (b (args ++ List.replicate (ns - np) .un)) else .bad := rfl
end
/-! ### sizes -/
def Bd (k : Nat) (i : Int) : Prop := i.natAbs < 2 ^ k
theorem Bd.mono {k m : Nat} {i : Int} (h : Bd k i) (l : k ≤ m) : Bd m i := Nat.lt_of_lt_of_le h (Nat.pow_le_pow_right (by decide) l)
theorem Bd.log {k : Nat} {i : Int} (h : Bd (k + 1) i) : i.natAbs.log2 ≤ k := by
  by_cases z : i.natAbs = 0
  · rw [z]
    simp
  · have := (Nat.log2_lt z).mpr h
    omega
theorem mulOk_of {k m : Nat} {i j : Int} (h : Bd (k + 1) i) (h2 : Bd (m + 1) j) (l : k + m < 1000000) : mulOk i j = true := by
  have := h.log
  have := h2.log
  unfold mulOk
  rw [decide_eq_true (by omega)]
  rfl
theorem mulOk_r {i j : Int} (h : j.natAbs < 2 ^ 64) : mulOk i j = true := by
  unfold mulOk
  rw [decide_eq_true h, Bool.or_true, Bool.or_true]
theorem mulOk_l {i j : Int} (h : i.natAbs < 2 ^ 64) : mulOk i j = true := by
  unfold mulOk
  rw [decide_eq_true h, Bool.true_or, Bool.or_true]
theorem divOk_of {k : Nat} {j : Int} (h : Bd (k + 1) j) (z : j ≠ 0) (l : k < 9000) : divOk j = true := by
  have := h.log
  exact decide_eq_true ⟨z, by omega⟩
theorem Bd.mul {k m : Nat} {i j : Int} (h : Bd k i) (h2 : Bd m j) : Bd (k + m) (i * j) := by
  unfold Bd at *
  rw [Int.natAbs_mul, Nat.pow_add]
  exact Nat.mul_lt_mul'' h h2
theorem Bd.add {k : Nat} {i j : Int} (h : Bd k i) (h2 : Bd k j) : Bd (k + 1) (i + j) := by
  unfold Bd at *
  have := Int.natAbs_add_le i j
  rw [Nat.pow_succ]
  omega
theorem Bd.sub {k : Nat} {i j : Int} (h : Bd k i) (h2 : Bd k j) : Bd (k + 1) (i - j) := by
  unfold Bd at *
  have := Int.natAbs_sub_le i j
  rw [Nat.pow_succ]
  omega
theorem Bd.neg {k : Nat} {i : Int} (h : Bd k i) : Bd k (-i) := by
  unfold Bd at *
  rw [Int.natAbs_neg]
  exact h
theorem Bd.of_le {k : Nat} {i j : Int} (h : Bd k j) (l : i.natAbs ≤ j.natAbs) : Bd k i := Nat.lt_of_le_of_lt l h
theorem Bd.div {k : Nat} {i j : Int} (h : Bd k i) : Bd k (i / j) := h.of_le (Int.natAbs_ediv_le_natAbs i j)
end Ev

set_option Elab.async false
set_option linter.all false
set_option maxRecDepth 100000
set_option maxHeartbeats 4000000
namespace Ev
open PySem PySem.Spec PyProof.Rows L2
mutual
theorem deq_refl : ∀ (n : Nat) (d : D), shp n d = true → deq d d = true
  | n, .non, h => rfl
  | n, .bl b, h => by
    unfold deq D.py PyData.eqv
    simp
  | n, .int i, h => by
    unfold deq D.py PyData.eqv
    simp
  | n, .str s, h => by
    unfold deq D.py PyData.eqv
    simp
  | 0, .tup xs, h => by cases h
  | 0, .lst xs, h => by cases h
  | 0, .fl xs, h => by cases h
  | n + 1, .tup xs, h => by
    have := deqs_refl n xs h
    unfold deq D.py PyData.eqv
    exact this
  | n + 1, .lst xs, h => by
    have := deqs_refl n xs h
    unfold deq D.py PyData.eqv
    exact this
  | n + 1, .fl xs, h => by
    have := deqs_refl n xs h
    unfold deq D.py PyData.eqv
    exact this
  | n, .ins _ _ _, h => by
    cases n <;> cases h
  | n, .fn _, h => by
    cases n <;> cases h
theorem deqs_refl : ∀ (n : Nat) (ds : List D), shps n ds = true → deqs ds ds = true
  | n, [], h => rfl
  | n, d :: ds, h => by
    unfold shps at h
    rw [Bool.and_eq_true] at h
    have h1 := deq_refl n d h.1
    have h2 := deqs_refl n ds h.2
    unfold deqs pys PyData.eqvAll
    unfold deq at h1
    unfold deqs at h2
    rw [h1, h2]
    rfl
end
theorem gEq_self {d : D} (h : shp 64 d = true) : gEq d d = vb true := by
  unfold gEq
  rw [if_pos ⟨h, h⟩, deq_refl 64 d h]
theorem gNe_self {d : D} (h : shp 64 d = true) : gNe d d = vb false := by
  unfold gNe
  rw [if_pos ⟨h, h⟩, deq_refl 64 d h]
  rfl
theorem gEq_of {d e : D} (h : shp 64 d = true) (q : e = d) : gEq d e = vb true := by
  rw [q]
  exact gEq_self h
theorem gNe_of {d e : D} (h : shp 64 d = true) (q : e = d) : gNe d e = vb false := by
  rw [q]
  exact gNe_self h
theorem deq_int {i j : Int} : deq (.int i) (.int j) = decide (i = j) := by
  unfold deq D.py PyData.eqv
  by_cases h : i = j
  · simp [h]
  · simp [h]
theorem gEq_int {i j : Int} : gEq (.int i) (.int j) = vb (decide (i = j)) := by
  unfold gEq
  rw [if_pos ⟨rfl, rfl⟩, deq_int]
theorem gNe_int {i j : Int} : gNe (.int i) (.int j) = vb (!decide (i = j)) := by
  unfold gNe
  rw [if_pos ⟨rfl, rfl⟩, deq_int]
/-! ### the small list's items -/
section
variable {x y z w : D} {xs : List D}
theorem atI_nat {n : Nat} {d : D} (h : xs[n]? = some d) : atI xs (n : Int) = some d := by
  have hn : n < xs.length := by
    rcases Nat.lt_or_ge n xs.length with q | q
    · exact q
    · rw [List.getElem?_eq_none q] at h
      cases h
  unfold atI ixN
  rw [if_pos (Int.natCast_nonneg n), if_pos (by omega)]
  exact h
theorem at0 : atI (x :: xs) 0 = some x := atI_nat (n := 0) rfl
theorem at1 : atI (x :: y :: xs) 1 = some y := atI_nat (n := 1) rfl
theorem at2 : atI (x :: y :: z :: xs) 2 = some z := atI_nat (n := 2) rfl
theorem at3 : atI (x :: y :: z :: w :: xs) 3 = some w := atI_nat (n := 3) rfl
theorem ix_t0 : gIx (.tup (x :: xs)) (.int 0) = some (.val x) := congrArg (Option.map Ent.val) at0
theorem ix_t1 : gIx (.tup (x :: y :: xs)) (.int 1) = some (.val y) := congrArg (Option.map Ent.val) at1
theorem ix_t2 : gIx (.tup (x :: y :: z :: xs)) (.int 2) = some (.val z) := congrArg (Option.map Ent.val) at2
theorem ix_t3 : gIx (.tup (x :: y :: z :: w :: xs)) (.int 3) = some (.val w) := congrArg (Option.map Ent.val) at3
theorem ix_l0 : gIx (.lst (x :: xs)) (.int 0) = some (.val x) := congrArg (Option.map Ent.val) at0
theorem ix_l1 : gIx (.lst (x :: y :: xs)) (.int 1) = some (.val y) := congrArg (Option.map Ent.val) at1
theorem ix_l2 : gIx (.lst (x :: y :: z :: xs)) (.int 2) = some (.val z) := congrArg (Option.map Ent.val) at2
theorem ix_l3 : gIx (.lst (x :: y :: z :: w :: xs)) (.int 3) = some (.val w) := congrArg (Option.map Ent.val) at3
theorem ixN4_0 {n : Nat} : ixN (n + 1) 0 = some 0 := by
  unfold ixN
  rw [if_pos (by decide), if_pos (by omega)]
  rfl
theorem ixN4_1 {n : Nat} : ixN (n + 1 + 1) 1 = some 1 := by
  unfold ixN
  rw [if_pos (by decide), if_pos (by omega)]
  rfl
theorem ixN4_2 {n : Nat} : ixN (n + 1 + 1 + 1) 2 = some 2 := by
  unfold ixN
  rw [if_pos (by decide), if_pos (by omega)]
  rfl
theorem ixN4_3 {n : Nat} : ixN (n + 1 + 1 + 1 + 1) 3 = some 3 := by
  unfold ixN
  rw [if_pos (by decide), if_pos (by omega)]
  rfl
theorem ixc_0 : ixN 4 0 = some 0 := rfl
theorem ixc_1 : ixN 4 1 = some 1 := rfl
theorem ixc_2 : ixN 4 2 = some 2 := rfl
theorem ixc_3 : ixN 4 3 = some 3 := rfl
end
/-! ### numbers -/
theorem gAdd_i {i j : Int} : gAdd (.int i) (.int j) = some (.val (.int (i + j))) := rfl
theorem gSub_i {i j : Int} : gSub (.int i) (.int j) = some (.val (.int (i - j))) := rfl
theorem gMul_i {i j : Int} (h : mulOk i j = true) : gMul (.int i) (.int j) = some (.val (.int (i * j))) := if_pos h
theorem gDiv_i {i j : Int} (h : divOk j = true) : gDiv (.int i) (.int j) = some (.val (.int (i.fdiv j))) := if_pos h
theorem gMod_i {i j : Int} (h : j ≠ 0) : gMod (.int i) (.int j) = some (.val (.int (i.fmod j))) := if_neg h
theorem gLt_i {i j : Int} : gLt (.int i) (.int j) = vb (decide (i < j)) := rfl
theorem gLe_i {i j : Int} : gLe (.int i) (.int j) = vb (decide (i ≤ j)) := rfl
theorem gGt_i {i j : Int} : gGt (.int i) (.int j) = vb (decide (j < i)) := rfl
theorem gGe_i {i j : Int} : gGe (.int i) (.int j) = vb (decide (j ≤ i)) := rfl
theorem gInt_i {i : Int} : gInt [.int i] = some (.val (.int i)) := rfl
theorem gLen_l {xs : List D} : gLen [.lst xs] = some (.val (.int xs.length)) := rfl
theorem gLen_f {xs : List D} : gLen [.fl xs] = some (.val (.int xs.length)) := rfl
theorem gLen_t {xs : List D} : gLen [.tup xs] = some (.val (.int xs.length)) := rfl
theorem gAbs_i {i : Int} : gAbs [.int i] = some (.val (.int (i.natAbs : Int))) := by
  have e : (if i < 0 then -i else i) = (i.natAbs : Int) := by
    by_cases h : i < 0
    · rw [if_pos h]
      omega
    · rw [if_neg h]
      omega
  exact congrArg (fun z => some (Ent.val (.int z))) e
theorem its_l {xs : List D} : D.its (.lst xs) = some xs := rfl
theorem its_t {xs : List D} : D.its (.tup xs) = some xs := rfl
theorem its_f {xs : List D} : D.its (.fl xs) = some xs := rfl
theorem Bd.nat {k n : Nat} (h : n < 2 ^ k) : Bd k (n : Int) := h
theorem Bd.lit {k : Nat} {i : Int} (h : i.natAbs < 2 ^ k := by decide) : Bd k i := h
theorem fmod_range {a b : Int} (h : 0 < b) : 0 ≤ a.fmod b ∧ a.fmod b < b := by
  rw [Int.fmod_eq_emod_of_nonneg _ (Int.le_of_lt h)]
  exact ⟨Int.emod_nonneg _ (by omega), Int.emod_lt_of_pos _ h⟩
theorem fdiv_pos {a b : Int} (h : 0 < b) : a.fdiv b = a / b := Int.fdiv_eq_ediv_of_nonneg _ (Int.le_of_lt h)
theorem Bd.ofR {k : Nat} {i b : Int} (h : 0 ≤ i ∧ i < b) (hb : b ≤ 2 ^ k) : Bd k i := by
  unfold Bd
  have : (i.natAbs : Int) < (2 ^ k : Nat) := by
    rw [Int.natCast_pow]
    have : ((2 : Nat) : Int) = 2 := rfl
    rw [this]
    omega
  exact Int.ofNat_lt.mp this
end Ev

set_option Elab.async false
set_option linter.all false
set_option maxRecDepth 100000
set_option maxHeartbeats 4000000
namespace Ev
open PySem PySem.Spec PyProof.Rows L2
/-! ### what a call hands back, its parameters forgotten -/
def FR.st : FR → FR
  | .ok r _ => .ok r []
  | .err c ns xs _ => .err c ns xs []
  | .bad => .bad
def stF : Res Fl → FR
  | .ok .nx _ => .ok (.val .non) []
  | .ok (.rt r) _ => .ok r []
  | .err c ns xs _ => .err c ns xs []
  | _ => .bad
theorem finF_s {np : Nat} {r : Res Fl} : (finF np r).st = stF r := by
  cases r with
  | ok f e => cases f <;> rfl
  | err c ns xs e => rfl
  | bad => rfl
theorem mkFn_s {np ns : Nat} {b : DenS} {args : List Ent} : (mkFn np ns b args).st = if args.length = np then stF (b (args ++ List.replicate (ns - np) .un)) else .bad := by
  unfold mkFn
  split
  · exact finF_s
  · rfl
theorem stF_rt {r : Ent} {e : Sto} : stF (.ok (.rt r) e) = .ok r [] := rfl
theorem stF_nx {e : Sto} : stF (.ok .nx e) = .ok (.val .non) [] := rfl
theorem stF_er {c : Str} {ns : List Str} {xs : List D} {e : Sto} : stF (.err c ns xs e) = .err c ns xs [] := rfl
theorem recFn_st {np ns : Nat} {den : Fn → DenS} {n : Nat} {args : List Ent} : (recFn np ns den (n + 1) args).st = if args.length = np then stF (den (recFn np ns den n) (args ++ List.replicate (ns - np) .un)) else .bad := mkFn_s
section
variable {env : Sto} {f g : DenV} {u u2 : DenF} {l l2 l3 : DenL} {t t2 : DenT} {s s2 : DenS} {i j k : Nat} {d x y z : D} {xs ys ds : List D} {h : Fn} {dfl : List D} {fs : DenA}
theorem dCall_s : dCall h dfl fs env = (fs env).bind fun as e => match getAll as e with
  | some ds => (match (h ((ds ++ dfl).map .val)).st with
    | .ok r _ => if r.flat = true then .ok r e else .ok r (frzAr as e)
    | .err c ns xs _ => .err c ns xs (frzAr as e)
    | .bad => .bad)
  | none => .bad := by
  unfold dCall
  congr 1
  funext as e
  cases getAll as e with
  | none => rfl
  | some ds =>
    cases hh : h ((ds ++ dfl).map .val) <;> simp only [hh, FR.st]
theorem dCall0_s : dCall0 h dfl env = match (h (dfl.map .val)).st with
  | .ok r _ => .ok r env
  | .err c ns xs _ => .err c ns xs env
  | .bad => .bad := by
  unfold dCall0
  cases h (dfl.map .val) <;> rfl
theorem dCallK_s {n m : Nat} {l : List Src} {fs gs : DenVs} : dCallK h n m l dfl fs gs env = (fs env).bind fun ds e1 => (gs e1).bind fun zs e2 => if ds.length = n ∧ zs.length = m then (match (h ((arr l ds zs dfl).map .val)).st with
  | .ok r _ => .ok r e2
  | .err c ns xs _ => .err c ns xs e2
  | .bad => .bad) else .bad := by
  unfold dCallK
  congr 1
  funext ds e1
  congr 1
  funext zs e2
  split
  · cases h ((arr l ds zs dfl).map .val) <;> rfl
  · rfl
theorem dCallV_s {tab : List (Str × Fn)} {fs : DenA} : dCallV tab i fs env = match env[i]? with
  | some (.val (.fn x)) => (match tab.lookup x with
    | some g => dCall g [] fs env
    | none => .bad)
  | _ => .bad := rfl
/-! ### the other constructs -/
theorem dIsK_e {g : D → Option Bool} : dIsK g l env = (l env).bind fun a e => match a.get e with
  | some d => (match g d with
    | some b => .ok (.bl b) e
    | none => .bad)
  | none => .bad := rfl
theorem dAt_e {cs : List Str} {n : Str} : dAt cs n l env = (l env).bind fun a e => match a.get e with
  | some (.ins c ns xs) => if cs.contains c = true then (match (ns.zip xs).lookup n with
    | some d => .ok d e
    | none => .bad) else .bad
  | _ => .bad := rfl
theorem dRev_e {p : DenP} : dRev l p env = (l env).bind fun a e1 => (p e1).bind fun hi e2 => match a.get e2 with
  | some x => (match gRev x hi with
    | some r => .ok r e2
    | none => .bad)
  | none => .bad := rfl
theorem dPar3_e {fs : DenVs} : dPar3 i j k fs env = (fs env).bind fun ds e => match ds with
  | [a, b, c] => .ok .nx (((e.set i (.val a)).set j (.val b)).set k (.val c))
  | _ => .bad := rfl
theorem dEnum_e {f : DenVs} : dEnum f env = (f env).bind fun ds e => match ds with
  | [d] => (match d.its with
    | some xs => .ok (enumD 0 xs) e
    | none => .bad)
  | _ => .bad := rfl
theorem dZip_e {f : DenVs} : dZip f env = (f env).bind fun ds e => match ds with
  | [d, d2] => (match d.its, d2.its with
    | some xs, some ys => .ok (zipD xs ys) e
    | _, _ => .bad)
  | _ => .bad := rfl
theorem enumD_n : enumD k [] = [] := rfl
theorem enumD_c : enumD k (x :: xs) = .tup [.int (k : Nat), x] :: enumD (k + 1) xs := rfl
theorem zipD_c : zipD (x :: xs) (y :: ys) = .tup [x, y] :: zipD xs ys := rfl
theorem zipD_n : zipD [] ys = [] := rfl
theorem zipD_m : zipD xs [] = [] := by cases xs <;> rfl
theorem dRng1_e : dRng1 fs env = (fs env).bind fun as e => match getAll as e with
  | some [.int n] => if rngB n = true then .ok (rngD 0 n.toNat) e else .bad
  | _ => .bad := rfl
theorem dPs_e : dPs f env = (f env).bind fun d e => match d with
  | .int i => .ok (some i) e
  | _ => .bad := rfl
theorem dPn_e : dPn env = .ok none env := rfl
theorem dSl_e {p q : DenP} : dSl l p q env = (l env).bind fun a e1 => (p e1).bind fun lo e2 => (q e2).bind fun hi e3 => match a.get e3 with
  | some x => (match gSl x lo hi with
    | some r => .ok r e3
    | none => .bad)
  | none => .bad := rfl
theorem frzS_e : frzS env j = match env[j]? with
  | some (.mu xs) => env.set j (.val (.lst xs))
  | _ => env := rfl
theorem dMake_e {c : Str} {ns : List Str} {g : List D → Res (List D)} {fs : DenVs} : dMake c ns g dfl fs env = (fs env).bind fun ds e => match g (ds ++ dfl) with
  | .ok xs _ => if xs.length = ns.length then .ok (.ins c ns xs) e else .bad
  | .err k ks ys _ => .err k ks ys e
  | .bad => .bad := rfl
theorem dProp_e {c : Str} {g : Fn} : dProp c g f env = (f env).bind fun d e => match d with
  | .ins k ns xs => if k = c then (match g [.val (.ins k ns xs)] with
    | .ok r _ => .ok r e
    | _ => .bad) else .bad
  | _ => .bad := rfl
theorem noX_n : noX [] = [] := rfl
theorem noX_v {e : Sto} : noX (.val d :: e) = .val d :: noX e := rfl
theorem noX_m {e : Sto} : noX (.mu xs :: e) = .mu xs :: noX e := rfl
theorem noX_u {e : Sto} : noX (.un :: e) = .un :: noX e := rfl
theorem noX_x {e : Sto} {c : Str} {ns : List Str} : noX (.exn c ns xs :: e) = .un :: noX e := rfl
theorem finX_s {f : Fl} {i : Nat} {e : Sto} : finX (some i) (.ok f e) = .ok f ((noX e).set i .un) := rfl
theorem finX_n {f : Fl} {e : Sto} : finX none (.ok f e) = .ok f (noX e) := rfl
theorem gSum_l {ns : List Int} (h : intsOf xs = some ns) : gSum [.lst xs] = some (.val (.int ns.sum)) := by
  show (Option.bind (some xs) fun xs => (intsOf xs).map fun ns => Ent.val (.int ns.sum)) = _
  rw [Option.bind_some, h]
  rfl
theorem dBreak_e : dBreak env = .ok .bk env := rfl
theorem dCont_e : dCont env = .ok .ct env := rfl
theorem rngD_z {lo : Int} : rngD lo 0 = [] := rfl
theorem rngD_s {lo : Int} {n : Nat} : rngD lo (n + 1) = .int lo :: rngD (lo + 1) n := by
  unfold rngD
  rw [List.range_succ_eq_map, List.map_cons, List.map_map, Int.natCast_zero, Int.add_zero]
  refine congrArg _ (List.map_congr_left fun i _ => congrArg D.int ?_)
  show lo + ((i + 1 : Nat) : Int) = lo + 1 + (i : Int)
  omega
theorem dTrue_e : dTrue env = .ok true env := rfl
theorem dLc_e {own : List Nat} {t : Asg} {it : DenI} {c : DenT} : dLc own t it c f env = (it env).bind fun items e => if okOwn e own = true then (loopC own t c f items [] (wipeE e own)).bindX fun acc e' => .ok (.mu acc) (restE e e' own) else .bad := rfl
theorem loopC_n {own : List Nat} {t : Asg} {c : DenT} {acc : List D} : loopC own t c f [] acc env = .ok acc env := rfl
theorem loopC_c {own : List Nat} {t : Asg} {c : DenT} {acc : List D} : loopC own t c f (d :: ds) acc env = match t d env with
    | none => .bad
    | some e1 => (c e1).bindX fun b e2 => if b = true then (f e2).bindX fun y e3 => (if acc.length < 1000000 then loopC own t c f ds (acc ++ [y]) (wipeE e3 own) else .bad) else loopC own t c f ds acc (wipeE e2 own) := rfl
def eleC (t : Asg) (c : DenT) (f : DenV) (d : D) (env : Sto) : Res (Option D) := match t d env with
    | none => .bad
    | some e1 => match c e1 with
      | .ok true e2 => (match f e2 with
        | .ok y e3 => .ok (some y) e3
        | _ => .bad)
      | .ok false e2 => .ok none e2
      | _ => .bad
def goC (own : List Nat) (t : Asg) (c : DenT) (f : DenV) (ds acc : List D) : Res (Option D) → Res (List D)
    | .ok (some y) e => if acc.length < 1000000 then loopC own t c f ds (acc ++ [y]) (wipeE e own) else .bad
    | .ok none e => loopC own t c f ds acc (wipeE e own)
    | _ => .bad
theorem loopC_k {own : List Nat} {t : Asg} {c : DenT} {acc : List D} : loopC own t c f (d :: ds) acc env = goC own t c f ds acc (eleC t c f d env) := by
  rw [loopC_c]
  unfold eleC
  cases h : t d env with
  | none => rfl
  | some e1 =>
    dsimp only
    cases h2 : c e1 with
    | ok b e2 =>
      cases b with
      | true =>
        dsimp only [Res.bindX]
        simp only [if_true]
        cases f e2 <;> rfl
      | false => rfl
    | err _ _ _ _ => rfl
    | bad => rfl
theorem goC_s {own : List Nat} {t : Asg} {c : DenT} {acc : List D} : goC own t c f ds acc (.ok (some y) env) = if acc.length < 1000000 then loopC own t c f ds (acc ++ [y]) (wipeE env own) else .bad := rfl
theorem goC_o {own : List Nat} {t : Asg} {c : DenT} {acc : List D} : goC own t c f ds acc (.ok none env) = loopC own t c f ds acc (wipeE env own) := rfl
theorem eleC_e {t : Asg} {c : DenT} : eleC t c f d env = match t d env with
    | none => .bad
    | some e1 => match c e1 with
      | .ok true e2 => (match f e2 with
        | .ok y e3 => .ok (some y) e3
        | _ => .bad)
      | .ok false e2 => .ok none e2
      | _ => .bad := rfl
theorem bindX_o {α β : Type} {a : α} {e : Sto} {k : α → Sto → Res β} : (Res.ok a e).bindX k = k a e := rfl
theorem loopF_c {t : Asg} {b : DenS} : loopF t b (d :: ds) env = match t d env with
    | none => .bad
    | some e1 => (match b e1 with
      | .ok .nx e2 => loopF t b ds e2
      | .ok .ct e2 => loopF t b ds e2
      | .ok .bk e2 => .ok .nx e2
      | r => r) := rfl
theorem wipeE_n : wipeE env [] = env := rfl
theorem wipeE_c {v : Nat} {vs : List Nat} : wipeE env (v :: vs) = (wipeE env vs).set v .un := rfl
theorem restE_n {e1 : Sto} : restE env e1 [] = e1 := rfl
theorem restE_c {e1 : Sto} {v : Nat} {vs : List Nat} : restE env e1 (v :: vs) = (restE env e1 vs).set v ((env[v]?).getD .un) := rfl
theorem okOwn_n : okOwn env [] = true := rfl
theorem okOwn_c {v : Nat} {vs : List Nat} : okOwn env (v :: vs) = ((match env[v]? with
  | some .un => true
  | some (.val _) => true
  | _ => false) && okOwn env vs) := rfl
theorem dTry_e {T : XTab} {body : DenS} {hs : List (Str × Option Nat × DenS)} : dTry T body hs env = match body env with
  | .err c ns xs e => runH T c ns xs e hs
  | r => r := rfl
theorem runH_n {T : XTab} {c : Str} {ns : List Str} : runH T c ns xs env [] = .err c ns xs env := rfl
theorem runH_c {T : XTab} {c h : Str} {ns : List Str} {o : Option Nat} {g : DenS} {r : List (Str × Option Nat × DenS)} : runH T c ns xs env ((h, o, g) :: r) = match T c h with
    | some true => finX o (g (match o with
      | some i => (noX env).set i (.exn c ns xs)
      | none => noX env))
    | some false => runH T c ns xs env r
    | none => .bad := rfl
theorem dRaise_e {c : Str} {ns : List Str} {fs : List DenV} : dRaise c ns fs env = (dVs fs env).bind fun ds e => if ds.length = ns.length then .err c ns.reverse ds.reverse e else .bad := rfl
theorem dXf_e {cs : List Str} {n : Str} : dXf cs i n env = match env[i]? with
  | some (.exn c ns xs) => if cs.contains c = true then (match (ns.zip xs).lookup n with
    | some d => .ok d env
    | none => .bad) else .bad
  | _ => .bad := rfl
/-! ### data -/
theorem shp_i {n : Nat} {i : Int} : shp n (.int i) = true := by cases n <;> rfl
theorem shp_b {n : Nat} {i : Bool} : shp n (.bl i) = true := by cases n <;> rfl
theorem shp_o {n : Nat} : shp n .non = true := by cases n <;> rfl
theorem shp_s {n : Nat} {i : Str} : shp n (.str i) = PyData.strOk i := by cases n <;> rfl
theorem shp_t {n : Nat} : shp (n + 1) (.tup xs) = shps n xs := rfl
theorem shp_l {n : Nat} : shp (n + 1) (.lst xs) = shps n xs := rfl
theorem shp_f {n : Nat} : shp (n + 1) (.fl xs) = shps n xs := rfl
theorem shps_n {n : Nat} : shps n [] = true := by cases n <;> rfl
theorem shps_c {n : Nat} : shps n (d :: ds) = (shp n d && shps n ds) := by cases n <;> rfl
theorem gEq_e : gEq x y = if shp 64 x = true ∧ shp 64 y = true then vb (deq x y) else none := rfl
theorem gNe_e : gNe x y = if shp 64 x = true ∧ shp 64 y = true then vb (!deq x y) else none := rfl
theorem gEq_ci {i : Int} : gEq (.int i) y = if shp 64 (.int i) = true ∧ shp 64 y = true then vb (deq (.int i) y) else none := rfl
theorem gNe_ci {i : Int} : gNe (.int i) y = if shp 64 (.int i) = true ∧ shp 64 y = true then vb (!deq (.int i) y) else none := rfl
theorem gEq_cb {i : Bool} : gEq (.bl i) y = if shp 64 (.bl i) = true ∧ shp 64 y = true then vb (deq (.bl i) y) else none := rfl
theorem gNe_cb {i : Bool} : gNe (.bl i) y = if shp 64 (.bl i) = true ∧ shp 64 y = true then vb (!deq (.bl i) y) else none := rfl
theorem gEq_cs {i : Str} : gEq (.str i) y = if shp 64 (.str i) = true ∧ shp 64 y = true then vb (deq (.str i) y) else none := rfl
theorem gNe_cs {i : Str} : gNe (.str i) y = if shp 64 (.str i) = true ∧ shp 64 y = true then vb (!deq (.str i) y) else none := rfl
theorem gEq_co : gEq (.non) y = if shp 64 (.non) = true ∧ shp 64 y = true then vb (deq (.non) y) else none := rfl
theorem gNe_co : gNe (.non) y = if shp 64 (.non) = true ∧ shp 64 y = true then vb (!deq (.non) y) else none := rfl
theorem gEq_ct : gEq (.tup xs) y = if shp 64 (.tup xs) = true ∧ shp 64 y = true then vb (deq (.tup xs) y) else none := rfl
theorem gNe_ct : gNe (.tup xs) y = if shp 64 (.tup xs) = true ∧ shp 64 y = true then vb (!deq (.tup xs) y) else none := rfl
theorem gEq_cl : gEq (.lst xs) y = if shp 64 (.lst xs) = true ∧ shp 64 y = true then vb (deq (.lst xs) y) else none := rfl
theorem gNe_cl : gNe (.lst xs) y = if shp 64 (.lst xs) = true ∧ shp 64 y = true then vb (!deq (.lst xs) y) else none := rfl
theorem gEq_cf : gEq (.fl xs) y = if shp 64 (.fl xs) = true ∧ shp 64 y = true then vb (deq (.fl xs) y) else none := rfl
theorem gNe_cf : gNe (.fl xs) y = if shp 64 (.fl xs) = true ∧ shp 64 y = true then vb (!deq (.fl xs) y) else none := rfl
theorem beq_intD {i j : Int} : (i == j) = decide (i = j) := by
  by_cases q : i = j
  · simp [q]
  · simp [q]
theorem deq_ii {i j : Int} : deq (.int i) (.int j) = decide (i = j) := deq_int
theorem deq_bb {a b : Bool} : deq (.bl a) (.bl b) = (a == b) := by unfold deq D.py PyData.eqv; rfl
theorem deq_bi {a : Bool} {j : Int} : deq (.bl a) (.int j) = decide ((if a then 1 else 0) = j) := by
  unfold deq D.py PyData.eqv
  exact beq_intD
theorem deq_ib {a : Bool} {j : Int} : deq (.int j) (.bl a) = decide (j = (if a then 1 else 0)) := by
  unfold deq D.py PyData.eqv
  exact beq_intD
theorem deq_ss {a b : Str} : deq (.str a) (.str b) = (a == b) := by unfold deq D.py PyData.eqv; rfl
theorem deq_tt : deq (.tup xs) (.tup ys) = deqs xs ys := by unfold deq D.py PyData.eqv; rfl
theorem deq_ll : deq (.lst xs) (.lst ys) = deqs xs ys := by unfold deq D.py PyData.eqv; rfl
theorem deq_lf : deq (.lst xs) (.fl ys) = deqs xs ys := by unfold deq D.py PyData.eqv; rfl
theorem deq_fl : deq (.fl xs) (.lst ys) = deqs xs ys := by unfold deq D.py PyData.eqv; rfl
theorem deq_ff : deq (.fl xs) (.fl ys) = deqs xs ys := by unfold deq D.py PyData.eqv; rfl
theorem deq_oo : deq .non .non = true := by unfold deq D.py PyData.eqv; rfl
theorem deqs_nn : deqs [] [] = true := rfl
theorem deqs_cc : deqs (x :: xs) (y :: ys) = (deq x y && deqs xs ys) := by
  unfold deqs
  rw [pys, pys, PyData.eqvAll]
  rfl
theorem deqs_nc : deqs [] (y :: ys) = false := rfl
theorem deqs_cn : deqs (x :: xs) [] = false := rfl
theorem deq_oi {i : Int} : deq .non (.int i) = false := by unfold deq D.py PyData.eqv; rfl
theorem deq_io {i : Int} : deq (.int i) .non = false := by unfold deq D.py PyData.eqv; rfl
theorem deq_ob {i : Bool} : deq .non (.bl i) = false := by unfold deq D.py PyData.eqv; rfl
theorem deq_bo {i : Bool} : deq (.bl i) .non = false := by unfold deq D.py PyData.eqv; rfl
theorem deq_os {i : Str} : deq .non (.str i) = false := by unfold deq D.py PyData.eqv; rfl
theorem deq_so {i : Str} : deq (.str i) .non = false := by unfold deq D.py PyData.eqv; rfl
theorem deq_ot : deq .non (.tup xs) = false := by unfold deq D.py PyData.eqv; rfl
theorem deq_to : deq (.tup xs) .non = false := by unfold deq D.py PyData.eqv; rfl
theorem deq_ol : deq .non (.lst xs) = false := by unfold deq D.py PyData.eqv; rfl
theorem deq_lo : deq (.lst xs) .non = false := by unfold deq D.py PyData.eqv; rfl
theorem deq_it {i : Int} : deq (.int i) (.tup xs) = false := by unfold deq D.py PyData.eqv; rfl
theorem deq_ti {i : Int} : deq (.tup xs) (.int i) = false := by unfold deq D.py PyData.eqv; rfl
theorem deq_il {i : Int} : deq (.int i) (.lst xs) = false := by unfold deq D.py PyData.eqv; rfl
theorem deq_li {i : Int} : deq (.lst xs) (.int i) = false := by unfold deq D.py PyData.eqv; rfl
theorem deq_is {i : Int} {a : Str} : deq (.int i) (.str a) = false := by unfold deq D.py PyData.eqv; rfl
theorem deq_si {i : Int} {a : Str} : deq (.str a) (.int i) = false := by unfold deq D.py PyData.eqv; rfl
theorem deq_tl : deq (.tup xs) (.lst ys) = false := by unfold deq D.py PyData.eqv; rfl
theorem deq_lt : deq (.lst xs) (.tup ys) = false := by unfold deq D.py PyData.eqv; rfl
theorem deq_ts {a : Str} : deq (.tup xs) (.str a) = false := by unfold deq D.py PyData.eqv; rfl
theorem deq_st {a : Str} : deq (.str a) (.tup xs) = false := by unfold deq D.py PyData.eqv; rfl
theorem deq_ls {a : Str} : deq (.lst xs) (.str a) = false := by unfold deq D.py PyData.eqv; rfl
theorem deq_sl {a : Str} : deq (.str a) (.lst xs) = false := by unfold deq D.py PyData.eqv; rfl
theorem deq_bt {a : Bool} : deq (.bl a) (.tup xs) = false := by unfold deq D.py PyData.eqv; rfl
theorem deq_tb {a : Bool} : deq (.tup xs) (.bl a) = false := by unfold deq D.py PyData.eqv; rfl
theorem deq_bs {a : Bool} {b : Str} : deq (.bl a) (.str b) = false := by unfold deq D.py PyData.eqv; rfl
theorem deq_sb {a : Bool} {b : Str} : deq (.str b) (.bl a) = false := by unfold deq D.py PyData.eqv; rfl
theorem tru_b {b : Bool} : truth (.bl b) = some b := rfl
theorem tru_l : truth (.lst xs) = some (!xs.isEmpty) := rfl
theorem tru_t : truth (.tup xs) = some (!xs.isEmpty) := rfl
theorem tru_i {i : Int} : truth (.int i) = some (i != 0) := rfl
theorem tru_o : truth .non = some false := rfl
theorem ni_i {i : Int} : noIns (.int i) = true := rfl
theorem ni_b {i : Bool} : noIns (.bl i) = true := rfl
theorem ni_s {i : Str} : noIns (.str i) = true := rfl
theorem ni_o : noIns .non = true := rfl
theorem ni_t : noIns (.tup xs) = true := rfl
theorem ni_l : noIns (.lst xs) = true := rfl
theorem ni_f : noIns (.fl xs) = true := rfl
theorem isTs_n : isTs d [] = false := rfl
theorem isTs_c {c : String} {cs : List String} : isTs d (c :: cs) = (isT d c || isTs d cs) := rfl
theorem isT_i {i : Int} {c : String} : isT (.int i) c = (c == "int") := rfl
theorem isT_b {i : Bool} {c : String} : isT (.bl i) c = (c == "bool" || c == "int") := rfl
theorem isT_s {i : Str} {c : String} : isT (.str i) c = (c == "str") := rfl
theorem isT_t {c : String} : isT (.tup xs) c = (c == "tuple") := rfl
theorem isT_l {c : String} : isT (.lst xs) c = (c == "list") := rfl
theorem isT_f {c : String} : isT (.fl xs) c = (c == "list") := rfl
theorem isT_o {c : String} : isT .non c = false := rfl
theorem gIs_n : gIs x .non = vb x.isN := by cases x <;> rfl
theorem gIs_bb {a b : Bool} : gIs (.bl a) (.bl b) = vb (decide (a = b)) := rfl
theorem gIsNot_n : gIsNot x .non = vb (!x.isN) := by cases x <;> rfl
theorem gIsNot_bb {a b : Bool} : gIsNot (.bl a) (.bl b) = vb (!decide (a = b)) := rfl
theorem isN_o : D.isN .non = true := rfl
theorem isN_i {i : Int} : D.isN (.int i) = false := rfl
theorem isN_b {i : Bool} : D.isN (.bl i) = false := rfl
theorem isN_s {i : Str} : D.isN (.str i) = false := rfl
theorem isN_t : D.isN (.tup xs) = false := rfl
theorem isN_l : D.isN (.lst xs) = false := rfl
theorem isN_f : D.isN (.fl xs) = false := rfl
theorem gList_t : gList [.tup xs] = some (.mu xs) := rfl
theorem gList_l : gList [.lst xs] = some (.mu xs) := rfl
theorem gList_f : gList [.fl xs] = some (.mu xs) := rfl
theorem gTuple_l : gTuple [.lst xs] = some (.val (.tup xs)) := rfl
theorem gTuple_f : gTuple [.fl xs] = some (.val (.tup xs)) := rfl
theorem gTuple_t : gTuple [.tup xs] = some (.val (.tup xs)) := rfl
theorem gGcd_e {i j : Int} : gGcd [.int i, .int j] = some (.val (.int ((Nat.gcd i.natAbs j.natAbs : Nat) : Int))) := rfl
theorem gIx_t {i : Int} : gIx (.tup xs) (.int i) = (atI xs i).map .val := rfl
theorem gIx_l {i : Int} : gIx (.lst xs) (.int i) = (atI xs i).map .val := rfl
theorem gIx_f {i : Int} : gIx (.fl xs) (.int i) = (atI xs i).map .val := rfl
theorem gSl_t {lo hi : Option Int} : gSl (.tup xs) lo hi = some (.val (.tup (cutD xs lo hi))) := rfl
theorem gSl_l {lo hi : Option Int} : gSl (.lst xs) lo hi = some (.mu (cutD xs lo hi)) := rfl
theorem gSl_f {lo hi : Option Int} : gSl (.fl xs) lo hi = some (.mu (cutD xs lo hi)) := rfl
theorem gEqS_e {a b : Str} : gEqS (.str a) (.str b) = vb (decide (a = b)) := rfl
theorem gNeS_e {a b : Str} : gNeS (.str a) (.str b) = vb (!decide (a = b)) := rfl
theorem gRepr_ok (h : shp 64 d = true ∧ rok d = true ∧ rcost d ≤ 1000000) : gRepr [d] = some (.val (.str d.py.shown)) := if_pos h
theorem st_ok {r : Ent} {ps : List Ent} : (FR.ok r ps).st = .ok r [] := rfl
theorem st_err {c : Str} {ns : List Str} {ps : List Ent} : (FR.err c ns xs ps).st = .err c ns xs [] := rfl
theorem st_bad : FR.bad.st = .bad := rfl
theorem fl_m : (Ent.mu xs).flat = false := rfl
theorem fl_i {i : Int} : (Ent.val (.int i)).flat = true := rfl
theorem fl_b {i : Bool} : (Ent.val (.bl i)).flat = true := rfl
theorem fl_s {i : Str} : (Ent.val (.str i)).flat = true := rfl
theorem fl_o : (Ent.val .non).flat = true := rfl
theorem fl_t : (Ent.val (.tup xs)).flat = false := rfl
theorem fl_l : (Ent.val (.lst xs)).flat = false := rfl
theorem fl_f : (Ent.val (.fl xs)).flat = false := rfl
theorem fl_n {c : Str} {ns : List Str} : (Ent.val (.ins c ns xs)).flat = false := rfl
theorem fl_g {c : Str} : (Ent.val (.fn c)).flat = false := rfl
theorem frzAr_n : frzAr [] env = env := rfl
theorem frzAr_v {as : List Ar} : frzAr (.v d :: as) env = frzAr as env := rfl
theorem frzAr_s {as : List Ar} : frzAr (.s i :: as) env = frzAr as (frzS env i) := rfl
theorem hasS_n : hasS i [] = false := rfl
theorem hasS_v {as : List Ar} : hasS i (.v d :: as) = hasS i as := rfl
theorem hasS_s {as : List Ar} : hasS i (.s j :: as) = (j == i || hasS i as) := rfl
theorem vb_e {b : Bool} : vb b = some (.val (.bl b)) := rfl
end
/-! ### items by written places -/
section
variable {x0 x1 x2 x3 x4 x5 x6 x7 x8 x9 x10 x11 x12 : D} {xs : List D}
theorem at4 : atI (x0 :: x1 :: x2 :: x3 :: x4 :: xs) 4 = some x4 := atI_nat (n := 4) rfl
theorem at5 : atI (x0 :: x1 :: x2 :: x3 :: x4 :: x5 :: xs) 5 = some x5 := atI_nat (n := 5) rfl
theorem at6 : atI (x0 :: x1 :: x2 :: x3 :: x4 :: x5 :: x6 :: xs) 6 = some x6 := atI_nat (n := 6) rfl
theorem at7 : atI (x0 :: x1 :: x2 :: x3 :: x4 :: x5 :: x6 :: x7 :: xs) 7 = some x7 := atI_nat (n := 7) rfl
theorem at8 : atI (x0 :: x1 :: x2 :: x3 :: x4 :: x5 :: x6 :: x7 :: x8 :: xs) 8 = some x8 := atI_nat (n := 8) rfl
theorem at9 : atI (x0 :: x1 :: x2 :: x3 :: x4 :: x5 :: x6 :: x7 :: x8 :: x9 :: xs) 9 = some x9 := atI_nat (n := 9) rfl
theorem at10 : atI (x0 :: x1 :: x2 :: x3 :: x4 :: x5 :: x6 :: x7 :: x8 :: x9 :: x10 :: xs) 10 = some x10 := atI_nat (n := 10) rfl
theorem at11 : atI (x0 :: x1 :: x2 :: x3 :: x4 :: x5 :: x6 :: x7 :: x8 :: x9 :: x10 :: x11 :: xs) 11 = some x11 := atI_nat (n := 11) rfl
theorem at12 : atI (x0 :: x1 :: x2 :: x3 :: x4 :: x5 :: x6 :: x7 :: x8 :: x9 :: x10 :: x11 :: x12 :: xs) 12 = some x12 := atI_nat (n := 12) rfl
theorem atm1_1 : atI [x0] (-1) = some x0 := rfl
theorem atm1_2 : atI [x0, x1] (-1) = some x1 := rfl
theorem atm1_3 : atI [x0, x1, x2] (-1) = some x2 := rfl
theorem atm1_4 : atI [x0, x1, x2, x3] (-1) = some x3 := rfl
theorem atm1_5 : atI [x0, x1, x2, x3, x4] (-1) = some x4 := rfl
theorem atm1_6 : atI [x0, x1, x2, x3, x4, x5] (-1) = some x5 := rfl
theorem atm1_7 : atI [x0, x1, x2, x3, x4, x5, x6] (-1) = some x6 := rfl
theorem atm1_8 : atI [x0, x1, x2, x3, x4, x5, x6, x7] (-1) = some x7 := rfl
theorem ixq1_0 : ixN 1 0 = some 0 := rfl
theorem ixq2_0 : ixN 2 0 = some 0 := rfl
theorem ixq2_1 : ixN 2 1 = some 1 := rfl
theorem ixq3_0 : ixN 3 0 = some 0 := rfl
theorem ixq3_1 : ixN 3 1 = some 1 := rfl
theorem ixq3_2 : ixN 3 2 = some 2 := rfl
theorem ixq4_0 : ixN 4 0 = some 0 := rfl
theorem ixq4_1 : ixN 4 1 = some 1 := rfl
theorem ixq4_2 : ixN 4 2 = some 2 := rfl
theorem ixq4_3 : ixN 4 3 = some 3 := rfl
theorem ixq5_0 : ixN 5 0 = some 0 := rfl
theorem ixq5_1 : ixN 5 1 = some 1 := rfl
theorem ixq5_2 : ixN 5 2 = some 2 := rfl
theorem ixq5_3 : ixN 5 3 = some 3 := rfl
theorem ixq5_4 : ixN 5 4 = some 4 := rfl
theorem ixq6_0 : ixN 6 0 = some 0 := rfl
theorem ixq6_1 : ixN 6 1 = some 1 := rfl
theorem ixq6_2 : ixN 6 2 = some 2 := rfl
theorem ixq6_3 : ixN 6 3 = some 3 := rfl
theorem ixq6_4 : ixN 6 4 = some 4 := rfl
theorem ixq6_5 : ixN 6 5 = some 5 := rfl
theorem ixq7_0 : ixN 7 0 = some 0 := rfl
theorem ixq7_1 : ixN 7 1 = some 1 := rfl
theorem ixq7_2 : ixN 7 2 = some 2 := rfl
theorem ixq7_3 : ixN 7 3 = some 3 := rfl
theorem ixq7_4 : ixN 7 4 = some 4 := rfl
theorem ixq7_5 : ixN 7 5 = some 5 := rfl
theorem ixq7_6 : ixN 7 6 = some 6 := rfl
theorem ixq8_0 : ixN 8 0 = some 0 := rfl
theorem ixq8_1 : ixN 8 1 = some 1 := rfl
theorem ixq8_2 : ixN 8 2 = some 2 := rfl
theorem ixq8_3 : ixN 8 3 = some 3 := rfl
theorem ixq8_4 : ixN 8 4 = some 4 := rfl
theorem ixq8_5 : ixN 8 5 = some 5 := rfl
theorem ixq8_6 : ixN 8 6 = some 6 := rfl
theorem ixq8_7 : ixN 8 7 = some 7 := rfl
end
/-! ### sizes, by levels: bits to 1000 * 2 ^ n -/
def BdL (n : Nat) (i : Int) : Prop := Bd (1000 * 2 ^ n) i
theorem BdL.of {n k : Nat} {i : Int} (h : Bd k i) (l : k ≤ 1000) : BdL n i := h.mono (Nat.le_trans l (Nat.le_mul_of_pos_right _ (Nat.two_pow_pos n)))
theorem BdL.up {n m : Nat} {i : Int} (h : BdL n i) (l : n ≤ m) : BdL m i := h.mono (Nat.mul_le_mul_left _ (Nat.pow_le_pow_right (by decide) l))
theorem BdL.mul {n : Nat} {i j : Int} (h : BdL n i) (h2 : BdL n j) : BdL (n + 1) (i * j) := (Bd.mul h h2).mono (by rw [Nat.pow_succ]; omega)
theorem BdL.add {n : Nat} {i j : Int} (h : BdL n i) (h2 : BdL n j) : BdL (n + 1) (i + j) := (Bd.add h h2).mono (by rw [Nat.pow_succ]; have := Nat.two_pow_pos n; omega)
theorem BdL.sub {n : Nat} {i j : Int} (h : BdL n i) (h2 : BdL n j) : BdL (n + 1) (i - j) := (Bd.sub h h2).mono (by rw [Nat.pow_succ]; have := Nat.two_pow_pos n; omega)
theorem BdL.neg {n : Nat} {i : Int} (h : BdL n i) : BdL n (-i) := Bd.neg h
theorem BdL.div {n : Nat} {i j : Int} (h : BdL n i) : BdL n (i / j) := Bd.div h
theorem mulOk_L {i j : Int} (h : BdL 8 i) (h2 : BdL 8 j) : mulOk i j = true := by
  have g : ∀ x : Int, BdL 8 x → Bd (255999 + 1) x := fun x (q : Bd (1000 * 2 ^ 8) x) => Bd.mono q (by decide)
  exact mulOk_of (g i h) (g j h2) (by decide)
theorem divOk_L {j : Int} (h : BdL 3 j) (z : j ≠ 0) : divOk j = true := by
  have g : Bd (7999 + 1) j := Bd.mono (show Bd (1000 * 2 ^ 3) j from h) (by decide)
  exact divOk_of g z (by decide)
end Ev

set_option Elab.async false
set_option linter.all false
set_option maxRecDepth 100000
set_option maxHeartbeats 4000000
namespace Ev
open PySem PySem.Spec PyProof.Rows L2
/-! ### ratios as numbers -/
abbrev I2 (a b : Int) : D := .tup [.int a, .int b]
abbrev gc (a b : Int) : Int := ((Nat.gcd a.natAbs b.natAbs : Nat) : Int)
abbrev rD (r : Rat) : D := I2 r.num (r.den : Int)
abbrev qv (a b : Int) : Rat := (a : Rat) / (b : Rat)
theorem den_pos (r : Rat) : (0 : Int) < (r.den : Int) := Int.natCast_pos.mpr r.den_pos
theorem den_ne (r : Rat) : (r.den : Int) ≠ 0 := by have := den_pos r; omega
theorem num_eq (r : Rat) : (r.num : Rat) = r * ((r.den : Int) : Rat) := by
  have h : mkRat r.num r.den = r := Rat.mkRat_self r
  rw [Rat.mkRat_eq_div] at h
  have z : ((r.den : Int) : Rat) ≠ 0 := fun z => den_ne r (Rat.intCast_inj.mp z)
  have h' : (r.num : Rat) / ((r.den : Int) : Rat) = r := by rw [Rat.intCast_natCast]; exact h
  grind
theorem cast_ne {b : Int} (h : b ≠ 0) : (b : Rat) ≠ 0 := fun z => h (Rat.intCast_inj.mp z)
theorem gc_pos {a b : Int} (h : b ≠ 0) : 0 < gc a b := by
  have : 0 < Nat.gcd a.natAbs b.natAbs := Nat.gcd_pos_of_pos_right _ (by omega)
  unfold gc
  omega
theorem qv_num {a b : Int} (h : 0 < b) : (qv a b).num = a / gc a b := by
  obtain ⟨n, rfl⟩ : ∃ n : Nat, b = n := ⟨b.toNat, by omega⟩
  have e : qv a n = mkRat a n := by rw [Rat.mkRat_eq_div, qv, Rat.intCast_natCast]
  rw [e, Rat.num_mkRat, if_neg (by omega), Nat.gcd_comm]
  rfl
theorem qv_den {a b : Int} (h : 0 < b) : ((qv a b).den : Int) = b / gc a b := by
  obtain ⟨n, rfl⟩ : ∃ n : Nat, b = n := ⟨b.toNat, by omega⟩
  have e : qv a n = mkRat a n := by rw [Rat.mkRat_eq_div, qv, Rat.intCast_natCast]
  rw [e, Rat.den_mkRat, if_neg (by omega), Nat.gcd_comm]
  exact Int.natCast_ediv n (a.natAbs.gcd n)
theorem qr_eq {a b : Int} (h : 0 < b) : I2 (a / gc a b) (b / gc a b) = rD (qv a b) := by
  rw [rD, qv_num h, qv_den h]
theorem gc_le {a b : Int} (h : b ≠ 0) : (gc a b).natAbs ≤ b.natAbs := by
  have gl : Nat.gcd a.natAbs b.natAbs ≤ b.natAbs := Nat.gcd_le_right _ (by omega)
  unfold gc
  omega
theorem gc_divL {n : Nat} {a b : Int} (h : b ≠ 0) (hk : BdL n b) (hn : n ≤ 3) : divOk (gc a b) = true := divOk_L (BdL.up (n := n) (show BdL n (gc a b) from Bd.of_le hk (gc_le h)) hn) (by have := gc_pos (a := a) h; omega)
/-! bounds of both parts -/
def RB (n : Nat) (r : Rat) : Prop := BdL n r.num ∧ BdL n (r.den : Int)
theorem RB.up {n m : Nat} {r : Rat} (h : RB n r) (l : n ≤ m) : RB m r := ⟨h.1.up l, h.2.up l⟩
theorem RB.qv {n : Nat} {a b : Int} (h : 0 < b) (ha : BdL n a) (hb : BdL n b) : RB n (qv a b) := ⟨by rw [qv_num h]; exact ha.div, by rw [qv_den h]; exact hb.div⟩
theorem one_ne : (1 : Rat) ≠ 0 := by decide
theorem int_num (i : Int) : ((i : Rat)).num = i := Rat.num_intCast i
theorem int_den (i : Int) : ((((i : Rat)).den : Nat) : Int) = 1 := by rw [Rat.den_intCast]; rfl
theorem rD_int (i : Int) : rD (i : Rat) = I2 i 1 := by rw [rD, int_num, int_den]
theorem RB.int {n : Nat} {i : Int} (h : BdL n i) : RB n (i : Rat) := ⟨by rw [int_num]; exact h, by rw [int_den]; exact BdL.of (k := 1) .lit (by decide)⟩
theorem qv_add (x y : Rat) : qv (x.num * y.den + y.num * x.den) (x.den * y.den) = x + y := by
  have h1 := num_eq x
  have h2 := num_eq y
  have z1 := cast_ne (den_ne x)
  have z2 := cast_ne (den_ne y)
  simp only [qv, Rat.intCast_add, Rat.intCast_mul]
  grind
theorem qv_sub (x y : Rat) : qv (x.num * y.den - y.num * x.den) (x.den * y.den) = x - y := by
  have h1 := num_eq x
  have h2 := num_eq y
  have z1 := cast_ne (den_ne x)
  have z2 := cast_ne (den_ne y)
  simp only [qv, Rat.intCast_sub, Rat.intCast_mul]
  grind
theorem qv_mul (x y : Rat) : qv (x.num * y.num) (x.den * y.den) = x * y := by
  have h1 := num_eq x
  have h2 := num_eq y
  have z1 := cast_ne (den_ne x)
  have z2 := cast_ne (den_ne y)
  simp only [qv, Rat.intCast_mul]
  grind
theorem RB.add {n : Nat} {x y : Rat} (h : RB n x) (k : RB n y) : RB (n + 2) (x + y) := by
  rw [← qv_add]
  exact .qv (Int.mul_pos (den_pos x) (den_pos y)) ((h.1.mul k.2).add (k.1.mul h.2)) ((h.2.mul k.2).up (by omega))
theorem RB.sub {n : Nat} {x y : Rat} (h : RB n x) (k : RB n y) : RB (n + 2) (x - y) := by
  rw [← qv_sub]
  exact .qv (Int.mul_pos (den_pos x) (den_pos y)) ((h.1.mul k.2).sub (k.1.mul h.2)) ((h.2.mul k.2).up (by omega))
theorem RB.mul {n : Nat} {x y : Rat} (h : RB n x) (k : RB n y) : RB (n + 1) (x * y) := by
  rw [← qv_mul]
  exact .qv (Int.mul_pos (den_pos x) (den_pos y)) (h.1.mul k.1) (h.2.mul k.2)
theorem RB.neg {n : Nat} {x : Rat} (h : RB n x) : RB n (-x) := ⟨by rw [Rat.neg_num]; exact h.1.neg, by rw [Rat.neg_den]; exact h.2⟩
theorem rD_inj {x y : Rat} : deq (rD x) (rD y) = decide (x = y) := by
  rw [deq_tt, deqs_cc, deqs_cc, deqs_nn, deq_ii, deq_ii, Bool.and_true]
  by_cases h : x = y
  · subst h
    simp
  · rw [decide_eq_false h]
    by_cases h1 : x.num = y.num
    · have : ¬ ((x.den : Int) = y.den) := fun z => h (Rat.ext h1 (by omega))
      rw [decide_eq_false this, Bool.and_false]
    · rw [decide_eq_false h1, Bool.false_and]
theorem shp_rD {n : Nat} {x : Rat} : shp (n + 1) (rD x) = true := by
  rw [shp_t, shps_c, shps_c, shps_n, shp_i, shp_i]
  rfl
theorem gEq_rD {x y : Rat} : gEq (rD x) (rD y) = vb (decide (x = y)) := by
  rw [gEq_e, if_pos ⟨shp_rD, shp_rD⟩, rD_inj]
theorem gNe_rD {x y : Rat} : gNe (rD x) (rD y) = vb (!decide (x = y)) := by
  rw [gNe_e, if_pos ⟨shp_rD, shp_rD⟩, rD_inj]
end Ev

set_option Elab.async false
set_option linter.all false
set_option maxRecDepth 100000
set_option maxHeartbeats 4000000
namespace Ev
open PySem PySem.Spec PyProof.Rows L2
/-! ### evaluation without binders: each step a function of its result -/
section
variable {env e e1 e2 e3 : Sto} {f g : DenV} {u u2 : DenF} {l l2 l3 : DenL} {t t2 : DenT} {s s2 : DenS} {i j k : Nat} {d x y z : D} {xs ys ds zs acc : List D} {h : Fn} {dfl : List D} {fs : DenA} {vs ws : DenVs} {ls : List DenL} {lv : List DenV} {op op2 : D → D → Option Ent} {a b c : Ar} {as : List Ar} {r : Ent} {p p2 : DenP} {tg : Asg} {it : DenI} {own : List Nat} {bd : DenS} {cc : DenT} {cn hn : Str} {ns : List Str} {ps : List Ent} {T : XTab} {o : Option Nat} {hs : List (Str × Option Nat × DenS)}
def kVar (i : Nat) (e : Sto) : Option Ent → Res D
  | some (.val d) => .ok d e
  | some (.mu xs) => .ok (.lst xs) (e.set i (.val (.lst xs)))
  | _ => .bad
theorem dVar_k : dVar i env = kVar i env env[i]? := by unfold dVar kVar; cases env[i]? with
  | none => rfl
  | some q => cases q <;> rfl
theorem kVar_v : kVar i e (some (.val d)) = .ok d e := rfl
theorem kVar_m : kVar i e (some (.mu xs)) = .ok (.lst xs) (e.set i (.val (.lst xs))) := rfl
def kSlot (i : Nat) (e : Sto) : Option Ent → Res Ar
  | some (.val d) => .ok (.v d) e
  | some (.mu xs) => .ok (.s i) e
  | _ => .bad
theorem dSlot_k : dSlot i env = kSlot i env env[i]? := by unfold dSlot kSlot; cases env[i]? with
  | none => rfl
  | some q => cases q <;> rfl
theorem kSlot_v : kSlot i e (some (.val d)) = .ok (.v d) e := rfl
theorem kSlot_m : kSlot i e (some (.mu xs)) = .ok (.s i) e := rfl
def kMove (i : Nat) (e : Sto) : Option Ent → Res Ent
  | some (.val d) => .ok (.val d) e
  | some (.mu xs) => .ok (.mu xs) (e.set i .un)
  | _ => .bad
theorem dMove_k : dMove i env = kMove i env env[i]? := by unfold dMove kMove; cases env[i]? with
  | none => rfl
  | some q => cases q <;> rfl
theorem kMove_v : kMove i e (some (.val d)) = .ok (.val d) e := rfl
theorem kMove_m : kMove i e (some (.mu xs)) = .ok (.mu xs) (e.set i .un) := rfl
def kLV (d : D) (e : Sto) : Res Ar := .ok (.v d) e
theorem dLV_k : dLV f env = (f env).bind kLV := rfl
theorem kLV_k : kLV d e = .ok (.v d) e := rfl
def kVal (d : D) (e : Sto) : Res Ent := .ok (.val d) e
theorem dVal_k : dVal f env = (f env).bind kVal := rfl
theorem kVal_k : kVal d e = .ok (.val d) e := rfl
def kGet : Option Ent → Option D
  | some (.val d) => some d
  | some (.mu xs) => some (.lst xs)
  | _ => none
theorem get_k : (Ar.s i).get e = kGet e[i]? := by
  show (match e[i]? with | some (.val d) => some d | some (.mu xs) => some (.lst xs) | _ => none) = _
  cases e[i]? with
  | none => rfl
  | some q => cases q <;> rfl
theorem kGet_v : kGet (some (.val d)) = some d := rfl
theorem kGet_m : kGet (some (.mu xs)) = some (.lst xs) := rfl
def kEnt (e : Sto) : Option Ent → Res Ent
  | some r => .ok r e
  | none => .bad
theorem kEnt_k : kEnt e (some r) = .ok r e := rfl
def kBin3 (op : D → D → Option Ent) (e : Sto) : Option D → Option D → Res Ent
  | some x, some y => kEnt e (op x y)
  | _, _ => .bad
def kBin2 (op : D → D → Option Ent) (a b : Ar) (e : Sto) : Res Ent := kBin3 op e (a.get e) (b.get e)
def kBin1 (op : D → D → Option Ent) (l2 : DenL) (a : Ar) (e : Sto) : Res Ent := (l2 e).bind (kBin2 op a)
theorem dBin_k : dBin op l l2 env = (l env).bind (kBin1 op l2) := rfl
theorem kBin1_k : kBin1 op l2 a e = (l2 e).bind (kBin2 op a) := rfl
theorem kBin2_k : kBin2 op a b e = kBin3 op e (a.get e) (b.get e) := rfl
theorem kBin3_k : kBin3 op e (some x) (some y) = kEnt e (op x y) := rfl
def kNeg : D → Sto → Res D
  | .int i, e => .ok (.int (-i)) e
  | _, _ => .bad
theorem dNeg_k : dNeg f env = (f env).bind kNeg := by
  show (f env).bind _ = _
  refine congrArg (Res.bind _) ?_
  funext d e
  cases d <;> rfl
theorem kNeg_k {i : Int} : kNeg (.int i) e = .ok (.int (-i)) e := rfl
def kTB : Ent → Sto → Res Bool
  | .val (.bl b), e => .ok b e
  | _, _ => .bad
theorem dTB_k : dTB u env = (u env).bind kTB := by
  show (u env).bind _ = _
  refine congrArg (Res.bind _) ?_
  funext r e
  cases r with
  | val d => cases d <;> rfl
  | _ => rfl
theorem kTB_k {b : Bool} : kTB (.val (.bl b)) e = .ok b e := rfl
def kBT : D → Sto → Res Bool
  | .bl b, e => .ok b e
  | _, _ => .bad
theorem dBT_k : dBT f env = (f env).bind kBT := by
  show (f env).bind _ = _
  refine congrArg (Res.bind _) ?_
  funext d e
  cases d <;> rfl
theorem kBT_k {b : Bool} : kBT (.bl b) e = .ok b e := rfl
def kTru3 (e : Sto) : Option Bool → Res Bool
  | some b => .ok b e
  | none => .bad
def kTru2 (e : Sto) : Option D → Res Bool
  | some d => kTru3 e (truth d)
  | none => .bad
def kTru (a : Ar) (e : Sto) : Res Bool := kTru2 e (a.get e)
theorem dTru_k : dTru l env = (l env).bind kTru := rfl
theorem kTru_k : kTru a e = kTru2 e (a.get e) := rfl
theorem kTru2_k : kTru2 e (some d) = kTru3 e (truth d) := rfl
theorem kTru3_k {b : Bool} : kTru3 e (some b) = .ok b e := rfl
def kNotT (b : Bool) (e : Sto) : Res Bool := .ok (!b) e
theorem dNotT_k : dNotT t env = (t env).bind kNotT := rfl
theorem kNotT_k {b : Bool} : kNotT b e = .ok (!b) e := rfl
def kAndT (t2 : DenT) : Bool → Sto → Res Bool
  | true, e => t2 e
  | false, e => .ok false e
theorem dAndT_k : dAndT t t2 env = (t env).bind (kAndT t2) := by
  show (t env).bind _ = _
  refine congrArg (Res.bind _) ?_
  funext b e
  cases b <;> rfl
theorem kAndT_t : kAndT t2 true e = t2 e := rfl
theorem kAndT_f : kAndT t2 false e = .ok false e := rfl
def kOrT (t2 : DenT) : Bool → Sto → Res Bool
  | true, e => .ok true e
  | false, e => t2 e
theorem dOrT_k : dOrT t t2 env = (t env).bind (kOrT t2) := by
  show (t env).bind _ = _
  refine congrArg (Res.bind _) ?_
  funext b e
  cases b <;> rfl
theorem kOrT_t : kOrT t2 true e = .ok true e := rfl
theorem kOrT_f : kOrT t2 false e = t2 e := rfl
def kAndV (g : DenV) : Bool → Sto → Res D
  | true, e => g e
  | false, e => .ok (.bl false) e
theorem dAndV_k : dAndV f g env = (dBT f env).bind (kAndV g) := by
  show (dBT f env).bind _ = _
  refine congrArg (Res.bind _) ?_
  funext b e
  cases b <;> rfl
theorem kAndV_t : kAndV g true e = g e := rfl
theorem kAndV_f : kAndV g false e = .ok (.bl false) e := rfl
def kOrV (g : DenV) : Bool → Sto → Res D
  | true, e => .ok (.bl true) e
  | false, e => g e
theorem dOrV_k : dOrV f g env = (dBT f env).bind (kOrV g) := by
  show (dBT f env).bind _ = _
  refine congrArg (Res.bind _) ?_
  funext b e
  cases b <;> rfl
theorem kOrV_t : kOrV g true e = .ok (.bl true) e := rfl
theorem kOrV_f : kOrV g false e = g e := rfl
def kNotL (b : Bool) (e : Sto) : Res D := .ok (.bl (!b)) e
theorem dNotL_k : dNotL l env = (dTru l env).bind kNotL := rfl
theorem kNotL_k {b : Bool} : kNotL b e = .ok (.bl (!b)) e := rfl
theorem dNotV_k : dNotV f env = (dBT f env).bind kNotL := rfl
def kIf {α : Type} (f g : Sto → Res α) : Bool → Sto → Res α
  | true, e => f e
  | false, e => g e
theorem kIf_fun {α : Type} (f g : Sto → Res α) : (fun b e => if b = true then f e else g e) = kIf f g := by
  funext b e
  cases b <;> rfl
theorem dIf_k : dIf t f g env = (t env).bind (kIf f g) := by rw [← kIf_fun]; rfl
theorem dIfF_k : dIfF t u u2 env = (t env).bind (kIf u u2) := by rw [← kIf_fun]; rfl
theorem dIfS_k : dIfS t s s2 env = (t env).bind (kIf s s2) := by rw [← kIf_fun]; rfl
theorem kIf_t {α : Type} {f g : Sto → Res α} : kIf f g true e = f e := rfl
theorem kIf_f {α : Type} {f g : Sto → Res α} : kIf f g false e = g e := rfl
def kCh6 (op2 : D → D → Option Ent) (b c : Ar) (e : Sto) : Res Ent := kBin3 op2 e (b.get e) (c.get e)
def kCh4 (op2 : D → D → Option Ent) (l3 : DenL) (b : Ar) (e : Sto) : Option Ent → Res Ent
  | some (.val (.bl true)) => (l3 e).bind (kCh6 op2 b)
  | some (.val (.bl false)) => .ok (.val (.bl false)) e
  | _ => .bad
def kCh3 (op op2 : D → D → Option Ent) (l3 : DenL) (b : Ar) (e : Sto) : Option D → Option D → Res Ent
  | some x, some y => kCh4 op2 l3 b e (op x y)
  | _, _ => .bad
def kCh2 (op op2 : D → D → Option Ent) (l3 : DenL) (a b : Ar) (e : Sto) : Res Ent := kCh3 op op2 l3 b e (a.get e) (b.get e)
def kCh1 (op op2 : D → D → Option Ent) (l2 l3 : DenL) (a : Ar) (e : Sto) : Res Ent := (l2 e).bind (kCh2 op op2 l3 a)
theorem dChain_k : dChain op op2 l l2 l3 env = (l env).bind (kCh1 op op2 l2 l3) := by
  show (l env).bind _ = _
  refine congrArg (Res.bind _) ?_
  funext a e1
  show (l2 e1).bind _ = (l2 e1).bind _
  refine congrArg (Res.bind _) ?_
  funext b e2
  show _ = kCh3 op op2 l3 b e2 (a.get e2) (b.get e2)
  cases a.get e2 with
  | none => rfl
  | some x =>
    cases b.get e2 with
    | none => rfl
    | some y =>
      show _ = kCh4 op2 l3 b e2 (op x y)
      dsimp only
      cases op x y with
      | none => rfl
      | some r =>
        cases r with
        | val d =>
          cases d with
          | bl q => cases q <;> rfl
          | _ => rfl
        | _ => rfl
theorem kCh1_k : kCh1 op op2 l2 l3 a e = (l2 e).bind (kCh2 op op2 l3 a) := rfl
theorem kCh2_k : kCh2 op op2 l3 a b e = kCh3 op op2 l3 b e (a.get e) (b.get e) := rfl
theorem kCh3_k : kCh3 op op2 l3 b e (some x) (some y) = kCh4 op2 l3 b e (op x y) := rfl
theorem kCh4_t : kCh4 op2 l3 b e (some (.val (.bl true))) = (l3 e).bind (kCh6 op2 b) := rfl
theorem kCh4_f : kCh4 op2 l3 b e (some (.val (.bl false))) = .ok (.val (.bl false)) e := rfl
theorem kCh6_k : kCh6 op2 b c e = kBin3 op2 e (b.get e) (c.get e) := rfl
def kVs2 (d : D) (ds : List D) (e : Sto) : Res (List D) := .ok (d :: ds) e
def kVs1 (fs : List DenV) (d : D) (e : Sto) : Res (List D) := (dVs fs e).bind (kVs2 d)
theorem dVs_k : dVs (f :: lv) env = (f env).bind (kVs1 lv) := rfl
theorem kVs1_k : kVs1 lv d e = (dVs lv e).bind (kVs2 d) := rfl
theorem kVs2_k : kVs2 d ds e = .ok (d :: ds) e := rfl
def kAr2 (d : Ar) (ds : List Ar) (e : Sto) : Res (List Ar) := .ok (d :: ds) e
def kAr1 (fs : List DenL) (d : Ar) (e : Sto) : Res (List Ar) := (dArs fs e).bind (kAr2 d)
theorem dArs_k : dArs (l :: ls) env = (l env).bind (kAr1 ls) := rfl
theorem kAr1_k : kAr1 ls a e = (dArs ls e).bind (kAr2 a) := rfl
theorem kAr2_k : kAr2 a as e = .ok (a :: as) e := rfl
def kTup (ds : List D) (e : Sto) : Res D := if ds.length ≤ 1000000 then .ok (.tup ds) e else .bad
theorem dTup_k : dTup lv env = (dVs lv env).bind kTup := rfl
theorem kTup_k : kTup ds e = if ds.length ≤ 1000000 then .ok (.tup ds) e else .bad := rfl
def kLst (ds : List D) (e : Sto) : Res Ent := if ds.length ≤ 1000000 then .ok (.mu ds) e else .bad
theorem dLst_k : dLst lv env = (dVs lv env).bind kLst := rfl
theorem kLst_k : kLst ds e = if ds.length ≤ 1000000 then .ok (.mu ds) e else .bad := rfl
def kAll : Option D → Option (List D) → Option (List D)
  | some d, some ds => some (d :: ds)
  | _, _ => none
theorem getAll_k : getAll (a :: as) e = kAll (a.get e) (getAll as e) := by
  show (match a.get e, getAll as e with | some d, some ds => some (d :: ds) | _, _ => none) = _
  cases a.get e with
  | none => rfl
  | some d => cases getAll as e <;> rfl
theorem kAll_k : kAll (some d) (some ds) = some (d :: ds) := rfl
def kCB2 (g : List D → Option Ent) (e : Sto) : Option (List D) → Res Ent
  | some ds => kEnt e (g ds)
  | none => .bad
def kCB (g : List D → Option Ent) (as : List Ar) (e : Sto) : Res Ent := kCB2 g e (getAll as e)
theorem dCB_k {g : List D → Option Ent} : dCB g fs env = (fs env).bind (kCB g) := rfl
theorem kCB_k {g : List D → Option Ent} : kCB g as e = kCB2 g e (getAll as e) := rfl
theorem kCB2_k {g : List D → Option Ent} : kCB2 g e (some ds) = kEnt e (g ds) := rfl
def kCl4 (as : List Ar) (e : Sto) (r : Ent) : Bool → Res Ent
  | true => .ok r e
  | false => .ok r (frzAr as e)
def kCl3 (as : List Ar) (e : Sto) : FR → Res Ent
  | .ok r _ => kCl4 as e r r.flat
  | .err c ns xs _ => .err c ns xs (frzAr as e)
  | .bad => .bad
def kCl2 (h : Fn) (dfl : List D) (as : List Ar) (e : Sto) : Option (List D) → Res Ent
  | some ds => kCl3 as e (h ((ds ++ dfl).map .val)).st
  | none => .bad
def kCl (h : Fn) (dfl : List D) (as : List Ar) (e : Sto) : Res Ent := kCl2 h dfl as e (getAll as e)
theorem dCall_k : dCall h dfl fs env = (fs env).bind (kCl h dfl) := by
  rw [dCall_s]
  refine congrArg (Res.bind _) ?_
  funext as e
  show _ = kCl2 h dfl as e (getAll as e)
  cases getAll as e with
  | none => rfl
  | some ds =>
    show _ = kCl3 as e (h ((ds ++ dfl).map .val)).st
    dsimp only
    cases (h ((ds ++ dfl).map .val)).st with
    | ok r _ =>
      show _ = kCl4 as e r r.flat
      dsimp only
      cases r.flat <;> rfl
    | err _ _ _ _ => rfl
    | bad => rfl
theorem kCl_k : kCl h dfl as e = kCl2 h dfl as e (getAll as e) := rfl
theorem kCl2_k : kCl2 h dfl as e (some ds) = kCl3 as e (h ((ds ++ dfl).map .val)).st := rfl
theorem kCl3_o : kCl3 as e (.ok r ps) = kCl4 as e r r.flat := rfl
theorem kCl3_e : kCl3 as e (.err cn ns xs ps) = .err cn ns xs (frzAr as e) := rfl
theorem kCl4_t : kCl4 as e r true = .ok r e := rfl
theorem kCl4_f : kCl4 as e r false = .ok r (frzAr as e) := rfl
theorem kCl4_v {b : Bool} : kCl4 (.v d :: as) e r b = kCl4 as e r b := by cases b <;> rfl
theorem kCl4_n {b : Bool} : kCl4 [] e r b = .ok r e := by cases b <;> rfl
def kC0 (e : Sto) : FR → Res Ent
  | .ok r _ => .ok r e
  | .err c ns xs _ => .err c ns xs e
  | .bad => .bad
theorem dCall0_k : dCall0 h dfl env = kC0 env (h (dfl.map .val)).st := by
  rw [dCall0_s]
  cases (h (dfl.map .val)).st <;> rfl
theorem kC0_o : kC0 e (.ok r ps) = .ok r e := rfl
theorem kC0_e : kC0 e (.err cn ns xs ps) = .err cn ns xs e := rfl
def kCR3 (j : Nat) (as : List Ar) (e : Sto) : FR → Res Ent
  | .ok r (p0 :: _) => .ok r ((frzAr as e).set j p0)
  | .err c ns ys (p0 :: _) => .err c ns ys ((frzAr as e).set j p0)
  | _ => .bad
def kCR2 (h : Fn) (j : Nat) (dfl : List D) (as : List Ar) (e : Sto) : Option Ent → Option (List D) → Bool → Res Ent
  | some (.mu xs), some ds, false => kCR3 j as e (h (.mu xs :: (ds ++ dfl).map .val))
  | _, _, _ => .bad
def kCR1 (h : Fn) (j : Nat) (dfl : List D) (as : List Ar) (e : Sto) : Res Ent := kCR2 h j dfl as e e[j]? (getAll as e) (hasS j as)
def kCR7 (as : List Ar) (e : Sto) : FR → Res Ent
  | .ok r _ => .ok r (frzAr as e)
  | .err c ns ys _ => .err c ns ys (frzAr as e)
  | _ => .bad
def kCR6 (h : Fn) (d : D) (dfl : List D) (as : List Ar) (e : Sto) : Option (List D) → Res Ent
  | some ds => kCR7 as e (h (.val d :: (ds ++ dfl).map .val))
  | none => .bad
def kCR5 (h : Fn) (d : D) (dfl : List D) (as : List Ar) (e : Sto) : Res Ent := kCR6 h d dfl as e (getAll as e)
def kCR0 (h : Fn) (j : Nat) (dfl : List D) (fs : DenA) (env : Sto) : Option Ent → Res Ent
  | some (.mu _) => (fs env).bind (kCR1 h j dfl)
  | some (.val d) => (fs env).bind (kCR5 h d dfl)
  | _ => .bad
theorem dCallR_k : dCallR h j dfl fs env = kCR0 h j dfl fs env env[j]? := by
  rw [dCallR_a]
  cases env[j]? with
  | none => rfl
  | some q =>
    cases q with
    | mu ys =>
      show (fs env).bind _ = (fs env).bind _
      refine congrArg (Res.bind _) ?_
      funext as e
      show _ = kCR2 h j dfl as e e[j]? (getAll as e) (hasS j as)
      cases e[j]? with
      | none => rfl
      | some w =>
        cases w with
        | mu xs =>
          cases getAll as e with
          | none => rfl
          | some ds =>
            cases hasS j as with
            | true => rfl
            | false =>
              show _ = kCR3 j as e (h (.mu xs :: (ds ++ dfl).map .val))
              dsimp only
              cases h (.mu xs :: (ds ++ dfl).map .val) with
              | ok r ps => cases ps <;> rfl
              | err _ _ _ ps => cases ps <;> rfl
              | bad => rfl
        | _ => rfl
    | val d =>
      show (fs env).bind _ = (fs env).bind _
      refine congrArg (Res.bind _) ?_
      funext as e
      show _ = kCR6 h d dfl as e (getAll as e)
      cases getAll as e with
      | none => rfl
      | some ds =>
        show _ = kCR7 as e (h (.val d :: (ds ++ dfl).map .val))
        dsimp only
        cases h (.val d :: (ds ++ dfl).map .val) <;> rfl
    | _ => rfl
theorem kCR0_m : kCR0 h j dfl fs env (some (.mu xs)) = (fs env).bind (kCR1 h j dfl) := rfl
theorem kCR0_v : kCR0 h j dfl fs env (some (.val d)) = (fs env).bind (kCR5 h d dfl) := rfl
theorem kCR1_k : kCR1 h j dfl as e = kCR2 h j dfl as e e[j]? (getAll as e) (hasS j as) := rfl
theorem kCR2_k : kCR2 h j dfl as e (some (.mu xs)) (some ds) false = kCR3 j as e (h (.mu xs :: (ds ++ dfl).map .val)) := rfl
theorem kCR3_o : kCR3 j as e (.ok r (r' :: ps)) = .ok r ((frzAr as e).set j r') := rfl
theorem kCR3_e : kCR3 j as e (.err cn ns xs (r' :: ps)) = .err cn ns xs ((frzAr as e).set j r') := rfl
theorem kCR5_k : kCR5 h d dfl as e = kCR6 h d dfl as e (getAll as e) := rfl
theorem kCR6_k : kCR6 h d dfl as e (some ds) = kCR7 as e (h (.val d :: (ds ++ dfl).map .val)) := rfl
theorem kCR7_o : kCR7 as e (.ok r ps) = .ok r (frzAr as e) := rfl
theorem kCR7_e : kCR7 as e (.err cn ns xs ps) = .err cn ns xs (frzAr as e) := rfl
def kCK2 (h : Fn) (n m : Nat) (sl : List Src) (dfl ds zs : List D) (e : Sto) : Res Ent := if ds.length = n ∧ zs.length = m then kC0 e (h ((arr sl ds zs dfl).map .val)).st else .bad
def kCK1 (h : Fn) (n m : Nat) (sl : List Src) (dfl : List D) (ws : DenVs) (ds : List D) (e : Sto) : Res Ent := (ws e).bind (kCK2 h n m sl dfl ds)
theorem dCallK_k {n m : Nat} {sl : List Src} : dCallK h n m sl dfl vs ws env = (vs env).bind (kCK1 h n m sl dfl ws) := by
  rw [dCallK_s]
  refine congrArg (Res.bind _) ?_
  funext ds e1
  show _ = (ws e1).bind _
  refine congrArg (Res.bind _) ?_
  funext zs e2
  show _ = if ds.length = n ∧ zs.length = m then _ else _
  split
  · cases (h ((arr sl ds zs dfl).map .val)).st <;> rfl
  · rfl
theorem kCK1_k {n m : Nat} {sl : List Src} : kCK1 h n m sl dfl ws ds e = (ws e).bind (kCK2 h n m sl dfl ds) := rfl
theorem kCK2_k {n m : Nat} {sl : List Src} : kCK2 h n m sl dfl ds zs e = if ds.length = n ∧ zs.length = m then kC0 e (h ((arr sl ds zs dfl).map .val)).st else .bad := rfl
def kIsi2 (cs : List String) (e : Sto) : Option D → Res D
  | some d => if noIns d = true then .ok (.bl (isTs d cs)) e else .bad
  | none => .bad
def kIsi (cs : List String) (a : Ar) (e : Sto) : Res D := kIsi2 cs e (a.get e)
theorem dIsi_k {cs : List String} : dIsi cs l env = (l env).bind (kIsi cs) := rfl
theorem kIsi_k {cs : List String} : kIsi cs a e = kIsi2 cs e (a.get e) := rfl
theorem kIsi2_k {cs : List String} : kIsi2 cs e (some d) = if noIns d = true then .ok (.bl (isTs d cs)) e else .bad := rfl
def kSeq (s2 : DenS) : Res Fl → Res Fl
  | .ok .nx e => s2 e
  | r => r
theorem dSeq_k : dSeq s s2 env = kSeq s2 (s env) := by
  rw [dSeq_a]
  cases s env with
  | ok fl e => cases fl <;> rfl
  | err _ _ _ _ => rfl
  | bad => rfl
theorem kSeq_n : kSeq s2 (.ok .nx e) = s2 e := rfl
theorem kSeq_r : kSeq s2 (.ok (.rt r) e) = .ok (.rt r) e := rfl
theorem kSeq_b : kSeq s2 (.ok .bk e) = .ok .bk e := rfl
theorem kSeq_c : kSeq s2 (.ok .ct e) = .ok .ct e := rfl
theorem kSeq_e : kSeq s2 (.err cn ns xs e) = .err cn ns xs e := rfl
theorem kSeq_d : kSeq s2 .bad = .bad := rfl
def kRet (r : Ent) (e : Sto) : Res Fl := .ok (.rt r) e
theorem dRet_k : dRet u env = (u env).bind kRet := rfl
theorem kRet_k : kRet r e = .ok (.rt r) e := rfl
def kSet (i : Nat) : Ent → Sto → Res Fl
  | .val d, e => .ok .nx (e.set i (.val d))
  | .mu xs, e => .ok .nx (e.set i (.mu xs))
  | _, _ => .bad
theorem dSet_k : dSet i u env = (u env).bind (kSet i) := by
  rw [dSet_a]
  refine congrArg (Res.bind _) ?_
  funext r e
  cases r <;> rfl
theorem kSet_v : kSet i (.val d) e = .ok .nx (e.set i (.val d)) := rfl
theorem kSet_m : kSet i (.mu xs) e = .ok .nx (e.set i (.mu xs)) := rfl
def kAsg2 : Option Sto → Res Fl
  | some e => .ok .nx e
  | none => .bad
def kAsg (tg : Asg) (d : D) (e : Sto) : Res Fl := kAsg2 (tg d e)
theorem dAsg_k : dAsg tg f env = (f env).bind (kAsg tg) := by
  rw [dAsg_a]
  refine congrArg (Res.bind _) ?_
  funext d e
  show _ = kAsg2 (tg d e)
  cases tg d e <;> rfl
theorem kAsg_k : kAsg tg d e = kAsg2 (tg d e) := rfl
theorem kAsg2_k : kAsg2 (some e) = .ok .nx e := rfl
def kPar (i j : Nat) : List D → Sto → Res Fl
  | [a, b], e => .ok .nx ((e.set i (.val a)).set j (.val b))
  | _, _ => .bad
theorem dPar_k : dPar i j vs env = (vs env).bind (kPar i j) := by
  rw [dPar_a]
  refine congrArg (Res.bind _) ?_
  funext ds e
  match ds with
  | [] => rfl
  | [_] => rfl
  | [_, _] => rfl
  | _ :: _ :: _ :: _ => rfl
theorem kPar_k : kPar i j [x, y] e = .ok .nx ((e.set i (.val x)).set j (.val y)) := rfl
def kPar3 (i j k : Nat) : List D → Sto → Res Fl
  | [a, b, c], e => .ok .nx (((e.set i (.val a)).set j (.val b)).set k (.val c))
  | _, _ => .bad
theorem dPar3_k : dPar3 i j k vs env = (vs env).bind (kPar3 i j k) := by
  rw [dPar3_e]
  refine congrArg (Res.bind _) ?_
  funext ds e
  match ds with
  | [] => rfl
  | [_] => rfl
  | [_, _] => rfl
  | [_, _, _] => rfl
  | _ :: _ :: _ :: _ :: _ => rfl
theorem kPar3_k : kPar3 i j k [x, y, z] e = .ok .nx (((e.set i (.val x)).set j (.val y)).set k (.val z)) := rfl
def kPut5 (i : Nat) (d : D) (xs : List D) (e : Sto) : Option Nat → Res Fl
  | some j => .ok .nx (e.set i (.mu (xs.set j d)))
  | none => .bad
def kPut4 (i : Nat) (d : D) (e : Sto) : D → Option Ent → Res Fl
  | .int k, some (.mu xs) => kPut5 i d xs e (ixN xs.length k)
  | _, _ => .bad
def kPut3 (i : Nat) (d k : D) (e : Sto) : Res Fl := kPut4 i d e k e[i]?
def kPut2 (i : Nat) (f : DenV) (d : D) (e : Sto) : Option Ent → Res Fl
  | some (.mu _) => (f e).bind (kPut3 i d)
  | _ => .bad
def kPut1 (i : Nat) (f : DenV) (d : D) (e : Sto) : Res Fl := kPut2 i f d e e[i]?
theorem dPut_k : dPut i f g env = (g env).bind (kPut1 i f) := by
  rw [dPut_a]
  refine congrArg (Res.bind _) ?_
  funext d e1
  show _ = kPut2 i f d e1 e1[i]?
  cases e1[i]? with
  | none => rfl
  | some q =>
    cases q with
    | mu ys =>
      show (f e1).bind _ = (f e1).bind _
      refine congrArg (Res.bind _) ?_
      funext k e2
      show _ = kPut4 i d e2 k e2[i]?
      cases k with
      | int k =>
        cases e2[i]? with
        | none => rfl
        | some w =>
          cases w with
          | mu xs =>
            show _ = kPut5 i d xs e2 (ixN xs.length k)
            dsimp only
            cases ixN xs.length k <;> rfl
          | _ => rfl
      | _ => rfl
    | _ => rfl
theorem kPut1_k : kPut1 i f d e = kPut2 i f d e e[i]? := rfl
theorem kPut2_k : kPut2 i f d e (some (.mu xs)) = (f e).bind (kPut3 i d) := rfl
theorem kPut3_k : kPut3 i d x e = kPut4 i d e x e[i]? := rfl
theorem kPut4_k {k : Int} : kPut4 i d e (.int k) (some (.mu xs)) = kPut5 i d xs e (ixN xs.length k) := rfl
theorem kPut5_k : kPut5 i d xs e (some j) = .ok .nx (e.set i (.mu (xs.set j d))) := rfl
def kExp (_ : D) (e : Sto) : Res Fl := .ok .nx e
theorem dExp_k : dExp f env = (f env).bind kExp := rfl
theorem kExp_k : kExp d e = .ok .nx e := rfl
def kApp3 (i : Nat) (d : D) (e : Sto) : Option Ent → Res D
  | some (.mu xs) => if xs.length < 1000000 then .ok .non (e.set i (.mu (xs ++ [d]))) else .bad
  | _ => .bad
def kApp2 (i : Nat) (d : D) (e : Sto) : Res D := kApp3 i d e e[i]?
def kApp (i : Nat) (f : DenV) (env : Sto) : Option Ent → Res D
  | some (.mu _) => (f env).bind (kApp2 i)
  | _ => .bad
theorem dApp_k : dApp i f env = kApp i f env env[i]? := by
  rw [dApp_a]
  cases env[i]? with
  | none => rfl
  | some q =>
    cases q with
    | mu ys =>
      show (f env).bind _ = (f env).bind _
      refine congrArg (Res.bind _) ?_
      funext d e
      show _ = kApp3 i d e e[i]?
      cases e[i]? with
      | none => rfl
      | some w => cases w <;> rfl
    | _ => rfl
theorem kApp_k : kApp i f env (some (.mu xs)) = (f env).bind (kApp2 i) := rfl
theorem kApp2_k : kApp2 i d e = kApp3 i d e e[i]? := rfl
theorem kApp3_k : kApp3 i d e (some (.mu xs)) = if xs.length < 1000000 then .ok .non (e.set i (.mu (xs ++ [d]))) else .bad := rfl
def kAug3 (i : Nat) (e : Sto) : Option Ent → Res Fl
  | some (.val z) => .ok .nx (e.set i (.val z))
  | _ => .bad
def kAug2 (i : Nat) (op : D → D → Option Ent) (d y : D) (e : Sto) : Res Fl := kAug3 i e (op d y)
def kAug (i : Nat) (op : D → D → Option Ent) (f : DenV) (env : Sto) : Option Ent → Res Fl
  | some (.val d) => (f env).bind (kAug2 i op d)
  | _ => .bad
theorem dAug_k : dAug i op f env = kAug i op f env env[i]? := by
  unfold dAug
  cases env[i]? with
  | none => rfl
  | some q =>
    cases q with
    | val d =>
      show (f env).bind _ = (f env).bind _
      refine congrArg (Res.bind _) ?_
      funext y e
      show _ = kAug3 i e (op d y)
      cases op d y with
      | none => rfl
      | some w => cases w <;> rfl
    | _ => rfl
theorem kAug_k : kAug i op f env (some (.val d)) = (f env).bind (kAug2 i op d) := rfl
theorem kAug2_k : kAug2 i op d y e = kAug3 i e (op d y) := rfl
theorem kAug3_k : kAug3 i e (some (.val z)) = .ok .nx (e.set i (.val z)) := rfl
theorem gAddI_k {i j : Int} : gAddI (.int i) (.int j) = some (.val (.int (i + j))) := rfl
def kFor (tg : Asg) (bd : DenS) (xs : List D) (e : Sto) : Res Fl := loopF tg bd xs e
theorem dFor_k : dFor tg it bd env = (it env).bind (kFor tg bd) := rfl
theorem kFor_k : kFor tg bd xs e = loopF tg bd xs e := rfl
def kLp2 (tg : Asg) (bd : DenS) (ds : List D) : Res Fl → Res Fl
  | .ok .nx e => loopF tg bd ds e
  | .ok .ct e => loopF tg bd ds e
  | .ok .bk e => .ok .nx e
  | r => r
def kLp (tg : Asg) (bd : DenS) (ds : List D) : Option Sto → Res Fl
  | some e => kLp2 tg bd ds (bd e)
  | none => .bad
theorem loopF_k : loopF tg bd (d :: ds) env = kLp tg bd ds (tg d env) := by
  rw [loopF_c]
  cases tg d env with
  | none => rfl
  | some e1 =>
    show _ = kLp2 tg bd ds (bd e1)
    dsimp only
    cases bd e1 with
    | ok fl e => cases fl <;> rfl
    | err _ _ _ _ => rfl
    | bad => rfl
theorem kLp_k : kLp tg bd ds (some e) = kLp2 tg bd ds (bd e) := rfl
theorem kLp2_n : kLp2 tg bd ds (.ok .nx e) = loopF tg bd ds e := rfl
theorem kLp2_c : kLp2 tg bd ds (.ok .ct e) = loopF tg bd ds e := rfl
theorem kLp2_b : kLp2 tg bd ds (.ok .bk e) = .ok .nx e := rfl
theorem kLp2_r : kLp2 tg bd ds (.ok (.rt r) e) = .ok (.rt r) e := rfl
theorem kLp2_e : kLp2 tg bd ds (.err cn ns xs e) = .err cn ns xs e := rfl
def kIt2 (e : Sto) : Option (List D) → Res (List D)
  | some xs => .ok xs e
  | none => .bad
def kIt (d : D) (e : Sto) : Res (List D) := kIt2 e d.its
theorem dIt_k : dIt f env = (f env).bind kIt := by
  rw [dIt_a]
  refine congrArg (Res.bind _) ?_
  funext d e
  show _ = kIt2 e d.its
  cases d.its <;> rfl
theorem kIt_k : kIt d e = kIt2 e d.its := rfl
theorem kIt2_k : kIt2 e (some xs) = .ok xs e := rfl
def kIsK3 (e : Sto) : Option Bool → Res D
  | some b => .ok (.bl b) e
  | none => .bad
def kIsK2 (g : D → Option Bool) (e : Sto) : Option D → Res D
  | some d => kIsK3 e (g d)
  | none => .bad
def kIsK (g : D → Option Bool) (a : Ar) (e : Sto) : Res D := kIsK2 g e (a.get e)
theorem dIsK_k {g : D → Option Bool} : dIsK g l env = (l env).bind (kIsK g) := by
  rw [dIsK_e]
  refine congrArg (Res.bind _) ?_
  funext a e
  show _ = kIsK2 g e (a.get e)
  cases a.get e with
  | none => rfl
  | some d =>
    show _ = kIsK3 e (g d)
    dsimp only
    cases g d <;> rfl
theorem kIsK_k {g : D → Option Bool} : kIsK g a e = kIsK2 g e (a.get e) := rfl
theorem kIsK2_k {g : D → Option Bool} : kIsK2 g e (some d) = kIsK3 e (g d) := rfl
theorem kIsK3_k {b : Bool} : kIsK3 e (some b) = .ok (.bl b) e := rfl
def kD (e : Sto) : Option D → Res D
  | some d => .ok d e
  | none => .bad
theorem kD_k : kD e (some d) = .ok d e := rfl
def kAt2 (cs : List Str) (n : Str) (e : Sto) : Option D → Res D
  | some (.ins c ns xs) => if cs.contains c = true then kD e ((ns.zip xs).lookup n) else .bad
  | _ => .bad
def kAt (cs : List Str) (n : Str) (a : Ar) (e : Sto) : Res D := kAt2 cs n e (a.get e)
theorem dAt_k {cs : List Str} : dAt cs cn l env = (l env).bind (kAt cs cn) := by
  rw [dAt_e]
  refine congrArg (Res.bind _) ?_
  funext a e
  show _ = kAt2 cs cn e (a.get e)
  cases a.get e with
  | none => rfl
  | some d =>
    cases d with
    | ins c ns xs =>
      show _ = if cs.contains c = true then kD e ((ns.zip xs).lookup cn) else .bad
      dsimp only
      cases (ns.zip xs).lookup cn <;> rfl
    | _ => rfl
theorem kAt_k {cs : List Str} : kAt cs cn a e = kAt2 cs cn e (a.get e) := rfl
theorem kAt2_k {cs : List Str} : kAt2 cs cn e (some (.ins hn ns xs)) = if cs.contains hn = true then kD e ((ns.zip xs).lookup cn) else .bad := rfl
def kRev3 (hi : Option Int) (e : Sto) : Option D → Res Ent
  | some x => kEnt e (gRev x hi)
  | none => .bad
def kRev2 (a : Ar) (hi : Option Int) (e : Sto) : Res Ent := kRev3 hi e (a.get e)
def kRev1 (p : DenP) (a : Ar) (e : Sto) : Res Ent := (p e).bind (kRev2 a)
theorem dRev_k : dRev l p env = (l env).bind (kRev1 p) := rfl
theorem kRev1_k : kRev1 p a e = (p e).bind (kRev2 a) := rfl
theorem kRev2_k {hi : Option Int} : kRev2 a hi e = kRev3 hi e (a.get e) := rfl
theorem kRev3_k {hi : Option Int} : kRev3 hi e (some x) = kEnt e (gRev x hi) := rfl
def kEnu2 (e : Sto) : Option (List D) → Res (List D)
  | some xs => .ok (enumD 0 xs) e
  | none => .bad
def kEnu : List D → Sto → Res (List D)
  | [d], e => kEnu2 e d.its
  | _, _ => .bad
theorem dEnum_k : dEnum vs env = (vs env).bind kEnu := by
  rw [dEnum_e]
  refine congrArg (Res.bind _) ?_
  funext ds e
  match ds with
  | [] => rfl
  | [d] => 
    show _ = kEnu2 e d.its
    dsimp only
    cases d.its <;> rfl
  | _ :: _ :: _ => rfl
theorem kEnu_k : kEnu [d] e = kEnu2 e d.its := rfl
theorem kEnu2_k : kEnu2 e (some xs) = .ok (enumD 0 xs) e := rfl
def kZip2 (e : Sto) : Option (List D) → Option (List D) → Res (List D)
  | some xs, some ys => .ok (zipD xs ys) e
  | _, _ => .bad
def kZip : List D → Sto → Res (List D)
  | [d, d2], e => kZip2 e d.its d2.its
  | _, _ => .bad
theorem dZip_k : dZip vs env = (vs env).bind kZip := by
  rw [dZip_e]
  refine congrArg (Res.bind _) ?_
  funext ds e
  match ds with
  | [] => rfl
  | [_] => rfl
  | [d, d2] => 
    show _ = kZip2 e d.its d2.its
    dsimp only
    cases d.its <;> cases d2.its <;> rfl
  | _ :: _ :: _ :: _ => rfl
theorem kZip_k : kZip [x, y] e = kZip2 e x.its y.its := rfl
theorem kZip2_k : kZip2 e (some xs) (some ys) = .ok (zipD xs ys) e := rfl
def kRg1 (e : Sto) : Option (List D) → Res (List D)
  | some [.int n] => if rngB n = true then .ok (rngD 0 n.toNat) e else .bad
  | _ => .bad
def kRng1 (as : List Ar) (e : Sto) : Res (List D) := kRg1 e (getAll as e)
theorem dRng1_k : dRng1 fs env = (fs env).bind kRng1 := by
  rw [dRng1_e]
  refine congrArg (Res.bind _) ?_
  funext as e
  show _ = kRg1 e (getAll as e)
  cases getAll as e with
  | none => rfl
  | some ds =>
    match ds with
    | [] => rfl
    | [d] => cases d <;> rfl
    | d :: _ :: _ => cases d <;> rfl
theorem kRg1_c {n : Int} (h : -1000000 ≤ n ∧ n ≤ 1000000) : kRg1 e (some [.int n]) = .ok (rngD 0 n.toNat) e := if_pos (rngB_c h)
theorem kRng1_k : kRng1 as e = kRg1 e (getAll as e) := rfl
theorem kRg1_k {n : Int} : kRg1 e (some [.int n]) = if rngB n = true then .ok (rngD 0 n.toNat) e else .bad := rfl
def kRg2 (e : Sto) : Option (List D) → Res (List D)
  | some [.int i, .int j] => if rngB i = true ∧ rngB j = true then .ok (rngD i (j - i).toNat) e else .bad
  | _ => .bad
def kRng2 (as : List Ar) (e : Sto) : Res (List D) := kRg2 e (getAll as e)
theorem dRng2_k : dRng2 fs env = (fs env).bind kRng2 := by
  unfold dRng2
  refine congrArg (Res.bind _) ?_
  funext as e
  show _ = kRg2 e (getAll as e)
  cases getAll as e with
  | none => rfl
  | some ds =>
    match ds with
    | [] => rfl
    | [d] => cases d <;> rfl
    | [d, d2] => cases d <;> cases d2 <;> rfl
    | d :: d2 :: _ :: _ => cases d <;> cases d2 <;> rfl
theorem kRg2_c {i j : Int} (h : (-1000000 ≤ i ∧ i ≤ 1000000) ∧ (-1000000 ≤ j ∧ j ≤ 1000000)) : kRg2 e (some [.int i, .int j]) = .ok (rngD i (j - i).toNat) e := if_pos ⟨rngB_c h.1, rngB_c h.2⟩
theorem kRng2_k : kRng2 as e = kRg2 e (getAll as e) := rfl
theorem kRg2_k {i j : Int} : kRg2 e (some [.int i, .int j]) = if rngB i = true ∧ rngB j = true then .ok (rngD i (j - i).toNat) e else .bad := rfl
def kPs : D → Sto → Res (Option Int)
  | .int i, e => .ok (some i) e
  | _, _ => .bad
theorem dPs_k : dPs f env = (f env).bind kPs := by
  rw [dPs_e]
  refine congrArg (Res.bind _) ?_
  funext d e
  cases d <;> rfl
theorem kPs_k {i : Int} : kPs (.int i) e = .ok (some i) e := rfl
def kSl4 (lo hi : Option Int) (e : Sto) : Option D → Res Ent
  | some x => kEnt e (gSl x lo hi)
  | none => .bad
def kSl3 (a : Ar) (lo hi : Option Int) (e : Sto) : Res Ent := kSl4 lo hi e (a.get e)
def kSl2 (p2 : DenP) (a : Ar) (lo : Option Int) (e : Sto) : Res Ent := (p2 e).bind (kSl3 a lo)
def kSl1 (p p2 : DenP) (a : Ar) (e : Sto) : Res Ent := (p e).bind (kSl2 p2 a)
theorem dSl_k : dSl l p p2 env = (l env).bind (kSl1 p p2) := rfl
theorem kSl1_k : kSl1 p p2 a e = (p e).bind (kSl2 p2 a) := rfl
theorem kSl2_k {lo : Option Int} : kSl2 p2 a lo e = (p2 e).bind (kSl3 a lo) := rfl
theorem kSl3_k {lo hi : Option Int} : kSl3 a lo hi e = kSl4 lo hi e (a.get e) := rfl
theorem kSl4_k {lo hi : Option Int} : kSl4 lo hi e (some x) = kEnt e (gSl x lo hi) := rfl
def kFrz (e : Sto) (j : Nat) : Option Ent → Sto
  | some (.mu xs) => e.set j (.val (.lst xs))
  | _ => e
theorem frzS_k : frzS env j = kFrz env j env[j]? := by
  rw [frzS_e]
  cases env[j]? with
  | none => rfl
  | some q => cases q <;> rfl
theorem kFrz_m : kFrz e j (some (.mu xs)) = e.set j (.val (.lst xs)) := rfl
theorem kFrz_v : kFrz e j (some (.val d)) = e := rfl
theorem kFrz_u : kFrz e j (some .un) = e := rfl
def kMk2 (c : Str) (ns : List Str) (e : Sto) : Res (List D) → Res D
  | .ok xs _ => if xs.length = ns.length then .ok (.ins c ns xs) e else .bad
  | .err k ks ys _ => .err k ks ys e
  | .bad => .bad
def kMk (c : Str) (ns : List Str) (g : List D → Res (List D)) (dfl ds : List D) (e : Sto) : Res D := kMk2 c ns e (g (ds ++ dfl))
theorem dMake_k {g : List D → Res (List D)} : dMake cn ns g dfl vs env = (vs env).bind (kMk cn ns g dfl) := by
  rw [dMake_e]
  refine congrArg (Res.bind _) ?_
  funext ds e
  show _ = kMk2 cn ns e (g (ds ++ dfl))
  cases g (ds ++ dfl) <;> rfl
theorem kMk_k {g : List D → Res (List D)} : kMk cn ns g dfl ds e = kMk2 cn ns e (g (ds ++ dfl)) := rfl
theorem kMk2_o : kMk2 cn ns e (.ok xs e1) = if xs.length = ns.length then .ok (.ins cn ns xs) e else .bad := rfl
theorem kMk2_e {c : Str} {ks : List Str} : kMk2 cn ns e (.err c ks ys e1) = .err c ks ys e := rfl
def kPr2 (e : Sto) : FR → Res Ent
  | .ok r _ => .ok r e
  | _ => .bad
def kPr (c : Str) (g : Fn) : D → Sto → Res Ent
  | .ins k ns xs, e => if k = c then kPr2 e (g [.val (.ins k ns xs)]).st else .bad
  | _, _ => .bad
theorem dProp_k {c : Str} : dProp c h f env = (f env).bind (kPr c h) := by
  rw [dProp_e]
  refine congrArg (Res.bind _) ?_
  funext d e
  cases d with
  | ins k ns xs =>
    show _ = if k = c then kPr2 e (h [.val (.ins k ns xs)]).st else .bad
    dsimp only
    cases h [.val (.ins k ns xs)] <;> rfl
  | _ => rfl
theorem kPr_k {c : Str} : kPr c h (.ins cn ns xs) e = if cn = c then kPr2 e (h [.val (.ins cn ns xs)]).st else .bad := rfl
theorem kPr2_k : kPr2 e (.ok r ps) = .ok r e := rfl
def kLc2 (e0 : Sto) (own : List Nat) (acc : List D) (e : Sto) : Res Ent := .ok (.mu acc) (restE e0 e own)
def kLc1 (own : List Nat) (tg : Asg) (cc : DenT) (f : DenV) (xs : List D) (e : Sto) : Bool → Res Ent
  | true => (loopC own tg cc f xs [] (wipeE e own)).bindX (kLc2 e own)
  | false => .bad
def kLc (own : List Nat) (tg : Asg) (cc : DenT) (f : DenV) (xs : List D) (e : Sto) : Res Ent := kLc1 own tg cc f xs e (okOwn e own)
theorem dLc_k : dLc own tg it cc f env = (it env).bind (kLc own tg cc f) := by
  rw [dLc_e]
  refine congrArg (Res.bind _) ?_
  funext items e
  show _ = kLc1 own tg cc f items e (okOwn e own)
  cases okOwn e own <;> rfl
theorem kLc_k : kLc own tg cc f xs e = kLc1 own tg cc f xs e (okOwn e own) := rfl
theorem kLc1_k : kLc1 own tg cc f xs e true = (loopC own tg cc f xs [] (wipeE e own)).bindX (kLc2 e own) := rfl
theorem kLc2_k : kLc2 e own acc e1 = .ok (.mu acc) (restE e e1 own) := rfl
def kEle3 : Res D → Res (Option D)
  | .ok y e => .ok (some y) e
  | _ => .bad
def kEle2 (f : DenV) : Res Bool → Res (Option D)
  | .ok true e => kEle3 (f e)
  | .ok false e => .ok none e
  | _ => .bad
def kEle (cc : DenT) (f : DenV) : Option Sto → Res (Option D)
  | some e => kEle2 f (cc e)
  | none => .bad
theorem eleC_k : eleC tg cc f d env = kEle cc f (tg d env) := by
  rw [eleC_e]
  cases tg d env with
  | none => rfl
  | some e1 =>
    show _ = kEle2 f (cc e1)
    dsimp only
    cases cc e1 with
    | ok b e2 =>
      cases b with
      | true =>
        show _ = kEle3 (f e2)
        dsimp only
        cases f e2 <;> rfl
      | false => rfl
    | err _ _ _ _ => rfl
    | bad => rfl
theorem kEle_k : kEle cc f (some e) = kEle2 f (cc e) := rfl
theorem kEle2_t : kEle2 f (.ok true e) = kEle3 (f e) := rfl
theorem kEle2_f : kEle2 f (.ok false e) = .ok none e := rfl
theorem kEle3_k : kEle3 (.ok d e) = .ok (some d) e := rfl
def kOwn : Option Ent → Bool
  | some .un => true
  | some (.val _) => true
  | _ => false
theorem okOwn_k : okOwn env (i :: own) = (kOwn env[i]? && okOwn env own) := by
  rw [okOwn_c]
  refine congrArg (fun b => b && okOwn env own) ?_
  cases env[i]? with
  | none => rfl
  | some q => cases q <;> rfl
theorem kOwn_u : kOwn (some .un) = true := rfl
theorem kOwn_v : kOwn (some (.val d)) = true := rfl
def kTry (T : XTab) (hs : List (Str × Option Nat × DenS)) : Res Fl → Res Fl
  | .err c ns xs e => runH T c ns xs e hs
  | r => r
theorem dTry_k : dTry T bd hs env = kTry T hs (bd env) := by
  rw [dTry_e]
  cases bd env <;> rfl
theorem kTry_e : kTry T hs (.err cn ns xs e) = runH T cn ns xs e hs := rfl
theorem kTry_o {fl : Fl} : kTry T hs (.ok fl e) = .ok fl e := rfl
def kXE (c : Str) (ns : List Str) (xs : List D) (e : Sto) : Option Nat → Sto
  | some i => (noX e).set i (.exn c ns xs)
  | none => noX e
def kRH (T : XTab) (c : Str) (ns : List Str) (xs : List D) (e : Sto) (o : Option Nat) (bd : DenS) (hs : List (Str × Option Nat × DenS)) : Option Bool → Res Fl
  | some true => finX o (bd (kXE c ns xs e o))
  | some false => runH T c ns xs e hs
  | none => .bad
theorem runH_k : runH T cn ns xs env ((hn, o, bd) :: hs) = kRH T cn ns xs env o bd hs (T cn hn) := by
  rw [runH_c]
  cases T cn hn with
  | none => rfl
  | some b =>
    cases b with
    | true => cases o <;> rfl
    | false => rfl
theorem kRH_t : kRH T cn ns xs e o bd hs (some true) = finX o (bd (kXE cn ns xs e o)) := rfl
theorem kRH_f : kRH T cn ns xs e o bd hs (some false) = runH T cn ns xs e hs := rfl
theorem kXE_s : kXE cn ns xs e (some i) = (noX e).set i (.exn cn ns xs) := rfl
theorem kXE_n : kXE cn ns xs e none = noX e := rfl
def kRai (c : Str) (ns : List Str) (ds : List D) (e : Sto) : Res Fl := if ds.length = ns.length then .err c ns.reverse ds.reverse e else .bad
theorem dRaise_k : dRaise cn ns lv env = (dVs lv env).bind (kRai cn ns) := rfl
theorem kRai_k : kRai cn ns ds e = if ds.length = ns.length then .err cn ns.reverse ds.reverse e else .bad := rfl
def kXf (cs : List Str) (n : Str) (e : Sto) : Option Ent → Res D
  | some (.exn c ns xs) => if cs.contains c = true then kD e ((ns.zip xs).lookup n) else .bad
  | _ => .bad
theorem dXf_k {cs : List Str} {n : Str} : dXf cs i n env = kXf cs n env env[i]? := by
  rw [dXf_e]
  cases env[i]? with
  | none => rfl
  | some q =>
    cases q with
    | exn c ns xs =>
      show _ = if cs.contains c = true then kD env ((ns.zip xs).lookup n) else .bad
      dsimp only
      cases (ns.zip xs).lookup n <;> rfl
    | _ => rfl
theorem kXf_k {cs : List Str} {n : Str} : kXf cs n e (some (.exn cn ns xs)) = if cs.contains cn = true then kD e ((ns.zip xs).lookup n) else .bad := rfl
def kPre (g : Sto → Res (List D)) : Res Fl → Res (List D)
  | .ok .nx e => g e
  | .err c ns xs e => .err c ns xs e
  | _ => .bad
theorem preI_k {g : Sto → Res (List D)} : preI bd g env = kPre g (bd env) := by
  unfold preI
  cases bd env with
  | ok fl e => cases fl <;> rfl
  | err _ _ _ _ => rfl
  | bad => rfl
theorem kPre_n {g : Sto → Res (List D)} : kPre g (.ok .nx e) = g e := rfl
theorem kPre_e {g : Sto → Res (List D)} : kPre g (.err cn ns xs e) = .err cn ns xs e := rfl
theorem dFlds_k : ∀ {lv : List DenV} {env : Sto}, dFlds lv env = dVs lv env
  | [], env => rfl
  | f :: r, env => by
    show (f env).bind _ = (f env).bind _
    refine congrArg (Res.bind _) ?_
    funext d e
    show (dFlds r e).bind _ = (dVs r e).bind _
    rw [dFlds_k]
theorem mkIni_k {np m : Nat} {g : Sto → Res (List D)} : mkIni np m g ds = if ds.length = np then g (.un :: (ds.map .val ++ List.replicate (m - (np + 1)) .un)) else .bad := rfl
theorem gOwn_it {i : Int} {tab : List (Str × Fn)} : gOwn tab true (.int i) y = gNe (.int i) y := rfl
theorem gOwn_ie {i : Int} {tab : List (Str × Fn)} : gOwn tab false (.int i) y = gEq (.int i) y := rfl
theorem gOwn_bt {i : Bool} {tab : List (Str × Fn)} : gOwn tab true (.bl i) y = gNe (.bl i) y := rfl
theorem gOwn_be {i : Bool} {tab : List (Str × Fn)} : gOwn tab false (.bl i) y = gEq (.bl i) y := rfl
theorem gOwn_st {i : Str} {tab : List (Str × Fn)} : gOwn tab true (.str i) y = gNe (.str i) y := rfl
theorem gOwn_se {i : Str} {tab : List (Str × Fn)} : gOwn tab false (.str i) y = gEq (.str i) y := rfl
theorem gOwn_ot  {tab : List (Str × Fn)} : gOwn tab true (.non) y = gNe (.non) y := rfl
theorem gOwn_oe  {tab : List (Str × Fn)} : gOwn tab false (.non) y = gEq (.non) y := rfl
theorem gOwn_tt  {tab : List (Str × Fn)} : gOwn tab true (.tup xs) y = gNe (.tup xs) y := rfl
theorem gOwn_te  {tab : List (Str × Fn)} : gOwn tab false (.tup xs) y = gEq (.tup xs) y := rfl
theorem gOwn_lt  {tab : List (Str × Fn)} : gOwn tab true (.lst xs) y = gNe (.lst xs) y := rfl
theorem gOwn_le  {tab : List (Str × Fn)} : gOwn tab false (.lst xs) y = gEq (.lst xs) y := rfl
theorem gOwn_ft  {tab : List (Str × Fn)} : gOwn tab true (.fl xs) y = gNe (.fl xs) y := rfl
theorem gOwn_fe  {tab : List (Str × Fn)} : gOwn tab false (.fl xs) y = gEq (.fl xs) y := rfl
theorem dRetN_k : dRetN env = .ok (.rt (.val .non)) env := rfl
end
end Ev

set_option Elab.async false
set_option linter.all false
set_option maxRecDepth 100000
set_option maxHeartbeats 4000000
namespace Ev
open PySem PySem.Spec PyProof.Rows L2
/-! ### loops, by what one turn does -/
theorem loopC_fm {own : List Nat} {t : Asg} {c : DenT} {f : DenV} {env : Sto} (P : D → Option D) : ∀ (ds acc : List D), acc.length + ds.length ≤ 1000000 → (∀ d ∈ ds, ∃ e, eleC t c f d env = .ok (P d) e ∧ wipeE e own = env) → loopC own t c f ds acc env = .ok (acc ++ ds.filterMap P) env
  | [], acc, _, _ => by rw [List.filterMap_nil, List.append_nil]; rfl
  | d :: ds, acc, hl, h => by
    obtain ⟨e, h1, h2⟩ := h d (List.mem_cons_self ..)
    rw [List.length_cons] at hl
    have hr := fun z (hz : z ∈ ds) => h z (List.mem_cons_of_mem _ hz)
    rw [loopC_k, h1, List.filterMap_cons]
    cases hp : P d with
    | none =>
      rw [goC_o, h2]
      exact loopC_fm P ds acc (by omega) hr
    | some y =>
      rw [goC_s, if_pos (by omega), h2, loopC_fm P ds (acc ++ [y]) (by rw [List.length_append, List.length_singleton]; omega) hr, List.append_assoc]
      rfl
/-- a comprehension that tests and draws nothing: over a list of things, by functions -/
theorem loopC_map {α : Type} {own : List Nat} {t : Asg} {c : DenT} {f : DenV} {env : Sto} (g : α → D) (F : α → D) (xs : List α) (hl : xs.length ≤ 1000000) (h : ∀ a ∈ xs, ∃ e, eleC t c f (g a) env = .ok (some (F a)) e ∧ wipeE e own = env) : loopC own t c f (xs.map g) [] env = .ok (xs.map F) env := by
  have key : ∀ (xs : List α) (acc : List D), acc.length + xs.length ≤ 1000000 → (∀ a ∈ xs, ∃ e, eleC t c f (g a) env = .ok (some (F a)) e ∧ wipeE e own = env) → loopC own t c f (xs.map g) acc env = .ok (acc ++ xs.map F) env := by
    intro xs
    induction xs with
    | nil => intro acc _ _; rw [List.map_nil, List.map_nil, List.append_nil]; rfl
    | cons a xs ih =>
      intro acc hl h
      obtain ⟨e, h1, h2⟩ := h a (List.mem_cons_self ..)
      rw [List.length_cons] at hl
      rw [List.map_cons, loopC_k, h1, goC_s, if_pos (by omega), h2, ih (acc ++ [F a]) (by rw [List.length_append, List.length_singleton]; omega) fun z hz => h z (List.mem_cons_of_mem _ hz), List.append_assoc]
      rfl
  have := key xs [] (by simpa using hl) h
  rwa [List.nil_append] at this
theorem loopC_filter {α : Type} {own : List Nat} {t : Asg} {c : DenT} {f : DenV} {env : Sto} (g : α → D) (q : α → Bool) (F : α → D) (xs : List α) (hl : xs.length ≤ 1000000) (h : ∀ a ∈ xs, ∃ e, eleC t c f (g a) env = .ok (if q a = true then some (F a) else none) e ∧ wipeE e own = env) : loopC own t c f (xs.map g) [] env = .ok ((xs.filter q).map F) env := by
  have key : ∀ (xs : List α) (acc : List D), acc.length + xs.length ≤ 1000000 → (∀ a ∈ xs, ∃ e, eleC t c f (g a) env = .ok (if q a = true then some (F a) else none) e ∧ wipeE e own = env) → loopC own t c f (xs.map g) acc env = .ok (acc ++ (xs.filter q).map F) env := by
    intro xs
    induction xs with
    | nil => intro acc _ _; rw [List.map_nil, List.filter_nil, List.map_nil, List.append_nil]; rfl
    | cons a xs ih =>
      intro acc hl h
      obtain ⟨e, h1, h2⟩ := h a (List.mem_cons_self ..)
      rw [List.length_cons] at hl
      have hr := fun z (hz : z ∈ xs) => h z (List.mem_cons_of_mem _ hz)
      rw [List.map_cons, loopC_k, h1, List.filter_cons]
      cases q a with
      | false =>
        rw [if_neg (by decide), goC_o, h2, ih acc (by omega) hr, if_neg (by decide)]
      | true =>
        rw [if_pos rfl, goC_s, if_pos (by omega), h2, ih (acc ++ [F a]) (by rw [List.length_append, List.length_singleton]; omega) hr, List.append_assoc, if_pos rfl]
        rfl
  have := key xs [] (by simpa using hl) h
  rwa [List.nil_append] at this
/-- a loop by an invariant, that ends well -/
theorem loopF_inv {t : Asg} {b : DenS} (I : Sto → Prop) : ∀ (ds : List D) (env : Sto), I env → (∀ d ∈ ds, ∀ e, I e → ∃ e1 e2, t d e = some e1 ∧ (b e1 = .ok .nx e2 ∨ b e1 = .ok .ct e2) ∧ I e2) → ∃ e, loopF t b ds env = .ok .nx e ∧ I e
  | [], env, h, _ => ⟨env, rfl, h⟩
  | d :: ds, env, h, k => by
    obtain ⟨e1, e2, h1, h2, h3⟩ := k d (List.mem_cons_self ..) env h
    obtain ⟨e, h4, h5⟩ := loopF_inv I ds e2 h3 fun z hz => k z (List.mem_cons_of_mem _ hz)
    refine ⟨e, ?_, h5⟩
    rw [loopF_k, h1, kLp_k]
    rcases h2 with h2 | h2 <;> rw [h2] <;> exact h4
/-- the same, that may be left -/
theorem loopF_invB {t : Asg} {b : DenS} (I : Sto → Prop) : ∀ (ds : List D) (env : Sto), I env → (∀ d ∈ ds, ∀ e, I e → ∃ e1 fl e2, t d e = some e1 ∧ b e1 = .ok fl e2 ∧ (fl = .nx ∨ fl = .ct ∨ fl = .bk) ∧ I e2) → ∃ e, loopF t b ds env = .ok .nx e ∧ I e
  | [], env, h, _ => ⟨env, rfl, h⟩
  | d :: ds, env, h, k => by
    obtain ⟨e1, fl, e2, h1, h2, h0, h3⟩ := k d (List.mem_cons_self ..) env h
    obtain ⟨e, h4, h5⟩ := loopF_invB I ds e2 h3 fun z hz => k z (List.mem_cons_of_mem _ hz)
    rcases h0 with rfl | rfl | rfl
    · exact ⟨e, by rw [loopF_k, h1, kLp_k, h2]; exact h4, h5⟩
    · exact ⟨e, by rw [loopF_k, h1, kLp_k, h2]; exact h4, h5⟩
    · exact ⟨e2, by rw [loopF_k, h1, kLp_k, h2]; rfl, h3⟩
/-- a loop that appends, item by item -/
theorem loopF_app {α : Type} {t : Asg} {b : DenS} (g : α → D) (F : α → List D) (S : List D → Sto → Prop) : ∀ (xs : List α) (acc : List D) (env : Sto), S acc env → (∀ a ∈ xs, ∀ acc e, S acc e → ∃ e1 e2, t (g a) e = some e1 ∧ b e1 = .ok .nx e2 ∧ S (acc ++ F a) e2) → ∃ e, loopF t b (xs.map g) env = .ok .nx e ∧ S (acc ++ xs.flatMap F) e
  | [], acc, env, h, _ => ⟨env, rfl, by rw [List.flatMap_nil, List.append_nil]; exact h⟩
  | a :: xs, acc, env, h, k => by
    obtain ⟨e1, e2, h1, h2, h3⟩ := k a (List.mem_cons_self ..) acc env h
    obtain ⟨e, h4, h5⟩ := loopF_app g F S xs (acc ++ F a) e2 h3 fun z hz => k z (List.mem_cons_of_mem _ hz)
    refine ⟨e, ?_, by rw [List.flatMap_cons, ← List.append_assoc]; exact h5⟩
    rw [List.map_cons, loopF_k, h1, kLp_k, h2]
    exact h4
theorem dWhile_ret {c : DenT} {body : DenS} {env e e2 : Sto} {r : Ent} (hc : c env = .ok true e) (hb : body e = .ok (.rt r) e2) : dWhile c body env = .ok (.rt r) e2 := dWhile_of (n := 1) (by
  unfold iterW
  rw [hc]
  dsimp only
  rw [hb])
/-! ### picks -/
theorem pick_l {α : Type} (g : α → D) {xs : List α} {i : Int} (h : 0 ≤ i ∧ i < xs.length) : ∃ a, a ∈ xs ∧ gIx (.lst (xs.map g)) (.int i) = some (.val (g a)) := by
  obtain ⟨n, rfl⟩ : ∃ n : Nat, i = n := ⟨i.toNat, by omega⟩
  have hn : n < xs.length := by omega
  exact ⟨xs[n], List.getElem_mem hn, congrArg (Option.map Ent.val) (atI_nat (by rw [List.getElem?_map, List.getElem?_eq_getElem hn]; rfl))⟩
theorem pick_t {α : Type} (g : α → D) {xs : List α} {i : Int} (h : 0 ≤ i ∧ i < xs.length) : ∃ a, a ∈ xs ∧ gIx (.tup (xs.map g)) (.int i) = some (.val (g a)) := pick_l g h
theorem rngD_eq (lo : Int) (n : Nat) : rngD lo n = (List.range n).map fun i : Nat => D.int (lo + i) := rfl
/-! ### pairs of numbers from 1 -/
def I2p (a : Int × Int) : D := I2 a.1 a.2
def cpl (n : Nat) : List (Int × Int) := (List.range n).flatMap fun p : Nat => (List.range n).map fun q : Nat => (1 + (p : Int), 1 + (q : Int))
theorem cpl_mem {n : Nat} {a : Int × Int} (h : a ∈ cpl n) : (1 ≤ a.1 ∧ a.1 ≤ n) ∧ 1 ≤ a.2 ∧ a.2 ≤ n := by
  unfold cpl at h
  obtain ⟨p, hp, h⟩ := List.mem_flatMap.mp h
  obtain ⟨q, hq, rfl⟩ := List.mem_map.mp h
  have := List.mem_range.mp hp
  have := List.mem_range.mp hq
  show (1 ≤ 1 + (p : Int) ∧ 1 + (p : Int) ≤ n) ∧ 1 ≤ 1 + (q : Int) ∧ 1 + (q : Int) ≤ n
  omega
theorem cpl_one {n : Nat} (h : 1 ≤ n) : ((1 : Int), (1 : Int)) ∈ cpl n :=
  List.mem_flatMap.mpr ⟨0, List.mem_range.mpr (by omega), List.mem_map.mpr ⟨0, List.mem_range.mpr (by omega), rfl⟩⟩
theorem cpl_len (n : Nat) : (cpl n).length = n * n := by
  unfold cpl
  have : ∀ (xs : List Nat), (xs.flatMap fun p : Nat => (List.range n).map fun q : Nat => (1 + (p : Int), 1 + (q : Int))).length = xs.length * n := by
    intro xs
    induction xs with
    | nil => rw [List.flatMap_nil, List.length_nil, List.length_nil, Nat.zero_mul]
    | cons a xs ih => rw [List.flatMap_cons, List.length_append, ih, List.length_map, List.length_range, List.length_cons, Nat.succ_mul, Nat.add_comm]
  rw [this, List.length_range]
end Ev

set_option Elab.async false
set_option linter.all false
set_option maxRecDepth 100000
set_option maxHeartbeats 4000000
namespace Ev
open PySem PySem.W PySem.Calls PyProof.Rows L2
/-! ### the head's run, look by look (the kernel's room is freed between two theorems) -/
theorem map3 {α β γ δ : Type} {o : Option α} {f : α → β} {g : α → γ} {h : α → δ} {a : β} {b : γ} {c : δ} (h1 : o.map f = some a) (h2 : o.map g = some b) (h3 : o.map h = some c) : o.map (fun x => (f x, g x, h x)) = some (a, b, c) := by
  cases o with
  | none => cases h1
  | some x =>
    have e1 : f x = a := Option.some.inj h1
    have e2 : g x = b := Option.some.inj h2
    have e3 : h x = c := Option.some.inj h3
    rw [Option.map_some, e1, e2, e3]
theorem obs_cut {f1 f2 : List Fx} {n1 n2 : List He.DefD} {K : Frag} (h1 : obsX f1 n1 K = valX n1) (h2 : obsX f2 n2 K = valX n2) : obsX (f1 ++ f2) (n1 ++ n2) K = valX (n1 ++ n2) := by
  unfold obsX valX at *
  have a1 := congrArg (fun z : AlX => z.1) h1
  have a2 := congrArg (fun z : AlX => z.1) h2
  have b1 := congrArg (fun z : AlX => z.2) h1
  have b2 := congrArg (fun z : AlX => z.2) h2
  dsimp only at a1 a2 b1 b2
  rw [Bool.and_eq_true] at a1 a2
  rw [List.all_append, List.all_append, List.map_append, List.map_append, b1, b2, a1.1, a1.2, a2.1, a2.2]
  rfl
theorem obs_map {α : Type} {o : Option α} {g : α → Addr → Option Obj} {n : Nat} {f1 f2 : List Fx} {n1 n2 : List He.DefD} (h1 : o.map (fun x => obsXG n f1 n1 (g x)) = some (valX n1)) (h2 : o.map (fun x => obsXG n f2 n2 (g x)) = some (valX n2)) : o.map (fun x => obsXG n (f1 ++ f2) (n1 ++ n2) (g x)) = some (valX (n1 ++ n2)) := by
  cases o with
  | none => cases h1
  | some x =>
    have e1 : obsXG n f1 n1 (g x) = valX n1 := Option.some.inj h1
    have e2 : obsXG n f2 n2 (g x) = valX n2 := Option.some.inj h2
    exact congrArg some (obs_cut e1 e2)
theorem run_cut {r : OpenRow} {q : Program} {n : Nat} {fa : List Fx} {fn : List He.DefD} {M : Nat} {loose : List PySem.Str} {w : World}
    (hA : (HandSHeadRun.wholeF (fun p => HandSHeadRun.stepQ (HandSHeadRun.denQ HandSHeadRun.tabQ) p w) HandSHeadRun.fenceQ M r.prog).map (fun x => HandSHeadRun.looksF r.prog x.1.heap x.2.abs) = some true)
    (hB : (HandSHeadRun.wholeF (fun p => HandSHeadRun.stepQ (HandSHeadRun.denQ HandSHeadRun.tabQ) p w) HandSHeadRun.fenceQ M r.prog).map (fun x => HandSHeadRun.seenQ q loose (importedModules r.prog.main.body) (fun s => xlAt q [] s && recOk r.toRowW.records s) x.2.abs) = some (openGood q loose))
    (hC : (HandSHeadRun.wholeF (fun p => HandSHeadRun.stepQ (HandSHeadRun.denQ HandSHeadRun.tabQ) p w) HandSHeadRun.fenceQ M r.prog).map (fun x => obsXG n fa fn (HandSHeadRun.getT x.2)) = some (valX fn)) :
    HandSHeadRun.RunEqI r q (hookX n fa fn) (fun s => obsXG n fa fn (HandSHeadRun.getT s)) M loose w := map3 hA hB hC
theorem run_cut2 {r : OpenRow} {q : Program} {n : Nat} {fa fa' : List Fx} {fn fn' : List He.DefD} {M : Nat} {loose : List PySem.Str} {w : World} (ef : fa' = fa) (en : fn' = fn)
    (hA : (HandSHeadRun.wholeF (fun p => HandSHeadRun.stepQ (HandSHeadRun.denQ HandSHeadRun.tabQ) p w) HandSHeadRun.fenceQ M r.prog).map (fun x => HandSHeadRun.looksF r.prog x.1.heap x.2.abs) = some true)
    (hB : (HandSHeadRun.wholeF (fun p => HandSHeadRun.stepQ (HandSHeadRun.denQ HandSHeadRun.tabQ) p w) HandSHeadRun.fenceQ M r.prog).map (fun x => HandSHeadRun.seenQ q loose (importedModules r.prog.main.body) (fun s => xlAt q [] s && recOk r.toRowW.records s) x.2.abs) = some (openGood q loose))
    (hC : (HandSHeadRun.wholeF (fun p => HandSHeadRun.stepQ (HandSHeadRun.denQ HandSHeadRun.tabQ) p w) HandSHeadRun.fenceQ M r.prog).map (fun x => obsXG n fa' fn' (HandSHeadRun.getT x.2)) = some (valX fn')) :
    HandSHeadRun.RunEqI r q (hookX n fa fn) (fun s => obsXG n fa fn (HandSHeadRun.getT s)) M loose w := by
  subst ef en
  exact run_cut hA hB hC
end Ev

set_option Elab.async false
set_option linter.all false
set_option maxRecDepth 100000
set_option maxHeartbeats 4000000
namespace Kx
open PySem PySem.Spec PyProof.Rows L2 Ev
def top (i : Nat) : Stmt := PySem.Challenge.pw_tautparcel_k02_whole_boxes_faces_and_edg.main.body.getD i (.Pass ⟨0, 0, 0, 0⟩)
def meth (s : Stmt) (j : Nat) : Stmt := match s with
  | .ClassDef _ _ _ b _ _ _ _ _ _ _ => b.getD j (.Pass ⟨0, 0, 0, 0⟩)
  | _ => .Pass ⟨0, 0, 0, 0⟩
def d_is_whole : He.DefD := ⟨("is_whole", none), "is_whole", "is_whole", defArgs (top 8), defBody (top 8), defScope (top 8), [.non, .non], []⟩
def d_check_face : He.DefD := ⟨("check_face", none), "check_face", "check_face", defArgs (top 12), defBody (top 12), defScope (top 12), [], []⟩
def d_check_corner : He.DefD := ⟨("check_corner", none), "check_corner", "check_corner", defArgs (top 13), defBody (top 13), defScope (top 13), [], []⟩
def d_face_axes : He.DefD := ⟨("face_axes", none), "face_axes", "face_axes", defArgs (top 14), defBody (top 14), defScope (top 14), [], []⟩
def d_are_beside : He.DefD := ⟨("are_beside", none), "are_beside", "are_beside", defArgs (top 15), defBody (top 15), defScope (top 15), [], []⟩
def d_faces_beside : He.DefD := ⟨("faces_beside", none), "faces_beside", "faces_beside", defArgs (top 16), defBody (top 16), defScope (top 16), [], []⟩
def d_corner_bits : He.DefD := ⟨("corner_bits", none), "corner_bits", "corner_bits", defArgs (top 17), defBody (top 17), defScope (top 17), [], []⟩
def d_faces_of_corner : He.DefD := ⟨("faces_of_corner", none), "faces_of_corner", "faces_of_corner", defArgs (top 18), defBody (top 18), defScope (top 18), [], []⟩
def d_all_edges : He.DefD := ⟨("all_edges", none), "all_edges", "all_edges", defArgs (top 19), defBody (top 19), defScope (top 19), [], []⟩
def d_check_edge : He.DefD := ⟨("check_edge", none), "check_edge", "check_edge", defArgs (top 20), defBody (top 20), defScope (top 20), [], []⟩
def d_faces_of_edge : He.DefD := ⟨("faces_of_edge", none), "faces_of_edge", "faces_of_edge", defArgs (top 21), defBody (top 21), defScope (top 21), [], []⟩
def d_edge_between : He.DefD := ⟨("edge_between", none), "edge_between", "edge_between", defArgs (top 22), defBody (top 22), defScope (top 22), [], []⟩
def d__law_hand : He.DefD := ⟨("_law_hand", none), "_law_hand", "_law_hand", defArgs (top 25), defBody (top 25), defScope (top 25), [], []⟩
def d__law_mixed : He.DefD := ⟨("_law_mixed", none), "_law_mixed", "_law_mixed", defArgs (top 26), defBody (top 26), defScope (top 26), [], []⟩
def d__law_take : He.DefD := ⟨("_law_take", none), "_law_take", "_law_take", defArgs (top 27), defBody (top 27), defScope (top 27), [], []⟩
def d__law_axes : He.DefD := ⟨("_law_axes", none), "_law_axes", "_law_axes", defArgs (top 28), defBody (top 28), defScope (top 28), [], []⟩
def d__law_tuples : He.DefD := ⟨("_law_tuples", none), "_law_tuples", "_law_tuples", defArgs (top 29), defBody (top 29), defScope (top 29), [], []⟩
def d__law_odd : He.DefD := ⟨("_law_odd", none), "_law_odd", "_law_odd", defArgs (top 30), defBody (top 30), defScope (top 30), [], []⟩
def d__law_rid : He.DefD := ⟨("_law_rid", none), "_law_rid", "_law_rid", defArgs (top 31), defBody (top 31), defScope (top 31), [], []⟩
def d__law_whole : He.DefD := ⟨("_law_whole", none), "_law_whole", "_law_whole", defArgs (top 32), defBody (top 32), defScope (top 32), [], []⟩
def d__law_bits : He.DefD := ⟨("_law_bits", none), "_law_bits", "_law_bits", defArgs (top 33), defBody (top 33), defScope (top 33), [], []⟩
def d__law_shaped : He.DefD := ⟨("_law_shaped", none), "_law_shaped", "_law_shaped", defArgs (top 34), defBody (top 34), defScope (top 34), [], []⟩
def d__law_box : He.DefD := ⟨("_law_box", none), "_law_box", "_law_box", defArgs (top 35), defBody (top 35), defScope (top 35), [], []⟩
def d__law_asked : He.DefD := ⟨("_law_asked", none), "_law_asked", "_law_asked", defArgs (top 36), defBody (top 36), defScope (top 36), [], []⟩
def d__law_between : He.DefD := ⟨("_law_between", none), "_law_between", "_law_between", defArgs (top 37), defBody (top 37), defScope (top 37), [], []⟩
def d__law_plain : He.DefD := ⟨("_law_plain", none), "_law_plain", "_law_plain", defArgs (top 38), defBody (top 38), defScope (top 38), [], []⟩
def d__law_like : He.DefD := ⟨("_law_like", none), "_law_like", "_law_like", defArgs (top 39), defBody (top 39), defScope (top 39), [], []⟩
def d__law_faces : He.DefD := ⟨("_law_faces", none), "_law_faces", "_law_faces", defArgs (top 40), defBody (top 40), defScope (top 40), [], []⟩
def d__law_edges : He.DefD := ⟨("_law_edges", none), "_law_edges", "_law_edges", defArgs (top 41), defBody (top 41), defScope (top 41), [], []⟩
def d__law_spoilt : He.DefD := ⟨("_law_spoilt", none), "_law_spoilt", "_law_spoilt", defArgs (top 42), defBody (top 42), defScope (top 42), [], []⟩
def d_law : He.DefD := ⟨("law", none), "law", "law", defArgs (top 43), defBody (top 43), defScope (top 43), [], []⟩
def d_ini_BadFace : He.DefD := ⟨("BadFace", some "__init__"), "__init__", "BadFace.__init__", defArgs (meth (top 4) 0), defBody (meth (top 4) 0), defScope (meth (top 4) 0), [], []⟩
def d_ini_BadCorner : He.DefD := ⟨("BadCorner", some "__init__"), "__init__", "BadCorner.__init__", defArgs (meth (top 3) 0), defBody (meth (top 3) 0), defScope (meth (top 3) 0), [], []⟩
def d_ini_BadEdge : He.DefD := ⟨("BadEdge", some "__init__"), "__init__", "BadEdge.__init__", defArgs (meth (top 5) 0), defBody (meth (top 5) 0), defScope (meth (top 5) 0), [], []⟩
def d_ini_NoEdge : He.DefD := ⟨("NoEdge", some "__init__"), "__init__", "NoEdge.__init__", defArgs (meth (top 6) 0), defBody (meth (top 6) 0), defScope (meth (top 6) 0), [], []⟩
def d_ini_BadBox : He.DefD := ⟨("BadBox", some "__init__"), "__init__", "BadBox.__init__", defArgs (meth (top 2) 0), defBody (meth (top 2) 0), defScope (meth (top 2) 0), [], []⟩
def d_ini_Box : He.DefD := ⟨("Box", some "__init__"), "__init__", "Box.__init__", defArgs (meth (top 23) 0), defBody (meth (top 23) 0), defScope (meth (top 23) 0), [], []⟩
def d_pr_Box_skin_area : He.DefD := ⟨("Box", some "@"), "skin_area", "Box.skin_area", defArgs (meth (top 23) 2), defBody (meth (top 23) 2), defScope (meth (top 23) 2), [], []⟩
def d_pr_Box_corner_places : He.DefD := ⟨("Box", some "@"), "corner_places", "Box.corner_places", defArgs (meth (top 23) 3), defBody (meth (top 23) 3), defScope (meth (top 23) 3), [], []⟩
def d_eq_Box : He.DefD := ⟨("Box", some "__eq__"), "__eq__", "Box.__eq__", defArgs (meth (top 23) 1), defBody (meth (top 23) 1), defScope (meth (top 23) 1), [], []⟩
def fn : List He.DefD := [d_is_whole, d_check_face, d_check_corner, d_face_axes, d_are_beside, d_faces_beside, d_corner_bits, d_faces_of_corner, d_all_edges, d_check_edge, d_faces_of_edge, d_edge_between, d__law_hand, d__law_mixed, d__law_take, d__law_axes, d__law_tuples, d__law_odd, d__law_rid, d__law_whole, d__law_bits, d__law_shaped, d__law_box, d__law_asked, d__law_between, d__law_plain, d__law_like, d__law_faces, d__law_edges, d__law_spoilt, d_law, d_ini_BadFace, d_ini_BadCorner, d_ini_BadEdge, d_ini_NoEdge, d_ini_BadBox, d_ini_Box, d_pr_Box_skin_area, d_pr_Box_corner_places, d_eq_Box]
def fa : List Fx := [.glo "law", .free "isinstance", .free "bool", .free "int", .glo "is_whole", .nof "BadFace" "face", .oex "BadFace", .ini "BadFace", .glo "BadFace", .nof "BadCorner" "corner", .oex "BadCorner", .ini "BadCorner", .glo "BadCorner", .dat "FRAMES" (.tup [(.tup [(.int 2), (.int 1)]), (.tup [(.int 1), (.int 2)]), (.tup [(.int 0), (.int 2)]), (.tup [(.int 2), (.int 0)]), (.tup [(.int 1), (.int 0)]), (.tup [(.int 0), (.int 1)])]), .glo "check_face", .free "range", .free "tuple", .glo "corner_bits", .glo "check_corner", .free "list", .free "len", .nof "BadEdge" "edge", .oex "BadEdge", .ini "BadEdge", .glo "BadEdge", .free "min", .free "max", .glo "all_edges", .glo "check_edge", .glo "faces_of_corner", .glo "are_beside", .nof "NoEdge" "face", .nof "NoEdge" "beside", .oex "NoEdge", .ini "NoEdge", .glo "NoEdge", .free "abs", .glo "_law_mixed", .glo "_law_tuples", .glo "_law_take", .fa (.mkr "Box"), .glo "Box", .xf "BadBox", .nof "BadBox" "index", .glo "BadBox", .glo "ParcelError", .xf "BadFace", .xf "BadCorner", .xf "BadEdge", .xf "NoEdge", .glo "_law_plain", .free "repr", .glo "face_axes", .glo "_law_axes", .glo "faces_beside", .glo "_law_bits", .glo "edge_between", .glo "faces_of_edge", .free "sorted", .glo "_law_between", .glo "_law_odd", .glo "_law_like", .glo "_law_asked", .free "sum", .glo "_law_whole", .glo "_law_rid", .glo "_law_hand", .glo "_law_shaped", .glo "_law_box", .isc "Box" [("Box", true)], .cl "Box", .fa (.cls "Box"), .fa (.noat "Box" "sides"), .prop "Box" "skin_area", .prop "Box" "corner_places", .fa (.meth "Box" "__eq__"), .bin "Box" "__ne__" "object.__ne__", .glo "_law_spoilt", .glo "_law_faces", .glo "_law_edges", .oex "BadBox", .ini "BadBox", .free "enumerate", .dat "MOST_SIDE" (.int 60), .exm "BadFace" "BadBox" false, .exm "BadFace" "BadCorner" false, .exm "BadFace" "BadEdge" false, .exm "BadFace" "BadFace" true, .exm "BadFace" "NoEdge" false, .exm "BadFace" "ParcelError" true, .exm "BadCorner" "BadBox" false, .exm "BadCorner" "BadCorner" true, .exm "BadCorner" "BadEdge" false, .exm "BadCorner" "BadFace" false, .exm "BadCorner" "NoEdge" false, .exm "BadCorner" "ParcelError" true, .exm "BadEdge" "BadBox" false, .exm "BadEdge" "BadCorner" false, .exm "BadEdge" "BadEdge" true, .exm "BadEdge" "BadFace" false, .exm "BadEdge" "NoEdge" false, .exm "BadEdge" "ParcelError" true, .exm "NoEdge" "BadBox" false, .exm "NoEdge" "BadCorner" false, .exm "NoEdge" "BadEdge" false, .exm "NoEdge" "BadFace" false, .exm "NoEdge" "NoEdge" true, .exm "NoEdge" "ParcelError" true, .exm "BadBox" "BadBox" true, .exm "BadBox" "BadCorner" false, .exm "BadBox" "BadEdge" false, .exm "BadBox" "BadFace" false, .exm "BadBox" "NoEdge" false, .exm "BadBox" "ParcelError" true]
structure Tz (K : PySem.W.Frag) (mg : Str → Option Value) : Prop where
  ex : ∃ h : Heap, K.In h ∧ h.Ns mainGlobals mg
  c : SaysX fa fn K
section
variable {K : PySem.W.Frag} {mg : Str → Option Value}
theorem Tz.glo (T : Tz K mg) {x : Str} (c : (Fx.glo x).ok K = true) : mg x = some (.ref (He.ga K x)) := let ⟨_, X, G⟩ := T.ex; fx_glo X G c
theorem Tz.free (T : Tz K mg) {x : Str} (c : (Fx.free x).ok K = true) : mg x = none := let ⟨_, X, G⟩ := T.ex; fx_free X G c
theorem Tz.fun_ (T : Tz K mg) {x : Str} {id : String} (c : (Fx.fun_ x id).ok K = true) : mg x = some (.builtin id) := let ⟨_, X, G⟩ := T.ex; fx_fun X G c
theorem Tz.dat (T : Tz K mg) {x : Str} {d : D} (c : (Fx.dat x d).ok K = true) : ∃ v u, mg x = some u ∧ RelV v u ∧ ∀ (Γ : Wd) (B : Hp), Γ.K = K → Rep Γ B d v := let ⟨_, X, G⟩ := T.ex; fx_dat X G c
theorem Tz.int (T : Tz K mg) {x : Str} {i : Int} (c : (Fx.int x i).ok K = true) : ∃ t, mg x = some (.int i t) := let ⟨_, X, G⟩ := T.ex; fx_int X G c
theorem Tz.F_is_whole (T : Tz K mg) : FunD K "is_whole" "is_whole" (defArgs (top 8)) (defBody (top 8)) (defScope (top 8)) (d_is_whole.dvs K) [] (He.ga K "is_whole") (fdOf K (He.ga K "is_whole")) := T.c.def_ 0 (d := d_is_whole) rfl
theorem Tz.F_check_face (T : Tz K mg) : FunD K "check_face" "check_face" (defArgs (top 12)) (defBody (top 12)) (defScope (top 12)) (d_check_face.dvs K) [] (He.ga K "check_face") (fdOf K (He.ga K "check_face")) := T.c.def_ 1 (d := d_check_face) rfl
theorem Tz.b_check_face (T : Tz K mg) : Binds K (fdOf K (He.ga K "check_face")) ["face"] [] := T.F_check_face.bindsN fun _ _ _ _ _ _ us hl => match us, hl with | [_], _ => rfl
theorem Tz.F_check_corner (T : Tz K mg) : FunD K "check_corner" "check_corner" (defArgs (top 13)) (defBody (top 13)) (defScope (top 13)) (d_check_corner.dvs K) [] (He.ga K "check_corner") (fdOf K (He.ga K "check_corner")) := T.c.def_ 2 (d := d_check_corner) rfl
theorem Tz.b_check_corner (T : Tz K mg) : Binds K (fdOf K (He.ga K "check_corner")) ["corner"] [] := T.F_check_corner.bindsN fun _ _ _ _ _ _ us hl => match us, hl with | [_], _ => rfl
theorem Tz.F_face_axes (T : Tz K mg) : FunD K "face_axes" "face_axes" (defArgs (top 14)) (defBody (top 14)) (defScope (top 14)) (d_face_axes.dvs K) [] (He.ga K "face_axes") (fdOf K (He.ga K "face_axes")) := T.c.def_ 3 (d := d_face_axes) rfl
theorem Tz.b_face_axes (T : Tz K mg) : Binds K (fdOf K (He.ga K "face_axes")) ["face"] [] := T.F_face_axes.bindsN fun _ _ _ _ _ _ us hl => match us, hl with | [_], _ => rfl
theorem Tz.F_are_beside (T : Tz K mg) : FunD K "are_beside" "are_beside" (defArgs (top 15)) (defBody (top 15)) (defScope (top 15)) (d_are_beside.dvs K) [] (He.ga K "are_beside") (fdOf K (He.ga K "are_beside")) := T.c.def_ 4 (d := d_are_beside) rfl
theorem Tz.b_are_beside (T : Tz K mg) : Binds K (fdOf K (He.ga K "are_beside")) ["face", "other"] [] := T.F_are_beside.bindsN fun _ _ _ _ _ _ us hl => match us, hl with | [_, _], _ => rfl
theorem Tz.F_faces_beside (T : Tz K mg) : FunD K "faces_beside" "faces_beside" (defArgs (top 16)) (defBody (top 16)) (defScope (top 16)) (d_faces_beside.dvs K) [] (He.ga K "faces_beside") (fdOf K (He.ga K "faces_beside")) := T.c.def_ 5 (d := d_faces_beside) rfl
theorem Tz.b_faces_beside (T : Tz K mg) : Binds K (fdOf K (He.ga K "faces_beside")) ["face"] [] := T.F_faces_beside.bindsN fun _ _ _ _ _ _ us hl => match us, hl with | [_], _ => rfl
theorem Tz.F_corner_bits (T : Tz K mg) : FunD K "corner_bits" "corner_bits" (defArgs (top 17)) (defBody (top 17)) (defScope (top 17)) (d_corner_bits.dvs K) [] (He.ga K "corner_bits") (fdOf K (He.ga K "corner_bits")) := T.c.def_ 6 (d := d_corner_bits) rfl
theorem Tz.b_corner_bits (T : Tz K mg) : Binds K (fdOf K (He.ga K "corner_bits")) ["corner"] [] := T.F_corner_bits.bindsN fun _ _ _ _ _ _ us hl => match us, hl with | [_], _ => rfl
theorem Tz.F_faces_of_corner (T : Tz K mg) : FunD K "faces_of_corner" "faces_of_corner" (defArgs (top 18)) (defBody (top 18)) (defScope (top 18)) (d_faces_of_corner.dvs K) [] (He.ga K "faces_of_corner") (fdOf K (He.ga K "faces_of_corner")) := T.c.def_ 7 (d := d_faces_of_corner) rfl
theorem Tz.b_faces_of_corner (T : Tz K mg) : Binds K (fdOf K (He.ga K "faces_of_corner")) ["corner"] [] := T.F_faces_of_corner.bindsN fun _ _ _ _ _ _ us hl => match us, hl with | [_], _ => rfl
theorem Tz.F_all_edges (T : Tz K mg) : FunD K "all_edges" "all_edges" (defArgs (top 19)) (defBody (top 19)) (defScope (top 19)) (d_all_edges.dvs K) [] (He.ga K "all_edges") (fdOf K (He.ga K "all_edges")) := T.c.def_ 8 (d := d_all_edges) rfl
theorem Tz.b_all_edges (T : Tz K mg) : Binds K (fdOf K (He.ga K "all_edges")) [] [] := T.F_all_edges.bindsN fun _ _ _ _ _ _ us hl => match us, hl with | [], _ => rfl
theorem Tz.F_check_edge (T : Tz K mg) : FunD K "check_edge" "check_edge" (defArgs (top 20)) (defBody (top 20)) (defScope (top 20)) (d_check_edge.dvs K) [] (He.ga K "check_edge") (fdOf K (He.ga K "check_edge")) := T.c.def_ 9 (d := d_check_edge) rfl
theorem Tz.b_check_edge (T : Tz K mg) : Binds K (fdOf K (He.ga K "check_edge")) ["edge"] [] := T.F_check_edge.bindsN fun _ _ _ _ _ _ us hl => match us, hl with | [_], _ => rfl
theorem Tz.F_faces_of_edge (T : Tz K mg) : FunD K "faces_of_edge" "faces_of_edge" (defArgs (top 21)) (defBody (top 21)) (defScope (top 21)) (d_faces_of_edge.dvs K) [] (He.ga K "faces_of_edge") (fdOf K (He.ga K "faces_of_edge")) := T.c.def_ 10 (d := d_faces_of_edge) rfl
theorem Tz.b_faces_of_edge (T : Tz K mg) : Binds K (fdOf K (He.ga K "faces_of_edge")) ["edge"] [] := T.F_faces_of_edge.bindsN fun _ _ _ _ _ _ us hl => match us, hl with | [_], _ => rfl
theorem Tz.F_edge_between (T : Tz K mg) : FunD K "edge_between" "edge_between" (defArgs (top 22)) (defBody (top 22)) (defScope (top 22)) (d_edge_between.dvs K) [] (He.ga K "edge_between") (fdOf K (He.ga K "edge_between")) := T.c.def_ 11 (d := d_edge_between) rfl
theorem Tz.b_edge_between (T : Tz K mg) : Binds K (fdOf K (He.ga K "edge_between")) ["face", "beside"] [] := T.F_edge_between.bindsN fun _ _ _ _ _ _ us hl => match us, hl with | [_, _], _ => rfl
theorem Tz.F__law_hand (T : Tz K mg) : FunD K "_law_hand" "_law_hand" (defArgs (top 25)) (defBody (top 25)) (defScope (top 25)) (d__law_hand.dvs K) [] (He.ga K "_law_hand") (fdOf K (He.ga K "_law_hand")) := T.c.def_ 12 (d := d__law_hand) rfl
theorem Tz.b__law_hand (T : Tz K mg) : Binds K (fdOf K (He.ga K "_law_hand")) ["_law_script"] [] := T.F__law_hand.bindsN fun _ _ _ _ _ _ us hl => match us, hl with | [_], _ => rfl
theorem Tz.F__law_mixed (T : Tz K mg) : FunD K "_law_mixed" "_law_mixed" (defArgs (top 26)) (defBody (top 26)) (defScope (top 26)) (d__law_mixed.dvs K) [] (He.ga K "_law_mixed") (fdOf K (He.ga K "_law_mixed")) := T.c.def_ 13 (d := d__law_mixed) rfl
theorem Tz.b__law_mixed (T : Tz K mg) : Binds K (fdOf K (He.ga K "_law_mixed")) ["_law_number", "_law_turn"] [] := T.F__law_mixed.bindsN fun _ _ _ _ _ _ us hl => match us, hl with | [_, _], _ => rfl
theorem Tz.F__law_take (T : Tz K mg) : FunD K "_law_take" "_law_take" (defArgs (top 27)) (defBody (top 27)) (defScope (top 27)) (d__law_take.dvs K) [] (He.ga K "_law_take") (fdOf K (He.ga K "_law_take")) := T.c.def_ 14 (d := d__law_take) rfl
theorem Tz.b__law_take (T : Tz K mg) : Binds K (fdOf K (He.ga K "_law_take")) ["_law_hand_here", "_law_many"] [] := T.F__law_take.bindsN fun _ _ _ _ _ _ us hl => match us, hl with | [_, _], _ => rfl
theorem Tz.F__law_axes (T : Tz K mg) : FunD K "_law_axes" "_law_axes" (defArgs (top 28)) (defBody (top 28)) (defScope (top 28)) (d__law_axes.dvs K) [] (He.ga K "_law_axes") (fdOf K (He.ga K "_law_axes")) := T.c.def_ 15 (d := d__law_axes) rfl
theorem Tz.b__law_axes (T : Tz K mg) : Binds K (fdOf K (He.ga K "_law_axes")) ["_law_face"] [] := T.F__law_axes.bindsN fun _ _ _ _ _ _ us hl => match us, hl with | [_], _ => rfl
theorem Tz.F__law_tuples (T : Tz K mg) : FunD K "_law_tuples" "_law_tuples" (defArgs (top 29)) (defBody (top 29)) (defScope (top 29)) (d__law_tuples.dvs K) [] (He.ga K "_law_tuples") (fdOf K (He.ga K "_law_tuples")) := T.c.def_ 16 (d := d__law_tuples) rfl
theorem Tz.b__law_tuples (T : Tz K mg) : Binds K (fdOf K (He.ga K "_law_tuples")) ["_law_thing"] [] := T.F__law_tuples.bindsN fun _ _ _ _ _ _ us hl => match us, hl with | [_], _ => rfl
theorem Tz.F__law_odd (T : Tz K mg) : FunD K "_law_odd" "_law_odd" (defArgs (top 30)) (defBody (top 30)) (defScope (top 30)) (d__law_odd.dvs K) [] (He.ga K "_law_odd") (fdOf K (He.ga K "_law_odd")) := T.c.def_ 17 (d := d__law_odd) rfl
theorem Tz.b__law_odd (T : Tz K mg) : Binds K (fdOf K (He.ga K "_law_odd")) ["_law_hand_here", "_law_high"] [] := T.F__law_odd.bindsN fun _ _ _ _ _ _ us hl => match us, hl with | [_, _], _ => rfl
theorem Tz.F__law_rid (T : Tz K mg) : FunD K "_law_rid" "_law_rid" (defArgs (top 31)) (defBody (top 31)) (defScope (top 31)) (d__law_rid.dvs K) [] (He.ga K "_law_rid") (fdOf K (He.ga K "_law_rid")) := T.c.def_ 18 (d := d__law_rid) rfl
theorem Tz.b__law_rid (T : Tz K mg) : Binds K (fdOf K (He.ga K "_law_rid")) ["_law_hand_here"] [] := T.F__law_rid.bindsN fun _ _ _ _ _ _ us hl => match us, hl with | [_], _ => rfl
theorem Tz.F__law_whole (T : Tz K mg) : FunD K "_law_whole" "_law_whole" (defArgs (top 32)) (defBody (top 32)) (defScope (top 32)) (d__law_whole.dvs K) [] (He.ga K "_law_whole") (fdOf K (He.ga K "_law_whole")) := T.c.def_ 19 (d := d__law_whole) rfl
theorem Tz.b__law_whole (T : Tz K mg) : Binds K (fdOf K (He.ga K "_law_whole")) ["_law_thing", "_law_low", "_law_high"] [] := T.F__law_whole.bindsN fun _ _ _ _ _ _ us hl => match us, hl with | [_, _, _], _ => rfl
theorem Tz.F__law_bits (T : Tz K mg) : FunD K "_law_bits" "_law_bits" (defArgs (top 33)) (defBody (top 33)) (defScope (top 33)) (d__law_bits.dvs K) [] (He.ga K "_law_bits") (fdOf K (He.ga K "_law_bits")) := T.c.def_ 20 (d := d__law_bits) rfl
theorem Tz.b__law_bits (T : Tz K mg) : Binds K (fdOf K (He.ga K "_law_bits")) ["_law_corner"] [] := T.F__law_bits.bindsN fun _ _ _ _ _ _ us hl => match us, hl with | [_], _ => rfl
theorem Tz.F__law_shaped (T : Tz K mg) : FunD K "_law_shaped" "_law_shaped" (defArgs (top 34)) (defBody (top 34)) (defScope (top 34)) (d__law_shaped.dvs K) [] (He.ga K "_law_shaped") (fdOf K (He.ga K "_law_shaped")) := T.c.def_ 21 (d := d__law_shaped) rfl
theorem Tz.b__law_shaped (T : Tz K mg) : Binds K (fdOf K (He.ga K "_law_shaped")) ["_law_hand_here", "_law_items"] [] := T.F__law_shaped.bindsN fun _ _ _ _ _ _ us hl => match us, hl with | [_, _], _ => rfl
theorem Tz.F__law_box (T : Tz K mg) : FunD K "_law_box" "_law_box" (defArgs (top 35)) (defBody (top 35)) (defScope (top 35)) (d__law_box.dvs K) [] (He.ga K "_law_box") (fdOf K (He.ga K "_law_box")) := T.c.def_ 22 (d := d__law_box) rfl
theorem Tz.b__law_box (T : Tz K mg) : Binds K (fdOf K (He.ga K "_law_box")) ["_law_sides"] [] := T.F__law_box.bindsN fun _ _ _ _ _ _ us hl => match us, hl with | [_], _ => rfl
theorem Tz.F__law_asked (T : Tz K mg) : FunD K "_law_asked" "_law_asked" (defArgs (top 36)) (defBody (top 36)) (defScope (top 36)) (d__law_asked.dvs K) [] (He.ga K "_law_asked") (fdOf K (He.ga K "_law_asked")) := T.c.def_ 23 (d := d__law_asked) rfl
theorem Tz.b__law_asked (T : Tz K mg) : Binds K (fdOf K (He.ga K "_law_asked")) ["_law_deed", "_law_thing"] [] := T.F__law_asked.bindsN fun _ _ _ _ _ _ us hl => match us, hl with | [_, _], _ => rfl
theorem Tz.F__law_between (T : Tz K mg) : FunD K "_law_between" "_law_between" (defArgs (top 37)) (defBody (top 37)) (defScope (top 37)) (d__law_between.dvs K) [] (He.ga K "_law_between") (fdOf K (He.ga K "_law_between")) := T.c.def_ 24 (d := d__law_between) rfl
theorem Tz.b__law_between (T : Tz K mg) : Binds K (fdOf K (He.ga K "_law_between")) ["_law_deed", "_law_one", "_law_other"] [] := T.F__law_between.bindsN fun _ _ _ _ _ _ us hl => match us, hl with | [_, _, _], _ => rfl
theorem Tz.F__law_plain (T : Tz K mg) : FunD K "_law_plain" "_law_plain" (defArgs (top 38)) (defBody (top 38)) (defScope (top 38)) (d__law_plain.dvs K) [] (He.ga K "_law_plain") (fdOf K (He.ga K "_law_plain")) := T.c.def_ 25 (d := d__law_plain) rfl
theorem Tz.b__law_plain (T : Tz K mg) : Binds K (fdOf K (He.ga K "_law_plain")) ["_law_thing"] [] := T.F__law_plain.bindsN fun _ _ _ _ _ _ us hl => match us, hl with | [_], _ => rfl
theorem Tz.F__law_like (T : Tz K mg) : FunD K "_law_like" "_law_like" (defArgs (top 39)) (defBody (top 39)) (defScope (top 39)) (d__law_like.dvs K) [] (He.ga K "_law_like") (fdOf K (He.ga K "_law_like")) := T.c.def_ 26 (d := d__law_like) rfl
theorem Tz.b__law_like (T : Tz K mg) : Binds K (fdOf K (He.ga K "_law_like")) ["_law_one", "_law_other"] [] := T.F__law_like.bindsN fun _ _ _ _ _ _ us hl => match us, hl with | [_, _], _ => rfl
theorem Tz.F__law_faces (T : Tz K mg) : FunD K "_law_faces" "_law_faces" (defArgs (top 40)) (defBody (top 40)) (defScope (top 40)) (d__law_faces.dvs K) [] (He.ga K "_law_faces") (fdOf K (He.ga K "_law_faces")) := T.c.def_ 27 (d := d__law_faces) rfl
theorem Tz.b__law_faces (T : Tz K mg) : Binds K (fdOf K (He.ga K "_law_faces")) ["_law_hand_here"] [] := T.F__law_faces.bindsN fun _ _ _ _ _ _ us hl => match us, hl with | [_], _ => rfl
theorem Tz.F__law_edges (T : Tz K mg) : FunD K "_law_edges" "_law_edges" (defArgs (top 41)) (defBody (top 41)) (defScope (top 41)) (d__law_edges.dvs K) [] (He.ga K "_law_edges") (fdOf K (He.ga K "_law_edges")) := T.c.def_ 28 (d := d__law_edges) rfl
theorem Tz.b__law_edges (T : Tz K mg) : Binds K (fdOf K (He.ga K "_law_edges")) ["_law_hand_here"] [] := T.F__law_edges.bindsN fun _ _ _ _ _ _ us hl => match us, hl with | [_], _ => rfl
theorem Tz.F__law_spoilt (T : Tz K mg) : FunD K "_law_spoilt" "_law_spoilt" (defArgs (top 42)) (defBody (top 42)) (defScope (top 42)) (d__law_spoilt.dvs K) [] (He.ga K "_law_spoilt") (fdOf K (He.ga K "_law_spoilt")) := T.c.def_ 29 (d := d__law_spoilt) rfl
theorem Tz.b__law_spoilt (T : Tz K mg) : Binds K (fdOf K (He.ga K "_law_spoilt")) ["_law_hand_here", "_law_sides"] [] := T.F__law_spoilt.bindsN fun _ _ _ _ _ _ us hl => match us, hl with | [_, _], _ => rfl
theorem Tz.F_law (T : Tz K mg) : FunD K "law" "law" (defArgs (top 43)) (defBody (top 43)) (defScope (top 43)) (d_law.dvs K) [] (He.ga K "law") (fdOf K (He.ga K "law")) := T.c.def_ 30 (d := d_law) rfl
theorem Tz.b_law (T : Tz K mg) : Binds K (fdOf K (He.ga K "law")) ["_law_script"] [] := T.F_law.bindsN fun _ _ _ _ _ _ us hl => match us, hl with | [_], _ => rfl
theorem Tz.bd_is_whole_3 (T : Tz K mg) : ∃ ds, Vals ((d_is_whole.dvs K).drop 2) ds ∧ Binds K (fdOf K (He.ga K "is_whole")) ["thing", "low", "high"] ds := T.F_is_whole.binds1 3 2 (by exact fun z => nomatch z) rfl fun _ _ _ _ _ _ _ us its hl hi => match us, its, hl, hi with | [_, _, _], [_, _], _, _ => ⟨_, rfl, rfl⟩
theorem Tz.iF_BadFace (T : Tz K mg) : FunD K "__init__" "BadFace.__init__" (defArgs (meth (top 4) 0)) (defBody (meth (top 4) 0)) (defScope (meth (top 4) 0)) [] [] (He.ma K (He.ga K "BadFace") "__init__") (fdOf K (He.ma K (He.ga K "BadFace") "__init__")) := T.c.def_ 31 (d := d_ini_BadFace) rfl
theorem Tz.ib_BadFace (T : Tz K mg) : Binds K (fdOf K (He.ma K (He.ga K "BadFace") "__init__")) ["self", "face"] [] := T.iF_BadFace.bindsN fun _ _ _ _ _ _ us hl => match us, hl with | [_, _], _ => rfl
theorem Tz.ini_BadFace {P : Program} {w : World} {base : Heap} (T : Tz K mg) : FnOk P w K mg base CX0 1 (He.ma K (He.ga K "BadFace") "__init__") (fdOf K (He.ma K (He.ga K "BadFace") "__init__")) ["self", "face"] (spInit (He.ga K "BadFace") ["face"]) := init1 T.iF_BadFace ⟨rfl, rfl, rfl, by decide +kernel, rfl, by decide +kernel, by decide +kernel⟩ (fx_oex (T.c.fact 6)) (fx_nof (T.c.fact 5))
theorem Tz.iF_BadCorner (T : Tz K mg) : FunD K "__init__" "BadCorner.__init__" (defArgs (meth (top 3) 0)) (defBody (meth (top 3) 0)) (defScope (meth (top 3) 0)) [] [] (He.ma K (He.ga K "BadCorner") "__init__") (fdOf K (He.ma K (He.ga K "BadCorner") "__init__")) := T.c.def_ 32 (d := d_ini_BadCorner) rfl
theorem Tz.ib_BadCorner (T : Tz K mg) : Binds K (fdOf K (He.ma K (He.ga K "BadCorner") "__init__")) ["self", "corner"] [] := T.iF_BadCorner.bindsN fun _ _ _ _ _ _ us hl => match us, hl with | [_, _], _ => rfl
theorem Tz.ini_BadCorner {P : Program} {w : World} {base : Heap} (T : Tz K mg) : FnOk P w K mg base CX0 1 (He.ma K (He.ga K "BadCorner") "__init__") (fdOf K (He.ma K (He.ga K "BadCorner") "__init__")) ["self", "corner"] (spInit (He.ga K "BadCorner") ["corner"]) := init1 T.iF_BadCorner ⟨rfl, rfl, rfl, by decide +kernel, rfl, by decide +kernel, by decide +kernel⟩ (fx_oex (T.c.fact 10)) (fx_nof (T.c.fact 9))
theorem Tz.iF_BadEdge (T : Tz K mg) : FunD K "__init__" "BadEdge.__init__" (defArgs (meth (top 5) 0)) (defBody (meth (top 5) 0)) (defScope (meth (top 5) 0)) [] [] (He.ma K (He.ga K "BadEdge") "__init__") (fdOf K (He.ma K (He.ga K "BadEdge") "__init__")) := T.c.def_ 33 (d := d_ini_BadEdge) rfl
theorem Tz.ib_BadEdge (T : Tz K mg) : Binds K (fdOf K (He.ma K (He.ga K "BadEdge") "__init__")) ["self", "edge"] [] := T.iF_BadEdge.bindsN fun _ _ _ _ _ _ us hl => match us, hl with | [_, _], _ => rfl
theorem Tz.ini_BadEdge {P : Program} {w : World} {base : Heap} (T : Tz K mg) : FnOk P w K mg base CX0 1 (He.ma K (He.ga K "BadEdge") "__init__") (fdOf K (He.ma K (He.ga K "BadEdge") "__init__")) ["self", "edge"] (spInit (He.ga K "BadEdge") ["edge"]) := init1 T.iF_BadEdge ⟨rfl, rfl, rfl, by decide +kernel, rfl, by decide +kernel, by decide +kernel⟩ (fx_oex (T.c.fact 22)) (fx_nof (T.c.fact 21))
theorem Tz.iF_NoEdge (T : Tz K mg) : FunD K "__init__" "NoEdge.__init__" (defArgs (meth (top 6) 0)) (defBody (meth (top 6) 0)) (defScope (meth (top 6) 0)) [] [] (He.ma K (He.ga K "NoEdge") "__init__") (fdOf K (He.ma K (He.ga K "NoEdge") "__init__")) := T.c.def_ 34 (d := d_ini_NoEdge) rfl
theorem Tz.ib_NoEdge (T : Tz K mg) : Binds K (fdOf K (He.ma K (He.ga K "NoEdge") "__init__")) ["self", "face", "beside"] [] := T.iF_NoEdge.bindsN fun _ _ _ _ _ _ us hl => match us, hl with | [_, _, _], _ => rfl
theorem Tz.ini_NoEdge {P : Program} {w : World} {base : Heap} (T : Tz K mg) : FnOk P w K mg base CX0 1 (He.ma K (He.ga K "NoEdge") "__init__") (fdOf K (He.ma K (He.ga K "NoEdge") "__init__")) ["self", "face", "beside"] (spInit (He.ga K "NoEdge") ["face", "beside"]) := init2 T.iF_NoEdge ⟨rfl, rfl, rfl, by decide +kernel, rfl, by decide +kernel, by decide +kernel⟩ (fx_oex (T.c.fact 33)) (fx_nof (T.c.fact 31)) (fx_nof (T.c.fact 32))
theorem Tz.iF_BadBox (T : Tz K mg) : FunD K "__init__" "BadBox.__init__" (defArgs (meth (top 2) 0)) (defBody (meth (top 2) 0)) (defScope (meth (top 2) 0)) [] [] (He.ma K (He.ga K "BadBox") "__init__") (fdOf K (He.ma K (He.ga K "BadBox") "__init__")) := T.c.def_ 35 (d := d_ini_BadBox) rfl
theorem Tz.ib_BadBox (T : Tz K mg) : Binds K (fdOf K (He.ma K (He.ga K "BadBox") "__init__")) ["self", "index"] [] := T.iF_BadBox.bindsN fun _ _ _ _ _ _ us hl => match us, hl with | [_, _], _ => rfl
theorem Tz.ini_BadBox {P : Program} {w : World} {base : Heap} (T : Tz K mg) : FnOk P w K mg base CX0 1 (He.ma K (He.ga K "BadBox") "__init__") (fdOf K (He.ma K (He.ga K "BadBox") "__init__")) ["self", "index"] (spInit (He.ga K "BadBox") ["index"]) := init1 T.iF_BadBox ⟨rfl, rfl, rfl, by decide +kernel, rfl, by decide +kernel, by decide +kernel⟩ (fx_oex (T.c.fact 80)) (fx_nof (T.c.fact 43))
theorem Tz.iF_Box (T : Tz K mg) : FunD K "__init__" "Box.__init__" (defArgs (meth (top 23) 0)) (defBody (meth (top 23) 0)) (defScope (meth (top 23) 0)) [] [] (He.ma K (He.ga K "Box") "__init__") (fdOf K (He.ma K (He.ga K "Box") "__init__")) := T.c.def_ 36 (d := d_ini_Box) rfl
theorem Tz.ib_Box (T : Tz K mg) : Binds K (fdOf K (He.ma K (He.ga K "Box") "__init__")) ["self", "sides"] [] := T.iF_Box.bindsN fun _ _ _ _ _ _ us hl => match us, hl with | [_, _], _ => rfl
theorem Tz.F_pr_Box_skin_area (T : Tz K mg) : FunD K "skin_area" "Box.skin_area" (defArgs (meth (top 23) 2)) (defBody (meth (top 23) 2)) (defScope (meth (top 23) 2)) [] [] (gAd K "Box" "skin_area") (fdOf K (gAd K "Box" "skin_area")) := T.c.defA 37 (d := d_pr_Box_skin_area) rfl rfl
theorem Tz.b_pr_Box_skin_area (T : Tz K mg) : Binds K (fdOf K (gAd K "Box" "skin_area")) ["self"] [] := T.F_pr_Box_skin_area.bindsN fun _ _ _ _ _ _ us hl => match us, hl with | [_], _ => rfl
theorem Tz.F_pr_Box_corner_places (T : Tz K mg) : FunD K "corner_places" "Box.corner_places" (defArgs (meth (top 23) 3)) (defBody (meth (top 23) 3)) (defScope (meth (top 23) 3)) [] [] (gAd K "Box" "corner_places") (fdOf K (gAd K "Box" "corner_places")) := T.c.defA 38 (d := d_pr_Box_corner_places) rfl rfl
theorem Tz.b_pr_Box_corner_places (T : Tz K mg) : Binds K (fdOf K (gAd K "Box" "corner_places")) ["self"] [] := T.F_pr_Box_corner_places.bindsN fun _ _ _ _ _ _ us hl => match us, hl with | [_], _ => rfl
theorem Tz.F_eq_Box (T : Tz K mg) : FunD K "__eq__" "Box.__eq__" (defArgs (meth (top 23) 1)) (defBody (meth (top 23) 1)) (defScope (meth (top 23) 1)) [] [] (He.ma K (He.ga K "Box") "__eq__") (fdOf K (He.ma K (He.ga K "Box") "__eq__")) := T.c.defA 39 (d := d_eq_Box) rfl rfl
theorem Tz.b_eq_Box (T : Tz K mg) : Binds K (fdOf K (He.ma K (He.ga K "Box") "__eq__")) ["self", "other"] [] := T.F_eq_Box.bindsN fun _ _ _ _ _ _ us hl => match us, hl with | [_, _], _ => rfl
theorem Tz.at_sides (T : Tz K mg) : AtOk K mg "sides" ["Box"] := .cons (T.glo (T.c.fact 41)) (He.cls_ok (fx_fa (T.c.fact 71))) (He.noat_ok (fx_fa (T.c.fact 72))) (.nil)
theorem Tz.own_Box (T : Tz K mg) : OwnTab K mg (He.ga K "Box") [("Box", true)] := .cons (T.glo (T.c.fact 41)) (fx_cl (T.c.fact 70)) ((fx_isc (T.c.fact 69)).2 _ (List.mem_of_getElem? (i := 0) rfl)) (.nil (fx_isc (T.c.fact 69)).1)
def tabL0 : List (Str × Str × Bool) := [("BadFace", "BadBox", false), ("BadFace", "BadCorner", false), ("BadFace", "BadEdge", false), ("BadFace", "BadFace", true), ("BadFace", "NoEdge", false), ("BadFace", "ParcelError", true), ("BadCorner", "BadBox", false), ("BadCorner", "BadCorner", true), ("BadCorner", "BadEdge", false), ("BadCorner", "BadFace", false), ("BadCorner", "NoEdge", false), ("BadCorner", "ParcelError", true), ("BadEdge", "BadBox", false), ("BadEdge", "BadCorner", false), ("BadEdge", "BadEdge", true), ("BadEdge", "BadFace", false), ("BadEdge", "NoEdge", false), ("BadEdge", "ParcelError", true), ("NoEdge", "BadBox", false), ("NoEdge", "BadCorner", false), ("NoEdge", "BadEdge", false), ("NoEdge", "BadFace", false), ("NoEdge", "NoEdge", true), ("NoEdge", "ParcelError", true)]
def tabL1 : List (Str × Str × Bool) := [("BadBox", "BadBox", true), ("BadBox", "BadCorner", false), ("BadBox", "BadEdge", false), ("BadBox", "BadFace", false), ("BadBox", "NoEdge", false), ("BadBox", "ParcelError", true)]
def tabL : List (Str × Str × Bool) := tabL0 ++ (tabL1)
def tabX : XTab := xtab tabL
theorem Tz.exm_0 (T : Tz K mg) {h : Str} {Ch : Addr} (hh : mg h = some (.ref Ch)) {cn : Str} {C : Addr} {b : Bool} (m : (cn, h, b) ∈ tabL0) (g : mg cn = some (.ref C)) : PySem.W.exmOne K (.ref C) (.ref Ch) = some b := by
  unfold tabL0 at m
  simp only [List.mem_cons, List.not_mem_nil, or_false, Prod.mk.injEq] at m
  rcases m with ⟨rfl, rfl, rfl⟩ | ⟨rfl, rfl, rfl⟩ | ⟨rfl, rfl, rfl⟩ | ⟨rfl, rfl, rfl⟩ | ⟨rfl, rfl, rfl⟩ | ⟨rfl, rfl, rfl⟩ | ⟨rfl, rfl, rfl⟩ | ⟨rfl, rfl, rfl⟩ | ⟨rfl, rfl, rfl⟩ | ⟨rfl, rfl, rfl⟩ | ⟨rfl, rfl, rfl⟩ | ⟨rfl, rfl, rfl⟩ | ⟨rfl, rfl, rfl⟩ | ⟨rfl, rfl, rfl⟩ | ⟨rfl, rfl, rfl⟩ | ⟨rfl, rfl, rfl⟩ | ⟨rfl, rfl, rfl⟩ | ⟨rfl, rfl, rfl⟩ | ⟨rfl, rfl, rfl⟩ | ⟨rfl, rfl, rfl⟩ | ⟨rfl, rfl, rfl⟩ | ⟨rfl, rfl, rfl⟩ | ⟨rfl, rfl, rfl⟩ | ⟨rfl, rfl, rfl⟩
  · have q1 := g.symm.trans (T.glo (T.c.fact 8))
    have q2 := hh.symm.trans (T.glo (T.c.fact 44))
    cases q1
    cases q2
    exact fx_exm (T.c.fact 84)
  · have q1 := g.symm.trans (T.glo (T.c.fact 8))
    have q2 := hh.symm.trans (T.glo (T.c.fact 12))
    cases q1
    cases q2
    exact fx_exm (T.c.fact 85)
  · have q1 := g.symm.trans (T.glo (T.c.fact 8))
    have q2 := hh.symm.trans (T.glo (T.c.fact 24))
    cases q1
    cases q2
    exact fx_exm (T.c.fact 86)
  · have q1 := g.symm.trans (T.glo (T.c.fact 8))
    have q2 := hh.symm.trans (T.glo (T.c.fact 8))
    cases q1
    cases q2
    exact fx_exm (T.c.fact 87)
  · have q1 := g.symm.trans (T.glo (T.c.fact 8))
    have q2 := hh.symm.trans (T.glo (T.c.fact 35))
    cases q1
    cases q2
    exact fx_exm (T.c.fact 88)
  · have q1 := g.symm.trans (T.glo (T.c.fact 8))
    have q2 := hh.symm.trans (T.glo (T.c.fact 45))
    cases q1
    cases q2
    exact fx_exm (T.c.fact 89)
  · have q1 := g.symm.trans (T.glo (T.c.fact 12))
    have q2 := hh.symm.trans (T.glo (T.c.fact 44))
    cases q1
    cases q2
    exact fx_exm (T.c.fact 90)
  · have q1 := g.symm.trans (T.glo (T.c.fact 12))
    have q2 := hh.symm.trans (T.glo (T.c.fact 12))
    cases q1
    cases q2
    exact fx_exm (T.c.fact 91)
  · have q1 := g.symm.trans (T.glo (T.c.fact 12))
    have q2 := hh.symm.trans (T.glo (T.c.fact 24))
    cases q1
    cases q2
    exact fx_exm (T.c.fact 92)
  · have q1 := g.symm.trans (T.glo (T.c.fact 12))
    have q2 := hh.symm.trans (T.glo (T.c.fact 8))
    cases q1
    cases q2
    exact fx_exm (T.c.fact 93)
  · have q1 := g.symm.trans (T.glo (T.c.fact 12))
    have q2 := hh.symm.trans (T.glo (T.c.fact 35))
    cases q1
    cases q2
    exact fx_exm (T.c.fact 94)
  · have q1 := g.symm.trans (T.glo (T.c.fact 12))
    have q2 := hh.symm.trans (T.glo (T.c.fact 45))
    cases q1
    cases q2
    exact fx_exm (T.c.fact 95)
  · have q1 := g.symm.trans (T.glo (T.c.fact 24))
    have q2 := hh.symm.trans (T.glo (T.c.fact 44))
    cases q1
    cases q2
    exact fx_exm (T.c.fact 96)
  · have q1 := g.symm.trans (T.glo (T.c.fact 24))
    have q2 := hh.symm.trans (T.glo (T.c.fact 12))
    cases q1
    cases q2
    exact fx_exm (T.c.fact 97)
  · have q1 := g.symm.trans (T.glo (T.c.fact 24))
    have q2 := hh.symm.trans (T.glo (T.c.fact 24))
    cases q1
    cases q2
    exact fx_exm (T.c.fact 98)
  · have q1 := g.symm.trans (T.glo (T.c.fact 24))
    have q2 := hh.symm.trans (T.glo (T.c.fact 8))
    cases q1
    cases q2
    exact fx_exm (T.c.fact 99)
  · have q1 := g.symm.trans (T.glo (T.c.fact 24))
    have q2 := hh.symm.trans (T.glo (T.c.fact 35))
    cases q1
    cases q2
    exact fx_exm (T.c.fact 100)
  · have q1 := g.symm.trans (T.glo (T.c.fact 24))
    have q2 := hh.symm.trans (T.glo (T.c.fact 45))
    cases q1
    cases q2
    exact fx_exm (T.c.fact 101)
  · have q1 := g.symm.trans (T.glo (T.c.fact 35))
    have q2 := hh.symm.trans (T.glo (T.c.fact 44))
    cases q1
    cases q2
    exact fx_exm (T.c.fact 102)
  · have q1 := g.symm.trans (T.glo (T.c.fact 35))
    have q2 := hh.symm.trans (T.glo (T.c.fact 12))
    cases q1
    cases q2
    exact fx_exm (T.c.fact 103)
  · have q1 := g.symm.trans (T.glo (T.c.fact 35))
    have q2 := hh.symm.trans (T.glo (T.c.fact 24))
    cases q1
    cases q2
    exact fx_exm (T.c.fact 104)
  · have q1 := g.symm.trans (T.glo (T.c.fact 35))
    have q2 := hh.symm.trans (T.glo (T.c.fact 8))
    cases q1
    cases q2
    exact fx_exm (T.c.fact 105)
  · have q1 := g.symm.trans (T.glo (T.c.fact 35))
    have q2 := hh.symm.trans (T.glo (T.c.fact 35))
    cases q1
    cases q2
    exact fx_exm (T.c.fact 106)
  · have q1 := g.symm.trans (T.glo (T.c.fact 35))
    have q2 := hh.symm.trans (T.glo (T.c.fact 45))
    cases q1
    cases q2
    exact fx_exm (T.c.fact 107)
theorem Tz.exm_1 (T : Tz K mg) {h : Str} {Ch : Addr} (hh : mg h = some (.ref Ch)) {cn : Str} {C : Addr} {b : Bool} (m : (cn, h, b) ∈ tabL1) (g : mg cn = some (.ref C)) : PySem.W.exmOne K (.ref C) (.ref Ch) = some b := by
  unfold tabL1 at m
  simp only [List.mem_cons, List.not_mem_nil, or_false, Prod.mk.injEq] at m
  rcases m with ⟨rfl, rfl, rfl⟩ | ⟨rfl, rfl, rfl⟩ | ⟨rfl, rfl, rfl⟩ | ⟨rfl, rfl, rfl⟩ | ⟨rfl, rfl, rfl⟩ | ⟨rfl, rfl, rfl⟩
  · have q1 := g.symm.trans (T.glo (T.c.fact 44))
    have q2 := hh.symm.trans (T.glo (T.c.fact 44))
    cases q1
    cases q2
    exact fx_exm (T.c.fact 108)
  · have q1 := g.symm.trans (T.glo (T.c.fact 44))
    have q2 := hh.symm.trans (T.glo (T.c.fact 12))
    cases q1
    cases q2
    exact fx_exm (T.c.fact 109)
  · have q1 := g.symm.trans (T.glo (T.c.fact 44))
    have q2 := hh.symm.trans (T.glo (T.c.fact 24))
    cases q1
    cases q2
    exact fx_exm (T.c.fact 110)
  · have q1 := g.symm.trans (T.glo (T.c.fact 44))
    have q2 := hh.symm.trans (T.glo (T.c.fact 8))
    cases q1
    cases q2
    exact fx_exm (T.c.fact 111)
  · have q1 := g.symm.trans (T.glo (T.c.fact 44))
    have q2 := hh.symm.trans (T.glo (T.c.fact 35))
    cases q1
    cases q2
    exact fx_exm (T.c.fact 112)
  · have q1 := g.symm.trans (T.glo (T.c.fact 44))
    have q2 := hh.symm.trans (T.glo (T.c.fact 45))
    cases q1
    cases q2
    exact fx_exm (T.c.fact 113)
theorem Tz.exm (T : Tz K mg) {h : Str} {Ch : Addr} (hh : mg h = some (.ref Ch)) : ∀ cn C b, tabX cn h = some b → mg cn = some (.ref C) → PySem.W.exmOne K (.ref C) (.ref Ch) = some b := by
  intro cn C b e g
  have m := xtab_mem e
  unfold tabL at m
  rcases List.mem_append.mp m with m | m
  · exact T.exm_0 hh m g
  exact T.exm_1 hh m g
end
end Kx

set_option Elab.async false
set_option linter.all false
set_option maxRecDepth 100000
set_option maxHeartbeats 400000
namespace Kx
open PySem PySem.Spec PyProof.Rows L2 Ev
section
variable {P : Program} {w : World} {K : PySem.W.Frag} {mg : Str → Option Value} {base : Heap}
/-! is_whole -/
abbrev N_is_whole : List Str := ["thing", "low", "high"]
theorem sc_is_whole : FnScope N_is_whole ["thing", "low", "high"] (defScope (top 8)) := ⟨rfl, rfl, rfl, by decide +kernel, rfl, by decide +kernel, by decide +kernel⟩
noncomputable def den_is_whole : DenS := dSeq (dIfS (dOrT (dTru (dLV (dIsi ["bool"] (dSlot 0)))) (dNotT (dTru (dLV (dIsi ["int"] (dSlot 0)))))) (dRet (dVal (dC (.bl false)))) (dSkip)) (dRet (dVal (dAndV (dOrV (dFrz (dBin gIs (dSlot 1) (dLV (dC .non)))) (dFrz (dBin gGe (dSlot 0) (dSlot 1)))) (dOrV (dFrz (dBin gIs (dSlot 2) (dLV (dC .non)))) (dFrz (dBin gLe (dSlot 0) (dSlot 2)))))))
noncomputable def fn_is_whole : Fn := mkFn 3 3 den_is_whole
theorem fn_is_whole_len (args : List Ent) (h : args.length ≠ 3) : fn_is_whole args = .bad := mkFn_len args h
theorem ok_is_whole (T : Tz K mg) : FnOkG P w K mg base (L2.CX P w) 1 (He.ga K "is_whole") (fdOf K (He.ga K "is_whole")) ["thing", "low", "high"] (spOf K mg [] 3 fn_is_whole) := by
  refine fn_ok (N := N_is_whole) (np := 3) (k := 0) (R := []) T.F_is_whole sc_is_whole rfl (f := den_is_whole) (fun cdv A outer s H E hr => ?_)
  have tk : Takes (cxOf (L2.CX P w) P w K mg base N_is_whole "is_whole" (defScope (top 8)) (He.ga K "is_whole") cdv A outer s H E) (fun cls d _ H => E cls d H) := takes_of rfl rfl rfl rfl
  have hp := passes_of (X := cxOf (L2.CX P w) P w K mg base N_is_whole "is_whole" (defScope (top 8)) (He.ga K "is_whole") cdv A outer s H E) rfl
  exact sCons (sIfS (sWT (sOrT (sTru rfl (sLV (sIsi rfl rfl (T.free (T.c.fact 1)) bt_isinstance (sSlot (pe_var (i := 0) rfl (.inl rfl))) (pe_bltn rfl (T.free (T.c.fact 2)) bt_bool rfl) rfl))) (sOrT1 (sNotT (sTru rfl (sLV (sIsi rfl rfl (T.free (T.c.fact 1)) bt_isinstance (sSlot (pe_var (i := 0) rfl (.inl rfl))) (pe_bltn rfl (T.free (T.c.fact 3)) bt_int rfl) rfl))))))) (sOne (sRet (sVal (sBl)))) (sNil)) (sOne (sRet (sVal (sAndV (sOrV (sFrz (sCmp op_isE sv_is (sSlot (pe_var (i := 1) rfl (.inl rfl))) (sLV (sNon)) (nomark _))) (sOneV (sFrz (sCmp op_ge sv_ge (sSlot (pe_var (i := 0) rfl (.inl rfl))) (sSlot (pe_var (i := 1) rfl (.inl rfl))) (nomark _))))) (sOneV (sOrV (sFrz (sCmp op_isE sv_is (sSlot (pe_var (i := 2) rfl (.inl rfl))) (sLV (sNon)) (nomark _))) (sOneV (sFrz (sCmp op_le sv_le (sSlot (pe_var (i := 0) rfl (.inl rfl))) (sSlot (pe_var (i := 2) rfl (.inl rfl))) (nomark _))))))))))
/-! corner_bits -/
abbrev N_corner_bits : List Str := ["corner"]
theorem sc_corner_bits : FnScope N_corner_bits ["corner"] (defScope (top 17)) := ⟨rfl, rfl, rfl, by decide +kernel, rfl, by decide +kernel, by decide +kernel⟩
noncomputable def den_corner_bits : DenS := dRet (dVal (dTup [dFrz (dBin gDiv (dSlot 0) (dLV (dC (.int 4)))), dFrz (dBin gSub (dLV (dFrz (dBin gDiv (dSlot 0) (dLV (dC (.int 2)))))) (dLV (dFrz (dBin gMul (dLV (dFrz (dBin gDiv (dSlot 0) (dLV (dC (.int 4)))))) (dLV (dC (.int 2))))))), dFrz (dBin gSub (dSlot 0) (dLV (dFrz (dBin gMul (dLV (dFrz (dBin gDiv (dSlot 0) (dLV (dC (.int 2)))))) (dLV (dC (.int 2)))))))]))
noncomputable def fn_corner_bits : Fn := mkFn 1 1 den_corner_bits
theorem fn_corner_bits_len (args : List Ent) (h : args.length ≠ 1) : fn_corner_bits args = .bad := mkFn_len args h
theorem ok_corner_bits (T : Tz K mg) : FnOkG P w K mg base (L2.CX P w) 1 (He.ga K "corner_bits") (fdOf K (He.ga K "corner_bits")) ["corner"] (spOf K mg [] 1 fn_corner_bits) := by
  refine fn_ok (N := N_corner_bits) (np := 1) (k := 0) (R := []) T.F_corner_bits sc_corner_bits rfl (f := den_corner_bits) (fun cdv A outer s H E hr => ?_)
  have tk : Takes (cxOf (L2.CX P w) P w K mg base N_corner_bits "corner_bits" (defScope (top 17)) (He.ga K "corner_bits") cdv A outer s H E) (fun cls d _ H => E cls d H) := takes_of rfl rfl rfl rfl
  have hp := passes_of (X := cxOf (L2.CX P w) P w K mg base N_corner_bits "corner_bits" (defScope (top 17)) (He.ga K "corner_bits") cdv A outer s H E) rfl
  exact sOne (sRet (sVal (sTup (sVsCons (sFrz (sBin op_fdivX sv_div (sSlot (pe_var (i := 0) rfl (.inl rfl))) (sLV (sInt)))) (sVsCons (sFrz (sBin op_sub sv_sub (sLV (sFrz (sBin op_fdivX sv_div (sSlot (pe_var (i := 0) rfl (.inl rfl))) (sLV (sInt))))) (sLV (sFrz (sBin op_mulE sv_mul (sLV (sFrz (sBin op_fdivX sv_div (sSlot (pe_var (i := 0) rfl (.inl rfl))) (sLV (sInt))))) (sLV (sInt))))))) (sVsCons (sFrz (sBin op_sub sv_sub (sSlot (pe_var (i := 0) rfl (.inl rfl))) (sLV (sFrz (sBin op_mulE sv_mul (sLV (sFrz (sBin op_fdivX sv_div (sSlot (pe_var (i := 0) rfl (.inl rfl))) (sLV (sInt))))) (sLV (sInt))))))) (sVsNil)))))))
/-! all_edges -/
abbrev N_all_edges : List Str := ["couples", "corner", "step"]
theorem sc_all_edges : FnScope N_all_edges [] (defScope (top 19)) := ⟨rfl, rfl, rfl, by decide +kernel, rfl, by decide +kernel, by decide +kernel⟩
noncomputable def bd_all_edges_1 : DenS := dIfS (dTB (dBin gEq (dLV (dFrz (dBin gSub (dLV (dFrz (dBin gDiv (dSlot 1) (dSlot 2)))) (dLV (dFrz (dBin gMul (dLV (dFrz (dBin gDiv (dLV (dFrz (dBin gDiv (dSlot 1) (dSlot 2)))) (dLV (dC (.int 2)))))) (dLV (dC (.int 2))))))))) (dLV (dC (.int 0))))) (dExp (dApp 0 (dTup [dVar 1, dFrz (dBin gAdd (dSlot 1) (dSlot 2))]))) (dSkip)
noncomputable def bd_all_edges_2 : DenS := dFor (asN 2) (dIt (dTup [dC (.int 1), dC (.int 2), dC (.int 4)])) (bd_all_edges_1)
noncomputable def den_all_edges : DenS := dSeq (dSet 0 (dLst [])) (dSeq (dFor (asN 1) (dRng1 (dArs [dLV (dC (.int 8))])) (bd_all_edges_2)) (dRet (dCB gTuple (dArs [dSlot 0]))))
noncomputable def fn_all_edges : Fn := mkFn 0 3 den_all_edges
theorem fn_all_edges_len (args : List Ent) (h : args.length ≠ 0) : fn_all_edges args = .bad := mkFn_len args h
theorem ok_all_edges (T : Tz K mg) : FnOkG P w K mg base (L2.CX P w) 1 (He.ga K "all_edges") (fdOf K (He.ga K "all_edges")) [] (spOf K mg [] 0 fn_all_edges) := by
  refine fn_ok (N := N_all_edges) (np := 0) (k := 0) (R := []) T.F_all_edges sc_all_edges rfl (f := den_all_edges) (fun cdv A outer s H E hr => ?_)
  have tk : Takes (cxOf (L2.CX P w) P w K mg base N_all_edges "all_edges" (defScope (top 19)) (He.ga K "all_edges") cdv A outer s H E) (fun cls d _ H => E cls d H) := takes_of rfl rfl rfl rfl
  have hp := passes_of (X := cxOf (L2.CX P w) P w K mg base N_all_edges "all_edges" (defScope (top 19)) (He.ga K "all_edges") cdv A outer s H E) rfl
  exact sCons (sSet (i := 0) (nR rfl) (sLst (sVsNil)) sc_all_edges.nd rfl (.inl rfl)) (sCons (sFor (own := [1]) hp rfl (sRng1 rfl (T.free (T.c.fact 15)) (sArCons (sLV (sInt)) (sArNil))) (gN (i := 1) (by decide) (nR rfl) sc_all_edges.nd rfl (.inl rfl)) (sOne (sFor (own := [2]) hp rfl (sIt rfl (sTup (sVsCons (sInt) (sVsCons (sInt) (sVsCons (sInt) (sVsNil)))))) (gN (i := 2) (by decide) (nR rfl) sc_all_edges.nd rfl (.inl rfl)) (sOne (sIfS (sCmpT (op_eqD hr.units) sv_eq (sLV (sFrz (sBin op_sub sv_sub (sLV (sFrz (sBin op_fdivX sv_div (sSlot (pe_var (i := 1) rfl (.inl rfl))) (sSlot (pe_var (i := 2) rfl (.inl rfl)))))) (sLV (sFrz (sBin op_mulE sv_mul (sLV (sFrz (sBin op_fdivX sv_div (sLV (sFrz (sBin op_fdivX sv_div (sSlot (pe_var (i := 1) rfl (.inl rfl))) (sSlot (pe_var (i := 2) rfl (.inl rfl)))))) (sLV (sInt))))) (sLV (sInt)))))))) (sLV (sInt)) (nomark _)) (sOne (sExp (sApp rfl (pe_var (i := 0) rfl (.inl rfl)) (sTup (sVsCons (sVar (pe_var (i := 1) rfl (.inl rfl))) (sVsCons (sFrz (sBin op_addE sv_add (sSlot (pe_var (i := 1) rfl (.inl rfl))) (sSlot (pe_var (i := 2) rfl (.inl rfl))))) (sVsNil))))))) (sNil)))))) (sOne (sRet (sCT call_tuple_of sv_tuple rfl (T.free (T.c.fact 16)) bt_tuple (sArCons (sSlot (pe_var (i := 0) rfl (.inl rfl))) (sArNil))))))
/-! _law_hand -/
abbrev N__law_hand : List Str := ["_law_script", "_law_total", "_law_cells", "_law_cell"]
theorem sc__law_hand : FnScope N__law_hand ["_law_script"] (defScope (top 25)) := ⟨rfl, rfl, rfl, by decide +kernel, rfl, by decide +kernel, by decide +kernel⟩
noncomputable def bd__law_hand_1 : DenS := dSeq (dSet 1 (dBin gMod (dLV (dFrz (dCB gInt (dArs [dLV (dFrz (dBin gAdd (dLV (dFrz (dBin gMul (dSlot 1) (dLV (dC (.int 1103)))))) (dLV (dFrz (dCB gInt (dArs [dSlot 3]))))))])))) (dLV (dC (.int 2147483549))))) (dExp (dApp 2 (dFrz (dCB gAbs (dArs [dLV (dFrz (dCB gInt (dArs [dSlot 3])))])))))
noncomputable def den__law_hand : DenS := dSeq (dSet 1 (dBin gAdd (dLV (dFrz (dBin gMul (dLV (dC (.int 3))) (dLV (dFrz (dCB gLen (dArs [dSlot 0]))))))) (dLV (dC (.int 71))))) (dSeq (dSet 2 (dLst [])) (dSeq (dFor (asN 3) (dIt (dVar 0)) (bd__law_hand_1)) (dRet (dLst [dVar 2, dC (.int 0), dC (.int 0), dVar 1]))))
noncomputable def fn__law_hand : Fn := mkFn 1 4 den__law_hand
theorem fn__law_hand_len (args : List Ent) (h : args.length ≠ 1) : fn__law_hand args = .bad := mkFn_len args h
theorem ok__law_hand (T : Tz K mg) : FnOkG P w K mg base (L2.CX P w) 1 (He.ga K "_law_hand") (fdOf K (He.ga K "_law_hand")) ["_law_script"] (spOf K mg [] 1 fn__law_hand) := by
  refine fn_ok (N := N__law_hand) (np := 1) (k := 0) (R := []) T.F__law_hand sc__law_hand rfl (f := den__law_hand) (fun cdv A outer s H E hr => ?_)
  have tk : Takes (cxOf (L2.CX P w) P w K mg base N__law_hand "_law_hand" (defScope (top 25)) (He.ga K "_law_hand") cdv A outer s H E) (fun cls d _ H => E cls d H) := takes_of rfl rfl rfl rfl
  have hp := passes_of (X := cxOf (L2.CX P w) P w K mg base N__law_hand "_law_hand" (defScope (top 25)) (He.ga K "_law_hand") cdv A outer s H E) rfl
  exact sCons (sSet (i := 1) (nR rfl) (sBin op_addE sv_add (sLV (sFrz (sBin op_mulE sv_mul (sLV (sInt)) (sLV (sFrz (sCB call_lenE sv_len rfl (T.free (T.c.fact 20)) bt_len (sArCons (sSlot (pe_var (i := 0) rfl (.inl rfl))) (sArNil)))))))) (sLV (sInt))) sc__law_hand.nd rfl (.inl rfl)) (sCons (sSet (i := 2) (nR rfl) (sLst (sVsNil)) sc__law_hand.nd rfl (.inl rfl)) (sCons (sFor (own := [3]) hp rfl (sIt rfl (sVar (pe_var (i := 0) rfl (.inl rfl)))) (gN (i := 3) (by decide) (nR rfl) sc__law_hand.nd rfl (.inl rfl)) (sCons (sSet (i := 1) (nR rfl) (sBin op_modN sv_mod (sLV (sFrz (sCT call_int1 sv_int rfl (T.free (T.c.fact 3)) bt_int (sArCons (sLV (sFrz (sBin op_addE sv_add (sLV (sFrz (sBin op_mulE sv_mul (sSlot (pe_var (i := 1) rfl (.inl rfl))) (sLV (sInt))))) (sLV (sFrz (sCT call_int1 sv_int rfl (T.free (T.c.fact 3)) bt_int (sArCons (sSlot (pe_var (i := 3) rfl (.inl rfl))) (sArNil)))))))) (sArNil))))) (sLV (sInt))) sc__law_hand.nd rfl (.inl rfl)) (sOne (sExp (sApp rfl (pe_var (i := 2) rfl (.inl rfl)) (sFrz (sCB call_abs sv_abs rfl (T.free (T.c.fact 36)) bt_abs (sArCons (sLV (sFrz (sCT call_int1 sv_int rfl (T.free (T.c.fact 3)) bt_int (sArCons (sSlot (pe_var (i := 3) rfl (.inl rfl))) (sArNil))))) (sArNil))))))))) (sOne (sRet (sLst (sVsCons (sVar (pe_var (i := 2) rfl (.inl rfl))) (sVsCons (sInt) (sVsCons (sInt) (sVsCons (sVar (pe_var (i := 1) rfl (.inl rfl))) (sVsNil))))))))))
/-! _law_mixed -/
abbrev N__law_mixed : List Str := ["_law_number", "_law_turn", "_law_once", "_law_twice"]
theorem sc__law_mixed : FnScope N__law_mixed ["_law_number", "_law_turn"] (defScope (top 26)) := ⟨rfl, rfl, rfl, by decide +kernel, rfl, by decide +kernel, by decide +kernel⟩
noncomputable def den__law_mixed : DenS := dSeq (dSet 2 (dBin gMod (dLV (dFrz (dCB gInt (dArs [dLV (dFrz (dBin gAdd (dLV (dFrz (dBin gAdd (dLV (dFrz (dBin gMul (dSlot 0) (dLV (dC (.int 48271)))))) (dLV (dFrz (dBin gMul (dSlot 1) (dLV (dC (.int 10007))))))))) (dLV (dC (.int 30011)))))])))) (dLV (dC (.int 2147483647))))) (dSeq (dSet 3 (dBin gMod (dLV (dFrz (dCB gInt (dArs [dLV (dFrz (dBin gAdd (dLV (dFrz (dBin gAdd (dLV (dFrz (dBin gMul (dSlot 2) (dSlot 2)))) (dLV (dFrz (dBin gMul (dSlot 1) (dLV (dC (.int 92821))))))))) (dLV (dFrz (dBin gDiv (dSlot 2) (dLV (dC (.int 257))))))))])))) (dLV (dC (.int 2147483629))))) (dRet (dBin gDiv (dLV (dFrz (dCB gInt (dArs [dLV (dFrz (dBin gMod (dLV (dFrz (dCB gInt (dArs [dLV (dFrz (dBin gAdd (dLV (dFrz (dBin gMul (dSlot 3) (dLV (dC (.int 69621)))))) (dLV (dFrz (dBin gDiv (dSlot 2) (dLV (dC (.int 11))))))))])))) (dLV (dC (.int 2147483587)))))])))) (dLV (dC (.int 64))))))
noncomputable def fn__law_mixed : Fn := mkFn 2 4 den__law_mixed
theorem fn__law_mixed_len (args : List Ent) (h : args.length ≠ 2) : fn__law_mixed args = .bad := mkFn_len args h
theorem ok__law_mixed (T : Tz K mg) : FnOkG P w K mg base (L2.CX P w) 1 (He.ga K "_law_mixed") (fdOf K (He.ga K "_law_mixed")) ["_law_number", "_law_turn"] (spOf K mg [] 2 fn__law_mixed) := by
  refine fn_ok (N := N__law_mixed) (np := 2) (k := 0) (R := []) T.F__law_mixed sc__law_mixed rfl (f := den__law_mixed) (fun cdv A outer s H E hr => ?_)
  have tk : Takes (cxOf (L2.CX P w) P w K mg base N__law_mixed "_law_mixed" (defScope (top 26)) (He.ga K "_law_mixed") cdv A outer s H E) (fun cls d _ H => E cls d H) := takes_of rfl rfl rfl rfl
  have hp := passes_of (X := cxOf (L2.CX P w) P w K mg base N__law_mixed "_law_mixed" (defScope (top 26)) (He.ga K "_law_mixed") cdv A outer s H E) rfl
  exact sCons (sSet (i := 2) (nR rfl) (sBin op_modN sv_mod (sLV (sFrz (sCT call_int1 sv_int rfl (T.free (T.c.fact 3)) bt_int (sArCons (sLV (sFrz (sBin op_addE sv_add (sLV (sFrz (sBin op_addE sv_add (sLV (sFrz (sBin op_mulE sv_mul (sSlot (pe_var (i := 0) rfl (.inl rfl))) (sLV (sInt))))) (sLV (sFrz (sBin op_mulE sv_mul (sSlot (pe_var (i := 1) rfl (.inl rfl))) (sLV (sInt)))))))) (sLV (sInt))))) (sArNil))))) (sLV (sInt))) sc__law_mixed.nd rfl (.inl rfl)) (sCons (sSet (i := 3) (nR rfl) (sBin op_modN sv_mod (sLV (sFrz (sCT call_int1 sv_int rfl (T.free (T.c.fact 3)) bt_int (sArCons (sLV (sFrz (sBin op_addE sv_add (sLV (sFrz (sBin op_addE sv_add (sLV (sFrz (sBin op_mulE sv_mul (sSlot (pe_var (i := 2) rfl (.inl rfl))) (sSlot (pe_var (i := 2) rfl (.inl rfl)))))) (sLV (sFrz (sBin op_mulE sv_mul (sSlot (pe_var (i := 1) rfl (.inl rfl))) (sLV (sInt)))))))) (sLV (sFrz (sBin op_fdivX sv_div (sSlot (pe_var (i := 2) rfl (.inl rfl))) (sLV (sInt)))))))) (sArNil))))) (sLV (sInt))) sc__law_mixed.nd rfl (.inl rfl)) (sOne (sRet (sBin op_fdivX sv_div (sLV (sFrz (sCT call_int1 sv_int rfl (T.free (T.c.fact 3)) bt_int (sArCons (sLV (sFrz (sBin op_modN sv_mod (sLV (sFrz (sCT call_int1 sv_int rfl (T.free (T.c.fact 3)) bt_int (sArCons (sLV (sFrz (sBin op_addE sv_add (sLV (sFrz (sBin op_mulE sv_mul (sSlot (pe_var (i := 3) rfl (.inl rfl))) (sLV (sInt))))) (sLV (sFrz (sBin op_fdivX sv_div (sSlot (pe_var (i := 2) rfl (.inl rfl))) (sLV (sInt)))))))) (sArNil))))) (sLV (sInt))))) (sArNil))))) (sLV (sInt))))))
/-! _law_axes -/
abbrev N__law_axes : List Str := ["_law_face"]
theorem sc__law_axes : FnScope N__law_axes ["_law_face"] (defScope (top 28)) := ⟨rfl, rfl, rfl, by decide +kernel, rfl, by decide +kernel, by decide +kernel⟩
noncomputable def den__law_axes : DenS := dRet (dBin gIx (dLV (dTup [dTup [dC (.int 2), dC (.int 1)], dTup [dC (.int 1), dC (.int 2)], dTup [dC (.int 0), dC (.int 2)], dTup [dC (.int 2), dC (.int 0)], dTup [dC (.int 1), dC (.int 0)], dTup [dC (.int 0), dC (.int 1)]])) (dSlot 0))
noncomputable def fn__law_axes : Fn := mkFn 1 1 den__law_axes
theorem fn__law_axes_len (args : List Ent) (h : args.length ≠ 1) : fn__law_axes args = .bad := mkFn_len args h
theorem ok__law_axes (T : Tz K mg) : FnOkG P w K mg base (L2.CX P w) 1 (He.ga K "_law_axes") (fdOf K (He.ga K "_law_axes")) ["_law_face"] (spOf K mg [] 1 fn__law_axes) := by
  refine fn_ok (N := N__law_axes) (np := 1) (k := 0) (R := []) T.F__law_axes sc__law_axes rfl (f := den__law_axes) (fun cdv A outer s H E hr => ?_)
  have tk : Takes (cxOf (L2.CX P w) P w K mg base N__law_axes "_law_axes" (defScope (top 28)) (He.ga K "_law_axes") cdv A outer s H E) (fun cls d _ H => E cls d H) := takes_of rfl rfl rfl rfl
  have hp := passes_of (X := cxOf (L2.CX P w) P w K mg base N__law_axes "_law_axes" (defScope (top 28)) (He.ga K "_law_axes") cdv A outer s H E) rfl
  exact sOne (sRet (sIx rfl (sLV (sTup (sVsCons (sTup (sVsCons (sInt) (sVsCons (sInt) (sVsNil)))) (sVsCons (sTup (sVsCons (sInt) (sVsCons (sInt) (sVsNil)))) (sVsCons (sTup (sVsCons (sInt) (sVsCons (sInt) (sVsNil)))) (sVsCons (sTup (sVsCons (sInt) (sVsCons (sInt) (sVsNil)))) (sVsCons (sTup (sVsCons (sInt) (sVsCons (sInt) (sVsNil)))) (sVsCons (sTup (sVsCons (sInt) (sVsCons (sInt) (sVsNil)))) (sVsNil))))))))) (sSlot (pe_var (i := 0) rfl (.inl rfl)))))
/-! _law_whole -/
abbrev N__law_whole : List Str := ["_law_thing", "_law_low", "_law_high"]
theorem sc__law_whole : FnScope N__law_whole ["_law_thing", "_law_low", "_law_high"] (defScope (top 32)) := ⟨rfl, rfl, rfl, by decide +kernel, rfl, by decide +kernel, by decide +kernel⟩
noncomputable def den__law_whole : DenS := dRet (dVal (dAndV (dIsi ["int"] (dSlot 0)) (dAndV (dNotL (dLV (dIsi ["bool"] (dSlot 0)))) (dFrz (dChain gLe gLe (dSlot 1) (dSlot 0) (dSlot 2))))))
noncomputable def fn__law_whole : Fn := mkFn 3 3 den__law_whole
theorem fn__law_whole_len (args : List Ent) (h : args.length ≠ 3) : fn__law_whole args = .bad := mkFn_len args h
theorem ok__law_whole (T : Tz K mg) : FnOkG P w K mg base (L2.CX P w) 1 (He.ga K "_law_whole") (fdOf K (He.ga K "_law_whole")) ["_law_thing", "_law_low", "_law_high"] (spOf K mg [] 3 fn__law_whole) := by
  refine fn_ok (N := N__law_whole) (np := 3) (k := 0) (R := []) T.F__law_whole sc__law_whole rfl (f := den__law_whole) (fun cdv A outer s H E hr => ?_)
  have tk : Takes (cxOf (L2.CX P w) P w K mg base N__law_whole "_law_whole" (defScope (top 32)) (He.ga K "_law_whole") cdv A outer s H E) (fun cls d _ H => E cls d H) := takes_of rfl rfl rfl rfl
  have hp := passes_of (X := cxOf (L2.CX P w) P w K mg base N__law_whole "_law_whole" (defScope (top 32)) (He.ga K "_law_whole") cdv A outer s H E) rfl
  exact sOne (sRet (sVal (sAndV (sIsi rfl rfl (T.free (T.c.fact 1)) bt_isinstance (sSlot (pe_var (i := 0) rfl (.inl rfl))) (pe_bltn rfl (T.free (T.c.fact 3)) bt_int rfl) rfl) (sAndV (sNotL rfl (sLV (sIsi rfl rfl (T.free (T.c.fact 1)) bt_isinstance (sSlot (pe_var (i := 0) rfl (.inl rfl))) (pe_bltn rfl (T.free (T.c.fact 2)) bt_bool rfl) rfl))) (sOneV (sFrz (sChain op_le op_le sv_le sv_le (sSlot (pe_var (i := 1) rfl (.inl rfl))) (sSlot (pe_var (i := 0) rfl (.inl rfl))) (sSlot (pe_var (i := 2) rfl (.inl rfl))) (by with_unfolding_all rfl))))))))
/-! _law_bits -/
abbrev N__law_bits : List Str := ["_law_corner"]
theorem sc__law_bits : FnScope N__law_bits ["_law_corner"] (defScope (top 33)) := ⟨rfl, rfl, rfl, by decide +kernel, rfl, by decide +kernel, by decide +kernel⟩
noncomputable def den__law_bits : DenS := dRet (dVal (dTup [dFrz (dBin gDiv (dSlot 0) (dLV (dC (.int 4)))), dFrz (dBin gMod (dLV (dFrz (dCB gInt (dArs [dLV (dFrz (dBin gDiv (dSlot 0) (dLV (dC (.int 2)))))])))) (dLV (dC (.int 2)))), dFrz (dBin gMod (dLV (dFrz (dCB gInt (dArs [dSlot 0])))) (dLV (dC (.int 2))))]))
noncomputable def fn__law_bits : Fn := mkFn 1 1 den__law_bits
theorem fn__law_bits_len (args : List Ent) (h : args.length ≠ 1) : fn__law_bits args = .bad := mkFn_len args h
theorem ok__law_bits (T : Tz K mg) : FnOkG P w K mg base (L2.CX P w) 1 (He.ga K "_law_bits") (fdOf K (He.ga K "_law_bits")) ["_law_corner"] (spOf K mg [] 1 fn__law_bits) := by
  refine fn_ok (N := N__law_bits) (np := 1) (k := 0) (R := []) T.F__law_bits sc__law_bits rfl (f := den__law_bits) (fun cdv A outer s H E hr => ?_)
  have tk : Takes (cxOf (L2.CX P w) P w K mg base N__law_bits "_law_bits" (defScope (top 33)) (He.ga K "_law_bits") cdv A outer s H E) (fun cls d _ H => E cls d H) := takes_of rfl rfl rfl rfl
  have hp := passes_of (X := cxOf (L2.CX P w) P w K mg base N__law_bits "_law_bits" (defScope (top 33)) (He.ga K "_law_bits") cdv A outer s H E) rfl
  exact sOne (sRet (sVal (sTup (sVsCons (sFrz (sBin op_fdivX sv_div (sSlot (pe_var (i := 0) rfl (.inl rfl))) (sLV (sInt)))) (sVsCons (sFrz (sBin op_modN sv_mod (sLV (sFrz (sCT call_int1 sv_int rfl (T.free (T.c.fact 3)) bt_int (sArCons (sLV (sFrz (sBin op_fdivX sv_div (sSlot (pe_var (i := 0) rfl (.inl rfl))) (sLV (sInt))))) (sArNil))))) (sLV (sInt)))) (sVsCons (sFrz (sBin op_modN sv_mod (sLV (sFrz (sCT call_int1 sv_int rfl (T.free (T.c.fact 3)) bt_int (sArCons (sSlot (pe_var (i := 0) rfl (.inl rfl))) (sArNil))))) (sLV (sInt)))) (sVsNil)))))))
/-! pr_Box_skin_area -/
abbrev N_pr_Box_skin_area : List Str := ["self", "one", "two", "three"]
theorem sc_pr_Box_skin_area : FnScope N_pr_Box_skin_area ["self"] (defScope (meth (top 23) 2)) := ⟨rfl, rfl, rfl, by decide +kernel, rfl, by decide +kernel, by decide +kernel⟩
noncomputable def den_pr_Box_skin_area : DenS := dSeq (dAsg (asT 3 (asCons (asN 1) (asCons (asN 2) (asCons (asN 3) (asNil))))) (dAt ["Box"] "sides" (dSlot 0))) (dRet (dBin gMul (dLV (dC (.int 2))) (dLV (dFrz (dBin gAdd (dLV (dFrz (dBin gAdd (dLV (dFrz (dBin gMul (dSlot 1) (dSlot 2)))) (dLV (dFrz (dBin gMul (dSlot 2) (dSlot 3))))))) (dLV (dFrz (dBin gMul (dSlot 3) (dSlot 1)))))))))
noncomputable def fn_pr_Box_skin_area : Fn := mkFn 1 4 den_pr_Box_skin_area
theorem fn_pr_Box_skin_area_len (args : List Ent) (h : args.length ≠ 1) : fn_pr_Box_skin_area args = .bad := mkFn_len args h
theorem ok_pr_Box_skin_area (T : Tz K mg) : FnOkG P w K mg base (L2.CX P w) 1 (gAd K "Box" "skin_area") (fdOf K (gAd K "Box" "skin_area")) ["self"] (spOf K mg [] 1 fn_pr_Box_skin_area) := by
  refine fn_ok (N := N_pr_Box_skin_area) (np := 1) (k := 0) (R := []) T.F_pr_Box_skin_area sc_pr_Box_skin_area rfl (f := den_pr_Box_skin_area) (fun cdv A outer s H E hr => ?_)
  have tk : Takes (cxOf (L2.CX P w) P w K mg base N_pr_Box_skin_area "Box.skin_area" (defScope (meth (top 23) 2)) (gAd K "Box" "skin_area") cdv A outer s H E) (fun cls d _ H => E cls d H) := takes_of rfl rfl rfl rfl
  have hp := passes_of (X := cxOf (L2.CX P w) P w K mg base N_pr_Box_skin_area "Box.skin_area" (defScope (meth (top 23) 2)) (gAd K "Box" "skin_area") cdv A outer s H E) rfl
  exact sCons (sAsg (own := [1, 2, 3]) (sAt (cs := ["Box"]) rfl (T.at_sides) (sSlot (pe_var (i := 0) rfl (.inl rfl)))) (gT rfl rfl (gsCons (gN (i := 1) (by decide) (nR rfl) sc_pr_Box_skin_area.nd rfl (.inl rfl)) (gsCons (gN (i := 2) (by decide) (nR rfl) sc_pr_Box_skin_area.nd rfl (.inl rfl)) (gsCons (gN (i := 3) (by decide) (nR rfl) sc_pr_Box_skin_area.nd rfl (.inl rfl)) (gsNil)))))) (sOne (sRet (sBin op_mulE sv_mul (sLV (sInt)) (sLV (sFrz (sBin op_addE sv_add (sLV (sFrz (sBin op_addE sv_add (sLV (sFrz (sBin op_mulE sv_mul (sSlot (pe_var (i := 1) rfl (.inl rfl))) (sSlot (pe_var (i := 2) rfl (.inl rfl)))))) (sLV (sFrz (sBin op_mulE sv_mul (sSlot (pe_var (i := 2) rfl (.inl rfl))) (sSlot (pe_var (i := 3) rfl (.inl rfl))))))))) (sLV (sFrz (sBin op_mulE sv_mul (sSlot (pe_var (i := 3) rfl (.inl rfl))) (sSlot (pe_var (i := 1) rfl (.inl rfl))))))))))))
/-! pr_Box_corner_places -/
abbrev N_pr_Box_corner_places : List Str := ["self", "one", "two", "three", "x", "y", "z"]
theorem sc_pr_Box_corner_places : FnScope N_pr_Box_corner_places ["self"] (defScope (meth (top 23) 3)) := ⟨rfl, rfl, rfl, by decide +kernel, rfl, by decide +kernel, by decide +kernel⟩
noncomputable def el_pr_Box_corner_places_1 : DenV := dTup [dTup [dVar 4, dC (.int 1)], dTup [dVar 5, dC (.int 1)], dTup [dVar 6, dC (.int 1)]]
noncomputable def den_pr_Box_corner_places : DenS := dSeq (dAsg (asT 3 (asCons (asN 1) (asCons (asN 2) (asCons (asN 3) (asNil))))) (dAt ["Box"] "sides" (dSlot 0))) (dRet (dCB gTuple (dArs [dLV (dFrz (dLcN [4, 5, 6] (asN 4) (dIt (dTup [dC (.int 0), dVar 1])) (dTrue) (rCls [5, 6] (asN 5) (dIt (dTup [dC (.int 0), dVar 2])) (dTrue) (rCls [6] (asN 6) (dIt (dTup [dC (.int 0), dVar 3])) (dTrue) (rEnd (el_pr_Box_corner_places_1))))))])))
noncomputable def fn_pr_Box_corner_places : Fn := mkFn 1 7 den_pr_Box_corner_places
theorem fn_pr_Box_corner_places_len (args : List Ent) (h : args.length ≠ 1) : fn_pr_Box_corner_places args = .bad := mkFn_len args h
theorem ok_pr_Box_corner_places (T : Tz K mg) : FnOkG P w K mg base (L2.CX P w) 1 (gAd K "Box" "corner_places") (fdOf K (gAd K "Box" "corner_places")) ["self"] (spOf K mg [] 1 fn_pr_Box_corner_places) := by
  refine fn_ok (N := N_pr_Box_corner_places) (np := 1) (k := 0) (R := []) T.F_pr_Box_corner_places sc_pr_Box_corner_places rfl (f := den_pr_Box_corner_places) (fun cdv A outer s H E hr => ?_)
  have tk : Takes (cxOf (L2.CX P w) P w K mg base N_pr_Box_corner_places "Box.corner_places" (defScope (meth (top 23) 3)) (gAd K "Box" "corner_places") cdv A outer s H E) (fun cls d _ H => E cls d H) := takes_of rfl rfl rfl rfl
  have hp := passes_of (X := cxOf (L2.CX P w) P w K mg base N_pr_Box_corner_places "Box.corner_places" (defScope (meth (top 23) 3)) (gAd K "Box" "corner_places") cdv A outer s H E) rfl
  exact sCons (sAsg (own := [1, 2, 3]) (sAt (cs := ["Box"]) rfl (T.at_sides) (sSlot (pe_var (i := 0) rfl (.inl rfl)))) (gT rfl rfl (gsCons (gN (i := 1) (by decide) (nR rfl) sc_pr_Box_corner_places.nd rfl (.inl rfl)) (gsCons (gN (i := 2) (by decide) (nR rfl) sc_pr_Box_corner_places.nd rfl (.inr rfl)) (gsCons (gN (i := 3) (by decide) (nR rfl) sc_pr_Box_corner_places.nd rfl (.inr rfl)) (gsNil)))))) (sOne (sRet (sCT call_tuple_of sv_tuple rfl (T.free (T.c.fact 16)) bt_tuple (sArCons (sLV (sFrz (sLcN (own := [("x", 4), ("y", 5), ("z", 6)]) (vs' := [5, 6]) (nRs rfl) rfl sc_pr_Box_corner_places.nd (sIt rfl (sTup (sVsCons (sInt) (sVsCons (sVar (pe_var (i := 1) rfl (.inl rfl))) (sVsNil))))) (blkOk_by (N := N_pr_Box_corner_places) (sc := defScope (meth (top 23) 3)) (by decide +kernel)) (.inr ⟨_, _, _, rfl⟩) (by decide) (rsnd_cls (vs := [5, 6]) (vs' := [6]) (nRs rfl) (by decide) (rsnd_cls (vs := [6]) (vs' := []) (nRs rfl) (by decide) (rsnd_end))) (fun s H C cl fp => gN (i := 4) (by decide) (nR rfl) sc_pr_Box_corner_places.nd rfl (.inl rfl)) (fun s H C cl fp => sTs0) (fun s H C cl fp D => rest_cls (vs := [5, 6]) (vs' := [6]) rfl rfl rfl (.inr ⟨_, _, _, rfl⟩) (sIt rfl (sTup (sVsCons (sInt) (sVsCons (sVar (pe_var (i := 2) rfl (.inr (.inl rfl)))) (sVsNil))))) (gN (i := 5) (by decide) (nR rfl) sc_pr_Box_corner_places.nd rfl (.inl rfl)) (sTs0) (by intro _; rfl) (by decide) (rest_cls (vs := [6]) (vs' := []) rfl rfl rfl (.inl rfl) (sIt rfl (sTup (sVsCons (sInt) (sVsCons (sVar (pe_var (i := 3) rfl (.inr (.inl rfl)))) (sVsNil))))) (gN (i := 6) (by decide) (nR rfl) sc_pr_Box_corner_places.nd rfl (.inl rfl)) (sTs0) (by intro _; rfl) (by decide) (rest_end rfl rfl (sTup (sVsCons (sTup (sVsCons (sVar (pe_var (i := 4) rfl (.inl rfl))) (sVsCons (sInt) (sVsNil)))) (sVsCons (sTup (sVsCons (sVar (pe_var (i := 5) rfl (.inl rfl))) (sVsCons (sInt) (sVsNil)))) (sVsCons (sTup (sVsCons (sVar (pe_var (i := 6) rfl (.inl rfl))) (sVsCons (sInt) (sVsNil)))) (sVsNil))))))))))) (sArNil)))))
/-! eq_Box -/
abbrev N_eq_Box : List Str := ["self", "other"]
theorem sc_eq_Box : FnScope N_eq_Box ["self", "other"] (defScope (meth (top 23) 1)) := ⟨rfl, rfl, rfl, by decide +kernel, rfl, by decide +kernel, by decide +kernel⟩
noncomputable def den_eq_Box : DenS := dRet (dVal (dAndV (dIsK (isOwn [("Box", true)]) (dSlot 1)) (dFrz (dBin gEq (dLV (dAt ["Box"] "sides" (dSlot 0))) (dLV (dAt ["Box"] "sides" (dSlot 1)))))))
noncomputable def fn_eq_Box : Fn := mkFn 2 2 den_eq_Box
theorem fn_eq_Box_len (args : List Ent) (h : args.length ≠ 2) : fn_eq_Box args = .bad := mkFn_len args h
theorem ok_eq_Box (T : Tz K mg) : FnOkG P w K mg base (L2.CX P w) 1 (He.ma K (He.ga K "Box") "__eq__") (fdOf K (He.ma K (He.ga K "Box") "__eq__")) ["self", "other"] (spOf K mg [] 2 fn_eq_Box) := by
  refine fn_ok (N := N_eq_Box) (np := 2) (k := 0) (R := []) T.F_eq_Box sc_eq_Box rfl (f := den_eq_Box) (fun cdv A outer s H E hr => ?_)
  have tk : Takes (cxOf (L2.CX P w) P w K mg base N_eq_Box "Box.__eq__" (defScope (meth (top 23) 1)) (He.ma K (He.ga K "Box") "__eq__") cdv A outer s H E) (fun cls d _ H => E cls d H) := takes_of rfl rfl rfl rfl
  have hp := passes_of (X := cxOf (L2.CX P w) P w K mg base N_eq_Box "Box.__eq__" (defScope (meth (top 23) 1)) (He.ma K (He.ga K "Box") "__eq__") cdv A outer s H E) rfl
  exact sOne (sRet (sVal (sAndV (sIsO (l := [("Box", true)]) rfl rfl T.own_Box rfl (T.free (T.c.fact 1)) bt_isinstance (sSlot (pe_var (i := 1) rfl (.inl rfl))) (pe_glob (v := .ref _) rfl (T.glo (T.c.fact 41)) rfl)) (sOneV (sFrz (sCmp (op_eqD hr.units) sv_eq (sLV (sAt (cs := ["Box"]) rfl (T.at_sides) (sSlot (pe_var (i := 0) rfl (.inl rfl))))) (sLV (sAt (cs := ["Box"]) rfl (T.at_sides) (sSlot (pe_var (i := 1) rfl (.inl rfl))))) (nomark _)))))))
noncomputable def eqT_Box : List (Str × Fn) := [("Box", fn_eq_Box)]
theorem Tz.eqt_Box {P : Program} {w : World} {K : PySem.W.Frag} {mg : Str → Option Value} {base : Heap} (T : Tz K mg) : EqTab P w K mg base 1 eqT_Box := .cons (T.glo (T.c.fact 41)) ⟨_, _, _, 1, by decide, (He.meth_ok (fx_fa (T.c.fact 75))).at_, (He.meth_ok (fx_fa (T.c.fact 75))).fn, fx_bin (T.c.fact 76), (fx_cl (T.c.fact 70)).hm, T.b_eq_Box, ok_eq_Box T, fn_eq_Box_len⟩ (.nil)
/-! _law_take -/
abbrev N__law_take : List Str := ["_law_hand_here", "_law_many", "_law_cell", "_law_rest"]
theorem sc__law_take : FnScope N__law_take ["_law_hand_here", "_law_many"] (defScope (top 27)) := ⟨rfl, rfl, rfl, by decide +kernel, rfl, by decide +kernel, by decide +kernel⟩
noncomputable def den__law_take : DenS := dSeq (dIfS (dAndT (dTB (dBin gEq (dLV (dFrz (dBin gIx (dSlot 0) (dLV (dC (.int 2)))))) (dLV (dC (.int 0))))) (dTB (dBin gLt (dLV (dFrz (dBin gIx (dSlot 0) (dLV (dC (.int 1)))))) (dLV (dFrz (dCB gLen (dArs [dLV (dFrz (dBin gIx (dSlot 0) (dLV (dC (.int 0)))))]))))))) (dSeq (dSet 2 (dBin gIx (dLV (dFrz (dBin gIx (dSlot 0) (dLV (dC (.int 0)))))) (dLV (dFrz (dBin gIx (dSlot 0) (dLV (dC (.int 1)))))))) (dSeq (dPut 0 (dC (.int 1)) (dFrz (dBin gAdd (dLV (dFrz (dBin gIx (dSlot 0) (dLV (dC (.int 1)))))) (dLV (dC (.int 1)))))) (dSeq (dIfS (dTB (dBin gLt (dSlot 2) (dLV (dFrz (dBin gPow (dLV (dC (.int 10))) (dLV (dC (.int 18)))))))) (dRet (dBin gMod (dLV (dFrz (dCB gInt (dArs [dLV (dFrz (dCall fn__law_mixed [] (dArs [dLV (dFrz (dBin gMod (dLV (dFrz (dCB gInt (dArs [dSlot 2])))) (dLV (dC (.int 2147483647))))), dLV (dFrz (dBin gIx (dSlot 0) (dLV (dC (.int 1)))))])))])))) (dSlot 1))) (dSkip)) (dPut 0 (dC (.int 2)) (dVar 2))))) (dSkip)) (dSeq (dIfS (dTB (dBin gGt (dLV (dFrz (dBin gIx (dSlot 0) (dLV (dC (.int 2)))))) (dLV (dC (.int 0))))) (dSeq (dSet 3 (dBin gIx (dSlot 0) (dLV (dC (.int 2))))) (dSeq (dPut 0 (dC (.int 2)) (dFrz (dBin gDiv (dLV (dFrz (dCB gInt (dArs [dSlot 3])))) (dSlot 1)))) (dRet (dBin gMod (dLV (dFrz (dCB gInt (dArs [dSlot 3])))) (dSlot 1))))) (dSkip)) (dSeq (dPut 0 (dC (.int 3)) (dFrz (dBin gMod (dLV (dFrz (dCB gInt (dArs [dLV (dFrz (dBin gAdd (dLV (dFrz (dBin gIx (dSlot 0) (dLV (dC (.int 3)))))) (dLV (dC (.int 1)))))])))) (dLV (dC (.int 2147483549)))))) (dRet (dBin gMod (dLV (dFrz (dCB gInt (dArs [dLV (dFrz (dCall fn__law_mixed [] (dArs [dLV (dFrz (dBin gIx (dSlot 0) (dLV (dC (.int 3))))), dLV (dFrz (dBin gIx (dSlot 0) (dLV (dC (.int 1)))))])))])))) (dSlot 1)))))
noncomputable def fn__law_take : Fn := mkFn 2 4 den__law_take
theorem fn__law_take_len (args : List Ent) (h : args.length ≠ 2) : fn__law_take args = .bad := mkFn_len args h
theorem ok__law_take (T : Tz K mg) : FnOkG P w K mg base (L2.CX P w) 2 (He.ga K "_law_take") (fdOf K (He.ga K "_law_take")) ["_law_hand_here", "_law_many"] (spOf K mg [0] 2 fn__law_take) := by
  refine fn_ok (N := N__law_take) (np := 2) (k := 1) (R := [0]) T.F__law_take sc__law_take rfl (f := den__law_take) (fun cdv A outer s H E hr => ?_)
  have tk : Takes (cxOf (L2.CX P w) P w K mg base N__law_take "_law_take" (defScope (top 27)) (He.ga K "_law_take") cdv A outer s H E) (fun cls d _ H => E cls d H) := takes_of rfl rfl rfl rfl
  have hp := passes_of (X := cxOf (L2.CX P w) P w K mg base N__law_take "_law_take" (defScope (top 27)) (He.ga K "_law_take") cdv A outer s H E) rfl
  exact sCons (sIfS (sWT (sAndT (sCmpT (op_eqD hr.units) sv_eq (sLV (sFrz (sIx rfl (sSlot (pe_var (i := 0) rfl (.inl rfl))) (sLV (sInt))))) (sLV (sInt)) (nomark _)) (sAndT1 (sCmpT op_lt sv_lt (sLV (sFrz (sIx rfl (sSlot (pe_var (i := 0) rfl (.inl rfl))) (sLV (sInt))))) (sLV (sFrz (sCB call_lenE sv_len rfl (T.free (T.c.fact 20)) bt_len (sArCons (sLV (sFrz (sIx rfl (sSlot (pe_var (i := 0) rfl (.inl rfl))) (sLV (sInt))))) (sArNil))))) (nomark _))))) (sCons (sSet (i := 2) (nR rfl) (sIx rfl (sLV (sFrz (sIx rfl (sSlot (pe_var (i := 0) rfl (.inl rfl))) (sLV (sInt))))) (sLV (sFrz (sIx rfl (sSlot (pe_var (i := 0) rfl (.inl rfl))) (sLV (sInt)))))) sc__law_take.nd rfl (.inl rfl)) (sCons (sPut (pe_var (i := 0) rfl (.inl rfl)) (sInt) (sFrz (sBin op_addE sv_add (sLV (sFrz (sIx rfl (sSlot (pe_var (i := 0) rfl (.inl rfl))) (sLV (sInt))))) (sLV (sInt))))) (sCons (sIfS (sCmpT op_lt sv_lt (sSlot (pe_var (i := 2) rfl (.inl rfl))) (sLV (sFrz (sBin op_pow sv_pow (sLV (sInt)) (sLV (sInt))))) (nomark _)) (sOne (sRet (sBin op_modN sv_mod (sLV (sFrz (sCT call_int1 sv_int rfl (T.free (T.c.fact 3)) bt_int (sArCons (sLV (sFrz (sCall rfl rfl (ok__law_mixed T) (hr.mono (by decide)) rfl (T.glo (T.c.fact 37)) (T.F__law_mixed).kp T.b__law_mixed .nil (fun _ => rfl) tk (sArCons (sLV (sFrz (sBin op_modN sv_mod (sLV (sFrz (sCT call_int1 sv_int rfl (T.free (T.c.fact 3)) bt_int (sArCons (sSlot (pe_var (i := 2) rfl (.inl rfl))) (sArNil))))) (sLV (sInt))))) (sArCons (sLV (sFrz (sIx rfl (sSlot (pe_var (i := 0) rfl (.inl rfl))) (sLV (sInt))))) (sArNil))) fn__law_mixed_len))) (sArNil))))) (sSlot (pe_var (i := 1) rfl (.inl rfl)))))) (sNil)) (sOne (sPut (pe_var (i := 0) rfl (.inl rfl)) (sInt) (sVar (pe_var (i := 2) rfl (.inl rfl)))))))) (sNil)) (sCons (sIfS (sCmpT op_gt sv_gt (sLV (sFrz (sIx rfl (sSlot (pe_var (i := 0) rfl (.inl rfl))) (sLV (sInt))))) (sLV (sInt)) (nomark _)) (sCons (sSet (i := 3) (nR rfl) (sIx rfl (sSlot (pe_var (i := 0) rfl (.inl rfl))) (sLV (sInt))) sc__law_take.nd rfl (.inl rfl)) (sCons (sPut (pe_var (i := 0) rfl (.inl rfl)) (sInt) (sFrz (sBin op_fdivX sv_div (sLV (sFrz (sCT call_int1 sv_int rfl (T.free (T.c.fact 3)) bt_int (sArCons (sSlot (pe_var (i := 3) rfl (.inl rfl))) (sArNil))))) (sSlot (pe_var (i := 1) rfl (.inl rfl)))))) (sOne (sRet (sBin op_modN sv_mod (sLV (sFrz (sCT call_int1 sv_int rfl (T.free (T.c.fact 3)) bt_int (sArCons (sSlot (pe_var (i := 3) rfl (.inl rfl))) (sArNil))))) (sSlot (pe_var (i := 1) rfl (.inl rfl)))))))) (sNil)) (sCons (sPut (pe_var (i := 0) rfl (.inl rfl)) (sInt) (sFrz (sBin op_modN sv_mod (sLV (sFrz (sCT call_int1 sv_int rfl (T.free (T.c.fact 3)) bt_int (sArCons (sLV (sFrz (sBin op_addE sv_add (sLV (sFrz (sIx rfl (sSlot (pe_var (i := 0) rfl (.inl rfl))) (sLV (sInt))))) (sLV (sInt))))) (sArNil))))) (sLV (sInt))))) (sOne (sRet (sBin op_modN sv_mod (sLV (sFrz (sCT call_int1 sv_int rfl (T.free (T.c.fact 3)) bt_int (sArCons (sLV (sFrz (sCall rfl rfl (ok__law_mixed T) (hr.mono (by decide)) rfl (T.glo (T.c.fact 37)) (T.F__law_mixed).kp T.b__law_mixed .nil (fun _ => rfl) tk (sArCons (sLV (sFrz (sIx rfl (sSlot (pe_var (i := 0) rfl (.inl rfl))) (sLV (sInt))))) (sArCons (sLV (sFrz (sIx rfl (sSlot (pe_var (i := 0) rfl (.inl rfl))) (sLV (sInt))))) (sArNil))) fn__law_mixed_len))) (sArNil))))) (sSlot (pe_var (i := 1) rfl (.inl rfl))))))))
/-! check_face -/
abbrev N_check_face : List Str := ["face"]
theorem sc_check_face : FnScope N_check_face ["face"] (defScope (top 12)) := ⟨rfl, rfl, rfl, by decide +kernel, rfl, by decide +kernel, by decide +kernel⟩
noncomputable def den_check_face : DenS := dSeq (dIfS (dNotT (dTru (dLV (dFrz (dCall fn_is_whole [] (dArs [dSlot 0, dLV (dC (.int 0)), dLV (dC (.int 5))])))))) (dRaise "BadFace" ["face"] [dVar 0]) (dSkip)) (dRet (dMove 0))
noncomputable def fn_check_face : Fn := mkFn 1 1 den_check_face
theorem fn_check_face_len (args : List Ent) (h : args.length ≠ 1) : fn_check_face args = .bad := mkFn_len args h
theorem ok_check_face (T : Tz K mg) : FnOkG P w K mg base (L2.CX P w) 3 (He.ga K "check_face") (fdOf K (He.ga K "check_face")) ["face"] (spOf K mg [] 1 fn_check_face) := by
  obtain ⟨ds_is_whole_3, v_is_whole_3, b_is_whole_3⟩ := T.bd_is_whole_3
  refine fn_ok (N := N_check_face) (np := 1) (k := 2) (R := []) T.F_check_face sc_check_face rfl (f := den_check_face) (fun cdv A outer s H E hr => ?_)
  have tk : Takes (cxOf (L2.CX P w) P w K mg base N_check_face "check_face" (defScope (top 12)) (He.ga K "check_face") cdv A outer s H E) (fun cls d _ H => E cls d H) := takes_of rfl rfl rfl rfl
  have hp := passes_of (X := cxOf (L2.CX P w) P w K mg base N_check_face "check_face" (defScope (top 12)) (He.ga K "check_face") cdv A outer s H E) rfl
  exact sCons (sIfS (sNotT (sTru rfl (sLV (sFrz (sCall rfl rfl (ok_is_whole T) (hr.mono (by decide)) rfl (T.glo (T.c.fact 4)) (T.F_is_whole).kp b_is_whole_3 v_is_whole_3 (fun _ => rfl) tk (sArCons (sSlot (pe_var (i := 0) rfl (.inl rfl))) (sArCons (sLV (sInt)) (sArCons (sLV (sInt)) (sArNil)))) fn_is_whole_len))))) (sOne (sRaise rfl tk (fx_oex (T.c.fact 6)) (fx_ini (T.c.fact 7)).1 (fx_ini (T.c.fact 7)).2 (T.ini_BadFace) (hr.mono (by decide)) T.ib_BadFace rfl (T.glo (T.c.fact 8)) rfl (sVsCons (sVar (pe_var (i := 0) rfl (.inl rfl))) (sVsNil)) (by decide))) (sNil)) (sOne (sRet (sMove (nR rfl) (pe_var (i := 0) rfl (.inl rfl)))))
/-! check_corner -/
abbrev N_check_corner : List Str := ["corner"]
theorem sc_check_corner : FnScope N_check_corner ["corner"] (defScope (top 13)) := ⟨rfl, rfl, rfl, by decide +kernel, rfl, by decide +kernel, by decide +kernel⟩
noncomputable def den_check_corner : DenS := dSeq (dIfS (dNotT (dTru (dLV (dFrz (dCall fn_is_whole [] (dArs [dSlot 0, dLV (dC (.int 0)), dLV (dC (.int 7))])))))) (dRaise "BadCorner" ["corner"] [dVar 0]) (dSkip)) (dRet (dMove 0))
noncomputable def fn_check_corner : Fn := mkFn 1 1 den_check_corner
theorem fn_check_corner_len (args : List Ent) (h : args.length ≠ 1) : fn_check_corner args = .bad := mkFn_len args h
theorem ok_check_corner (T : Tz K mg) : FnOkG P w K mg base (L2.CX P w) 3 (He.ga K "check_corner") (fdOf K (He.ga K "check_corner")) ["corner"] (spOf K mg [] 1 fn_check_corner) := by
  obtain ⟨ds_is_whole_3, v_is_whole_3, b_is_whole_3⟩ := T.bd_is_whole_3
  refine fn_ok (N := N_check_corner) (np := 1) (k := 2) (R := []) T.F_check_corner sc_check_corner rfl (f := den_check_corner) (fun cdv A outer s H E hr => ?_)
  have tk : Takes (cxOf (L2.CX P w) P w K mg base N_check_corner "check_corner" (defScope (top 13)) (He.ga K "check_corner") cdv A outer s H E) (fun cls d _ H => E cls d H) := takes_of rfl rfl rfl rfl
  have hp := passes_of (X := cxOf (L2.CX P w) P w K mg base N_check_corner "check_corner" (defScope (top 13)) (He.ga K "check_corner") cdv A outer s H E) rfl
  exact sCons (sIfS (sNotT (sTru rfl (sLV (sFrz (sCall rfl rfl (ok_is_whole T) (hr.mono (by decide)) rfl (T.glo (T.c.fact 4)) (T.F_is_whole).kp b_is_whole_3 v_is_whole_3 (fun _ => rfl) tk (sArCons (sSlot (pe_var (i := 0) rfl (.inl rfl))) (sArCons (sLV (sInt)) (sArCons (sLV (sInt)) (sArNil)))) fn_is_whole_len))))) (sOne (sRaise rfl tk (fx_oex (T.c.fact 10)) (fx_ini (T.c.fact 11)).1 (fx_ini (T.c.fact 11)).2 (T.ini_BadCorner) (hr.mono (by decide)) T.ib_BadCorner rfl (T.glo (T.c.fact 12)) rfl (sVsCons (sVar (pe_var (i := 0) rfl (.inl rfl))) (sVsNil)) (by decide))) (sNil)) (sOne (sRet (sMove (nR rfl) (pe_var (i := 0) rfl (.inl rfl)))))
/-! check_edge -/
abbrev N_check_edge : List Str := ["edge", "couple"]
theorem sc_check_edge : FnScope N_check_edge ["edge"] (defScope (top 20)) := ⟨rfl, rfl, rfl, by decide +kernel, rfl, by decide +kernel, by decide +kernel⟩
noncomputable def den_check_edge : DenS := dSeq (dIfS (dOrT (dNotT (dTru (dLV (dIsi ["list", "tuple"] (dSlot 0))))) (dTB (dBin gNe (dLV (dFrz (dCB gLen (dArs [dSlot 0])))) (dLV (dC (.int 2)))))) (dRaise "BadEdge" ["edge"] [dVar 0]) (dSkip)) (dSeq (dIfS (dOrT (dNotT (dTru (dLV (dFrz (dCall fn_is_whole [] (dArs [dLV (dFrz (dBin gIx (dSlot 0) (dLV (dC (.int 0))))), dLV (dC (.int 0)), dLV (dC (.int 7))])))))) (dNotT (dTru (dLV (dFrz (dCall fn_is_whole [] (dArs [dLV (dFrz (dBin gIx (dSlot 0) (dLV (dC (.int 1))))), dLV (dC (.int 0)), dLV (dC (.int 7))]))))))) (dRaise "BadEdge" ["edge"] [dVar 0]) (dSkip)) (dSeq (dSet 1 (dVal (dTup [dFrz (dCB gMin2 (dArs [dLV (dFrz (dBin gIx (dSlot 0) (dLV (dC (.int 0))))), dLV (dFrz (dBin gIx (dSlot 0) (dLV (dC (.int 1)))))])), dFrz (dCB gMax2 (dArs [dLV (dFrz (dBin gIx (dSlot 0) (dLV (dC (.int 0))))), dLV (dFrz (dBin gIx (dSlot 0) (dLV (dC (.int 1)))))]))]))) (dSeq (dIfS (dTB (dBin gNotIn (dSlot 1) (dLV (dFrz (dCall0 fn_all_edges []))))) (dRaise "BadEdge" ["edge"] [dVar 0]) (dSkip)) (dRet (dMove 1)))))
noncomputable def fn_check_edge : Fn := mkFn 1 2 den_check_edge
theorem fn_check_edge_len (args : List Ent) (h : args.length ≠ 1) : fn_check_edge args = .bad := mkFn_len args h
theorem ok_check_edge (T : Tz K mg) : FnOkG P w K mg base (L2.CX P w) 3 (He.ga K "check_edge") (fdOf K (He.ga K "check_edge")) ["edge"] (spOf K mg [] 1 fn_check_edge) := by
  obtain ⟨ds_is_whole_3, v_is_whole_3, b_is_whole_3⟩ := T.bd_is_whole_3
  refine fn_ok (N := N_check_edge) (np := 1) (k := 2) (R := []) T.F_check_edge sc_check_edge rfl (f := den_check_edge) (fun cdv A outer s H E hr => ?_)
  have tk : Takes (cxOf (L2.CX P w) P w K mg base N_check_edge "check_edge" (defScope (top 20)) (He.ga K "check_edge") cdv A outer s H E) (fun cls d _ H => E cls d H) := takes_of rfl rfl rfl rfl
  have hp := passes_of (X := cxOf (L2.CX P w) P w K mg base N_check_edge "check_edge" (defScope (top 20)) (He.ga K "check_edge") cdv A outer s H E) rfl
  exact sCons (sIfS (sWT (sOrT (sNotT (sTru rfl (sLV (sIsiT rfl rfl (T.free (T.c.fact 1)) bt_isinstance (sSlot (pe_var (i := 0) rfl (.inl rfl))) (.cons (pe_bltn rfl (T.free (T.c.fact 19)) bt_list rfl) rfl (.cons (pe_bltn rfl (T.free (T.c.fact 16)) bt_tuple rfl) rfl .nil)) rfl (by decide))))) (sOrT1 (sCmpT (op_neD hr.units) sv_ne (sLV (sFrz (sCB call_lenE sv_len rfl (T.free (T.c.fact 20)) bt_len (sArCons (sSlot (pe_var (i := 0) rfl (.inl rfl))) (sArNil))))) (sLV (sInt)) (nomark _))))) (sOne (sRaise rfl tk (fx_oex (T.c.fact 22)) (fx_ini (T.c.fact 23)).1 (fx_ini (T.c.fact 23)).2 (T.ini_BadEdge) (hr.mono (by decide)) T.ib_BadEdge rfl (T.glo (T.c.fact 24)) rfl (sVsCons (sVar (pe_var (i := 0) rfl (.inl rfl))) (sVsNil)) (by decide))) (sNil)) (sCons (sIfS (sWT (sOrT (sNotT (sTru rfl (sLV (sFrz (sCall rfl rfl (ok_is_whole T) (hr.mono (by decide)) rfl (T.glo (T.c.fact 4)) (T.F_is_whole).kp b_is_whole_3 v_is_whole_3 (fun _ => rfl) tk (sArCons (sLV (sFrz (sIx rfl (sSlot (pe_var (i := 0) rfl (.inl rfl))) (sLV (sInt))))) (sArCons (sLV (sInt)) (sArCons (sLV (sInt)) (sArNil)))) fn_is_whole_len))))) (sOrT1 (sNotT (sTru rfl (sLV (sFrz (sCall rfl rfl (ok_is_whole T) (hr.mono (by decide)) rfl (T.glo (T.c.fact 4)) (T.F_is_whole).kp b_is_whole_3 v_is_whole_3 (fun _ => rfl) tk (sArCons (sLV (sFrz (sIx rfl (sSlot (pe_var (i := 0) rfl (.inl rfl))) (sLV (sInt))))) (sArCons (sLV (sInt)) (sArCons (sLV (sInt)) (sArNil)))) fn_is_whole_len)))))))) (sOne (sRaise rfl tk (fx_oex (T.c.fact 22)) (fx_ini (T.c.fact 23)).1 (fx_ini (T.c.fact 23)).2 (T.ini_BadEdge) (hr.mono (by decide)) T.ib_BadEdge rfl (T.glo (T.c.fact 24)) rfl (sVsCons (sVar (pe_var (i := 0) rfl (.inl rfl))) (sVsNil)) (by decide))) (sNil)) (sCons (sSet (i := 1) (nR rfl) (sVal (sTup (sVsCons (sFrz (sCB (call_min2 rfl) sv_min2 rfl (T.free (T.c.fact 25)) bt_min (sArCons (sLV (sFrz (sIx rfl (sSlot (pe_var (i := 0) rfl (.inl rfl))) (sLV (sInt))))) (sArCons (sLV (sFrz (sIx rfl (sSlot (pe_var (i := 0) rfl (.inl rfl))) (sLV (sInt))))) (sArNil))))) (sVsCons (sFrz (sCB (call_max2 rfl) sv_max2 rfl (T.free (T.c.fact 26)) bt_max (sArCons (sLV (sFrz (sIx rfl (sSlot (pe_var (i := 0) rfl (.inl rfl))) (sLV (sInt))))) (sArCons (sLV (sFrz (sIx rfl (sSlot (pe_var (i := 0) rfl (.inl rfl))) (sLV (sInt))))) (sArNil))))) (sVsNil))))) sc_check_edge.nd rfl (.inl rfl)) (sCons (sIfS (sCmpT (op_notInE (room65 hr)) sv_notIn (sSlot (pe_var (i := 1) rfl (.inl rfl))) (sLV (sFrz (sCall0 rfl rfl (ok_all_edges T) (hr.mono (by decide)) rfl (T.glo (T.c.fact 27)) (T.F_all_edges).kp T.b_all_edges .nil (fun _ => rfl) tk fn_all_edges_len))) (rfl)) (sOne (sRaise rfl tk (fx_oex (T.c.fact 22)) (fx_ini (T.c.fact 23)).1 (fx_ini (T.c.fact 23)).2 (T.ini_BadEdge) (hr.mono (by decide)) T.ib_BadEdge rfl (T.glo (T.c.fact 24)) rfl (sVsCons (sVar (pe_var (i := 0) rfl (.inl rfl))) (sVsNil)) (by decide))) (sNil)) (sOne (sRet (sMove (nR rfl) (pe_var (i := 1) rfl (.inl rfl))))))))
/-! _law_odd -/
abbrev N__law_odd : List Str := ["_law_hand_here", "_law_high"]
theorem sc__law_odd : FnScope N__law_odd ["_law_hand_here", "_law_high"] (defScope (top 30)) := ⟨rfl, rfl, rfl, by decide +kernel, rfl, by decide +kernel, by decide +kernel⟩
noncomputable def den__law_odd : DenS := dRet (dBin gIx (dLV (dFrz (dLst [dC (.bl true), dC .non, dC (.str "1"), dNeg (dC (.int 1)), dFrz (dBin gAdd (dSlot 1) (dLV (dC (.int 1)))), dTup [dC (.int 0)], dC (.bl false), dFrz (dBin gAdd (dSlot 1) (dLV (dFrz (dBin gPow (dLV (dC (.int 10))) (dLV (dC (.int 20)))))))]))) (dLV (dFrz (dCallR fn__law_take 0 [] (dArs [dLV (dC (.int 8))])))))
noncomputable def fn__law_odd : Fn := mkFn 2 2 den__law_odd
theorem fn__law_odd_len (args : List Ent) (h : args.length ≠ 2) : fn__law_odd args = .bad := mkFn_len args h
theorem ok__law_odd (T : Tz K mg) : FnOkG P w K mg base (L2.CX P w) 3 (He.ga K "_law_odd") (fdOf K (He.ga K "_law_odd")) ["_law_hand_here", "_law_high"] (spOf K mg [0] 2 fn__law_odd) := by
  refine fn_ok (N := N__law_odd) (np := 2) (k := 2) (R := [0]) T.F__law_odd sc__law_odd rfl (f := den__law_odd) (fun cdv A outer s H E hr => ?_)
  have tk : Takes (cxOf (L2.CX P w) P w K mg base N__law_odd "_law_odd" (defScope (top 30)) (He.ga K "_law_odd") cdv A outer s H E) (fun cls d _ H => E cls d H) := takes_of rfl rfl rfl rfl
  have hp := passes_of (X := cxOf (L2.CX P w) P w K mg base N__law_odd "_law_odd" (defScope (top 30)) (He.ga K "_law_odd") cdv A outer s H E) rfl
  exact sOne (sRet (sIx rfl (sLV (sFrz (sLst (sVsCons (sBl) (sVsCons (sNon) (sVsCons (sStr) (sVsCons (sNeg (sInt)) (sVsCons (sFrz (sBin op_addE sv_add (sSlot (pe_var (i := 1) rfl (.inl rfl))) (sLV (sInt)))) (sVsCons (sTup (sVsCons (sInt) (sVsNil))) (sVsCons (sBl) (sVsCons (sFrz (sBin op_addE sv_add (sSlot (pe_var (i := 1) rfl (.inl rfl))) (sLV (sFrz (sBin op_pow sv_pow (sLV (sInt)) (sLV (sInt))))))) (sVsNil)))))))))))) (sLV (sFrz (sCallR rfl rfl (ok__law_take T) (hr.mono (by decide)) rfl (T.glo (T.c.fact 39)) (T.F__law_take).kp T.b__law_take .nil (fun _ => rfl) tk (pe_var (i := 0) rfl (.inl rfl)) (sArCons (sLV (sInt)) (sArNil)) fn__law_take_len)))))
/-! _law_rid -/
abbrev N__law_rid : List Str := ["_law_hand_here"]
theorem sc__law_rid : FnScope N__law_rid ["_law_hand_here"] (defScope (top 31)) := ⟨rfl, rfl, rfl, by decide +kernel, rfl, by decide +kernel, by decide +kernel⟩
noncomputable def den__law_rid : DenS := dRet (dBin gIx (dLV (dFrz (dLst [dC .non, dC (.int 7), dC (.str "012"), dC (.bl true)]))) (dLV (dFrz (dCallR fn__law_take 0 [] (dArs [dLV (dC (.int 4))])))))
noncomputable def fn__law_rid : Fn := mkFn 1 1 den__law_rid
theorem fn__law_rid_len (args : List Ent) (h : args.length ≠ 1) : fn__law_rid args = .bad := mkFn_len args h
theorem ok__law_rid (T : Tz K mg) : FnOkG P w K mg base (L2.CX P w) 3 (He.ga K "_law_rid") (fdOf K (He.ga K "_law_rid")) ["_law_hand_here"] (spOf K mg [0] 1 fn__law_rid) := by
  refine fn_ok (N := N__law_rid) (np := 1) (k := 2) (R := [0]) T.F__law_rid sc__law_rid rfl (f := den__law_rid) (fun cdv A outer s H E hr => ?_)
  have tk : Takes (cxOf (L2.CX P w) P w K mg base N__law_rid "_law_rid" (defScope (top 31)) (He.ga K "_law_rid") cdv A outer s H E) (fun cls d _ H => E cls d H) := takes_of rfl rfl rfl rfl
  have hp := passes_of (X := cxOf (L2.CX P w) P w K mg base N__law_rid "_law_rid" (defScope (top 31)) (He.ga K "_law_rid") cdv A outer s H E) rfl
  exact sOne (sRet (sIx rfl (sLV (sFrz (sLst (sVsCons (sNon) (sVsCons (sInt) (sVsCons (sStr) (sVsCons (sBl) (sVsNil)))))))) (sLV (sFrz (sCallR rfl rfl (ok__law_take T) (hr.mono (by decide)) rfl (T.glo (T.c.fact 39)) (T.F__law_take).kp T.b__law_take .nil (fun _ => rfl) tk (pe_var (i := 0) rfl (.inl rfl)) (sArCons (sLV (sInt)) (sArNil)) fn__law_take_len)))))
/-! _law_shaped -/
abbrev N__law_shaped : List Str := ["_law_hand_here", "_law_items"]
theorem sc__law_shaped : FnScope N__law_shaped ["_law_hand_here", "_law_items"] (defScope (top 34)) := ⟨rfl, rfl, rfl, by decide +kernel, rfl, by decide +kernel, by decide +kernel⟩
noncomputable def den__law_shaped : DenS := dRet (dIfF (dTB (dBin gEq (dLV (dFrz (dCallR fn__law_take 0 [] (dArs [dLV (dC (.int 2))])))) (dLV (dC (.int 0))))) (dCB gList (dArs [dSlot 1])) (dCB gTuple (dArs [dSlot 1])))
noncomputable def fn__law_shaped : Fn := mkFn 2 2 den__law_shaped
theorem fn__law_shaped_len (args : List Ent) (h : args.length ≠ 2) : fn__law_shaped args = .bad := mkFn_len args h
theorem ok__law_shaped (T : Tz K mg) : FnOkG P w K mg base (L2.CX P w) 3 (He.ga K "_law_shaped") (fdOf K (He.ga K "_law_shaped")) ["_law_hand_here", "_law_items"] (spOf K mg [0] 2 fn__law_shaped) := by
  refine fn_ok (N := N__law_shaped) (np := 2) (k := 2) (R := [0]) T.F__law_shaped sc__law_shaped rfl (f := den__law_shaped) (fun cdv A outer s H E hr => ?_)
  have tk : Takes (cxOf (L2.CX P w) P w K mg base N__law_shaped "_law_shaped" (defScope (top 34)) (He.ga K "_law_shaped") cdv A outer s H E) (fun cls d _ H => E cls d H) := takes_of rfl rfl rfl rfl
  have hp := passes_of (X := cxOf (L2.CX P w) P w K mg base N__law_shaped "_law_shaped" (defScope (top 34)) (He.ga K "_law_shaped") cdv A outer s H E) rfl
  exact sOne (sRet (sIfF (sCmpT (op_eqD hr.units) sv_eq (sLV (sFrz (sCallR rfl rfl (ok__law_take T) (hr.mono (by decide)) rfl (T.glo (T.c.fact 39)) (T.F__law_take).kp T.b__law_take .nil (fun _ => rfl) tk (pe_var (i := 0) rfl (.inl rfl)) (sArCons (sLV (sInt)) (sArNil)) fn__law_take_len))) (sLV (sInt)) (nomark _)) (sCT call_list_of sv_list rfl (T.free (T.c.fact 19)) bt_list (sArCons (sSlot (pe_var (i := 1) rfl (.inl rfl))) (sArNil))) (sCT call_tuple_of sv_tuple rfl (T.free (T.c.fact 16)) bt_tuple (sArCons (sSlot (pe_var (i := 1) rfl (.inl rfl))) (sArNil)))))
/-! ini_Box -/
abbrev N_ini_Box : List Str := ["self", "sides", "index", "side"]
theorem sc_ini_Box : FnScope N_ini_Box ["self", "sides"] (defScope (meth (top 23) 0)) := ⟨rfl, rfl, rfl, by decide +kernel, rfl, by decide +kernel, by decide +kernel⟩
noncomputable def bd_ini_Box_1 : DenS := dIfS (dNotT (dTru (dLV (dFrz (dCall fn_is_whole [] (dArs [dSlot 3, dLV (dC (.int 1)), dLV (dC (.int 60))])))))) (dRaise "BadBox" ["index"] [dVar 2]) (dSkip)
noncomputable def g_ini_Box : Sto → Res (List D) := preI (dIfS (dOrT (dNotT (dTru (dLV (dIsi ["list", "tuple"] (dSlot 1))))) (dTB (dBin gNe (dLV (dFrz (dCB gLen (dArs [dSlot 1])))) (dLV (dC (.int 3)))))) (dRaise "BadBox" ["index"] [dC (.int 0)]) (dSkip)) (preI (dFor (asT 2 (asCons (asN 2) (asCons (asN 3) (asNil)))) (dEnum (dVs [dVar 1])) (bd_ini_Box_1)) (dFlds [dTup [dFrz (dBin gIx (dSlot 1) (dLV (dC (.int 0)))), dFrz (dBin gIx (dSlot 1) (dLV (dC (.int 1)))), dFrz (dBin gIx (dSlot 1) (dLV (dC (.int 2))))]]))
noncomputable def fnI_Box : List D → Res (List D) := mkIni 1 N_ini_Box.length g_ini_Box
theorem ok_ini_Box (T : Tz K mg) : FnOkG P w K mg base (L2.CX P w) 3 (He.ma K (He.ga K "Box") "__init__") (fdOf K (He.ma K (He.ga K "Box") "__init__")) ["self", "sides"] (spIni K mg (He.ga K "Box") ["sides"] 1 fnI_Box) := by
  obtain ⟨ds_is_whole_3, v_is_whole_3, b_is_whole_3⟩ := T.bd_is_whole_3
  refine ini_ok (N := N_ini_Box) (np := 1) (k := 2) (g := g_ini_Box) T.iF_Box sc_ini_Box rfl (fun cdv A outer s H E hr => ?_)
  have tk : Takes (cxOf (L2.CX P w) P w K mg base N_ini_Box "Box.__init__" (defScope (meth (top 23) 0)) (He.ma K (He.ga K "Box") "__init__") cdv A outer s H E) (fun cls d _ H => E cls d H) := takes_of rfl rfl rfl rfl
  have hp := passes_of (X := cxOf (L2.CX P w) P w K mg base N_ini_Box "Box.__init__" (defScope (meth (top 23) 0)) (He.ma K (He.ga K "Box") "__init__") cdv A outer s H E) rfl
  exact iCons (.head _) (sIfS (sWT (sOrT (sNotT (sTru rfl (sLV (sIsiT rfl rfl (T.free (T.c.fact 1)) bt_isinstance (sSlot (pe_var (i := 1) rfl (.inl rfl))) (.cons (pe_bltn rfl (T.free (T.c.fact 19)) bt_list rfl) rfl (.cons (pe_bltn rfl (T.free (T.c.fact 16)) bt_tuple rfl) rfl .nil)) rfl (by decide))))) (sOrT1 (sCmpT (op_neD hr.units) sv_ne (sLV (sFrz (sCB call_lenE sv_len rfl (T.free (T.c.fact 20)) bt_len (sArCons (sSlot (pe_var (i := 1) rfl (.inl rfl))) (sArNil))))) (sLV (sInt)) (nomark _))))) (sOne (sRaise rfl tk (fx_oex (T.c.fact 80)) (fx_ini (T.c.fact 81)).1 (fx_ini (T.c.fact 81)).2 (T.ini_BadBox) (hr.mono (by decide)) T.ib_BadBox rfl (T.glo (T.c.fact 44)) rfl (sVsCons (sInt) (sVsNil)) (by decide))) (sNil)) (iCons (.head _) (sFor (own := [2, 3]) hp rfl (sEnum rfl rfl (T.free (T.c.fact 82)) (sVsCons (sVar (pe_var (i := 1) rfl (.inl rfl))) (sVsNil))) (gT rfl rfl (gsCons (gN (i := 2) (by decide) (nR rfl) sc_ini_Box.nd rfl (.inl rfl)) (gsCons (gN (i := 3) (by decide) (nR rfl) sc_ini_Box.nd rfl (.inl rfl)) (gsNil)))) (sOne (sIfS (sNotT (sTru rfl (sLV (sFrz (sCall rfl rfl (ok_is_whole T) (hr.mono (by decide)) rfl (T.glo (T.c.fact 4)) (T.F_is_whole).kp b_is_whole_3 v_is_whole_3 (fun _ => rfl) tk (sArCons (sSlot (pe_var (i := 3) rfl (.inl rfl))) (sArCons (sLV (sInt)) (sArCons (sLV (sCD rfl (T.dat (T.c.fact 83)) rfl)) (sArNil)))) fn_is_whole_len))))) (sOne (sRaise rfl tk (fx_oex (T.c.fact 80)) (fx_ini (T.c.fact 81)).1 (fx_ini (T.c.fact 81)).2 (T.ini_BadBox) (hr.mono (by decide)) T.ib_BadBox rfl (T.glo (T.c.fact 44)) rfl (sVsCons (sVar (pe_var (i := 2) rfl (.inl rfl))) (sVsNil)) (by decide))) (sNil)))) (iFld (sTup (sVsCons (sFrz (sIx rfl (sSlot (pe_var (i := 1) rfl (.inl rfl))) (sLV (sInt)))) (sVsCons (sFrz (sIx rfl (sSlot (pe_var (i := 1) rfl (.inl rfl))) (sLV (sInt)))) (sVsCons (sFrz (sIx rfl (sSlot (pe_var (i := 1) rfl (.inl rfl))) (sLV (sInt)))) (sVsNil))))) (pe_var (i := 0) rfl (.inl rfl)) (.head _) (He.cls_ok (fx_fa (T.c.fact 71))) (He.noat_ok (fx_fa (T.c.fact 72))) (by decide) (by decide) (iNil)))
/-! face_axes -/
abbrev N_face_axes : List Str := ["face"]
theorem sc_face_axes : FnScope N_face_axes ["face"] (defScope (top 14)) := ⟨rfl, rfl, rfl, by decide +kernel, rfl, by decide +kernel, by decide +kernel⟩
noncomputable def den_face_axes : DenS := dRet (dBin gIx (dLV (dC (.tup [(.tup [(.int 2), (.int 1)]), (.tup [(.int 1), (.int 2)]), (.tup [(.int 0), (.int 2)]), (.tup [(.int 2), (.int 0)]), (.tup [(.int 1), (.int 0)]), (.tup [(.int 0), (.int 1)])]))) (dLV (dFrz (dCall fn_check_face [] (dArs [dSlot 0])))))
noncomputable def fn_face_axes : Fn := mkFn 1 1 den_face_axes
theorem fn_face_axes_len (args : List Ent) (h : args.length ≠ 1) : fn_face_axes args = .bad := mkFn_len args h
theorem ok_face_axes (T : Tz K mg) : FnOkG P w K mg base (L2.CX P w) 4 (He.ga K "face_axes") (fdOf K (He.ga K "face_axes")) ["face"] (spOf K mg [] 1 fn_face_axes) := by
  refine fn_ok (N := N_face_axes) (np := 1) (k := 3) (R := []) T.F_face_axes sc_face_axes rfl (f := den_face_axes) (fun cdv A outer s H E hr => ?_)
  have tk : Takes (cxOf (L2.CX P w) P w K mg base N_face_axes "face_axes" (defScope (top 14)) (He.ga K "face_axes") cdv A outer s H E) (fun cls d _ H => E cls d H) := takes_of rfl rfl rfl rfl
  have hp := passes_of (X := cxOf (L2.CX P w) P w K mg base N_face_axes "face_axes" (defScope (top 14)) (He.ga K "face_axes") cdv A outer s H E) rfl
  exact sOne (sRet (sIx rfl (sLV (sCD rfl (T.dat (T.c.fact 13)) rfl)) (sLV (sFrz (sCall rfl rfl (ok_check_face T) (hr.mono (by decide)) rfl (T.glo (T.c.fact 14)) (T.F_check_face).kp T.b_check_face .nil (fun _ => rfl) tk (sArCons (sSlot (pe_var (i := 0) rfl (.inl rfl))) (sArNil)) fn_check_face_len)))))
/-! are_beside -/
abbrev N_are_beside : List Str := ["face", "other"]
theorem sc_are_beside : FnScope N_are_beside ["face", "other"] (defScope (top 15)) := ⟨rfl, rfl, rfl, by decide +kernel, rfl, by decide +kernel, by decide +kernel⟩
noncomputable def den_are_beside : DenS := dRet (dBin gNe (dLV (dFrz (dBin gDiv (dLV (dFrz (dCall fn_check_face [] (dArs [dSlot 0])))) (dLV (dC (.int 2)))))) (dLV (dFrz (dBin gDiv (dLV (dFrz (dCall fn_check_face [] (dArs [dSlot 1])))) (dLV (dC (.int 2)))))))
noncomputable def fn_are_beside : Fn := mkFn 2 2 den_are_beside
theorem fn_are_beside_len (args : List Ent) (h : args.length ≠ 2) : fn_are_beside args = .bad := mkFn_len args h
theorem ok_are_beside (T : Tz K mg) : FnOkG P w K mg base (L2.CX P w) 4 (He.ga K "are_beside") (fdOf K (He.ga K "are_beside")) ["face", "other"] (spOf K mg [] 2 fn_are_beside) := by
  refine fn_ok (N := N_are_beside) (np := 2) (k := 3) (R := []) T.F_are_beside sc_are_beside rfl (f := den_are_beside) (fun cdv A outer s H E hr => ?_)
  have tk : Takes (cxOf (L2.CX P w) P w K mg base N_are_beside "are_beside" (defScope (top 15)) (He.ga K "are_beside") cdv A outer s H E) (fun cls d _ H => E cls d H) := takes_of rfl rfl rfl rfl
  have hp := passes_of (X := cxOf (L2.CX P w) P w K mg base N_are_beside "are_beside" (defScope (top 15)) (He.ga K "are_beside") cdv A outer s H E) rfl
  exact sOne (sRet (sCmp (op_neD hr.units) sv_ne (sLV (sFrz (sBin op_fdivX sv_div (sLV (sFrz (sCall rfl rfl (ok_check_face T) (hr.mono (by decide)) rfl (T.glo (T.c.fact 14)) (T.F_check_face).kp T.b_check_face .nil (fun _ => rfl) tk (sArCons (sSlot (pe_var (i := 0) rfl (.inl rfl))) (sArNil)) fn_check_face_len))) (sLV (sInt))))) (sLV (sFrz (sBin op_fdivX sv_div (sLV (sFrz (sCall rfl rfl (ok_check_face T) (hr.mono (by decide)) rfl (T.glo (T.c.fact 14)) (T.F_check_face).kp T.b_check_face .nil (fun _ => rfl) tk (sArCons (sSlot (pe_var (i := 1) rfl (.inl rfl))) (sArNil)) fn_check_face_len))) (sLV (sInt))))) (nomark _)))
/-! faces_beside -/
abbrev N_faces_beside : List Str := ["face", "other"]
theorem sc_faces_beside : FnScope N_faces_beside ["face"] (defScope (top 16)) := ⟨rfl, rfl, rfl, by decide +kernel, rfl, by decide +kernel, by decide +kernel⟩
noncomputable def cd_faces_beside_1 : DenT := dTB (dBin gNe (dLV (dFrz (dBin gDiv (dSlot 1) (dLV (dC (.int 2)))))) (dLV (dFrz (dBin gDiv (dSlot 0) (dLV (dC (.int 2)))))))
noncomputable def el_faces_beside_2 : DenV := dVar 1
noncomputable def den_faces_beside : DenS := dSeq (dExp (dFrz (dCall fn_check_face [] (dArs [dSlot 0])))) (dRet (dCB gTuple (dArs [dLV (dFrz (dLc [1] (asN 1) (dRng1 (dArs [dLV (dC (.int 6))])) (cd_faces_beside_1) (el_faces_beside_2)))])))
noncomputable def fn_faces_beside : Fn := mkFn 1 2 den_faces_beside
theorem fn_faces_beside_len (args : List Ent) (h : args.length ≠ 1) : fn_faces_beside args = .bad := mkFn_len args h
theorem ok_faces_beside (T : Tz K mg) : FnOkG P w K mg base (L2.CX P w) 4 (He.ga K "faces_beside") (fdOf K (He.ga K "faces_beside")) ["face"] (spOf K mg [] 1 fn_faces_beside) := by
  refine fn_ok (N := N_faces_beside) (np := 1) (k := 3) (R := []) T.F_faces_beside sc_faces_beside rfl (f := den_faces_beside) (fun cdv A outer s H E hr => ?_)
  have tk : Takes (cxOf (L2.CX P w) P w K mg base N_faces_beside "faces_beside" (defScope (top 16)) (He.ga K "faces_beside") cdv A outer s H E) (fun cls d _ H => E cls d H) := takes_of rfl rfl rfl rfl
  have hp := passes_of (X := cxOf (L2.CX P w) P w K mg base N_faces_beside "faces_beside" (defScope (top 16)) (He.ga K "faces_beside") cdv A outer s H E) rfl
  exact sCons (sExp (sFrz (sCall rfl rfl (ok_check_face T) (hr.mono (by decide)) rfl (T.glo (T.c.fact 14)) (T.F_check_face).kp T.b_check_face .nil (fun _ => rfl) tk (sArCons (sSlot (pe_var (i := 0) rfl (.inr (.inl rfl)))) (sArNil)) fn_check_face_len))) (sOne (sRet (sCT call_tuple_of sv_tuple rfl (T.free (T.c.fact 16)) bt_tuple (sArCons (sLV (sFrz (sLc (own := [("other", 1)]) (nRs rfl) rfl sc_faces_beside.nd (sRng1 rfl (T.free (T.c.fact 15)) (sArCons (sLV (sInt)) (sArNil))) (blkOk_by (N := N_faces_beside) (sc := defScope (top 16)) (by decide +kernel)) (fun s H C cl fp => gN (i := 1) (by decide) (nR rfl) sc_faces_beside.nd rfl (.inl rfl)) (fun s H C cl fp => sTs1 (sCmpT (op_neD hr.units) sv_ne (sLV (sFrz (sBin op_fdivX sv_div (sSlot (pe_var (i := 1) rfl (.inl rfl))) (sLV (sInt))))) (sLV (sFrz (sBin op_fdivX sv_div (sSlot (pe_var (i := 0) rfl (.inr (.inl rfl)))) (sLV (sInt))))) (nomark _))) (fun s H C cl fp => sVar (pe_var (i := 1) rfl (.inl rfl)))))) (sArNil)))))
/-! faces_of_corner -/
abbrev N_faces_of_corner : List Str := ["corner", "bits"]
theorem sc_faces_of_corner : FnScope N_faces_of_corner ["corner"] (defScope (top 18)) := ⟨rfl, rfl, rfl, by decide +kernel, rfl, by decide +kernel, by decide +kernel⟩
noncomputable def den_faces_of_corner : DenS := dSeq (dSet 1 (dCall fn_corner_bits [] (dArs [dLV (dFrz (dCall fn_check_corner [] (dArs [dSlot 0])))]))) (dRet (dVal (dTup [dFrz (dBin gIx (dSlot 1) (dLV (dC (.int 0)))), dFrz (dBin gAdd (dLV (dC (.int 2))) (dLV (dFrz (dBin gIx (dSlot 1) (dLV (dC (.int 1))))))), dFrz (dBin gAdd (dLV (dC (.int 4))) (dLV (dFrz (dBin gIx (dSlot 1) (dLV (dC (.int 2)))))))])))
noncomputable def fn_faces_of_corner : Fn := mkFn 1 2 den_faces_of_corner
theorem fn_faces_of_corner_len (args : List Ent) (h : args.length ≠ 1) : fn_faces_of_corner args = .bad := mkFn_len args h
theorem ok_faces_of_corner (T : Tz K mg) : FnOkG P w K mg base (L2.CX P w) 4 (He.ga K "faces_of_corner") (fdOf K (He.ga K "faces_of_corner")) ["corner"] (spOf K mg [] 1 fn_faces_of_corner) := by
  refine fn_ok (N := N_faces_of_corner) (np := 1) (k := 3) (R := []) T.F_faces_of_corner sc_faces_of_corner rfl (f := den_faces_of_corner) (fun cdv A outer s H E hr => ?_)
  have tk : Takes (cxOf (L2.CX P w) P w K mg base N_faces_of_corner "faces_of_corner" (defScope (top 18)) (He.ga K "faces_of_corner") cdv A outer s H E) (fun cls d _ H => E cls d H) := takes_of rfl rfl rfl rfl
  have hp := passes_of (X := cxOf (L2.CX P w) P w K mg base N_faces_of_corner "faces_of_corner" (defScope (top 18)) (He.ga K "faces_of_corner") cdv A outer s H E) rfl
  exact sCons (sSet (i := 1) (nR rfl) (sCall rfl rfl (ok_corner_bits T) (hr.mono (by decide)) rfl (T.glo (T.c.fact 17)) (T.F_corner_bits).kp T.b_corner_bits .nil (fun _ => rfl) tk (sArCons (sLV (sFrz (sCall rfl rfl (ok_check_corner T) (hr.mono (by decide)) rfl (T.glo (T.c.fact 18)) (T.F_check_corner).kp T.b_check_corner .nil (fun _ => rfl) tk (sArCons (sSlot (pe_var (i := 0) rfl (.inl rfl))) (sArNil)) fn_check_corner_len))) (sArNil)) fn_corner_bits_len) sc_faces_of_corner.nd rfl (.inl rfl)) (sOne (sRet (sVal (sTup (sVsCons (sFrz (sIx rfl (sSlot (pe_var (i := 1) rfl (.inl rfl))) (sLV (sInt)))) (sVsCons (sFrz (sBin op_addE sv_add (sLV (sInt)) (sLV (sFrz (sIx rfl (sSlot (pe_var (i := 1) rfl (.inl rfl))) (sLV (sInt))))))) (sVsCons (sFrz (sBin op_addE sv_add (sLV (sInt)) (sLV (sFrz (sIx rfl (sSlot (pe_var (i := 1) rfl (.inl rfl))) (sLV (sInt))))))) (sVsNil))))))))
/-! _law_spoilt -/
abbrev N__law_spoilt : List Str := ["_law_hand_here", "_law_sides", "_law_kind", "_law_rows", "_law_turn", "_law_k"]
theorem sc__law_spoilt : FnScope N__law_spoilt ["_law_hand_here", "_law_sides"] (defScope (top 42)) := ⟨rfl, rfl, rfl, by decide +kernel, rfl, by decide +kernel, by decide +kernel⟩
noncomputable def bd__law_spoilt_1 : DenS := dPut 3 (dFrz (dCallR fn__law_take 0 [] (dArs [dLV (dC (.int 3))]))) (dFrz (dBin gIx (dLV (dFrz (dLst [dC (.int 0), dFrz (dCallR fn__law_odd 0 [] (dArs [dLV (dC (.int 60))])), dC (.int 61)]))) (dLV (dFrz (dCallR fn__law_take 0 [] (dArs [dLV (dC (.int 3))]))))))
noncomputable def cd__law_spoilt_2 : DenT := dNotT (dTru (dLV (dFrz (dCall fn__law_whole [] (dArs [dLV (dFrz (dBin gIx (dSlot 3) (dSlot 5))), dLV (dC (.int 1)), dLV (dC (.int 60))])))))
noncomputable def el__law_spoilt_3 : DenV := dVar 5
noncomputable def den__law_spoilt : DenS := dSeq (dSet 2 (dCallR fn__law_take 0 [] (dArs [dLV (dC (.int 8))]))) (dSeq (dIfS (dTB (dBin gEq (dSlot 2) (dLV (dC (.int 0))))) (dRet (dLst [dFrz (dCallR fn__law_rid 0 [] (dArs [])), dC (.int 0)])) (dSkip)) (dSeq (dIfS (dTB (dBin gEq (dSlot 2) (dLV (dC (.int 1))))) (dRet (dLst [dFrz (dBin gIx (dLV (dFrz (dLst [dFrz (dSl (dSlot 1) dPn (dPs (dC (.int 2)))), dFrz (dBin gAdd (dSlot 1) (dLV (dFrz (dLst [dC (.int 1)])))), dFrz (dLst [])]))) (dLV (dFrz (dCallR fn__law_take 0 [] (dArs [dLV (dC (.int 3))]))))), dC (.int 0)])) (dSkip)) (dSeq (dIfS (dTB (dBin gLt (dSlot 2) (dLV (dC (.int 5))))) (dSeq (dSet 3 (dCB gList (dArs [dSlot 1]))) (dSeq (dFor (asN 4) (dRng1 (dArs [dLV (dFrz (dBin gAdd (dLV (dC (.int 1))) (dLV (dFrz (dCallR fn__law_take 0 [] (dArs [dLV (dC (.int 2))]))))))])) (bd__law_spoilt_1)) (dRet (dLst [dVar 3, dFrz (dBin gIx (dLV (dFrz (dLc [5] (asN 5) (dRng1 (dArs [dLV (dC (.int 3))])) (cd__law_spoilt_2) (el__law_spoilt_3)))) (dLV (dC (.int 0))))])))) (dSkip)) (dRet (dLst [dVar 1, dC .non])))))
noncomputable def fn__law_spoilt : Fn := mkFn 2 6 den__law_spoilt
theorem fn__law_spoilt_len (args : List Ent) (h : args.length ≠ 2) : fn__law_spoilt args = .bad := mkFn_len args h
theorem ok__law_spoilt (T : Tz K mg) : FnOkG P w K mg base (L2.CX P w) 4 (He.ga K "_law_spoilt") (fdOf K (He.ga K "_law_spoilt")) ["_law_hand_here", "_law_sides"] (spOf K mg [0] 2 fn__law_spoilt) := by
  refine fn_ok (N := N__law_spoilt) (np := 2) (k := 3) (R := [0]) T.F__law_spoilt sc__law_spoilt rfl (f := den__law_spoilt) (fun cdv A outer s H E hr => ?_)
  have tk : Takes (cxOf (L2.CX P w) P w K mg base N__law_spoilt "_law_spoilt" (defScope (top 42)) (He.ga K "_law_spoilt") cdv A outer s H E) (fun cls d _ H => E cls d H) := takes_of rfl rfl rfl rfl
  have hp := passes_of (X := cxOf (L2.CX P w) P w K mg base N__law_spoilt "_law_spoilt" (defScope (top 42)) (He.ga K "_law_spoilt") cdv A outer s H E) rfl
  exact sCons (sSet (i := 2) (nR rfl) (sCallR rfl rfl (ok__law_take T) (hr.mono (by decide)) rfl (T.glo (T.c.fact 39)) (T.F__law_take).kp T.b__law_take .nil (fun _ => rfl) tk (pe_var (i := 0) rfl (.inl rfl)) (sArCons (sLV (sInt)) (sArNil)) fn__law_take_len) sc__law_spoilt.nd rfl (.inl rfl)) (sCons (sIfS (sCmpT (op_eqD hr.units) sv_eq (sSlot (pe_var (i := 2) rfl (.inl rfl))) (sLV (sInt)) (nomark _)) (sOne (sRet (sLst (sVsCons (sFrz (sCallR rfl rfl (ok__law_rid T) (hr.mono (by decide)) rfl (T.glo (T.c.fact 65)) (T.F__law_rid).kp T.b__law_rid .nil (fun _ => rfl) tk (pe_var (i := 0) rfl (.inl rfl)) (sArNil) fn__law_rid_len)) (sVsCons (sInt) (sVsNil)))))) (sNil)) (sCons (sIfS (sCmpT (op_eqD hr.units) sv_eq (sSlot (pe_var (i := 2) rfl (.inl rfl))) (sLV (sInt)) (nomark _)) (sOne (sRet (sLst (sVsCons (sFrz (sIx rfl (sLV (sFrz (sLst (sVsCons (sFrz (sSl rfl (sSlot (pe_var (i := 1) rfl (.inl rfl))) sPn (sPs (sInt)))) (sVsCons (sFrz (sBin op_addE sv_add (sSlot (pe_var (i := 1) rfl (.inl rfl))) (sLV (sFrz (sLst (sVsCons (sInt) (sVsNil))))))) (sVsCons (sFrz (sLst (sVsNil))) (sVsNil))))))) (sLV (sFrz (sCallR rfl rfl (ok__law_take T) (hr.mono (by decide)) rfl (T.glo (T.c.fact 39)) (T.F__law_take).kp T.b__law_take .nil (fun _ => rfl) tk (pe_var (i := 0) rfl (.inl rfl)) (sArCons (sLV (sInt)) (sArNil)) fn__law_take_len))))) (sVsCons (sInt) (sVsNil)))))) (sNil)) (sCons (sIfS (sCmpT op_lt sv_lt (sSlot (pe_var (i := 2) rfl (.inl rfl))) (sLV (sInt)) (nomark _)) (sCons (sSet (i := 3) (nR rfl) (sCT call_list_of sv_list rfl (T.free (T.c.fact 19)) bt_list (sArCons (sSlot (pe_var (i := 1) rfl (.inl rfl))) (sArNil))) sc__law_spoilt.nd rfl (.inr rfl)) (sCons (sFor (own := [4]) hp rfl (sRng1 rfl (T.free (T.c.fact 15)) (sArCons (sLV (sFrz (sBin op_addE sv_add (sLV (sInt)) (sLV (sFrz (sCallR rfl rfl (ok__law_take T) (hr.mono (by decide)) rfl (T.glo (T.c.fact 39)) (T.F__law_take).kp T.b__law_take .nil (fun _ => rfl) tk (pe_var (i := 0) rfl (.inl rfl)) (sArCons (sLV (sInt)) (sArNil)) fn__law_take_len)))))) (sArNil))) (gN (i := 4) (by decide) (nR rfl) sc__law_spoilt.nd rfl (.inl rfl)) (sOne (sPut (pe_var (i := 3) rfl (.inr (.inl rfl))) (sFrz (sCallR rfl rfl (ok__law_take T) (hr.mono (by decide)) rfl (T.glo (T.c.fact 39)) (T.F__law_take).kp T.b__law_take .nil (fun _ => rfl) tk (pe_var (i := 0) rfl (.inl rfl)) (sArCons (sLV (sInt)) (sArNil)) fn__law_take_len)) (sFrz (sIx rfl (sLV (sFrz (sLst (sVsCons (sInt) (sVsCons (sFrz (sCallR rfl rfl (ok__law_odd T) (hr.mono (by decide)) rfl (T.glo (T.c.fact 60)) (T.F__law_odd).kp T.b__law_odd .nil (fun _ => rfl) tk (pe_var (i := 0) rfl (.inl rfl)) (sArCons (sLV (sInt)) (sArNil)) fn__law_odd_len)) (sVsCons (sInt) (sVsNil))))))) (sLV (sFrz (sCallR rfl rfl (ok__law_take T) (hr.mono (by decide)) rfl (T.glo (T.c.fact 39)) (T.F__law_take).kp T.b__law_take .nil (fun _ => rfl) tk (pe_var (i := 0) rfl (.inl rfl)) (sArCons (sLV (sInt)) (sArNil)) fn__law_take_len)))))))) (sOne (sRet (sLst (sVsCons (sVar (pe_var (i := 3) rfl (.inr (.inl rfl)))) (sVsCons (sFrz (sIx rfl (sLV (sFrz (sLc (own := [("_law_k", 5)]) (nRs rfl) rfl sc__law_spoilt.nd (sRng1 rfl (T.free (T.c.fact 15)) (sArCons (sLV (sInt)) (sArNil))) (blkOk_by (N := N__law_spoilt) (sc := defScope (top 42)) (by decide +kernel)) (fun s H C cl fp => gN (i := 5) (by decide) (nR rfl) sc__law_spoilt.nd rfl (.inl rfl)) (fun s H C cl fp => sTs1 (sNotT (sTru rfl (sLV (sFrz (sCall rfl rfl (ok__law_whole T) (hr.mono (by decide)) rfl (T.glo (T.c.fact 64)) (T.F__law_whole).kp T.b__law_whole .nil (fun _ => rfl) takes0 (sArCons (sLV (sFrz (sIx rfl (sSlot (pe_var (i := 3) rfl (.inr (.inl rfl)))) (sSlot (pe_var (i := 5) rfl (.inl rfl)))))) (sArCons (sLV (sInt)) (sArCons (sLV (sInt)) (sArNil)))) fn__law_whole_len)))))) (fun s H C cl fp => sVar (pe_var (i := 5) rfl (.inl rfl)))))) (sLV (sInt)))) (sVsNil)))))))) (sNil)) (sOne (sRet (sLst (sVsCons (sVar (pe_var (i := 1) rfl (.inl rfl))) (sVsCons (sNon) (sVsNil)))))))))
/-! faces_of_edge -/
abbrev N_faces_of_edge : List Str := ["edge", "couple", "ends", "face"]
theorem sc_faces_of_edge : FnScope N_faces_of_edge ["edge"] (defScope (top 21)) := ⟨rfl, rfl, rfl, by decide +kernel, rfl, by decide +kernel, by decide +kernel⟩
noncomputable def cd_faces_of_edge_1 : DenT := dTB (dBin gIn (dSlot 3) (dSlot 2))
noncomputable def el_faces_of_edge_2 : DenV := dVar 3
noncomputable def den_faces_of_edge : DenS := dSeq (dSet 1 (dCall fn_check_edge [] (dArs [dSlot 0]))) (dSeq (dSet 2 (dCall fn_faces_of_corner [] (dArs [dLV (dFrz (dBin gIx (dSlot 1) (dLV (dC (.int 1)))))]))) (dRet (dCB gTuple (dArs [dLV (dFrz (dLc [3] (asN 3) (dIt (dFrz (dCall fn_faces_of_corner [] (dArs [dLV (dFrz (dBin gIx (dSlot 1) (dLV (dC (.int 0)))))])))) (cd_faces_of_edge_1) (el_faces_of_edge_2)))]))))
noncomputable def fn_faces_of_edge : Fn := mkFn 1 4 den_faces_of_edge
theorem fn_faces_of_edge_len (args : List Ent) (h : args.length ≠ 1) : fn_faces_of_edge args = .bad := mkFn_len args h
theorem ok_faces_of_edge (T : Tz K mg) : FnOkG P w K mg base (L2.CX P w) 5 (He.ga K "faces_of_edge") (fdOf K (He.ga K "faces_of_edge")) ["edge"] (spOf K mg [] 1 fn_faces_of_edge) := by
  refine fn_ok (N := N_faces_of_edge) (np := 1) (k := 4) (R := []) T.F_faces_of_edge sc_faces_of_edge rfl (f := den_faces_of_edge) (fun cdv A outer s H E hr => ?_)
  have tk : Takes (cxOf (L2.CX P w) P w K mg base N_faces_of_edge "faces_of_edge" (defScope (top 21)) (He.ga K "faces_of_edge") cdv A outer s H E) (fun cls d _ H => E cls d H) := takes_of rfl rfl rfl rfl
  have hp := passes_of (X := cxOf (L2.CX P w) P w K mg base N_faces_of_edge "faces_of_edge" (defScope (top 21)) (He.ga K "faces_of_edge") cdv A outer s H E) rfl
  exact sCons (sSet (i := 1) (nR rfl) (sCall rfl rfl (ok_check_edge T) (hr.mono (by decide)) rfl (T.glo (T.c.fact 28)) (T.F_check_edge).kp T.b_check_edge .nil (fun _ => rfl) tk (sArCons (sSlot (pe_var (i := 0) rfl (.inl rfl))) (sArNil)) fn_check_edge_len) sc_faces_of_edge.nd rfl (.inl rfl)) (sCons (sSet (i := 2) (nR rfl) (sCall rfl rfl (ok_faces_of_corner T) (hr.mono (by decide)) rfl (T.glo (T.c.fact 29)) (T.F_faces_of_corner).kp T.b_faces_of_corner .nil (fun _ => rfl) tk (sArCons (sLV (sFrz (sIx rfl (sSlot (pe_var (i := 1) rfl (.inl rfl))) (sLV (sInt))))) (sArNil)) fn_faces_of_corner_len) sc_faces_of_edge.nd rfl (.inr rfl)) (sOne (sRet (sCT call_tuple_of sv_tuple rfl (T.free (T.c.fact 16)) bt_tuple (sArCons (sLV (sFrz (sLc (own := [("face", 3)]) (nRs rfl) rfl sc_faces_of_edge.nd (sIt rfl (sFrz (sCall rfl rfl (ok_faces_of_corner T) (hr.mono (by decide)) rfl (T.glo (T.c.fact 29)) (T.F_faces_of_corner).kp T.b_faces_of_corner .nil (fun _ => rfl) tk (sArCons (sLV (sFrz (sIx rfl (sSlot (pe_var (i := 1) rfl (.inl rfl))) (sLV (sInt))))) (sArNil)) fn_faces_of_corner_len))) (blkOk_by (N := N_faces_of_edge) (sc := defScope (top 21)) (by decide +kernel)) (fun s H C cl fp => gN (i := 3) (by decide) (nR rfl) sc_faces_of_edge.nd rfl (.inl rfl)) (fun s H C cl fp => sTs1 (sCmpT (op_inE (room65 hr)) sv_in (sSlot (pe_var (i := 3) rfl (.inl rfl))) (sSlot (pe_var (i := 2) rfl (.inr (.inl rfl)))) (rfl))) (fun s H C cl fp => sVar (pe_var (i := 3) rfl (.inl rfl)))))) (sArNil))))))
noncomputable def tabV_1 : List (Str × Fn) := [("check_face", fn_check_face), ("face_axes", fn_face_axes), ("faces_beside", fn_faces_beside), ("check_edge", fn_check_edge), ("check_corner", fn_check_corner), ("faces_of_corner", fn_faces_of_corner), ("faces_of_edge", fn_faces_of_edge)]
theorem held_1 (T : Tz K mg) : HeldT P w K mg base 5 tabV_1 := .cons ⟨_, _, _, 1, 3, by decide, T.glo (T.c.fact 14), (T.F_check_face).kp, T.b_check_face, ok_check_face T, fn_check_face_len⟩ (.cons ⟨_, _, _, 1, 4, by decide, T.glo (T.c.fact 52), (T.F_face_axes).kp, T.b_face_axes, ok_face_axes T, fn_face_axes_len⟩ (.cons ⟨_, _, _, 1, 4, by decide, T.glo (T.c.fact 54), (T.F_faces_beside).kp, T.b_faces_beside, ok_faces_beside T, fn_faces_beside_len⟩ (.cons ⟨_, _, _, 1, 3, by decide, T.glo (T.c.fact 28), (T.F_check_edge).kp, T.b_check_edge, ok_check_edge T, fn_check_edge_len⟩ (.cons ⟨_, _, _, 1, 3, by decide, T.glo (T.c.fact 18), (T.F_check_corner).kp, T.b_check_corner, ok_check_corner T, fn_check_corner_len⟩ (.cons ⟨_, _, _, 1, 4, by decide, T.glo (T.c.fact 29), (T.F_faces_of_corner).kp, T.b_faces_of_corner, ok_faces_of_corner T, fn_faces_of_corner_len⟩ (.cons ⟨_, _, _, 1, 5, by decide, T.glo (T.c.fact 57), (T.F_faces_of_edge).kp, T.b_faces_of_edge, ok_faces_of_edge T, fn_faces_of_edge_len⟩ (.nil)))))))
/-! edge_between -/
abbrev N_edge_between : List Str := ["face", "beside", "shared", "corner", "around"]
theorem sc_edge_between : FnScope N_edge_between ["face", "beside"] (defScope (top 22)) := ⟨rfl, rfl, rfl, by decide +kernel, rfl, by decide +kernel, by decide +kernel⟩
noncomputable def bd_edge_between_1 : DenS := dSeq (dSet 4 (dCall fn_faces_of_corner [] (dArs [dSlot 3]))) (dIfS (dAndT (dTB (dBin gIn (dSlot 0) (dSlot 4))) (dTB (dBin gIn (dSlot 1) (dSlot 4)))) (dExp (dApp 2 (dVar 3))) (dSkip))
noncomputable def den_edge_between : DenS := dSeq (dIfS (dNotT (dTru (dLV (dFrz (dCall fn_are_beside [] (dArs [dSlot 0, dSlot 1])))))) (dRaise "NoEdge" ["face", "beside"] [dVar 0, dVar 1]) (dSkip)) (dSeq (dSet 2 (dLst [])) (dSeq (dFor (asN 3) (dRng1 (dArs [dLV (dC (.int 8))])) (bd_edge_between_1)) (dRet (dCB gTuple (dArs [dSlot 2])))))
noncomputable def fn_edge_between : Fn := mkFn 2 5 den_edge_between
theorem fn_edge_between_len (args : List Ent) (h : args.length ≠ 2) : fn_edge_between args = .bad := mkFn_len args h
theorem ok_edge_between (T : Tz K mg) : FnOkG P w K mg base (L2.CX P w) 5 (He.ga K "edge_between") (fdOf K (He.ga K "edge_between")) ["face", "beside"] (spOf K mg [] 2 fn_edge_between) := by
  refine fn_ok (N := N_edge_between) (np := 2) (k := 4) (R := []) T.F_edge_between sc_edge_between rfl (f := den_edge_between) (fun cdv A outer s H E hr => ?_)
  have tk : Takes (cxOf (L2.CX P w) P w K mg base N_edge_between "edge_between" (defScope (top 22)) (He.ga K "edge_between") cdv A outer s H E) (fun cls d _ H => E cls d H) := takes_of rfl rfl rfl rfl
  have hp := passes_of (X := cxOf (L2.CX P w) P w K mg base N_edge_between "edge_between" (defScope (top 22)) (He.ga K "edge_between") cdv A outer s H E) rfl
  exact sCons (sIfS (sNotT (sTru rfl (sLV (sFrz (sCall rfl rfl (ok_are_beside T) (hr.mono (by decide)) rfl (T.glo (T.c.fact 30)) (T.F_are_beside).kp T.b_are_beside .nil (fun _ => rfl) tk (sArCons (sSlot (pe_var (i := 0) rfl (.inl rfl))) (sArCons (sSlot (pe_var (i := 1) rfl (.inl rfl))) (sArNil))) fn_are_beside_len))))) (sOne (sRaise rfl tk (fx_oex (T.c.fact 33)) (fx_ini (T.c.fact 34)).1 (fx_ini (T.c.fact 34)).2 (T.ini_NoEdge) (hr.mono (by decide)) T.ib_NoEdge rfl (T.glo (T.c.fact 35)) rfl (sVsCons (sVar (pe_var (i := 0) rfl (.inl rfl))) (sVsCons (sVar (pe_var (i := 1) rfl (.inl rfl))) (sVsNil))) (by decide))) (sNil)) (sCons (sSet (i := 2) (nR rfl) (sLst (sVsNil)) sc_edge_between.nd rfl (.inl rfl)) (sCons (sFor (own := [3]) hp rfl (sRng1 rfl (T.free (T.c.fact 15)) (sArCons (sLV (sInt)) (sArNil))) (gN (i := 3) (by decide) (nR rfl) sc_edge_between.nd rfl (.inl rfl)) (sCons (sSet (i := 4) (nR rfl) (sCall rfl rfl (ok_faces_of_corner T) (hr.mono (by decide)) rfl (T.glo (T.c.fact 29)) (T.F_faces_of_corner).kp T.b_faces_of_corner .nil (fun _ => rfl) tk (sArCons (sSlot (pe_var (i := 3) rfl (.inl rfl))) (sArNil)) fn_faces_of_corner_len) sc_edge_between.nd rfl (.inl rfl)) (sOne (sIfS (sWT (sAndT (sCmpT (op_inE (room65 hr)) sv_in (sSlot (pe_var (i := 0) rfl (.inl rfl))) (sSlot (pe_var (i := 4) rfl (.inl rfl))) (rfl)) (sAndT1 (sCmpT (op_inE (room65 hr)) sv_in (sSlot (pe_var (i := 1) rfl (.inl rfl))) (sSlot (pe_var (i := 4) rfl (.inl rfl))) (rfl))))) (sOne (sExp (sApp rfl (pe_var (i := 2) rfl (.inl rfl)) (sVar (pe_var (i := 3) rfl (.inl rfl)))))) (sNil))))) (sOne (sRet (sCT call_tuple_of sv_tuple rfl (T.free (T.c.fact 16)) bt_tuple (sArCons (sSlot (pe_var (i := 2) rfl (.inl rfl))) (sArNil)))))))
noncomputable def tabV_2 : List (Str × Fn) := [("are_beside", fn_are_beside), ("edge_between", fn_edge_between)]
theorem held_2 (T : Tz K mg) : HeldT P w K mg base 5 tabV_2 := .cons ⟨_, _, _, 2, 4, by decide, T.glo (T.c.fact 30), (T.F_are_beside).kp, T.b_are_beside, ok_are_beside T, fn_are_beside_len⟩ (.cons ⟨_, _, _, 2, 5, by decide, T.glo (T.c.fact 56), (T.F_edge_between).kp, T.b_edge_between, ok_edge_between T, fn_edge_between_len⟩ (.nil))
/-! _law_box -/
abbrev N__law_box : List Str := ["_law_sides", "_law_found", "raised"]
theorem sc__law_box : FnScope N__law_box ["_law_sides"] (defScope (top 35)) := ⟨rfl, rfl, rfl, by decide +kernel, rfl, by decide +kernel, by decide +kernel⟩
noncomputable def den__law_box : DenS := dSeq (dTry tabX (dSet 1 (dVal (dMake "Box" ["sides"] fnI_Box [] (dVs [dVar 0])))) [("BadBox", some 2, dRet (dLst [dC (.str "BadBox"), dXf ["BadBox"] 2 "index"])), ("ParcelError", none, dRet (dLst [dC (.str "other")]))]) (dRet (dMove 1))
noncomputable def fn__law_box : Fn := mkFn 1 3 den__law_box
theorem fn__law_box_len (args : List Ent) (h : args.length ≠ 1) : fn__law_box args = .bad := mkFn_len args h
theorem ok__law_box (T : Tz K mg) : FnOkG P w K mg base (L2.CX P w) 5 (He.ga K "_law_box") (fdOf K (He.ga K "_law_box")) ["_law_sides"] (spOf K mg [] 1 fn__law_box) := by
  refine fn_ok (N := N__law_box) (np := 1) (k := 4) (R := []) T.F__law_box sc__law_box rfl (f := den__law_box) (fun cdv A outer s H E hr => ?_)
  have tk : Takes (cxOf (L2.CX P w) P w K mg base N__law_box "_law_box" (defScope (top 35)) (He.ga K "_law_box") cdv A outer s H E) (fun cls d _ H => E cls d H) := takes_of rfl rfl rfl rfl
  have hp := passes_of (X := cxOf (L2.CX P w) P w K mg base N__law_box "_law_box" (defScope (top 35)) (He.ga K "_law_box") cdv A outer s H E) rfl
  exact sCons (sTry rfl rfl rfl rfl sc__law_box.nd tk (fun W' pn xe tk' hp' => sOne (sSet (i := 1) (nR rfl) (sVal (sMake rfl rfl (He.mkr_ok (fx_fa (T.c.fact 40))) (ok_ini_Box T) (hr.mono (by decide)) rfl (T.glo (T.c.fact 41)) T.ib_Box .nil (fun _ => rfl) tk' (sVsCons (sVar (pe_var (i := 0) rfl (.inl rfl))) (sVsNil)) (fun _ => mkIni_len _))) sc__law_box.nd rfl (.inl rfl))) (.consN (i := 2) (nR rfl) rfl rfl ⟨rfl, rfl, .inl (T.glo (T.c.fact 44))⟩ (T.exm (T.glo (T.c.fact 44))) (fun a oe cls d pn hz hf => sOne (sRet (sLst (sVsCons (sStr) (sVsCons (sXf rfl (xfOne (T.glo (T.c.fact 44)) (fx_xf (T.c.fact 42)) (fx_nof (T.c.fact 43))) hz hf (pe_var (i := 2) rfl (.inl rfl))) (sVsNil)))))) (.cons ⟨rfl, rfl, .inl (T.glo (T.c.fact 45))⟩ (T.exm (T.glo (T.c.fact 45))) (fun a oe cls d pn hz hf => sOne (sRet (sLst (sVsCons (sStr) (sVsNil))))) .nil))) (sOne (sRet (sMove (nR rfl) (pe_var (i := 1) rfl (.inl rfl)))))
/-! _law_asked -/
abbrev N__law_asked : List Str := ["_law_deed", "_law_thing", "_law_found", "raised"]
theorem sc__law_asked : FnScope N__law_asked ["_law_deed", "_law_thing"] (defScope (top 36)) := ⟨rfl, rfl, rfl, by decide +kernel, rfl, by decide +kernel, by decide +kernel⟩
noncomputable def den__law_asked : DenS := dSeq (dTry tabX (dSet 2 (dCallV tabV_1 0 (dArs [dSlot 1]))) [("BadFace", some 3, dSet 2 (dLst [dC (.str "BadFace"), dXf ["BadFace"] 3 "face"])), ("BadCorner", some 3, dSet 2 (dLst [dC (.str "BadCorner"), dXf ["BadCorner"] 3 "corner"])), ("BadEdge", some 3, dSet 2 (dLst [dC (.str "BadEdge"), dXf ["BadEdge"] 3 "edge"])), ("ParcelError", none, dSet 2 (dLst [dC (.str "other")]))]) (dRet (dMove 2))
noncomputable def fn__law_asked : Fn := mkFn 2 4 den__law_asked
theorem fn__law_asked_len (args : List Ent) (h : args.length ≠ 2) : fn__law_asked args = .bad := mkFn_len args h
theorem ok__law_asked (T : Tz K mg) : FnOkG P w K mg base (L2.CX P w) 6 (He.ga K "_law_asked") (fdOf K (He.ga K "_law_asked")) ["_law_deed", "_law_thing"] (spOf K mg [] 2 fn__law_asked) := by
  refine fn_ok (N := N__law_asked) (np := 2) (k := 5) (R := []) T.F__law_asked sc__law_asked rfl (f := den__law_asked) (fun cdv A outer s H E hr => ?_)
  have tk : Takes (cxOf (L2.CX P w) P w K mg base N__law_asked "_law_asked" (defScope (top 36)) (He.ga K "_law_asked") cdv A outer s H E) (fun cls d _ H => E cls d H) := takes_of rfl rfl rfl rfl
  have hp := passes_of (X := cxOf (L2.CX P w) P w K mg base N__law_asked "_law_asked" (defScope (top 36)) (He.ga K "_law_asked") cdv A outer s H E) rfl
  exact sCons (sTry rfl rfl rfl rfl sc__law_asked.nd tk (fun W' pn xe tk' hp' => sOne (sSet (i := 2) (nR rfl) (sCallV (tab := tabV_1) (i := 0) rfl rfl (held_1 T) (hr.mono (by decide)) rfl (.inl rfl) tk' (sArCons (sSlot (pe_var (i := 1) rfl (.inl rfl))) (sArNil))) sc__law_asked.nd rfl (.inl rfl))) (.consN (i := 3) (nR rfl) rfl rfl ⟨rfl, rfl, .inl (T.glo (T.c.fact 8))⟩ (T.exm (T.glo (T.c.fact 8))) (fun a oe cls d pn hz hf => sOne (sSet (i := 2) (nR rfl) (sLst (sVsCons (sStr) (sVsCons (sXf rfl (xfOne (T.glo (T.c.fact 8)) (fx_xf (T.c.fact 46)) (fx_nof (T.c.fact 5))) hz hf (pe_var (i := 3) rfl (.inl rfl))) (sVsNil)))) sc__law_asked.nd rfl (.inl rfl))) (.consN (i := 3) (nR rfl) rfl rfl ⟨rfl, rfl, .inl (T.glo (T.c.fact 12))⟩ (T.exm (T.glo (T.c.fact 12))) (fun a oe cls d pn hz hf => sOne (sSet (i := 2) (nR rfl) (sLst (sVsCons (sStr) (sVsCons (sXf rfl (xfOne (T.glo (T.c.fact 12)) (fx_xf (T.c.fact 47)) (fx_nof (T.c.fact 9))) hz hf (pe_var (i := 3) rfl (.inl rfl))) (sVsNil)))) sc__law_asked.nd rfl (.inl rfl))) (.consN (i := 3) (nR rfl) rfl rfl ⟨rfl, rfl, .inl (T.glo (T.c.fact 24))⟩ (T.exm (T.glo (T.c.fact 24))) (fun a oe cls d pn hz hf => sOne (sSet (i := 2) (nR rfl) (sLst (sVsCons (sStr) (sVsCons (sXf rfl (xfOne (T.glo (T.c.fact 24)) (fx_xf (T.c.fact 48)) (fx_nof (T.c.fact 21))) hz hf (pe_var (i := 3) rfl (.inl rfl))) (sVsNil)))) sc__law_asked.nd rfl (.inl rfl))) (.cons ⟨rfl, rfl, .inl (T.glo (T.c.fact 45))⟩ (T.exm (T.glo (T.c.fact 45))) (fun a oe cls d pn hz hf => sOne (sSet (i := 2) (nR rfl) (sLst (sVsCons (sStr) (sVsNil))) sc__law_asked.nd rfl (.inl rfl))) .nil))))) (sOne (sRet (sMove (nR rfl) (pe_var (i := 2) rfl (.inl rfl)))))
/-! _law_between -/
abbrev N__law_between : List Str := ["_law_deed", "_law_one", "_law_other", "_law_found", "raised"]
theorem sc__law_between : FnScope N__law_between ["_law_deed", "_law_one", "_law_other"] (defScope (top 37)) := ⟨rfl, rfl, rfl, by decide +kernel, rfl, by decide +kernel, by decide +kernel⟩
noncomputable def den__law_between : DenS := dSeq (dTry tabX (dSet 3 (dCallV tabV_2 0 (dArs [dSlot 1, dSlot 2]))) [("BadFace", some 4, dSet 3 (dLst [dC (.str "BadFace"), dXf ["BadFace"] 4 "face"])), ("NoEdge", some 4, dSet 3 (dLst [dC (.str "NoEdge"), dXf ["NoEdge"] 4 "face", dXf ["NoEdge"] 4 "beside"])), ("ParcelError", none, dSet 3 (dLst [dC (.str "other")]))]) (dRet (dMove 3))
noncomputable def fn__law_between : Fn := mkFn 3 5 den__law_between
theorem fn__law_between_len (args : List Ent) (h : args.length ≠ 3) : fn__law_between args = .bad := mkFn_len args h
theorem ok__law_between (T : Tz K mg) : FnOkG P w K mg base (L2.CX P w) 6 (He.ga K "_law_between") (fdOf K (He.ga K "_law_between")) ["_law_deed", "_law_one", "_law_other"] (spOf K mg [] 3 fn__law_between) := by
  refine fn_ok (N := N__law_between) (np := 3) (k := 5) (R := []) T.F__law_between sc__law_between rfl (f := den__law_between) (fun cdv A outer s H E hr => ?_)
  have tk : Takes (cxOf (L2.CX P w) P w K mg base N__law_between "_law_between" (defScope (top 37)) (He.ga K "_law_between") cdv A outer s H E) (fun cls d _ H => E cls d H) := takes_of rfl rfl rfl rfl
  have hp := passes_of (X := cxOf (L2.CX P w) P w K mg base N__law_between "_law_between" (defScope (top 37)) (He.ga K "_law_between") cdv A outer s H E) rfl
  exact sCons (sTry rfl rfl rfl rfl sc__law_between.nd tk (fun W' pn xe tk' hp' => sOne (sSet (i := 3) (nR rfl) (sCallV (tab := tabV_2) (i := 0) rfl rfl (held_2 T) (hr.mono (by decide)) rfl (.inl rfl) tk' (sArCons (sSlot (pe_var (i := 1) rfl (.inl rfl))) (sArCons (sSlot (pe_var (i := 2) rfl (.inl rfl))) (sArNil)))) sc__law_between.nd rfl (.inl rfl))) (.consN (i := 4) (nR rfl) rfl rfl ⟨rfl, rfl, .inl (T.glo (T.c.fact 8))⟩ (T.exm (T.glo (T.c.fact 8))) (fun a oe cls d pn hz hf => sOne (sSet (i := 3) (nR rfl) (sLst (sVsCons (sStr) (sVsCons (sXf rfl (xfOne (T.glo (T.c.fact 8)) (fx_xf (T.c.fact 46)) (fx_nof (T.c.fact 5))) hz hf (pe_var (i := 4) rfl (.inl rfl))) (sVsNil)))) sc__law_between.nd rfl (.inl rfl))) (.consN (i := 4) (nR rfl) rfl rfl ⟨rfl, rfl, .inl (T.glo (T.c.fact 35))⟩ (T.exm (T.glo (T.c.fact 35))) (fun a oe cls d pn hz hf => sOne (sSet (i := 3) (nR rfl) (sLst (sVsCons (sStr) (sVsCons (sXf rfl (xfOne (T.glo (T.c.fact 35)) (fx_xf (T.c.fact 49)) (fx_nof (T.c.fact 31))) hz hf (pe_var (i := 4) rfl (.inl rfl))) (sVsCons (sXf rfl (xfOne (T.glo (T.c.fact 35)) (fx_xf (T.c.fact 49)) (fx_nof (T.c.fact 32))) hz hf (pe_var (i := 4) rfl (.inl rfl))) (sVsNil))))) sc__law_between.nd rfl (.inl rfl))) (.cons ⟨rfl, rfl, .inl (T.glo (T.c.fact 45))⟩ (T.exm (T.glo (T.c.fact 45))) (fun a oe cls d pn hz hf => sOne (sSet (i := 3) (nR rfl) (sLst (sVsCons (sStr) (sVsNil))) sc__law_between.nd rfl (.inl rfl))) .nil)))) (sOne (sRet (sMove (nR rfl) (pe_var (i := 3) rfl (.inl rfl)))))
/-! _law_tuples -/
abbrev N__law_tuples : List Str := ["_law_thing", "_law_item"]
theorem sc__law_tuples : FnScope N__law_tuples ["_law_thing"] (defScope (top 29)) := ⟨rfl, rfl, rfl, by decide +kernel, rfl, by decide +kernel, by decide +kernel⟩
noncomputable def cd__law_tuples_1 (self : Fn) : DenT := dNotT (dTru (dLV (dFrz (dCall self [] (dArs [dSlot 1])))))
noncomputable def el__law_tuples_2 (self : Fn) : DenV := dC (.int 1)
noncomputable def den__law_tuples (self : Fn) : DenS := dSeq (dIfS (dTru (dLV (dIsi ["tuple"] (dSlot 0)))) (dRet (dVal (dNotL (dLV (dFrz (dLc [1] (asN 1) (dIt (dVar 0)) ((cd__law_tuples_1 self)) ((el__law_tuples_2 self)))))))) (dSkip)) (dRet (dVal (dOrV (dFrz (dBin gIs (dSlot 0) (dLV (dC .non)))) (dAndV (dIsi ["int"] (dSlot 0)) (dNotL (dLV (dIsi ["bool"] (dSlot 0))))))))
noncomputable def fn__law_tuples : Fn := recFn 1 2 den__law_tuples 12
theorem fn__law_tuples_len (args : List Ent) (h : args.length ≠ 1) : fn__law_tuples args = .bad := recFn_len _ _ h
theorem okr__law_tuples (T : Tz K mg) : ∀ n, FnOkG P w K mg base (L2.CX P w) (0 + n) (He.ga K "_law_tuples") (fdOf K (He.ga K "_law_tuples")) ["_law_thing"] (spOf K mg [] 1 (recFn 1 2 den__law_tuples n))
  | 0 => FnOkG.never
  | n + 1 => by
    refine fn_ok (N := N__law_tuples) (np := 1) (k := 0 + n) (R := []) T.F__law_tuples sc__law_tuples rfl (f := den__law_tuples (recFn 1 2 den__law_tuples n)) (fun cdv A outer s H E hr => ?_)
    have tk : Takes (cxOf (L2.CX P w) P w K mg base N__law_tuples "_law_tuples" (defScope (top 29)) (He.ga K "_law_tuples") cdv A outer s H E) (fun cls d _ H => E cls d H) := takes_of rfl rfl rfl rfl
    have hp := passes_of (X := cxOf (L2.CX P w) P w K mg base N__law_tuples "_law_tuples" (defScope (top 29)) (He.ga K "_law_tuples") cdv A outer s H E) rfl
    have F := okr__law_tuples T n
    have ga := recFn_len (np := 1) (ns := 2) (den := den__law_tuples) n
    exact sCons (sIfS (sTru rfl (sLV (sIsi rfl rfl (T.free (T.c.fact 1)) bt_isinstance (sSlot (pe_var (i := 0) rfl (.inl rfl))) (pe_bltn rfl (T.free (T.c.fact 16)) bt_tuple rfl) rfl))) (sOne (sRet (sVal (sNotL rfl (sLV (sFrz (sLc (own := [("_law_item", 1)]) (nRs rfl) rfl sc__law_tuples.nd (sIt rfl (sVar (pe_var (i := 0) rfl (.inl rfl)))) (blkOk_by (N := N__law_tuples) (sc := defScope (top 29)) (by decide +kernel)) (fun s H C cl fp => gN (i := 1) (by decide) (nR rfl) sc__law_tuples.nd rfl (.inl rfl)) (fun s H C cl fp => sTs1 (sNotT (sTru rfl (sLV (sFrz (sCall rfl rfl F hr rfl (T.glo (T.c.fact 38)) (T.F__law_tuples).kp T.b__law_tuples .nil (fun _ => rfl) takes0 (sArCons (sSlot (pe_var (i := 1) rfl (.inl rfl))) (sArNil)) ga)))))) (fun s H C cl fp => sInt)))))))) (sNil)) (sOne (sRet (sVal (sOrV (sFrz (sCmp op_isE sv_is (sSlot (pe_var (i := 0) rfl (.inl rfl))) (sLV (sNon)) (nomark _))) (sOneV (sAndV (sIsi rfl rfl (T.free (T.c.fact 1)) bt_isinstance (sSlot (pe_var (i := 0) rfl (.inl rfl))) (pe_bltn rfl (T.free (T.c.fact 3)) bt_int rfl) rfl) (sOneV (sNotL rfl (sLV (sIsi rfl rfl (T.free (T.c.fact 1)) bt_isinstance (sSlot (pe_var (i := 0) rfl (.inl rfl))) (pe_bltn rfl (T.free (T.c.fact 2)) bt_bool rfl) rfl))))))))))
theorem ok__law_tuples (T : Tz K mg) : FnOkG P w K mg base (L2.CX P w) 12 (He.ga K "_law_tuples") (fdOf K (He.ga K "_law_tuples")) ["_law_thing"] (spOf K mg [] 1 fn__law_tuples) := okr__law_tuples T 12
/-! _law_plain -/
abbrev N__law_plain : List Str := ["_law_thing", "_law_item"]
theorem sc__law_plain : FnScope N__law_plain ["_law_thing"] (defScope (top 38)) := ⟨rfl, rfl, rfl, by decide +kernel, rfl, by decide +kernel, by decide +kernel⟩
noncomputable def el__law_plain_1 (self : Fn) : DenV := dFrz (dCall self [] (dArs [dSlot 1]))
noncomputable def den__law_plain (self : Fn) : DenS := dRet (dIfF (dTru (dLV (dIsi ["list", "tuple"] (dSlot 0)))) (dCB gTuple (dArs [dLV (dFrz (dLc [1] (asN 1) (dIt (dVar 0)) (dTrue) ((el__law_plain_1 self))))])) (dVal (dVar 0)))
noncomputable def fn__law_plain : Fn := recFn 1 2 den__law_plain 12
theorem fn__law_plain_len (args : List Ent) (h : args.length ≠ 1) : fn__law_plain args = .bad := recFn_len _ _ h
theorem okr__law_plain (T : Tz K mg) : ∀ n, FnOkG P w K mg base (L2.CX P w) (0 + n) (He.ga K "_law_plain") (fdOf K (He.ga K "_law_plain")) ["_law_thing"] (spOf K mg [] 1 (recFn 1 2 den__law_plain n))
  | 0 => FnOkG.never
  | n + 1 => by
    refine fn_ok (N := N__law_plain) (np := 1) (k := 0 + n) (R := []) T.F__law_plain sc__law_plain rfl (f := den__law_plain (recFn 1 2 den__law_plain n)) (fun cdv A outer s H E hr => ?_)
    have tk : Takes (cxOf (L2.CX P w) P w K mg base N__law_plain "_law_plain" (defScope (top 38)) (He.ga K "_law_plain") cdv A outer s H E) (fun cls d _ H => E cls d H) := takes_of rfl rfl rfl rfl
    have hp := passes_of (X := cxOf (L2.CX P w) P w K mg base N__law_plain "_law_plain" (defScope (top 38)) (He.ga K "_law_plain") cdv A outer s H E) rfl
    have F := okr__law_plain T n
    have ga := recFn_len (np := 1) (ns := 2) (den := den__law_plain) n
    exact sOne (sRet (sIfF (sTru rfl (sLV (sIsiT rfl rfl (T.free (T.c.fact 1)) bt_isinstance (sSlot (pe_var (i := 0) rfl (.inl rfl))) (.cons (pe_bltn rfl (T.free (T.c.fact 19)) bt_list rfl) rfl (.cons (pe_bltn rfl (T.free (T.c.fact 16)) bt_tuple rfl) rfl .nil)) rfl (by decide)))) (sCT call_tuple_of sv_tuple rfl (T.free (T.c.fact 16)) bt_tuple (sArCons (sLV (sFrz (sLc (own := [("_law_item", 1)]) (nRs rfl) rfl sc__law_plain.nd (sIt rfl (sVar (pe_var (i := 0) rfl (.inl rfl)))) (blkOk_by (N := N__law_plain) (sc := defScope (top 38)) (by decide +kernel)) (fun s H C cl fp => gN (i := 1) (by decide) (nR rfl) sc__law_plain.nd rfl (.inl rfl)) (fun s H C cl fp => sTs0) (fun s H C cl fp => sFrz (sCall rfl rfl F hr rfl (T.glo (T.c.fact 50)) (T.F__law_plain).kp T.b__law_plain .nil (fun _ => rfl) takes0 (sArCons (sSlot (pe_var (i := 1) rfl (.inl rfl))) (sArNil)) ga))))) (sArNil))) (sVal (sVar (pe_var (i := 0) rfl (.inl rfl))))))
theorem ok__law_plain (T : Tz K mg) : FnOkG P w K mg base (L2.CX P w) 12 (He.ga K "_law_plain") (fdOf K (He.ga K "_law_plain")) ["_law_thing"] (spOf K mg [] 1 fn__law_plain) := okr__law_plain T 12
/-! _law_like -/
abbrev N__law_like : List Str := ["_law_one", "_law_other"]
theorem sc__law_like : FnScope N__law_like ["_law_one", "_law_other"] (defScope (top 39)) := ⟨rfl, rfl, rfl, by decide +kernel, rfl, by decide +kernel, by decide +kernel⟩
noncomputable def den__law_like : DenS := dRet (dVal (dAndV (dFrz (dBin gEq (dLV (dFrz (dCall fn__law_plain [] (dArs [dSlot 0])))) (dLV (dFrz (dCall fn__law_plain [] (dArs [dSlot 1])))))) (dFrz (dBin gEqS (dLV (dFrz (dCB gRepr (dArs [dLV (dFrz (dCall fn__law_plain [] (dArs [dSlot 0])))])))) (dLV (dFrz (dCB gRepr (dArs [dLV (dFrz (dCall fn__law_plain [] (dArs [dSlot 1])))]))))))))
noncomputable def fn__law_like : Fn := mkFn 2 2 den__law_like
theorem fn__law_like_len (args : List Ent) (h : args.length ≠ 2) : fn__law_like args = .bad := mkFn_len args h
theorem ok__law_like (T : Tz K mg) : FnOkG P w K mg base (L2.CX P w) 13 (He.ga K "_law_like") (fdOf K (He.ga K "_law_like")) ["_law_one", "_law_other"] (spOf K mg [] 2 fn__law_like) := by
  refine fn_ok (N := N__law_like) (np := 2) (k := 12) (R := []) T.F__law_like sc__law_like rfl (f := den__law_like) (fun cdv A outer s H E hr => ?_)
  have tk : Takes (cxOf (L2.CX P w) P w K mg base N__law_like "_law_like" (defScope (top 39)) (He.ga K "_law_like") cdv A outer s H E) (fun cls d _ H => E cls d H) := takes_of rfl rfl rfl rfl
  have hp := passes_of (X := cxOf (L2.CX P w) P w K mg base N__law_like "_law_like" (defScope (top 39)) (He.ga K "_law_like") cdv A outer s H E) rfl
  exact sOne (sRet (sVal (sAndV (sFrz (sCmp (op_eqD hr.units) sv_eq (sLV (sFrz (sCall rfl rfl (ok__law_plain T) (hr.mono (by decide)) rfl (T.glo (T.c.fact 50)) (T.F__law_plain).kp T.b__law_plain .nil (fun _ => rfl) tk (sArCons (sSlot (pe_var (i := 0) rfl (.inl rfl))) (sArNil)) fn__law_plain_len))) (sLV (sFrz (sCall rfl rfl (ok__law_plain T) (hr.mono (by decide)) rfl (T.glo (T.c.fact 50)) (T.F__law_plain).kp T.b__law_plain .nil (fun _ => rfl) tk (sArCons (sSlot (pe_var (i := 1) rfl (.inl rfl))) (sArNil)) fn__law_plain_len))) (nomark _))) (sOneV (sFrz (sCmp op_eq sv_eqS (sLV (sFrz (sCB (call_reprD hr) sv_repr rfl (T.free (T.c.fact 51)) bt_repr (sArCons (sLV (sFrz (sCall rfl rfl (ok__law_plain T) (hr.mono (by decide)) rfl (T.glo (T.c.fact 50)) (T.F__law_plain).kp T.b__law_plain .nil (fun _ => rfl) tk (sArCons (sSlot (pe_var (i := 0) rfl (.inl rfl))) (sArNil)) fn__law_plain_len))) (sArNil))))) (sLV (sFrz (sCB (call_reprD hr) sv_repr rfl (T.free (T.c.fact 51)) bt_repr (sArCons (sLV (sFrz (sCall rfl rfl (ok__law_plain T) (hr.mono (by decide)) rfl (T.glo (T.c.fact 50)) (T.F__law_plain).kp T.b__law_plain .nil (fun _ => rfl) tk (sArCons (sSlot (pe_var (i := 1) rfl (.inl rfl))) (sArNil)) fn__law_plain_len))) (sArNil))))) (nomark _)))))))
/-! _law_faces -/
abbrev N__law_faces : List Str := ["_law_hand_here", "_law_face", "_law_near", "_law_other", "_law_due", "_law_odd_here", "_law_deed", "_law_good", "_law_k"]
theorem sc__law_faces : FnScope N__law_faces ["_law_hand_here"] (defScope (top 40)) := ⟨rfl, rfl, rfl, by decide +kernel, rfl, by decide +kernel, by decide +kernel⟩
noncomputable def cd__law_faces_1 : DenT := dTB (dBin gNe (dLV (dFrz (dBin gDiv (dSlot 3) (dLV (dC (.int 2)))))) (dLV (dFrz (dBin gDiv (dSlot 1) (dLV (dC (.int 2)))))))
noncomputable def el__law_faces_2 : DenV := dVar 3
noncomputable def cd__law_faces_3 : DenT := dAndT (dTB (dBin gEq (dLV (dFrz (dBin gIx (dLV (dFrz (dCall fn__law_bits [] (dArs [dSlot 8])))) (dLV (dFrz (dBin gDiv (dSlot 1) (dLV (dC (.int 2))))))))) (dLV (dFrz (dBin gMod (dLV (dFrz (dCB gInt (dArs [dSlot 1])))) (dLV (dC (.int 2)))))))) (dTB (dBin gEq (dLV (dFrz (dBin gIx (dLV (dFrz (dCall fn__law_bits [] (dArs [dSlot 8])))) (dLV (dFrz (dBin gDiv (dSlot 3) (dLV (dC (.int 2))))))))) (dLV (dFrz (dBin gMod (dLV (dFrz (dCB gInt (dArs [dSlot 3])))) (dLV (dC (.int 2))))))))
noncomputable def el__law_faces_4 : DenV := dVar 8
noncomputable def bd__law_faces_5 : DenS := dSeq (dIfS (dTB (dBin gNe (dLV (dFrz (dCall fn_are_beside [] (dArs [dSlot 1, dSlot 3])))) (dLV (dFrz (dBin gIn (dSlot 3) (dSlot 2)))))) (dRet (dVal (dC (.bl false)))) (dSkip)) (dSeq (dSet 4 (dLc [8] (asN 8) (dRng1 (dArs [dLV (dC (.int 8))])) (cd__law_faces_3) (el__law_faces_4))) (dIfS (dTB (dBin gIn (dSlot 3) (dSlot 2))) (dIfS (dOrT (dTB (dBin gNe (dLV (dFrz (dCall fn_edge_between [] (dArs [dSlot 1, dSlot 3])))) (dLV (dFrz (dCB gTuple (dArs [dSlot 4])))))) (dTB (dBin gNe (dLV (dFrz (dCall fn_faces_of_edge [] (dArs [dSlot 4])))) (dLV (dFrz (dCB gTuple (dArs [dLV (dFrz (dCB gSortB (dArs [dLV (dFrz (dLst [dVar 1, dVar 3]))])))]))))))) (dRet (dVal (dC (.bl false)))) (dSkip)) (dIfS (dTB (dBin gNe (dLV (dFrz (dCall fn__law_between [] (dArs [dLV (dC (.fn "edge_between")), dSlot 1, dSlot 3])))) (dLV (dFrz (dLst [dC (.str "NoEdge"), dVar 1, dVar 3]))))) (dRet (dVal (dC (.bl false)))) (dSkip))))
noncomputable def bd__law_faces_6 : DenS := dSeq (dSet 2 (dCB gTuple (dArs [dLV (dFrz (dLc [3] (asN 3) (dRng1 (dArs [dLV (dC (.int 6))])) (cd__law_faces_1) (el__law_faces_2)))]))) (dSeq (dIfS (dOrT (dTB (dBin gNe (dLV (dFrz (dCall fn_check_face [] (dArs [dSlot 1])))) (dSlot 1))) (dOrT (dTB (dBin gNe (dLV (dFrz (dCall fn_face_axes [] (dArs [dSlot 1])))) (dLV (dFrz (dCall fn__law_axes [] (dArs [dSlot 1])))))) (dTB (dBin gNe (dLV (dFrz (dCall fn_faces_beside [] (dArs [dSlot 1])))) (dSlot 2))))) (dRet (dVal (dC (.bl false)))) (dSkip)) (dFor (asN 3) (dRng1 (dArs [dLV (dC (.int 6))])) (bd__law_faces_5)))
noncomputable def bd__law_faces_7 : DenS := dIfS (dNotT (dTru (dLV (dFrz (dCall fn__law_like [] (dArs [dLV (dFrz (dCall fn__law_asked [] (dArs [dSlot 6, dSlot 5]))), dLV (dFrz (dLst [dC (.str "BadFace"), dVar 5]))])))))) (dRet (dVal (dC (.bl false)))) (dSkip)
noncomputable def bd__law_faces_8 : DenS := dIfS (dOrT (dNotT (dTru (dLV (dFrz (dCall fn__law_like [] (dArs [dLV (dFrz (dCall fn__law_between [] (dArs [dSlot 6, dSlot 5, dLV (dNeg (dC (.int 7)))]))), dLV (dFrz (dLst [dC (.str "BadFace"), dVar 5]))])))))) (dNotT (dTru (dLV (dFrz (dCall fn__law_like [] (dArs [dLV (dFrz (dCall fn__law_between [] (dArs [dSlot 6, dSlot 7, dSlot 5]))), dLV (dFrz (dLst [dC (.str "BadFace"), dVar 5]))]))))))) (dRet (dVal (dC (.bl false)))) (dSkip)
noncomputable def den__law_faces : DenS := dSeq (dFor (asN 1) (dRng1 (dArs [dLV (dC (.int 6))])) (bd__law_faces_6)) (dSeq (dSet 5 (dCallR fn__law_odd 0 [] (dArs [dLV (dC (.int 5))]))) (dSeq (dFor (asN 6) (dIt (dFrz (dLst [dC (.fn "check_face"), dC (.fn "face_axes"), dC (.fn "faces_beside")]))) (bd__law_faces_7)) (dSeq (dSet 7 (dCallR fn__law_take 0 [] (dArs [dLV (dC (.int 6))]))) (dSeq (dFor (asN 6) (dIt (dFrz (dLst [dC (.fn "are_beside"), dC (.fn "edge_between")]))) (bd__law_faces_8)) (dRet (dVal (dC (.bl true))))))))
noncomputable def fn__law_faces : Fn := mkFn 1 9 den__law_faces
theorem fn__law_faces_len (args : List Ent) (h : args.length ≠ 1) : fn__law_faces args = .bad := mkFn_len args h
theorem ok__law_faces (T : Tz K mg) : FnOkG P w K mg base (L2.CX P w) 14 (He.ga K "_law_faces") (fdOf K (He.ga K "_law_faces")) ["_law_hand_here"] (spOf K mg [0] 1 fn__law_faces) := by
  refine fn_ok (N := N__law_faces) (np := 1) (k := 13) (R := [0]) T.F__law_faces sc__law_faces rfl (f := den__law_faces) (fun cdv A outer s H E hr => ?_)
  have tk : Takes (cxOf (L2.CX P w) P w K mg base N__law_faces "_law_faces" (defScope (top 40)) (He.ga K "_law_faces") cdv A outer s H E) (fun cls d _ H => E cls d H) := takes_of rfl rfl rfl rfl
  have hp := passes_of (X := cxOf (L2.CX P w) P w K mg base N__law_faces "_law_faces" (defScope (top 40)) (He.ga K "_law_faces") cdv A outer s H E) rfl
  exact sCons (sFor (own := [1]) hp rfl (sRng1 rfl (T.free (T.c.fact 15)) (sArCons (sLV (sInt)) (sArNil))) (gN (i := 1) (by decide) (nR rfl) sc__law_faces.nd rfl (.inr rfl)) (sCons (sSet (i := 2) (nR rfl) (sCT call_tuple_of sv_tuple rfl (T.free (T.c.fact 16)) bt_tuple (sArCons (sLV (sFrz (sLc (own := [("_law_other", 3)]) (nRs rfl) rfl sc__law_faces.nd (sRng1 rfl (T.free (T.c.fact 15)) (sArCons (sLV (sInt)) (sArNil))) (blkOk_by (N := N__law_faces) (sc := defScope (top 40)) (by decide +kernel)) (fun s H C cl fp => gN (i := 3) (by decide) (nR rfl) sc__law_faces.nd rfl (.inl rfl)) (fun s H C cl fp => sTs1 (sCmpT (op_neD hr.units) sv_ne (sLV (sFrz (sBin op_fdivX sv_div (sSlot (pe_var (i := 3) rfl (.inl rfl))) (sLV (sInt))))) (sLV (sFrz (sBin op_fdivX sv_div (sSlot (pe_var (i := 1) rfl (.inr (.inl rfl)))) (sLV (sInt))))) (nomark _))) (fun s H C cl fp => sVar (pe_var (i := 3) rfl (.inl rfl)))))) (sArNil))) sc__law_faces.nd rfl (.inl rfl)) (sCons (sIfS (sWT (sOrT (sCmpT (op_neD hr.units) sv_ne (sLV (sFrz (sCall rfl rfl (ok_check_face T) (hr.mono (by decide)) rfl (T.glo (T.c.fact 14)) (T.F_check_face).kp T.b_check_face .nil (fun _ => rfl) tk (sArCons (sSlot (pe_var (i := 1) rfl (.inr (.inl rfl)))) (sArNil)) fn_check_face_len))) (sSlot (pe_var (i := 1) rfl (.inr (.inl rfl)))) (nomark _)) (sOrT (sCmpT (op_neD hr.units) sv_ne (sLV (sFrz (sCall rfl rfl (ok_face_axes T) (hr.mono (by decide)) rfl (T.glo (T.c.fact 52)) (T.F_face_axes).kp T.b_face_axes .nil (fun _ => rfl) tk (sArCons (sSlot (pe_var (i := 1) rfl (.inr (.inl rfl)))) (sArNil)) fn_face_axes_len))) (sLV (sFrz (sCall rfl rfl (ok__law_axes T) (hr.mono (by decide)) rfl (T.glo (T.c.fact 53)) (T.F__law_axes).kp T.b__law_axes .nil (fun _ => rfl) tk (sArCons (sSlot (pe_var (i := 1) rfl (.inr (.inl rfl)))) (sArNil)) fn__law_axes_len))) (nomark _)) (sOrT1 (sCmpT (op_neD hr.units) sv_ne (sLV (sFrz (sCall rfl rfl (ok_faces_beside T) (hr.mono (by decide)) rfl (T.glo (T.c.fact 54)) (T.F_faces_beside).kp T.b_faces_beside .nil (fun _ => rfl) tk (sArCons (sSlot (pe_var (i := 1) rfl (.inr (.inl rfl)))) (sArNil)) fn_faces_beside_len))) (sSlot (pe_var (i := 2) rfl (.inl rfl))) (nomark _)))))) (sOne (sRet (sVal (sBl)))) (sNil)) (sOne (sFor (own := [3]) hp rfl (sRng1 rfl (T.free (T.c.fact 15)) (sArCons (sLV (sInt)) (sArNil))) (gN (i := 3) (by decide) (nR rfl) sc__law_faces.nd rfl (.inr rfl)) (sCons (sIfS (sCmpT (op_neD hr.units) sv_ne (sLV (sFrz (sCall rfl rfl (ok_are_beside T) (hr.mono (by decide)) rfl (T.glo (T.c.fact 30)) (T.F_are_beside).kp T.b_are_beside .nil (fun _ => rfl) tk (sArCons (sSlot (pe_var (i := 1) rfl (.inr (.inl rfl)))) (sArCons (sSlot (pe_var (i := 3) rfl (.inr (.inl rfl)))) (sArNil))) fn_are_beside_len))) (sLV (sFrz (sCmp (op_inE (room65 hr)) sv_in (sSlot (pe_var (i := 3) rfl (.inr (.inl rfl)))) (sSlot (pe_var (i := 2) rfl (.inl rfl))) (rfl)))) (nomark _)) (sOne (sRet (sVal (sBl)))) (sNil)) (sCons (sSetLc (own := [("_law_k", 8)]) (i := 4) (nR rfl) (nRs rfl) rfl sc__law_faces.nd rfl rfl (sw_true rfl rfl rfl (by decide +kernel)) (sRng1 rfl (T.free (T.c.fact 15)) (sArCons (sLV (sInt)) (sArNil))) (blkOk_by (N := N__law_faces) (sc := defScope (top 40)) (by decide +kernel)) (fun s H C cl fp => gN (i := 8) (by decide) (nR rfl) sc__law_faces.nd rfl (.inl rfl)) (fun s H C cl fp => sTs1 (sWT (sAndT (sCmpT (op_eqD hr.units) sv_eq (sLV (sFrz (sIx rfl (sLV (sFrz (sCall rfl rfl (ok__law_bits T) (hr.mono (by decide)) rfl (T.glo (T.c.fact 55)) (T.F__law_bits).kp T.b__law_bits .nil (fun _ => rfl) takes0 (sArCons (sSlot (pe_var (i := 8) rfl (.inl rfl))) (sArNil)) fn__law_bits_len))) (sLV (sFrz (sBin op_fdivX sv_div (sSlot (pe_var (i := 1) rfl (.inr (.inl rfl)))) (sLV (sInt)))))))) (sLV (sFrz (sBin op_modN sv_mod (sLV (sFrz (sCT call_int1 sv_int rfl (T.free (T.c.fact 3)) bt_int (sArCons (sSlot (pe_var (i := 1) rfl (.inr (.inl rfl)))) (sArNil))))) (sLV (sInt))))) (nomark _)) (sAndT1 (sCmpT (op_eqD hr.units) sv_eq (sLV (sFrz (sIx rfl (sLV (sFrz (sCall rfl rfl (ok__law_bits T) (hr.mono (by decide)) rfl (T.glo (T.c.fact 55)) (T.F__law_bits).kp T.b__law_bits .nil (fun _ => rfl) takes0 (sArCons (sSlot (pe_var (i := 8) rfl (.inl rfl))) (sArNil)) fn__law_bits_len))) (sLV (sFrz (sBin op_fdivX sv_div (sSlot (pe_var (i := 3) rfl (.inr (.inl rfl)))) (sLV (sInt)))))))) (sLV (sFrz (sBin op_modN sv_mod (sLV (sFrz (sCT call_int1 sv_int rfl (T.free (T.c.fact 3)) bt_int (sArCons (sSlot (pe_var (i := 3) rfl (.inr (.inl rfl)))) (sArNil))))) (sLV (sInt))))) (nomark _)))))) (fun s H C cl fp => sVar (pe_var (i := 8) rfl (.inl rfl)))) (sOne (sIfS (sCmpT (op_inE (room65 hr)) sv_in (sSlot (pe_var (i := 3) rfl (.inr (.inl rfl)))) (sSlot (pe_var (i := 2) rfl (.inl rfl))) (rfl)) (sOne (sIfS (sWT (sOrT (sCmpT (op_neD hr.units) sv_ne (sLV (sFrz (sCall rfl rfl (ok_edge_between T) (hr.mono (by decide)) rfl (T.glo (T.c.fact 56)) (T.F_edge_between).kp T.b_edge_between .nil (fun _ => rfl) tk (sArCons (sSlot (pe_var (i := 1) rfl (.inr (.inl rfl)))) (sArCons (sSlot (pe_var (i := 3) rfl (.inr (.inl rfl)))) (sArNil))) fn_edge_between_len))) (sLV (sFrz (sCT call_tuple_of sv_tuple rfl (T.free (T.c.fact 16)) bt_tuple (sArCons (sSlot (pe_var (i := 4) rfl (.inl rfl))) (sArNil))))) (nomark _)) (sOrT1 (sCmpT (op_neD hr.units) sv_ne (sLV (sFrz (sCall rfl rfl (ok_faces_of_edge T) (hr.mono (by decide)) rfl (T.glo (T.c.fact 57)) (T.F_faces_of_edge).kp T.b_faces_of_edge .nil (fun _ => rfl) tk (sArCons (sSlot (pe_var (i := 4) rfl (.inl rfl))) (sArNil)) fn_faces_of_edge_len))) (sLV (sFrz (sCT call_tuple_of sv_tuple rfl (T.free (T.c.fact 16)) bt_tuple (sArCons (sLV (sFrz (sCB (cr_sortedB hr.units) sv_sortB rfl (T.free (T.c.fact 58)) bt_sorted (sArCons (sLV (sFrz (sLst (sVsCons (sVar (pe_var (i := 1) rfl (.inr (.inl rfl)))) (sVsCons (sVar (pe_var (i := 3) rfl (.inr (.inl rfl)))) (sVsNil)))))) (sArNil))))) (sArNil))))) (nomark _))))) (sOne (sRet (sVal (sBl)))) (sNil))) (sOne (sIfS (sCmpT (op_neD hr.units) sv_ne (sLV (sFrz (sCall rfl rfl (ok__law_between T) (hr.mono (by decide)) rfl (T.glo (T.c.fact 59)) (T.F__law_between).kp T.b__law_between .nil (fun _ => rfl) tk (sArCons (sLV (sFn rfl (T.glo (T.c.fact 56)) rfl)) (sArCons (sSlot (pe_var (i := 1) rfl (.inr (.inl rfl)))) (sArCons (sSlot (pe_var (i := 3) rfl (.inr (.inl rfl)))) (sArNil)))) fn__law_between_len))) (sLV (sFrz (sLst (sVsCons (sStr) (sVsCons (sVar (pe_var (i := 1) rfl (.inr (.inl rfl)))) (sVsCons (sVar (pe_var (i := 3) rfl (.inr (.inl rfl)))) (sVsNil))))))) (nomark _)) (sOne (sRet (sVal (sBl)))) (sNil)))))))))))) (sCons (sSet (i := 5) (nR rfl) (sCallR rfl rfl (ok__law_odd T) (hr.mono (by decide)) rfl (T.glo (T.c.fact 60)) (T.F__law_odd).kp T.b__law_odd .nil (fun _ => rfl) tk (pe_var (i := 0) rfl (.inl rfl)) (sArCons (sLV (sInt)) (sArNil)) fn__law_odd_len) sc__law_faces.nd rfl (.inl rfl)) (sCons (sFor (own := [6]) hp rfl (sIt rfl (sFrz (sLst (sVsCons (sFn rfl (T.glo (T.c.fact 14)) rfl) (sVsCons (sFn rfl (T.glo (T.c.fact 52)) rfl) (sVsCons (sFn rfl (T.glo (T.c.fact 54)) rfl) (sVsNil))))))) (gN (i := 6) (by decide) (nR rfl) sc__law_faces.nd rfl (.inl rfl)) (sOne (sIfS (sNotT (sTru rfl (sLV (sFrz (sCall rfl rfl (ok__law_like T) (hr.mono (by decide)) rfl (T.glo (T.c.fact 61)) (T.F__law_like).kp T.b__law_like .nil (fun _ => rfl) tk (sArCons (sLV (sFrz (sCall rfl rfl (ok__law_asked T) (hr.mono (by decide)) rfl (T.glo (T.c.fact 62)) (T.F__law_asked).kp T.b__law_asked .nil (fun _ => rfl) tk (sArCons (sSlot (pe_var (i := 6) rfl (.inl rfl))) (sArCons (sSlot (pe_var (i := 5) rfl (.inl rfl))) (sArNil))) fn__law_asked_len))) (sArCons (sLV (sFrz (sLst (sVsCons (sStr) (sVsCons (sVar (pe_var (i := 5) rfl (.inl rfl))) (sVsNil)))))) (sArNil))) fn__law_like_len))))) (sOne (sRet (sVal (sBl)))) (sNil)))) (sCons (sSet (i := 7) (nR rfl) (sCallR rfl rfl (ok__law_take T) (hr.mono (by decide)) rfl (T.glo (T.c.fact 39)) (T.F__law_take).kp T.b__law_take .nil (fun _ => rfl) tk (pe_var (i := 0) rfl (.inl rfl)) (sArCons (sLV (sInt)) (sArNil)) fn__law_take_len) sc__law_faces.nd rfl (.inl rfl)) (sCons (sFor (own := [6]) hp rfl (sIt rfl (sFrz (sLst (sVsCons (sFn rfl (T.glo (T.c.fact 30)) rfl) (sVsCons (sFn rfl (T.glo (T.c.fact 56)) rfl) (sVsNil)))))) (gN (i := 6) (by decide) (nR rfl) sc__law_faces.nd rfl (.inl rfl)) (sOne (sIfS (sWT (sOrT (sNotT (sTru rfl (sLV (sFrz (sCall rfl rfl (ok__law_like T) (hr.mono (by decide)) rfl (T.glo (T.c.fact 61)) (T.F__law_like).kp T.b__law_like .nil (fun _ => rfl) tk (sArCons (sLV (sFrz (sCall rfl rfl (ok__law_between T) (hr.mono (by decide)) rfl (T.glo (T.c.fact 59)) (T.F__law_between).kp T.b__law_between .nil (fun _ => rfl) tk (sArCons (sSlot (pe_var (i := 6) rfl (.inl rfl))) (sArCons (sSlot (pe_var (i := 5) rfl (.inl rfl))) (sArCons (sLV (sNeg (sInt))) (sArNil)))) fn__law_between_len))) (sArCons (sLV (sFrz (sLst (sVsCons (sStr) (sVsCons (sVar (pe_var (i := 5) rfl (.inl rfl))) (sVsNil)))))) (sArNil))) fn__law_like_len))))) (sOrT1 (sNotT (sTru rfl (sLV (sFrz (sCall rfl rfl (ok__law_like T) (hr.mono (by decide)) rfl (T.glo (T.c.fact 61)) (T.F__law_like).kp T.b__law_like .nil (fun _ => rfl) tk (sArCons (sLV (sFrz (sCall rfl rfl (ok__law_between T) (hr.mono (by decide)) rfl (T.glo (T.c.fact 59)) (T.F__law_between).kp T.b__law_between .nil (fun _ => rfl) tk (sArCons (sSlot (pe_var (i := 6) rfl (.inl rfl))) (sArCons (sSlot (pe_var (i := 7) rfl (.inl rfl))) (sArCons (sSlot (pe_var (i := 5) rfl (.inl rfl))) (sArNil)))) fn__law_between_len))) (sArCons (sLV (sFrz (sLst (sVsCons (sStr) (sVsCons (sVar (pe_var (i := 5) rfl (.inl rfl))) (sVsNil)))))) (sArNil))) fn__law_like_len)))))))) (sOne (sRet (sVal (sBl)))) (sNil)))) (sOne (sRet (sVal (sBl))))))))
/-! _law_edges -/
abbrev N__law_edges : List Str := ["_law_hand_here", "_law_due", "_law_one", "_law_other", "_law_edge", "_law_corner", "_law_bits_here", "_law_couple", "_law_fits", "_law_good", "_law_found", "_law_odd_here", "_law_k"]
theorem sc__law_edges : FnScope N__law_edges ["_law_hand_here"] (defScope (top 41)) := ⟨rfl, rfl, rfl, by decide +kernel, rfl, by decide +kernel, by decide +kernel⟩
noncomputable def el__law_edges_1 : DenV := dFrz (dCB gAbs (dArs [dLV (dFrz (dBin gSub (dLV (dFrz (dBin gIx (dLV (dFrz (dCall fn__law_bits [] (dArs [dSlot 2])))) (dSlot 12)))) (dLV (dFrz (dBin gIx (dLV (dFrz (dCall fn__law_bits [] (dArs [dSlot 3])))) (dSlot 12))))))]))
noncomputable def bd__law_edges_2 : DenS := dIfS (dTB (dBin gEq (dLV (dFrz (dCB gSum (dArs [dLV (dFrz (dLc [12] (asN 12) (dRng1 (dArs [dLV (dC (.int 3))])) (dTrue) (el__law_edges_1)))])))) (dLV (dC (.int 1))))) (dExp (dApp 1 (dTup [dVar 2, dVar 3]))) (dSkip)
noncomputable def bd__law_edges_3 : DenS := dFor (asN 3) (dRng2 (dArs [dLV (dFrz (dBin gAdd (dSlot 2) (dLV (dC (.int 1))))), dLV (dC (.int 8))])) (bd__law_edges_2)
noncomputable def bd__law_edges_4 : DenS := dIfS (dOrT (dTB (dBin gNe (dLV (dFrz (dCall fn_check_edge [] (dArs [dLV (dFrz (dLst [dFrz (dBin gIx (dSlot 4) (dLV (dC (.int 1)))), dFrz (dBin gIx (dSlot 4) (dLV (dC (.int 0))))]))])))) (dSlot 4))) (dTB (dBin gNe (dLV (dFrz (dCall fn_check_edge [] (dArs [dSlot 4])))) (dSlot 4)))) (dRet (dVal (dC (.bl false)))) (dSkip)
noncomputable def bd__law_edges_5 : DenS := dSeq (dSet 6 (dCall fn__law_bits [] (dArs [dSlot 5]))) (dIfS (dOrT (dTB (dBin gNe (dLV (dFrz (dCall fn_check_corner [] (dArs [dSlot 5])))) (dSlot 5))) (dTB (dBin gNe (dLV (dFrz (dCall fn_faces_of_corner [] (dArs [dSlot 5])))) (dLV (dTup [dFrz (dBin gIx (dSlot 6) (dLV (dC (.int 0)))), dFrz (dBin gAdd (dLV (dC (.int 2))) (dLV (dFrz (dBin gIx (dSlot 6) (dLV (dC (.int 1))))))), dFrz (dBin gAdd (dLV (dC (.int 4))) (dLV (dFrz (dBin gIx (dSlot 6) (dLV (dC (.int 2)))))))]))))) (dRet (dVal (dC (.bl false)))) (dSkip))
noncomputable def den__law_edges : DenS := dSeq (dSet 1 (dLst [])) (dSeq (dFor (asN 2) (dRng1 (dArs [dLV (dC (.int 8))])) (bd__law_edges_3)) (dSeq (dIfS (dTB (dBin gNe (dLV (dFrz (dCall0 fn_all_edges []))) (dLV (dFrz (dCB gTuple (dArs [dSlot 1])))))) (dRet (dVal (dC (.bl false)))) (dSkip)) (dSeq (dFor (asN 4) (dIt (dVar 1)) (bd__law_edges_4)) (dSeq (dFor (asN 5) (dRng1 (dArs [dLV (dC (.int 8))])) (bd__law_edges_5)) (dSeq (dSet 2 (dCallR fn__law_take 0 [] (dArs [dLV (dC (.int 8))]))) (dSeq (dSet 3 (dCallR fn__law_take 0 [] (dArs [dLV (dC (.int 8))]))) (dSeq (dSet 7 (dBin gIx (dLV (dFrz (dLst [dTup [dVar 2, dVar 3], dFrz (dLst [dVar 3, dVar 2]), dTup [dVar 2, dFrz (dCallR fn__law_odd 0 [] (dArs [dLV (dC (.int 7))]))], dTup [dVar 2], dTup [dC (.int 0), dC (.int 1), dC (.int 3)], dTup [dFrz (dCallR fn__law_odd 0 [] (dArs [dLV (dC (.int 7))])), dVar 3], dVar 2]))) (dLV (dFrz (dCallR fn__law_take 0 [] (dArs [dLV (dC (.int 7))])))))) (dSeq (dSet 8 (dVal (dAndV (dIsi ["list", "tuple"] (dSlot 7)) (dAndV (dFrz (dBin gEq (dLV (dFrz (dCB gLen (dArs [dSlot 7])))) (dLV (dC (.int 2))))) (dAndV (dFrz (dCall fn__law_whole [] (dArs [dLV (dFrz (dBin gIx (dSlot 7) (dLV (dC (.int 0))))), dLV (dC (.int 0)), dLV (dC (.int 7))]))) (dFrz (dCall fn__law_whole [] (dArs [dLV (dFrz (dBin gIx (dSlot 7) (dLV (dC (.int 1))))), dLV (dC (.int 0)), dLV (dC (.int 7))])))))))) (dSeq (dSet 9 (dIfF (dTru (dSlot 8)) (dCB gTuple (dArs [dLV (dFrz (dCB gSortB (dArs [dSlot 7])))])) (dVal (dC .non)))) (dSeq (dSet 10 (dCall fn__law_asked [] (dArs [dLV (dC (.fn "check_edge")), dSlot 7]))) (dSeq (dIfS (dTB (dBin gIn (dSlot 9) (dSlot 1))) (dIfS (dOrT (dTB (dBin gNe (dSlot 10) (dSlot 9))) (dTB (dBin gNe (dLV (dFrz (dCall fn__law_asked [] (dArs [dLV (dC (.fn "faces_of_edge")), dSlot 7])))) (dLV (dFrz (dCall fn_faces_of_edge [] (dArs [dSlot 9]))))))) (dRet (dVal (dC (.bl false)))) (dSkip)) (dIfS (dOrT (dNotT (dTru (dLV (dFrz (dCall fn__law_like [] (dArs [dSlot 10, dLV (dFrz (dLst [dC (.str "BadEdge"), dVar 7]))])))))) (dNotT (dTru (dLV (dFrz (dCall fn__law_like [] (dArs [dLV (dFrz (dCall fn__law_asked [] (dArs [dLV (dC (.fn "faces_of_edge")), dSlot 7]))), dLV (dFrz (dLst [dC (.str "BadEdge"), dVar 7]))]))))))) (dRet (dVal (dC (.bl false)))) (dSkip))) (dSeq (dSet 11 (dCallR fn__law_odd 0 [] (dArs [dLV (dC (.int 7))]))) (dRet (dVal (dAndV (dFrz (dCall fn__law_like [] (dArs [dLV (dFrz (dCall fn__law_asked [] (dArs [dLV (dC (.fn "check_corner")), dSlot 11]))), dLV (dFrz (dLst [dC (.str "BadCorner"), dVar 11]))]))) (dFrz (dCall fn__law_like [] (dArs [dLV (dFrz (dCall fn__law_asked [] (dArs [dLV (dC (.fn "faces_of_corner")), dSlot 11]))), dLV (dFrz (dLst [dC (.str "BadCorner"), dVar 11]))]))))))))))))))))))
noncomputable def fn__law_edges : Fn := mkFn 1 13 den__law_edges
theorem fn__law_edges_len (args : List Ent) (h : args.length ≠ 1) : fn__law_edges args = .bad := mkFn_len args h
theorem ok__law_edges (T : Tz K mg) : FnOkG P w K mg base (L2.CX P w) 14 (He.ga K "_law_edges") (fdOf K (He.ga K "_law_edges")) ["_law_hand_here"] (spOf K mg [0] 1 fn__law_edges) := by
  refine fn_ok (N := N__law_edges) (np := 1) (k := 13) (R := [0]) T.F__law_edges sc__law_edges rfl (f := den__law_edges) (fun cdv A outer s H E hr => ?_)
  have tk : Takes (cxOf (L2.CX P w) P w K mg base N__law_edges "_law_edges" (defScope (top 41)) (He.ga K "_law_edges") cdv A outer s H E) (fun cls d _ H => E cls d H) := takes_of rfl rfl rfl rfl
  have hp := passes_of (X := cxOf (L2.CX P w) P w K mg base N__law_edges "_law_edges" (defScope (top 41)) (He.ga K "_law_edges") cdv A outer s H E) rfl
  exact sCons (sSet (i := 1) (nR rfl) (sLst (sVsNil)) sc__law_edges.nd rfl (.inl rfl)) (sCons (sFor (own := [2]) hp rfl (sRng1 rfl (T.free (T.c.fact 15)) (sArCons (sLV (sInt)) (sArNil))) (gN (i := 2) (by decide) (nR rfl) sc__law_edges.nd rfl (.inr rfl)) (sOne (sFor (own := [3]) hp rfl (sRng2 rfl (T.free (T.c.fact 15)) (sArCons (sLV (sFrz (sBin op_addE sv_add (sSlot (pe_var (i := 2) rfl (.inr (.inl rfl)))) (sLV (sInt))))) (sArCons (sLV (sInt)) (sArNil)))) (gN (i := 3) (by decide) (nR rfl) sc__law_edges.nd rfl (.inr rfl)) (sOne (sIfS (sCmpT (op_eqD hr.units) sv_eq (sLV (sFrz (sCB (cr_sum rfl) sv_sum rfl (T.free (T.c.fact 63)) bt_sum (sArCons (sLV (sFrz (sLc (own := [("_law_k", 12)]) (nRs rfl) rfl sc__law_edges.nd (sRng1 rfl (T.free (T.c.fact 15)) (sArCons (sLV (sInt)) (sArNil))) (blkOk_by (N := N__law_edges) (sc := defScope (top 41)) (by decide +kernel)) (fun s H C cl fp => gN (i := 12) (by decide) (nR rfl) sc__law_edges.nd rfl (.inl rfl)) (fun s H C cl fp => sTs0) (fun s H C cl fp => sFrz (sCB call_abs sv_abs rfl (T.free (T.c.fact 36)) bt_abs (sArCons (sLV (sFrz (sBin op_sub sv_sub (sLV (sFrz (sIx rfl (sLV (sFrz (sCall rfl rfl (ok__law_bits T) (hr.mono (by decide)) rfl (T.glo (T.c.fact 55)) (T.F__law_bits).kp T.b__law_bits .nil (fun _ => rfl) takes0 (sArCons (sSlot (pe_var (i := 2) rfl (.inr (.inl rfl)))) (sArNil)) fn__law_bits_len))) (sSlot (pe_var (i := 12) rfl (.inl rfl)))))) (sLV (sFrz (sIx rfl (sLV (sFrz (sCall rfl rfl (ok__law_bits T) (hr.mono (by decide)) rfl (T.glo (T.c.fact 55)) (T.F__law_bits).kp T.b__law_bits .nil (fun _ => rfl) takes0 (sArCons (sSlot (pe_var (i := 3) rfl (.inr (.inl rfl)))) (sArNil)) fn__law_bits_len))) (sSlot (pe_var (i := 12) rfl (.inl rfl))))))))) (sArNil))))))) (sArNil))))) (sLV (sInt)) (nomark _)) (sOne (sExp (sApp rfl (pe_var (i := 1) rfl (.inl rfl)) (sTup (sVsCons (sVar (pe_var (i := 2) rfl (.inr (.inl rfl)))) (sVsCons (sVar (pe_var (i := 3) rfl (.inr (.inl rfl)))) (sVsNil))))))) (sNil)))))) (sCons (sIfS (sCmpT (op_neD hr.units) sv_ne (sLV (sFrz (sCall0 rfl rfl (ok_all_edges T) (hr.mono (by decide)) rfl (T.glo (T.c.fact 27)) (T.F_all_edges).kp T.b_all_edges .nil (fun _ => rfl) tk fn_all_edges_len))) (sLV (sFrz (sCT call_tuple_of sv_tuple rfl (T.free (T.c.fact 16)) bt_tuple (sArCons (sSlot (pe_var (i := 1) rfl (.inl rfl))) (sArNil))))) (nomark _)) (sOne (sRet (sVal (sBl)))) (sNil)) (sCons (sFor (own := [4]) hp rfl (sIt rfl (sVar (pe_var (i := 1) rfl (.inl rfl)))) (gN (i := 4) (by decide) (nR rfl) sc__law_edges.nd rfl (.inl rfl)) (sOne (sIfS (sWT (sOrT (sCmpT (op_neD hr.units) sv_ne (sLV (sFrz (sCall rfl rfl (ok_check_edge T) (hr.mono (by decide)) rfl (T.glo (T.c.fact 28)) (T.F_check_edge).kp T.b_check_edge .nil (fun _ => rfl) tk (sArCons (sLV (sFrz (sLst (sVsCons (sFrz (sIx rfl (sSlot (pe_var (i := 4) rfl (.inl rfl))) (sLV (sInt)))) (sVsCons (sFrz (sIx rfl (sSlot (pe_var (i := 4) rfl (.inl rfl))) (sLV (sInt)))) (sVsNil)))))) (sArNil)) fn_check_edge_len))) (sSlot (pe_var (i := 4) rfl (.inl rfl))) (nomark _)) (sOrT1 (sCmpT (op_neD hr.units) sv_ne (sLV (sFrz (sCall rfl rfl (ok_check_edge T) (hr.mono (by decide)) rfl (T.glo (T.c.fact 28)) (T.F_check_edge).kp T.b_check_edge .nil (fun _ => rfl) tk (sArCons (sSlot (pe_var (i := 4) rfl (.inl rfl))) (sArNil)) fn_check_edge_len))) (sSlot (pe_var (i := 4) rfl (.inl rfl))) (nomark _))))) (sOne (sRet (sVal (sBl)))) (sNil)))) (sCons (sFor (own := [5]) hp rfl (sRng1 rfl (T.free (T.c.fact 15)) (sArCons (sLV (sInt)) (sArNil))) (gN (i := 5) (by decide) (nR rfl) sc__law_edges.nd rfl (.inl rfl)) (sCons (sSet (i := 6) (nR rfl) (sCall rfl rfl (ok__law_bits T) (hr.mono (by decide)) rfl (T.glo (T.c.fact 55)) (T.F__law_bits).kp T.b__law_bits .nil (fun _ => rfl) tk (sArCons (sSlot (pe_var (i := 5) rfl (.inl rfl))) (sArNil)) fn__law_bits_len) sc__law_edges.nd rfl (.inl rfl)) (sOne (sIfS (sWT (sOrT (sCmpT (op_neD hr.units) sv_ne (sLV (sFrz (sCall rfl rfl (ok_check_corner T) (hr.mono (by decide)) rfl (T.glo (T.c.fact 18)) (T.F_check_corner).kp T.b_check_corner .nil (fun _ => rfl) tk (sArCons (sSlot (pe_var (i := 5) rfl (.inl rfl))) (sArNil)) fn_check_corner_len))) (sSlot (pe_var (i := 5) rfl (.inl rfl))) (nomark _)) (sOrT1 (sCmpT (op_neD hr.units) sv_ne (sLV (sFrz (sCall rfl rfl (ok_faces_of_corner T) (hr.mono (by decide)) rfl (T.glo (T.c.fact 29)) (T.F_faces_of_corner).kp T.b_faces_of_corner .nil (fun _ => rfl) tk (sArCons (sSlot (pe_var (i := 5) rfl (.inl rfl))) (sArNil)) fn_faces_of_corner_len))) (sLV (sTup (sVsCons (sFrz (sIx rfl (sSlot (pe_var (i := 6) rfl (.inl rfl))) (sLV (sInt)))) (sVsCons (sFrz (sBin op_addE sv_add (sLV (sInt)) (sLV (sFrz (sIx rfl (sSlot (pe_var (i := 6) rfl (.inl rfl))) (sLV (sInt))))))) (sVsCons (sFrz (sBin op_addE sv_add (sLV (sInt)) (sLV (sFrz (sIx rfl (sSlot (pe_var (i := 6) rfl (.inl rfl))) (sLV (sInt))))))) (sVsNil)))))) (nomark _))))) (sOne (sRet (sVal (sBl)))) (sNil))))) (sCons (sSet (i := 2) (nR rfl) (sCallR rfl rfl (ok__law_take T) (hr.mono (by decide)) rfl (T.glo (T.c.fact 39)) (T.F__law_take).kp T.b__law_take .nil (fun _ => rfl) tk (pe_var (i := 0) rfl (.inl rfl)) (sArCons (sLV (sInt)) (sArNil)) fn__law_take_len) sc__law_edges.nd rfl (.inr rfl)) (sCons (sSet (i := 3) (nR rfl) (sCallR rfl rfl (ok__law_take T) (hr.mono (by decide)) rfl (T.glo (T.c.fact 39)) (T.F__law_take).kp T.b__law_take .nil (fun _ => rfl) tk (pe_var (i := 0) rfl (.inl rfl)) (sArCons (sLV (sInt)) (sArNil)) fn__law_take_len) sc__law_edges.nd rfl (.inr rfl)) (sCons (sSet (i := 7) (nR rfl) (sIx rfl (sLV (sFrz (sLst (sVsCons (sTup (sVsCons (sVar (pe_var (i := 2) rfl (.inr (.inl rfl)))) (sVsCons (sVar (pe_var (i := 3) rfl (.inr (.inl rfl)))) (sVsNil)))) (sVsCons (sFrz (sLst (sVsCons (sVar (pe_var (i := 3) rfl (.inr (.inl rfl)))) (sVsCons (sVar (pe_var (i := 2) rfl (.inr (.inl rfl)))) (sVsNil))))) (sVsCons (sTup (sVsCons (sVar (pe_var (i := 2) rfl (.inr (.inl rfl)))) (sVsCons (sFrz (sCallR rfl rfl (ok__law_odd T) (hr.mono (by decide)) rfl (T.glo (T.c.fact 60)) (T.F__law_odd).kp T.b__law_odd .nil (fun _ => rfl) tk (pe_var (i := 0) rfl (.inl rfl)) (sArCons (sLV (sInt)) (sArNil)) fn__law_odd_len)) (sVsNil)))) (sVsCons (sTup (sVsCons (sVar (pe_var (i := 2) rfl (.inr (.inl rfl)))) (sVsNil))) (sVsCons (sTup (sVsCons (sInt) (sVsCons (sInt) (sVsCons (sInt) (sVsNil))))) (sVsCons (sTup (sVsCons (sFrz (sCallR rfl rfl (ok__law_odd T) (hr.mono (by decide)) rfl (T.glo (T.c.fact 60)) (T.F__law_odd).kp T.b__law_odd .nil (fun _ => rfl) tk (pe_var (i := 0) rfl (.inl rfl)) (sArCons (sLV (sInt)) (sArNil)) fn__law_odd_len)) (sVsCons (sVar (pe_var (i := 3) rfl (.inr (.inl rfl)))) (sVsNil)))) (sVsCons (sVar (pe_var (i := 2) rfl (.inr (.inl rfl)))) (sVsNil))))))))))) (sLV (sFrz (sCallR rfl rfl (ok__law_take T) (hr.mono (by decide)) rfl (T.glo (T.c.fact 39)) (T.F__law_take).kp T.b__law_take .nil (fun _ => rfl) tk (pe_var (i := 0) rfl (.inl rfl)) (sArCons (sLV (sInt)) (sArNil)) fn__law_take_len)))) sc__law_edges.nd rfl (.inl rfl)) (sCons (sSet (i := 8) (nR rfl) (sVal (sAndV (sIsiT rfl rfl (T.free (T.c.fact 1)) bt_isinstance (sSlot (pe_var (i := 7) rfl (.inl rfl))) (.cons (pe_bltn rfl (T.free (T.c.fact 19)) bt_list rfl) rfl (.cons (pe_bltn rfl (T.free (T.c.fact 16)) bt_tuple rfl) rfl .nil)) rfl (by decide)) (sAndV (sFrz (sCmp (op_eqD hr.units) sv_eq (sLV (sFrz (sCB call_lenE sv_len rfl (T.free (T.c.fact 20)) bt_len (sArCons (sSlot (pe_var (i := 7) rfl (.inl rfl))) (sArNil))))) (sLV (sInt)) (nomark _))) (sAndV (sFrz (sCall rfl rfl (ok__law_whole T) (hr.mono (by decide)) rfl (T.glo (T.c.fact 64)) (T.F__law_whole).kp T.b__law_whole .nil (fun _ => rfl) tk (sArCons (sLV (sFrz (sIx rfl (sSlot (pe_var (i := 7) rfl (.inl rfl))) (sLV (sInt))))) (sArCons (sLV (sInt)) (sArCons (sLV (sInt)) (sArNil)))) fn__law_whole_len)) (sOneV (sFrz (sCall rfl rfl (ok__law_whole T) (hr.mono (by decide)) rfl (T.glo (T.c.fact 64)) (T.F__law_whole).kp T.b__law_whole .nil (fun _ => rfl) tk (sArCons (sLV (sFrz (sIx rfl (sSlot (pe_var (i := 7) rfl (.inl rfl))) (sLV (sInt))))) (sArCons (sLV (sInt)) (sArCons (sLV (sInt)) (sArNil)))) fn__law_whole_len))))))) sc__law_edges.nd rfl (.inl rfl)) (sCons (sSet (i := 9) (nR rfl) (sIfF (sTru rfl (sSlot (pe_var (i := 8) rfl (.inl rfl)))) (sCT call_tuple_of sv_tuple rfl (T.free (T.c.fact 16)) bt_tuple (sArCons (sLV (sFrz (sCB (cr_sortedB hr.units) sv_sortB rfl (T.free (T.c.fact 58)) bt_sorted (sArCons (sSlot (pe_var (i := 7) rfl (.inl rfl))) (sArNil))))) (sArNil))) (sVal (sNon))) sc__law_edges.nd rfl (.inl rfl)) (sCons (sSet (i := 10) (nR rfl) (sCall rfl rfl (ok__law_asked T) (hr.mono (by decide)) rfl (T.glo (T.c.fact 62)) (T.F__law_asked).kp T.b__law_asked .nil (fun _ => rfl) tk (sArCons (sLV (sFn rfl (T.glo (T.c.fact 28)) rfl)) (sArCons (sSlot (pe_var (i := 7) rfl (.inl rfl))) (sArNil))) fn__law_asked_len) sc__law_edges.nd rfl (.inl rfl)) (sCons (sIfS (sCmpT (op_inE (room65 hr)) sv_in (sSlot (pe_var (i := 9) rfl (.inl rfl))) (sSlot (pe_var (i := 1) rfl (.inl rfl))) (rfl)) (sOne (sIfS (sWT (sOrT (sCmpT (op_neD hr.units) sv_ne (sSlot (pe_var (i := 10) rfl (.inl rfl))) (sSlot (pe_var (i := 9) rfl (.inl rfl))) (nomark _)) (sOrT1 (sCmpT (op_neD hr.units) sv_ne (sLV (sFrz (sCall rfl rfl (ok__law_asked T) (hr.mono (by decide)) rfl (T.glo (T.c.fact 62)) (T.F__law_asked).kp T.b__law_asked .nil (fun _ => rfl) tk (sArCons (sLV (sFn rfl (T.glo (T.c.fact 57)) rfl)) (sArCons (sSlot (pe_var (i := 7) rfl (.inl rfl))) (sArNil))) fn__law_asked_len))) (sLV (sFrz (sCall rfl rfl (ok_faces_of_edge T) (hr.mono (by decide)) rfl (T.glo (T.c.fact 57)) (T.F_faces_of_edge).kp T.b_faces_of_edge .nil (fun _ => rfl) tk (sArCons (sSlot (pe_var (i := 9) rfl (.inl rfl))) (sArNil)) fn_faces_of_edge_len))) (nomark _))))) (sOne (sRet (sVal (sBl)))) (sNil))) (sOne (sIfS (sWT (sOrT (sNotT (sTru rfl (sLV (sFrz (sCall rfl rfl (ok__law_like T) (hr.mono (by decide)) rfl (T.glo (T.c.fact 61)) (T.F__law_like).kp T.b__law_like .nil (fun _ => rfl) tk (sArCons (sSlot (pe_var (i := 10) rfl (.inl rfl))) (sArCons (sLV (sFrz (sLst (sVsCons (sStr) (sVsCons (sVar (pe_var (i := 7) rfl (.inl rfl))) (sVsNil)))))) (sArNil))) fn__law_like_len))))) (sOrT1 (sNotT (sTru rfl (sLV (sFrz (sCall rfl rfl (ok__law_like T) (hr.mono (by decide)) rfl (T.glo (T.c.fact 61)) (T.F__law_like).kp T.b__law_like .nil (fun _ => rfl) tk (sArCons (sLV (sFrz (sCall rfl rfl (ok__law_asked T) (hr.mono (by decide)) rfl (T.glo (T.c.fact 62)) (T.F__law_asked).kp T.b__law_asked .nil (fun _ => rfl) tk (sArCons (sLV (sFn rfl (T.glo (T.c.fact 57)) rfl)) (sArCons (sSlot (pe_var (i := 7) rfl (.inl rfl))) (sArNil))) fn__law_asked_len))) (sArCons (sLV (sFrz (sLst (sVsCons (sStr) (sVsCons (sVar (pe_var (i := 7) rfl (.inl rfl))) (sVsNil)))))) (sArNil))) fn__law_like_len)))))))) (sOne (sRet (sVal (sBl)))) (sNil)))) (sCons (sSet (i := 11) (nR rfl) (sCallR rfl rfl (ok__law_odd T) (hr.mono (by decide)) rfl (T.glo (T.c.fact 60)) (T.F__law_odd).kp T.b__law_odd .nil (fun _ => rfl) tk (pe_var (i := 0) rfl (.inl rfl)) (sArCons (sLV (sInt)) (sArNil)) fn__law_odd_len) sc__law_edges.nd rfl (.inl rfl)) (sOne (sRet (sVal (sAndV (sFrz (sCall rfl rfl (ok__law_like T) (hr.mono (by decide)) rfl (T.glo (T.c.fact 61)) (T.F__law_like).kp T.b__law_like .nil (fun _ => rfl) tk (sArCons (sLV (sFrz (sCall rfl rfl (ok__law_asked T) (hr.mono (by decide)) rfl (T.glo (T.c.fact 62)) (T.F__law_asked).kp T.b__law_asked .nil (fun _ => rfl) tk (sArCons (sLV (sFn rfl (T.glo (T.c.fact 18)) rfl)) (sArCons (sSlot (pe_var (i := 11) rfl (.inl rfl))) (sArNil))) fn__law_asked_len))) (sArCons (sLV (sFrz (sLst (sVsCons (sStr) (sVsCons (sVar (pe_var (i := 11) rfl (.inl rfl))) (sVsNil)))))) (sArNil))) fn__law_like_len)) (sOneV (sFrz (sCall rfl rfl (ok__law_like T) (hr.mono (by decide)) rfl (T.glo (T.c.fact 61)) (T.F__law_like).kp T.b__law_like .nil (fun _ => rfl) tk (sArCons (sLV (sFrz (sCall rfl rfl (ok__law_asked T) (hr.mono (by decide)) rfl (T.glo (T.c.fact 62)) (T.F__law_asked).kp T.b__law_asked .nil (fun _ => rfl) tk (sArCons (sLV (sFn rfl (T.glo (T.c.fact 29)) rfl)) (sArCons (sSlot (pe_var (i := 11) rfl (.inl rfl))) (sArNil))) fn__law_asked_len))) (sArCons (sLV (sFrz (sLst (sVsCons (sStr) (sVsCons (sVar (pe_var (i := 11) rfl (.inl rfl))) (sVsNil)))))) (sArNil))) fn__law_like_len)))))))))))))))))))
/-! law -/
abbrev N_law : List Str := ["_law_script", "_law_hand_here", "_law_sides", "_law_given", "_law_box_here", "_law_a", "_law_b", "_law_c", "_law_places", "_law_corner", "_law_bits_here", "_law_other", "_law_rows", "_law_index", "_law_found", "_law_axis", "_law_side"]
theorem sc_law : FnScope N_law ["_law_script"] (defScope (top 43)) := ⟨rfl, rfl, rfl, by decide +kernel, rfl, by decide +kernel, by decide +kernel⟩
noncomputable def el_law_1 : DenV := dFrz (dBin gAdd (dLV (dC (.int 1))) (dLV (dFrz (dCallR fn__law_take 1 [] (dArs [dLV (dC (.int 60))])))))
noncomputable def el_law_2 : DenV := dTup [dFrz (dBin gMul (dLV (dFrz (dBin gIx (dSlot 10) (dSlot 15)))) (dLV (dFrz (dBin gIx (dSlot 2) (dSlot 15))))), dC (.int 1)]
noncomputable def bd_law_3 : DenS := dSeq (dSet 10 (dCall fn__law_bits [] (dArs [dSlot 9]))) (dExp (dApp 8 (dFrz (dCB gTuple (dArs [dLV (dFrz (dLc [15] (asN 15) (dRng1 (dArs [dLV (dC (.int 3))])) (dTrue) (el_law_2)))])))))
noncomputable def el_law_4 : DenV := dIf (dTB (dBin gEq (dLV (dFrz (dCallR fn__law_take 1 [] (dArs [dLV (dC (.int 2))])))) (dLV (dC (.int 0))))) (dFrz (dBin gAdd (dLV (dC (.int 1))) (dLV (dFrz (dCallR fn__law_take 1 [] (dArs [dLV (dC (.int 60))])))))) (dVar 16)
noncomputable def den_law : DenS := dSeq (dSet 1 (dCall fn__law_hand [] (dArs [dSlot 0]))) (dSeq (dSet 2 (dLc [15] (asN 15) (dRng1 (dArs [dLV (dC (.int 3))])) (dTrue) (el_law_1))) (dSeq (dSet 3 (dCallR fn__law_shaped 1 [] (dArs [dSlot 2]))) (dSeq (dSet 4 (dCallU fn__law_box [] (dArs [dSlot 3]))) (dSeq (dIfS (dOrT (dNotT (dTru (dLV (dIsK (isOwn [("Box", true)]) (dSlot 4))))) (dOrT (dTB (dBin gNe (dLV (dAt ["Box"] "sides" (dSlot 4))) (dLV (dFrz (dCB gTuple (dArs [dSlot 2])))))) (dNotT (dTru (dLV (dFrz (dCall fn__law_tuples [] (dArs [dLV (dAt ["Box"] "sides" (dSlot 4))])))))))) (dRet (dVal (dC (.bl false)))) (dSkip)) (dSeq (dIfS (dTru (dLV (dIsi ["list"] (dSlot 3)))) (dPut 3 (dC (.int 0)) (dC (.int 0))) (dSkip)) (dSeq (dAsg (asT 3 (asCons (asN 5) (asCons (asN 6) (asCons (asN 7) (asNil))))) (dVar 2)) (dSeq (dIfS (dOrT (dTB (dBin gNe (dLV (dAt ["Box"] "sides" (dSlot 4))) (dLV (dTup [dVar 5, dVar 6, dVar 7])))) (dTB (dBin gNe (dLV (dFrz (dProp "Box" fn_pr_Box_skin_area (dVar 4)))) (dLV (dFrz (dBin gMul (dLV (dC (.int 2))) (dLV (dFrz (dBin gAdd (dLV (dFrz (dBin gAdd (dLV (dFrz (dBin gMul (dSlot 5) (dSlot 6)))) (dLV (dFrz (dBin gMul (dSlot 6) (dSlot 7))))))) (dLV (dFrz (dBin gMul (dSlot 7) (dSlot 5))))))))))))) (dRet (dVal (dC (.bl false)))) (dSkip)) (dSeq (dSet 8 (dLst [])) (dSeq (dFor (asN 9) (dRng1 (dArs [dLV (dC (.int 8))])) (bd_law_3)) (dSeq (dIfS (dOrT (dTB (dBin gNe (dLV (dFrz (dProp "Box" fn_pr_Box_corner_places (dVar 4)))) (dLV (dFrz (dCB gTuple (dArs [dSlot 8])))))) (dNotT (dTru (dLV (dFrz (dCall fn__law_tuples [] (dArs [dLV (dFrz (dProp "Box" fn_pr_Box_corner_places (dVar 4)))]))))))) (dRet (dVal (dC (.bl false)))) (dSkip)) (dSeq (dSet 11 (dLc [16] (asN 16) (dIt (dVar 2)) (dTrue) (el_law_4))) (dSeq (dIfS (dOrT (dTB (dBin gNe (dLV (dFrz (dBin (gOwn eqT_Box false) (dLV (dMake "Box" ["sides"] fnI_Box [] (dVs [dVar 11]))) (dSlot 4)))) (dLV (dFrz (dBin gEq (dSlot 11) (dSlot 2)))))) (dTB (dBin gNe (dLV (dFrz (dBin (gOwn eqT_Box true) (dLV (dMake "Box" ["sides"] fnI_Box [] (dVs [dVar 11]))) (dSlot 4)))) (dLV (dFrz (dBin gNe (dSlot 11) (dSlot 2))))))) (dRet (dVal (dC (.bl false)))) (dSkip)) (dSeq (dAsg (asT 2 (asCons (asN 12) (asCons (asN 13) (asNil)))) (dFrz (dCallR fn__law_spoilt 1 [] (dArs [dSlot 2])))) (dSeq (dSet 14 (dCall fn__law_box [] (dArs [dSlot 12]))) (dSeq (dIfS (dTB (dBin gIs (dSlot 13) (dLV (dC .non)))) (dIfS (dOrT (dNotT (dTru (dLV (dIsK (isOwn [("Box", true)]) (dSlot 14))))) (dTB (dBin (gOwn eqT_Box true) (dSlot 14) (dSlot 4)))) (dRet (dVal (dC (.bl false)))) (dSkip)) (dIfS (dTB (dBin gNe (dSlot 14) (dLV (dFrz (dLst [dC (.str "BadBox"), dVar 13]))))) (dRet (dVal (dC (.bl false)))) (dSkip))) (dRet (dVal (dAndV (dFrz (dCallR fn__law_faces 1 [] (dArs []))) (dAndV (dFrz (dCallR fn__law_edges 1 [] (dArs []))) (dFrz (dBin gEq (dLV (dAt ["Box"] "sides" (dSlot 4))) (dLV (dFrz (dCB gTuple (dArs [dSlot 2])))))))))))))))))))))))))
noncomputable def fn_law : Fn := mkFn 1 17 den_law
theorem fn_law_len (args : List Ent) (h : args.length ≠ 1) : fn_law args = .bad := mkFn_len args h
theorem ok_law (T : Tz K mg) : FnOkG P w K mg base (L2.CX P w) 15 (He.ga K "law") (fdOf K (He.ga K "law")) ["_law_script"] (spOf K mg [] 1 fn_law) := by
  refine fn_ok (N := N_law) (np := 1) (k := 14) (R := []) T.F_law sc_law rfl (f := den_law) (fun cdv A outer s H E hr => ?_)
  have tk : Takes (cxOf (L2.CX P w) P w K mg base N_law "law" (defScope (top 43)) (He.ga K "law") cdv A outer s H E) (fun cls d _ H => E cls d H) := takes_of rfl rfl rfl rfl
  have hp := passes_of (X := cxOf (L2.CX P w) P w K mg base N_law "law" (defScope (top 43)) (He.ga K "law") cdv A outer s H E) rfl
  exact sCons (sSet (i := 1) (nR rfl) (sCall rfl rfl (ok__law_hand T) (hr.mono (by decide)) rfl (T.glo (T.c.fact 66)) (T.F__law_hand).kp T.b__law_hand .nil (fun _ => rfl) tk (sArCons (sSlot (pe_var (i := 0) rfl (.inl rfl))) (sArNil)) fn__law_hand_len) sc_law.nd rfl (.inr rfl)) (sCons (sSet (i := 2) (nR rfl) (sLc (own := [("_law_axis", 15)]) (nRs rfl) rfl sc_law.nd (sRng1 rfl (T.free (T.c.fact 15)) (sArCons (sLV (sInt)) (sArNil))) (blkOk_by (N := N_law) (sc := defScope (top 43)) (by decide +kernel)) (fun s H C cl fp => gN (i := 15) (by decide) (nR rfl) sc_law.nd rfl (.inl rfl)) (fun s H C cl fp => sTs0) (fun s H C cl fp => sFrz (sBin op_addE sv_add (sLV (sInt)) (sLV (sFrz (sCallR rfl rfl (ok__law_take T) (hr.mono (by decide)) rfl (T.glo (T.c.fact 39)) (T.F__law_take).kp T.b__law_take .nil (fun _ => rfl) takes0 (pe_var (i := 1) rfl (.inr (.inl rfl))) (sArCons (sLV (sInt)) (sArNil)) fn__law_take_len)))))) sc_law.nd rfl (.inr rfl)) (sCons (sSet (i := 3) (nR rfl) (sCallR rfl rfl (ok__law_shaped T) (hr.mono (by decide)) rfl (T.glo (T.c.fact 67)) (T.F__law_shaped).kp T.b__law_shaped .nil (fun _ => rfl) tk (pe_var (i := 1) rfl (.inr (.inl rfl))) (sArCons (sSlot (pe_var (i := 2) rfl (.inr (.inl rfl)))) (sArNil)) fn__law_shaped_len) sc_law.nd rfl (.inl rfl)) (sCons (sSet (i := 4) (nR rfl) (sCallU rfl rfl (ok__law_box T) (hr.mono (by decide)) rfl (T.glo (T.c.fact 68)) (T.F__law_box).kp T.b__law_box .nil (fun _ => rfl) tk (sArCons (sSlot (pe_var (i := 3) rfl (.inl rfl))) (sArNil)) fn__law_box_len) sc_law.nd rfl (.inl rfl)) (sCons (sIfS (sWT (sOrT (sNotT (sTru rfl (sLV (sIsO (l := [("Box", true)]) rfl rfl T.own_Box rfl (T.free (T.c.fact 1)) bt_isinstance (sSlot (pe_var (i := 4) rfl (.inl rfl))) (pe_glob (v := .ref _) rfl (T.glo (T.c.fact 41)) rfl))))) (sOrT (sCmpT (op_neD hr.units) sv_ne (sLV (sAt (cs := ["Box"]) rfl (T.at_sides) (sSlot (pe_var (i := 4) rfl (.inl rfl))))) (sLV (sFrz (sCT call_tuple_of sv_tuple rfl (T.free (T.c.fact 16)) bt_tuple (sArCons (sSlot (pe_var (i := 2) rfl (.inr (.inl rfl)))) (sArNil))))) (nomark _)) (sOrT1 (sNotT (sTru rfl (sLV (sFrz (sCall rfl rfl (ok__law_tuples T) (hr.mono (by decide)) rfl (T.glo (T.c.fact 38)) (T.F__law_tuples).kp T.b__law_tuples .nil (fun _ => rfl) tk (sArCons (sLV (sAt (cs := ["Box"]) rfl (T.at_sides) (sSlot (pe_var (i := 4) rfl (.inl rfl))))) (sArNil)) fn__law_tuples_len))))))))) (sOne (sRet (sVal (sBl)))) (sNil)) (sCons (sIfS (sTru rfl (sLV (sIsi rfl rfl (T.free (T.c.fact 1)) bt_isinstance (sSlot (pe_var (i := 3) rfl (.inl rfl))) (pe_bltn rfl (T.free (T.c.fact 19)) bt_list rfl) rfl))) (sOne (sPut (pe_var (i := 3) rfl (.inl rfl)) (sInt) (sInt))) (sNil)) (sCons (sAsg (own := [5, 6, 7]) (sVar (pe_var (i := 2) rfl (.inr (.inl rfl)))) (gT rfl rfl (gsCons (gN (i := 5) (by decide) (nR rfl) sc_law.nd rfl (.inl rfl)) (gsCons (gN (i := 6) (by decide) (nR rfl) sc_law.nd rfl (.inl rfl)) (gsCons (gN (i := 7) (by decide) (nR rfl) sc_law.nd rfl (.inl rfl)) (gsNil)))))) (sCons (sIfS (sWT (sOrT (sCmpT (op_neD hr.units) sv_ne (sLV (sAt (cs := ["Box"]) rfl (T.at_sides) (sSlot (pe_var (i := 4) rfl (.inl rfl))))) (sLV (sTup (sVsCons (sVar (pe_var (i := 5) rfl (.inl rfl))) (sVsCons (sVar (pe_var (i := 6) rfl (.inl rfl))) (sVsCons (sVar (pe_var (i := 7) rfl (.inl rfl))) (sVsNil)))))) (nomark _)) (sOrT1 (sCmpT (op_neD hr.units) sv_ne (sLV (sFrz (sProp rfl rfl (T.glo (T.c.fact 41)) (He.cls_ok (fx_fa (T.c.fact 71))) (fx_prop (T.c.fact 73)) (ok_pr_Box_skin_area T) (hr.mono (by decide)) T.b_pr_Box_skin_area (sVar (pe_var (i := 4) rfl (.inl rfl)))))) (sLV (sFrz (sBin op_mulE sv_mul (sLV (sInt)) (sLV (sFrz (sBin op_addE sv_add (sLV (sFrz (sBin op_addE sv_add (sLV (sFrz (sBin op_mulE sv_mul (sSlot (pe_var (i := 5) rfl (.inl rfl))) (sSlot (pe_var (i := 6) rfl (.inl rfl)))))) (sLV (sFrz (sBin op_mulE sv_mul (sSlot (pe_var (i := 6) rfl (.inl rfl))) (sSlot (pe_var (i := 7) rfl (.inl rfl))))))))) (sLV (sFrz (sBin op_mulE sv_mul (sSlot (pe_var (i := 7) rfl (.inl rfl))) (sSlot (pe_var (i := 5) rfl (.inl rfl)))))))))))) (nomark _))))) (sOne (sRet (sVal (sBl)))) (sNil)) (sCons (sSet (i := 8) (nR rfl) (sLst (sVsNil)) sc_law.nd rfl (.inl rfl)) (sCons (sFor (own := [9]) hp rfl (sRng1 rfl (T.free (T.c.fact 15)) (sArCons (sLV (sInt)) (sArNil))) (gN (i := 9) (by decide) (nR rfl) sc_law.nd rfl (.inl rfl)) (sCons (sSet (i := 10) (nR rfl) (sCall rfl rfl (ok__law_bits T) (hr.mono (by decide)) rfl (T.glo (T.c.fact 55)) (T.F__law_bits).kp T.b__law_bits .nil (fun _ => rfl) tk (sArCons (sSlot (pe_var (i := 9) rfl (.inl rfl))) (sArNil)) fn__law_bits_len) sc_law.nd rfl (.inr rfl)) (sOne (sExp (sApp rfl (pe_var (i := 8) rfl (.inl rfl)) (sFrz (sCT call_tuple_of sv_tuple rfl (T.free (T.c.fact 16)) bt_tuple (sArCons (sLV (sFrz (sLc (own := [("_law_axis", 15)]) (nRs rfl) rfl sc_law.nd (sRng1 rfl (T.free (T.c.fact 15)) (sArCons (sLV (sInt)) (sArNil))) (blkOk_by (N := N_law) (sc := defScope (top 43)) (by decide +kernel)) (fun s H C cl fp => gN (i := 15) (by decide) (nR rfl) sc_law.nd rfl (.inl rfl)) (fun s H C cl fp => sTs0) (fun s H C cl fp => sTup (sVsCons (sFrz (sBin op_mulE sv_mul (sLV (sFrz (sIx rfl (sSlot (pe_var (i := 10) rfl (.inr (.inl rfl)))) (sSlot (pe_var (i := 15) rfl (.inl rfl)))))) (sLV (sFrz (sIx rfl (sSlot (pe_var (i := 2) rfl (.inr (.inl rfl)))) (sSlot (pe_var (i := 15) rfl (.inl rfl)))))))) (sVsCons (sInt) (sVsNil))))))) (sArNil))))))))) (sCons (sIfS (sWT (sOrT (sCmpT (op_neD hr.units) sv_ne (sLV (sFrz (sProp rfl rfl (T.glo (T.c.fact 41)) (He.cls_ok (fx_fa (T.c.fact 71))) (fx_prop (T.c.fact 74)) (ok_pr_Box_corner_places T) (hr.mono (by decide)) T.b_pr_Box_corner_places (sVar (pe_var (i := 4) rfl (.inl rfl)))))) (sLV (sFrz (sCT call_tuple_of sv_tuple rfl (T.free (T.c.fact 16)) bt_tuple (sArCons (sSlot (pe_var (i := 8) rfl (.inl rfl))) (sArNil))))) (nomark _)) (sOrT1 (sNotT (sTru rfl (sLV (sFrz (sCall rfl rfl (ok__law_tuples T) (hr.mono (by decide)) rfl (T.glo (T.c.fact 38)) (T.F__law_tuples).kp T.b__law_tuples .nil (fun _ => rfl) tk (sArCons (sLV (sFrz (sProp rfl rfl (T.glo (T.c.fact 41)) (He.cls_ok (fx_fa (T.c.fact 71))) (fx_prop (T.c.fact 74)) (ok_pr_Box_corner_places T) (hr.mono (by decide)) T.b_pr_Box_corner_places (sVar (pe_var (i := 4) rfl (.inl rfl)))))) (sArNil)) fn__law_tuples_len)))))))) (sOne (sRet (sVal (sBl)))) (sNil)) (sCons (sSetLc (own := [("_law_side", 16)]) (i := 11) (nR rfl) (nRs rfl) rfl sc_law.nd rfl rfl (sw_true rfl rfl rfl (by decide +kernel)) (sIt rfl (sVar (pe_var (i := 2) rfl (.inr (.inl rfl))))) (blkOk_by (N := N_law) (sc := defScope (top 43)) (by decide +kernel)) (fun s H C cl fp => gN (i := 16) (by decide) (nR rfl) sc_law.nd rfl (.inl rfl)) (fun s H C cl fp => sTs0) (fun s H C cl fp => sIf (sCmpT (op_eqD hr.units) sv_eq (sLV (sFrz (sCallR rfl rfl (ok__law_take T) (hr.mono (by decide)) rfl (T.glo (T.c.fact 39)) (T.F__law_take).kp T.b__law_take .nil (fun _ => rfl) takes0 (pe_var (i := 1) rfl (.inr (.inl rfl))) (sArCons (sLV (sInt)) (sArNil)) fn__law_take_len))) (sLV (sInt)) (nomark _)) (sFrz (sBin op_addE sv_add (sLV (sInt)) (sLV (sFrz (sCallR rfl rfl (ok__law_take T) (hr.mono (by decide)) rfl (T.glo (T.c.fact 39)) (T.F__law_take).kp T.b__law_take .nil (fun _ => rfl) takes0 (pe_var (i := 1) rfl (.inr (.inl rfl))) (sArCons (sLV (sInt)) (sArNil)) fn__law_take_len))))) (sVar (pe_var (i := 16) rfl (.inl rfl))))) (sCons (sIfS (sWT (sOrT (sCmpT (op_neD hr.units) sv_ne (sLV (sFrz (sCmp (op_ownEq (m := 1) (hr.mono (by decide))) (sv_own rfl rfl (T.eqt_Box)) (sLV (sMake rfl rfl (He.mkr_ok (fx_fa (T.c.fact 40))) (ok_ini_Box T) (hr.mono (by decide)) rfl (T.glo (T.c.fact 41)) T.ib_Box .nil (fun _ => rfl) tk (sVsCons (sVar (pe_var (i := 11) rfl (.inl rfl))) (sVsNil)) (fun _ => mkIni_len _))) (sSlot (pe_var (i := 4) rfl (.inl rfl))) (nomark _)))) (sLV (sFrz (sCmp (op_eqD hr.units) sv_eq (sSlot (pe_var (i := 11) rfl (.inl rfl))) (sSlot (pe_var (i := 2) rfl (.inr (.inl rfl)))) (nomark _)))) (nomark _)) (sOrT1 (sCmpT (op_neD hr.units) sv_ne (sLV (sFrz (sCmp (op_ownNe (m := 1) (hr.mono (by decide))) (sv_own rfl rfl (T.eqt_Box)) (sLV (sMake rfl rfl (He.mkr_ok (fx_fa (T.c.fact 40))) (ok_ini_Box T) (hr.mono (by decide)) rfl (T.glo (T.c.fact 41)) T.ib_Box .nil (fun _ => rfl) tk (sVsCons (sVar (pe_var (i := 11) rfl (.inl rfl))) (sVsNil)) (fun _ => mkIni_len _))) (sSlot (pe_var (i := 4) rfl (.inl rfl))) (nomark _)))) (sLV (sFrz (sCmp (op_neD hr.units) sv_ne (sSlot (pe_var (i := 11) rfl (.inl rfl))) (sSlot (pe_var (i := 2) rfl (.inr (.inl rfl)))) (nomark _)))) (nomark _))))) (sOne (sRet (sVal (sBl)))) (sNil)) (sCons (sAsg (own := [12, 13]) (sFrz (sCallR rfl rfl (ok__law_spoilt T) (hr.mono (by decide)) rfl (T.glo (T.c.fact 77)) (T.F__law_spoilt).kp T.b__law_spoilt .nil (fun _ => rfl) tk (pe_var (i := 1) rfl (.inr (.inl rfl))) (sArCons (sSlot (pe_var (i := 2) rfl (.inr (.inl rfl)))) (sArNil)) fn__law_spoilt_len)) (gT rfl rfl (gsCons (gN (i := 12) (by decide) (nR rfl) sc_law.nd rfl (.inl rfl)) (gsCons (gN (i := 13) (by decide) (nR rfl) sc_law.nd rfl (.inl rfl)) (gsNil))))) (sCons (sSet (i := 14) (nR rfl) (sCall rfl rfl (ok__law_box T) (hr.mono (by decide)) rfl (T.glo (T.c.fact 68)) (T.F__law_box).kp T.b__law_box .nil (fun _ => rfl) tk (sArCons (sSlot (pe_var (i := 12) rfl (.inl rfl))) (sArNil)) fn__law_box_len) sc_law.nd rfl (.inl rfl)) (sCons (sIfS (sCmpT op_isE sv_is (sSlot (pe_var (i := 13) rfl (.inl rfl))) (sLV (sNon)) (nomark _)) (sOne (sIfS (sWT (sOrT (sNotT (sTru rfl (sLV (sIsO (l := [("Box", true)]) rfl rfl T.own_Box rfl (T.free (T.c.fact 1)) bt_isinstance (sSlot (pe_var (i := 14) rfl (.inl rfl))) (pe_glob (v := .ref _) rfl (T.glo (T.c.fact 41)) rfl))))) (sOrT1 (sCmpT (op_ownNe (m := 1) (hr.mono (by decide))) (sv_own rfl rfl (T.eqt_Box)) (sSlot (pe_var (i := 14) rfl (.inl rfl))) (sSlot (pe_var (i := 4) rfl (.inl rfl))) (nomark _))))) (sOne (sRet (sVal (sBl)))) (sNil))) (sOne (sIfS (sCmpT (op_neD hr.units) sv_ne (sSlot (pe_var (i := 14) rfl (.inl rfl))) (sLV (sFrz (sLst (sVsCons (sStr) (sVsCons (sVar (pe_var (i := 13) rfl (.inl rfl))) (sVsNil)))))) (nomark _)) (sOne (sRet (sVal (sBl)))) (sNil)))) (sOne (sRet (sVal (sAndV (sFrz (sCallR rfl rfl (ok__law_faces T) (hr.mono (by decide)) rfl (T.glo (T.c.fact 78)) (T.F__law_faces).kp T.b__law_faces .nil (fun _ => rfl) tk (pe_var (i := 1) rfl (.inr (.inl rfl))) (sArNil) fn__law_faces_len)) (sAndV (sFrz (sCallR rfl rfl (ok__law_edges T) (hr.mono (by decide)) rfl (T.glo (T.c.fact 79)) (T.F__law_edges).kp T.b__law_edges .nil (fun _ => rfl) tk (pe_var (i := 1) rfl (.inr (.inl rfl))) (sArNil) fn__law_edges_len)) (sOneV (sFrz (sCmp (op_eqD hr.units) sv_eq (sLV (sAt (cs := ["Box"]) rfl (T.at_sides) (sSlot (pe_var (i := 4) rfl (.inl rfl))))) (sLV (sFrz (sCT call_tuple_of sv_tuple rfl (T.free (T.c.fact 16)) bt_tuple (sArCons (sSlot (pe_var (i := 2) rfl (.inr (.inl rfl)))) (sArNil))))) (nomark _))))))))))))))))))))))))
end
end Kx

local macro_rules
  | `(tactic| simp? [$as,*]) => `(tactic| simp (disch := first | assumption | decide | omega) only [$as,*, Ev.dC_a, Ev.dFrz_a, Ev.frzE_val, Ev.frzE_mu, Ev.get_v, Ev.dVs_n, Ev.dArs_n, Ev.getAll_n, Ev.dSkip_a, Ev.asN_a, Ev.asT_a, Ev.asT_l, Ev.asC_a, Ev.asNil_a, Ev.loopF_n, Ev.gDiv_i, Ev.gMul_i, Ev.gMod_i, Ev.gEq_int, Ev.gNe_int, Ev.at0, Ev.at1, Ev.at2, Ev.at3, Ev.gAdd_i, Ev.gSub_i, Ev.gLt_i, Ev.gLe_i, Ev.gGt_i, Ev.gGe_i, Ev.gInt_i, Ev.gLen_l, Ev.gLen_f, Ev.gLen_t, Ev.gAbs_i, Ev.its_l, Ev.its_t, Ev.its_f, Ev.mkFn_s, Ev.stF_rt, Ev.stF_nx, Ev.stF_er, Ev.enumD_n, Ev.enumD_c, Ev.zipD_c, Ev.zipD_n, Ev.zipD_m, Ev.dPn_e, Ev.noX_n, Ev.noX_v, Ev.noX_m, Ev.noX_u, Ev.noX_x, Ev.finX_s, Ev.finX_n, Ev.dBreak_e, Ev.dCont_e, Ev.rngD_z, Ev.rngD_s, Ev.dTrue_e, Ev.loopC_n, Ev.loopC_k, Ev.goC_s, Ev.goC_o, Ev.bindX_o, Ev.wipeE_n, Ev.wipeE_c, Ev.restE_n, Ev.restE_c, Ev.okOwn_n, Ev.runH_n, Ev.shp_i, Ev.shp_b, Ev.shp_o, Ev.shp_s, Ev.shp_t, Ev.shp_l, Ev.shp_f, Ev.shps_n, Ev.shps_c, Ev.gEq_ci, Ev.gNe_ci, Ev.gEq_cb, Ev.gNe_cb, Ev.gEq_cs, Ev.gNe_cs, Ev.gEq_co, Ev.gNe_co, Ev.gEq_ct, Ev.gNe_ct, Ev.gEq_cl, Ev.gNe_cl, Ev.gEq_cf, Ev.gNe_cf, Ev.deq_ii, Ev.deq_bb, Ev.deq_bi, Ev.deq_ib, Ev.deq_ss, Ev.deq_tt, Ev.deq_ll, Ev.deq_lf, Ev.deq_fl, Ev.deq_ff, Ev.deq_oo, Ev.deqs_nn, Ev.deqs_cc, Ev.deqs_nc, Ev.deqs_cn, Ev.deq_oi, Ev.deq_io, Ev.deq_ob, Ev.deq_bo, Ev.deq_os, Ev.deq_so, Ev.deq_ot, Ev.deq_to, Ev.deq_ol, Ev.deq_lo, Ev.deq_it, Ev.deq_ti, Ev.deq_il, Ev.deq_li, Ev.deq_is, Ev.deq_si, Ev.deq_tl, Ev.deq_lt, Ev.deq_ts, Ev.deq_st, Ev.deq_ls, Ev.deq_sl, Ev.deq_bt, Ev.deq_tb, Ev.deq_bs, Ev.deq_sb, Ev.tru_b, Ev.tru_l, Ev.tru_t, Ev.tru_i, Ev.tru_o, Ev.ni_i, Ev.ni_b, Ev.ni_s, Ev.ni_o, Ev.ni_t, Ev.ni_l, Ev.ni_f, Ev.isTs_n, Ev.isTs_c, Ev.isT_i, Ev.isT_b, Ev.isT_s, Ev.isT_t, Ev.isT_l, Ev.isT_f, Ev.isT_o, Ev.gIs_n, Ev.gIs_bb, Ev.gIsNot_n, Ev.gIsNot_bb, Ev.isN_o, Ev.isN_i, Ev.isN_b, Ev.isN_s, Ev.isN_t, Ev.isN_l, Ev.isN_f, Ev.gList_t, Ev.gList_l, Ev.gList_f, Ev.gTuple_l, Ev.gTuple_f, Ev.gTuple_t, Ev.gIx_t, Ev.gIx_l, Ev.gIx_f, Ev.gSl_t, Ev.gSl_l, Ev.gSl_f, Ev.gEqS_e, Ev.gNeS_e, Ev.st_ok, Ev.st_err, Ev.st_bad, Ev.fl_m, Ev.fl_i, Ev.fl_b, Ev.fl_s, Ev.fl_o, Ev.fl_t, Ev.fl_l, Ev.fl_f, Ev.fl_n, Ev.fl_g, Ev.frzAr_n, Ev.frzAr_v, Ev.frzAr_s, Ev.hasS_n, Ev.hasS_v, Ev.hasS_s, Ev.vb_e, Ev.at4, Ev.at5, Ev.at6, Ev.at7, Ev.at8, Ev.at9, Ev.at10, Ev.at11, Ev.at12, Ev.atm1_1, Ev.atm1_2, Ev.atm1_3, Ev.atm1_4, Ev.atm1_5, Ev.atm1_6, Ev.atm1_7, Ev.atm1_8, Ev.ixq1_0, Ev.ixq2_0, Ev.ixq2_1, Ev.ixq3_0, Ev.ixq3_1, Ev.ixq3_2, Ev.ixq4_0, Ev.ixq4_1, Ev.ixq4_2, Ev.ixq4_3, Ev.ixq5_0, Ev.ixq5_1, Ev.ixq5_2, Ev.ixq5_3, Ev.ixq5_4, Ev.ixq6_0, Ev.ixq6_1, Ev.ixq6_2, Ev.ixq6_3, Ev.ixq6_4, Ev.ixq6_5, Ev.ixq7_0, Ev.ixq7_1, Ev.ixq7_2, Ev.ixq7_3, Ev.ixq7_4, Ev.ixq7_5, Ev.ixq7_6, Ev.ixq8_0, Ev.ixq8_1, Ev.ixq8_2, Ev.ixq8_3, Ev.ixq8_4, Ev.ixq8_5, Ev.ixq8_6, Ev.ixq8_7, Ev.dVar_k, Ev.kVar_v, Ev.kVar_m, Ev.dSlot_k, Ev.kSlot_v, Ev.kSlot_m, Ev.dMove_k, Ev.kMove_v, Ev.kMove_m, Ev.dLV_k, Ev.kLV_k, Ev.dVal_k, Ev.kVal_k, Ev.get_k, Ev.kGet_v, Ev.kGet_m, Ev.kEnt_k, Ev.dBin_k, Ev.kBin1_k, Ev.kBin2_k, Ev.kBin3_k, Ev.dNeg_k, Ev.kNeg_k, Ev.dTB_k, Ev.kTB_k, Ev.dBT_k, Ev.kBT_k, Ev.dTru_k, Ev.kTru_k, Ev.kTru2_k, Ev.kTru3_k, Ev.dNotT_k, Ev.kNotT_k, Ev.dAndT_k, Ev.kAndT_t, Ev.kAndT_f, Ev.dOrT_k, Ev.kOrT_t, Ev.kOrT_f, Ev.dAndV_k, Ev.kAndV_t, Ev.kAndV_f, Ev.dOrV_k, Ev.kOrV_t, Ev.kOrV_f, Ev.dNotL_k, Ev.kNotL_k, Ev.dNotV_k, Ev.dIf_k, Ev.dIfF_k, Ev.dIfS_k, Ev.kIf_t, Ev.kIf_f, Ev.dChain_k, Ev.kCh1_k, Ev.kCh2_k, Ev.kCh3_k, Ev.kCh4_t, Ev.kCh4_f, Ev.kCh6_k, Ev.dVs_k, Ev.kVs1_k, Ev.kVs2_k, Ev.dArs_k, Ev.kAr1_k, Ev.kAr2_k, Ev.dTup_k, Ev.kTup_k, Ev.dLst_k, Ev.kLst_k, Ev.getAll_k, Ev.kAll_k, Ev.dCB_k, Ev.kCB_k, Ev.kCB2_k, Ev.dCall_k, Ev.kCl_k, Ev.kCl2_k, Ev.kCl3_o, Ev.kCl3_e, Ev.kCl4_t, Ev.kCl4_f, Ev.kCl4_v, Ev.kCl4_n, Ev.dCall0_k, Ev.kC0_o, Ev.kC0_e, Ev.dCallR_k, Ev.kCR0_m, Ev.kCR0_v, Ev.kCR1_k, Ev.kCR2_k, Ev.kCR3_o, Ev.kCR3_e, Ev.kCR5_k, Ev.kCR6_k, Ev.kCR7_o, Ev.kCR7_e, Ev.dCallK_k, Ev.kCK1_k, Ev.kCK2_k, Ev.dIsi_k, Ev.kIsi_k, Ev.kIsi2_k, Ev.dSeq_k, Ev.kSeq_n, Ev.kSeq_r, Ev.kSeq_b, Ev.kSeq_c, Ev.kSeq_e, Ev.kSeq_d, Ev.dRet_k, Ev.kRet_k, Ev.dSet_k, Ev.kSet_v, Ev.kSet_m, Ev.dAsg_k, Ev.kAsg_k, Ev.kAsg2_k, Ev.dPar_k, Ev.kPar_k, Ev.dPar3_k, Ev.kPar3_k, Ev.dPut_k, Ev.kPut1_k, Ev.kPut2_k, Ev.kPut3_k, Ev.kPut4_k, Ev.kPut5_k, Ev.dExp_k, Ev.kExp_k, Ev.dApp_k, Ev.kApp_k, Ev.kApp2_k, Ev.kApp3_k, Ev.dAug_k, Ev.kAug_k, Ev.kAug2_k, Ev.kAug3_k, Ev.gAddI_k, Ev.dFor_k, Ev.kFor_k, Ev.loopF_k, Ev.kLp_k, Ev.kLp2_n, Ev.kLp2_c, Ev.kLp2_b, Ev.kLp2_r, Ev.kLp2_e, Ev.dIt_k, Ev.kIt_k, Ev.kIt2_k, Ev.dIsK_k, Ev.kIsK_k, Ev.kIsK2_k, Ev.kIsK3_k, Ev.kD_k, Ev.dAt_k, Ev.kAt_k, Ev.kAt2_k, Ev.dRev_k, Ev.kRev1_k, Ev.kRev2_k, Ev.kRev3_k, Ev.dEnum_k, Ev.kEnu_k, Ev.kEnu2_k, Ev.dZip_k, Ev.kZip_k, Ev.kZip2_k, Ev.dRng1_k, Ev.kRg1_c, Ev.kRng1_k, Ev.dRng2_k, Ev.kRg2_c, Ev.kRng2_k, Ev.dPs_k, Ev.kPs_k, Ev.dSl_k, Ev.kSl1_k, Ev.kSl2_k, Ev.kSl3_k, Ev.kSl4_k, Ev.frzS_k, Ev.kFrz_m, Ev.kFrz_v, Ev.kFrz_u, Ev.dMake_k, Ev.kMk_k, Ev.kMk2_o, Ev.kMk2_e, Ev.dProp_k, Ev.kPr_k, Ev.kPr2_k, Ev.dLc_k, Ev.kLc_k, Ev.kLc1_k, Ev.kLc2_k, Ev.eleC_k, Ev.kEle_k, Ev.kEle2_t, Ev.kEle2_f, Ev.kEle3_k, Ev.okOwn_k, Ev.kOwn_u, Ev.kOwn_v, Ev.dTry_k, Ev.kTry_e, Ev.kTry_o, Ev.runH_k, Ev.kRH_t, Ev.kRH_f, Ev.kXE_s, Ev.kXE_n, Ev.dRaise_k, Ev.kRai_k, Ev.dXf_k, Ev.kXf_k, Ev.preI_k, Ev.kPre_n, Ev.kPre_e, Ev.dFlds_k, Ev.mkIni_k, Ev.gOwn_it, Ev.gOwn_ie, Ev.gOwn_bt, Ev.gOwn_be, Ev.gOwn_st, Ev.gOwn_se, Ev.gOwn_ot, Ev.gOwn_oe, Ev.gOwn_tt, Ev.gOwn_te, Ev.gOwn_lt, Ev.gOwn_le, Ev.gOwn_ft, Ev.gOwn_fe, Ev.dRetN_k, Ev.Res.bind_ok, Ev.Res.bind_err, Ev.Res.bind_bad, List.getElem?_cons_zero, List.getElem?_cons_succ, List.set_cons_zero, List.set_cons_succ, List.map_cons, List.map_nil, List.cons_append, List.nil_append, List.append_nil, List.length_cons, List.length_nil, List.replicate, List.take, if_true, if_false, ite_true, ite_false, reduceIte, Nat.reduceAdd, Nat.reduceSub, Nat.reduceLeDiff, Bool.false_eq_true, Nat.reduceEqDiff, Nat.add_eq, Nat.add_zero, Nat.zero_add, Option.bind_some, Option.map_some, Nat.sub_self, eq_self, and_self, and_true, true_and, Bool.and_true, Bool.true_and, Bool.and_false, Bool.false_and, Bool.or_true, Bool.true_or, Bool.or_false, Bool.false_or, Bool.not_true, Bool.not_false, String.reduceBEq, decide_true, decide_false, List.reverse_cons, List.reverse_nil, List.isEmpty_cons, List.isEmpty_nil, Option.getD_some, Int.reduceLT, Int.reduceLE, Int.reduceEq, Int.reduceAdd, Int.reduceSub, Int.reduceMul, Int.reduceNeg, Nat.reduceLT, Nat.reduceMul, not_true_eq_false, not_false_eq_true, and_false, false_and, List.length_map, Int.natCast_zero, Int.reduceToNat, Int.cast_ofNat_Int, Int.reduceFDiv, Int.reduceFMod, Int.reduceBEq, Int.reduceBNe, Int.reduceNe, Nat.reduceBEq, Int.reducePow, ite_self])

set_option linter.all false
set_option maxRecDepth 100000
set_option maxHeartbeats 4000000
namespace Kx
open PySem PySem.Spec PyProof.Rows L2 Ev
theorem mixed_ev (n t : Int) (hn : Bd 40 n) (ht : Bd 40 t) : ∃ r, (fn__law_mixed [.val (.int n), .val (.int t)]).st = .ok (.val (.int r)) [] := by
  have m1 : mulOk n 48271 = true := mulOk_of (k := 39) (m := 39) hn .lit (by decide)
  have m2 : mulOk t 10007 = true := mulOk_of (k := 39) (m := 39) ht .lit (by decide)
  have m4 : mulOk t 92821 = true := mulOk_of (k := 39) (m := 39) ht .lit (by decide)
  generalize ho : (n * 48271 + t * 10007 + 30011).fmod 2147483647 = o
  have bo : Bd 40 o := Bd.ofR (b := 2147483647) (ho ▸ fmod_range (by decide)) (by decide)
  have m3 : mulOk o o = true := mulOk_of (k := 39) (m := 39) bo bo (by decide)
  generalize hw : (o * o + t * 92821 + o.fdiv 257).fmod 2147483629 = w
  have bw : Bd 40 w := Bd.ofR (b := 2147483629) (hw ▸ fmod_range (by decide)) (by decide)
  have m5 : mulOk w 69621 = true := mulOk_of (k := 39) (m := 39) bw .lit (by decide)
  have d1 : divOk 257 = true := by decide
  have d2 : divOk 11 = true := by decide
  have d3 : divOk 64 = true := by decide
  have z1 : (2147483647 : Int) ≠ 0 := by decide
  have z2 : (2147483629 : Int) ≠ 0 := by decide
  have z3 : (2147483587 : Int) ≠ 0 := by decide
  simp only [fn__law_mixed, den__law_mixed, dC_a, dFrz_a, frzE_val, frzE_mu, get_v, dVs_n, dArs_n, getAll_n, dSkip_a, asN_a, asT_a, asT_l, asC_a, asNil_a, loopF_n, gDiv_i, gMul_i, gMod_i, gEq_int, gNe_int, at0, at1, at2, at3, gAdd_i, gSub_i, gLt_i, gLe_i, gGt_i, gGe_i, gInt_i, gLen_l, gLen_f, gLen_t, gAbs_i, its_l, its_t, its_f, mkFn_s, stF_rt, stF_nx, stF_er, enumD_n, enumD_c, zipD_c, zipD_n, zipD_m, dPn_e, noX_n, noX_v, noX_m, noX_u, noX_x, finX_s, finX_n, dBreak_e, dCont_e, rngD_z, rngD_s, dTrue_e, loopC_n, loopC_k, goC_s, goC_o, bindX_o, wipeE_n, wipeE_c, restE_n, restE_c, okOwn_n, runH_n, shp_i, shp_b, shp_o, shp_s, shp_t, shp_l, shp_f, shps_n, shps_c, gEq_ci, gNe_ci, gEq_cb, gNe_cb, gEq_cs, gNe_cs, gEq_co, gNe_co, gEq_ct, gNe_ct, gEq_cl, gNe_cl, gEq_cf, gNe_cf, deq_ii, deq_bb, deq_bi, deq_ib, deq_ss, deq_tt, deq_ll, deq_lf, deq_fl, deq_ff, deq_oo, deqs_nn, deqs_cc, deqs_nc, deqs_cn, deq_oi, deq_io, deq_ob, deq_bo, deq_os, deq_so, deq_ot, deq_to, deq_ol, deq_lo, deq_it, deq_ti, deq_il, deq_li, deq_is, deq_si, deq_tl, deq_lt, deq_ts, deq_st, deq_ls, deq_sl, deq_bt, deq_tb, deq_bs, deq_sb, tru_b, tru_l, tru_t, tru_i, tru_o, ni_i, ni_b, ni_s, ni_o, ni_t, ni_l, ni_f, isTs_n, isTs_c, isT_i, isT_b, isT_s, isT_t, isT_l, isT_f, isT_o, gIs_n, gIs_bb, gIsNot_n, gIsNot_bb, isN_o, isN_i, isN_b, isN_s, isN_t, isN_l, isN_f, gList_t, gList_l, gList_f, gTuple_l, gTuple_f, gTuple_t, gIx_t, gIx_l, gIx_f, gSl_t, gSl_l, gSl_f, gEqS_e, gNeS_e, st_ok, st_err, st_bad, fl_m, fl_i, fl_b, fl_s, fl_o, fl_t, fl_l, fl_f, fl_n, fl_g, frzAr_n, frzAr_v, frzAr_s, hasS_n, hasS_v, hasS_s, vb_e, at4, at5, at6, at7, at8, at9, at10, at11, at12, atm1_1, atm1_2, atm1_3, atm1_4, atm1_5, atm1_6, atm1_7, atm1_8, ixq1_0, ixq2_0, ixq2_1, ixq3_0, ixq3_1, ixq3_2, ixq4_0, ixq4_1, ixq4_2, ixq4_3, ixq5_0, ixq5_1, ixq5_2, ixq5_3, ixq5_4, ixq6_0, ixq6_1, ixq6_2, ixq6_3, ixq6_4, ixq6_5, ixq7_0, ixq7_1, ixq7_2, ixq7_3, ixq7_4, ixq7_5, ixq7_6, ixq8_0, ixq8_1, ixq8_2, ixq8_3, ixq8_4, ixq8_5, ixq8_6, ixq8_7, dVar_k, kVar_v, kVar_m, dSlot_k, kSlot_v, kSlot_m, dMove_k, kMove_v, kMove_m, dLV_k, kLV_k, dVal_k, kVal_k, get_k, kGet_v, kGet_m, kEnt_k, dBin_k, kBin1_k, kBin2_k, kBin3_k, dNeg_k, kNeg_k, dTB_k, kTB_k, dBT_k, kBT_k, dTru_k, kTru_k, kTru2_k, kTru3_k, dNotT_k, kNotT_k, dAndT_k, kAndT_t, kAndT_f, dOrT_k, kOrT_t, kOrT_f, dAndV_k, kAndV_t, kAndV_f, dOrV_k, kOrV_t, kOrV_f, dNotL_k, kNotL_k, dNotV_k, dIf_k, dIfF_k, dIfS_k, kIf_t, kIf_f, dChain_k, kCh1_k, kCh2_k, kCh3_k, kCh4_t, kCh4_f, kCh6_k, dVs_k, kVs1_k, kVs2_k, dArs_k, kAr1_k, kAr2_k, dTup_k, kTup_k, dLst_k, kLst_k, getAll_k, kAll_k, dCB_k, kCB_k, kCB2_k, dCall_k, kCl_k, kCl2_k, kCl3_o, kCl3_e, kCl4_t, kCl4_f, kCl4_v, kCl4_n, dCall0_k, kC0_o, kC0_e, dCallR_k, kCR0_m, kCR0_v, kCR1_k, kCR2_k, kCR3_o, kCR3_e, kCR5_k, kCR6_k, kCR7_o, kCR7_e, dCallK_k, kCK1_k, kCK2_k, dIsi_k, kIsi_k, kIsi2_k, dSeq_k, kSeq_n, kSeq_r, kSeq_b, kSeq_c, kSeq_e, kSeq_d, dRet_k, kRet_k, dSet_k, kSet_v, kSet_m, dAsg_k, kAsg_k, kAsg2_k, dPar_k, kPar_k, dPar3_k, kPar3_k, dPut_k, kPut1_k, kPut2_k, kPut3_k, kPut4_k, kPut5_k, dExp_k, kExp_k, dApp_k, kApp_k, kApp2_k, kApp3_k, dAug_k, kAug_k, kAug2_k, kAug3_k, gAddI_k, dFor_k, kFor_k, loopF_k, kLp_k, kLp2_n, kLp2_c, kLp2_b, kLp2_r, kLp2_e, dIt_k, kIt_k, kIt2_k, dIsK_k, kIsK_k, kIsK2_k, kIsK3_k, kD_k, dAt_k, kAt_k, kAt2_k, dRev_k, kRev1_k, kRev2_k, kRev3_k, dEnum_k, kEnu_k, kEnu2_k, dZip_k, kZip_k, kZip2_k, dRng1_k, kRg1_c, kRng1_k, dRng2_k, kRg2_c, kRng2_k, dPs_k, kPs_k, dSl_k, kSl1_k, kSl2_k, kSl3_k, kSl4_k, frzS_k, kFrz_m, kFrz_v, kFrz_u, dMake_k, kMk_k, kMk2_o, kMk2_e, dProp_k, kPr_k, kPr2_k, dLc_k, kLc_k, kLc1_k, kLc2_k, eleC_k, kEle_k, kEle2_t, kEle2_f, kEle3_k, okOwn_k, kOwn_u, kOwn_v, dTry_k, kTry_e, kTry_o, runH_k, kRH_t, kRH_f, kXE_s, kXE_n, dRaise_k, kRai_k, dXf_k, kXf_k, preI_k, kPre_n, kPre_e, dFlds_k, mkIni_k, gOwn_it, gOwn_ie, gOwn_bt, gOwn_be, gOwn_st, gOwn_se, gOwn_ot, gOwn_oe, gOwn_tt, gOwn_te, gOwn_lt, gOwn_le, gOwn_ft, gOwn_fe, dRetN_k, Res.bind_ok, Res.bind_err, Res.bind_bad, List.getElem?_cons_zero, List.getElem?_cons_succ, List.set_cons_zero, List.set_cons_succ, List.map_cons, List.map_nil, List.cons_append, List.nil_append, List.append_nil, List.length_cons, List.length_nil, List.replicate, List.take, if_true, if_false, ite_true, ite_false, reduceIte, Nat.reduceAdd, Nat.reduceSub, Nat.reduceLeDiff, Bool.false_eq_true, Nat.reduceEqDiff, Nat.add_eq, Nat.add_zero, Nat.zero_add, Option.bind_some, Option.map_some, Nat.sub_self, eq_self, and_self, and_true, true_and, Bool.and_true, Bool.true_and, Bool.and_false, Bool.false_and, Bool.or_true, Bool.true_or, Bool.or_false, Bool.false_or, Bool.not_true, Bool.not_false, String.reduceBEq, decide_true, decide_false, List.reverse_cons, List.reverse_nil, List.isEmpty_cons, List.isEmpty_nil, Option.getD_some, Int.reduceLT, Int.reduceLE, Int.reduceEq, Int.reduceAdd, Int.reduceSub, Int.reduceMul, Int.reduceNeg, Nat.reduceLT, Nat.reduceMul, not_true_eq_false, not_false_eq_true, and_false, false_and, List.length_map, Int.natCast_zero, Int.reduceToNat, Int.cast_ofNat_Int, Int.reduceFDiv, Int.reduceFMod, Int.reduceBEq, Int.reduceBNe, Int.reduceNe, Nat.reduceBEq, Int.reducePow, ite_self, gMul_i m1, gMul_i m2, gMul_i m3, gMul_i m4, gMul_i m5, gDiv_i d1, gDiv_i d2, gDiv_i d3, gMod_i z1, gMod_i z2, gMod_i z3, ho, hw]
  exact ⟨_, rfl⟩
def HandOk (xs : List D) : Prop := ∃ (cs : List Int) (k r t : Int), xs = [.lst (cs.map .int), .int k, .int r, .int t] ∧ cs.length ≤ 63 ∧ 0 ≤ k ∧ k ≤ cs.length ∧ 0 ≤ t ∧ t < 2147483549
theorem take_ev (xs : List D) (h : HandOk xs) (m : Int) (hm : 0 < m) (hd : divOk m = true) : ∃ v ys, fn__law_take [.mu xs, .val (.int m)] = .ok (.val (.int v)) [.mu ys, .val (.int m)] ∧ HandOk ys ∧ 0 ≤ v ∧ v < m := by
  obtain ⟨cs, k, r, t, rfl, hl, k0, k1, t0, t1⟩ := h
  have hm0 : m ≠ 0 := by omega
  have bk : Bd 40 k := Bd.ofR (b := 64) ⟨k0, by omega⟩ (by decide)
  have bk1 : Bd 40 (k + 1) := Bd.ofR (b := 65) ⟨by omega, by omega⟩ (by decide)
  have z1 : (2147483647 : Int) ≠ 0 := by decide
  have z2 : (2147483549 : Int) ≠ 0 := by decide
  have p18 : gPow (.int 10) (.int 18) = some (.val (.int 1000000000000000000)) := by rfl
  have L0 : gLen [.lst (cs.map D.int)] = some (.val (.int cs.length)) := by rw [gLen_l, List.length_map]
  by_cases hr : r = 0
  · subst hr
    by_cases hk : k < cs.length
    · obtain ⟨kn, rfl⟩ : ∃ kn : Nat, k = kn := ⟨k.toNat, by omega⟩
      have hkn : kn < cs.length := by omega
      have ge : cs[kn]? = some cs[kn] := List.getElem?_eq_getElem hkn
      generalize cs[kn] = c at ge
      have I0 : gIx (.lst (cs.map D.int)) (.int (kn : Int)) = some (.val (.int c)) := congrArg (Option.map Ent.val) (Ev.atI_nat (by rw [List.getElem?_map, ge]; rfl))
      by_cases hc : c < 1000000000000000000
      · obtain ⟨q, hq⟩ := mixed_ev (c.fmod 2147483647) ((kn : Int) + 1) (Bd.ofR (b := 2147483647) (fmod_range (by decide)) (by decide)) bk1
        refine ⟨q.fmod m, [.lst (cs.map .int), .int (kn + 1), .int 0, .int t], ?_, ⟨cs, kn + 1, 0, t, rfl, hl, by omega, by omega, t0, t1⟩, (fmod_range hm).1, (fmod_range hm).2⟩
        simp only [fn__law_take, den__law_take, mkFn_a, finF, I0, dC_a, dFrz_a, frzE_val, frzE_mu, get_v, dVs_n, dArs_n, getAll_n, dSkip_a, asN_a, asT_a, asT_l, asC_a, asNil_a, loopF_n, gDiv_i, gMul_i, gMod_i, gEq_int, gNe_int, at0, at1, at2, at3, gAdd_i, gSub_i, gLt_i, gLe_i, gGt_i, gGe_i, gInt_i, gLen_l, gLen_f, gLen_t, gAbs_i, its_l, its_t, its_f, mkFn_s, stF_rt, stF_nx, stF_er, enumD_n, enumD_c, zipD_c, zipD_n, zipD_m, dPn_e, noX_n, noX_v, noX_m, noX_u, noX_x, finX_s, finX_n, dBreak_e, dCont_e, rngD_z, rngD_s, dTrue_e, loopC_n, loopC_k, goC_s, goC_o, bindX_o, wipeE_n, wipeE_c, restE_n, restE_c, okOwn_n, runH_n, shp_i, shp_b, shp_o, shp_s, shp_t, shp_l, shp_f, shps_n, shps_c, gEq_ci, gNe_ci, gEq_cb, gNe_cb, gEq_cs, gNe_cs, gEq_co, gNe_co, gEq_ct, gNe_ct, gEq_cl, gNe_cl, gEq_cf, gNe_cf, deq_ii, deq_bb, deq_bi, deq_ib, deq_ss, deq_tt, deq_ll, deq_lf, deq_fl, deq_ff, deq_oo, deqs_nn, deqs_cc, deqs_nc, deqs_cn, deq_oi, deq_io, deq_ob, deq_bo, deq_os, deq_so, deq_ot, deq_to, deq_ol, deq_lo, deq_it, deq_ti, deq_il, deq_li, deq_is, deq_si, deq_tl, deq_lt, deq_ts, deq_st, deq_ls, deq_sl, deq_bt, deq_tb, deq_bs, deq_sb, tru_b, tru_l, tru_t, tru_i, tru_o, ni_i, ni_b, ni_s, ni_o, ni_t, ni_l, ni_f, isTs_n, isTs_c, isT_i, isT_b, isT_s, isT_t, isT_l, isT_f, isT_o, gIs_n, gIs_bb, gIsNot_n, gIsNot_bb, isN_o, isN_i, isN_b, isN_s, isN_t, isN_l, isN_f, gList_t, gList_l, gList_f, gTuple_l, gTuple_f, gTuple_t, gIx_t, gIx_l, gIx_f, gSl_t, gSl_l, gSl_f, gEqS_e, gNeS_e, st_ok, st_err, st_bad, fl_m, fl_i, fl_b, fl_s, fl_o, fl_t, fl_l, fl_f, fl_n, fl_g, frzAr_n, frzAr_v, frzAr_s, hasS_n, hasS_v, hasS_s, vb_e, at4, at5, at6, at7, at8, at9, at10, at11, at12, atm1_1, atm1_2, atm1_3, atm1_4, atm1_5, atm1_6, atm1_7, atm1_8, ixq1_0, ixq2_0, ixq2_1, ixq3_0, ixq3_1, ixq3_2, ixq4_0, ixq4_1, ixq4_2, ixq4_3, ixq5_0, ixq5_1, ixq5_2, ixq5_3, ixq5_4, ixq6_0, ixq6_1, ixq6_2, ixq6_3, ixq6_4, ixq6_5, ixq7_0, ixq7_1, ixq7_2, ixq7_3, ixq7_4, ixq7_5, ixq7_6, ixq8_0, ixq8_1, ixq8_2, ixq8_3, ixq8_4, ixq8_5, ixq8_6, ixq8_7, dVar_k, kVar_v, kVar_m, dSlot_k, kSlot_v, kSlot_m, dMove_k, kMove_v, kMove_m, dLV_k, kLV_k, dVal_k, kVal_k, get_k, kGet_v, kGet_m, kEnt_k, dBin_k, kBin1_k, kBin2_k, kBin3_k, dNeg_k, kNeg_k, dTB_k, kTB_k, dBT_k, kBT_k, dTru_k, kTru_k, kTru2_k, kTru3_k, dNotT_k, kNotT_k, dAndT_k, kAndT_t, kAndT_f, dOrT_k, kOrT_t, kOrT_f, dAndV_k, kAndV_t, kAndV_f, dOrV_k, kOrV_t, kOrV_f, dNotL_k, kNotL_k, dNotV_k, dIf_k, dIfF_k, dIfS_k, kIf_t, kIf_f, dChain_k, kCh1_k, kCh2_k, kCh3_k, kCh4_t, kCh4_f, kCh6_k, dVs_k, kVs1_k, kVs2_k, dArs_k, kAr1_k, kAr2_k, dTup_k, kTup_k, dLst_k, kLst_k, getAll_k, kAll_k, dCB_k, kCB_k, kCB2_k, dCall_k, kCl_k, kCl2_k, kCl3_o, kCl3_e, kCl4_t, kCl4_f, kCl4_v, kCl4_n, dCall0_k, kC0_o, kC0_e, dCallR_k, kCR0_m, kCR0_v, kCR1_k, kCR2_k, kCR3_o, kCR3_e, kCR5_k, kCR6_k, kCR7_o, kCR7_e, dCallK_k, kCK1_k, kCK2_k, dIsi_k, kIsi_k, kIsi2_k, dSeq_k, kSeq_n, kSeq_r, kSeq_b, kSeq_c, kSeq_e, kSeq_d, dRet_k, kRet_k, dSet_k, kSet_v, kSet_m, dAsg_k, kAsg_k, kAsg2_k, dPar_k, kPar_k, dPar3_k, kPar3_k, dPut_k, kPut1_k, kPut2_k, kPut3_k, kPut4_k, kPut5_k, dExp_k, kExp_k, dApp_k, kApp_k, kApp2_k, kApp3_k, dAug_k, kAug_k, kAug2_k, kAug3_k, gAddI_k, dFor_k, kFor_k, loopF_k, kLp_k, kLp2_n, kLp2_c, kLp2_b, kLp2_r, kLp2_e, dIt_k, kIt_k, kIt2_k, dIsK_k, kIsK_k, kIsK2_k, kIsK3_k, kD_k, dAt_k, kAt_k, kAt2_k, dRev_k, kRev1_k, kRev2_k, kRev3_k, dEnum_k, kEnu_k, kEnu2_k, dZip_k, kZip_k, kZip2_k, dRng1_k, kRg1_c, kRng1_k, dRng2_k, kRg2_c, kRng2_k, dPs_k, kPs_k, dSl_k, kSl1_k, kSl2_k, kSl3_k, kSl4_k, frzS_k, kFrz_m, kFrz_v, kFrz_u, dMake_k, kMk_k, kMk2_o, kMk2_e, dProp_k, kPr_k, kPr2_k, dLc_k, kLc_k, kLc1_k, kLc2_k, eleC_k, kEle_k, kEle2_t, kEle2_f, kEle3_k, okOwn_k, kOwn_u, kOwn_v, dTry_k, kTry_e, kTry_o, runH_k, kRH_t, kRH_f, kXE_s, kXE_n, dRaise_k, kRai_k, dXf_k, kXf_k, preI_k, kPre_n, kPre_e, dFlds_k, mkIni_k, gOwn_it, gOwn_ie, gOwn_bt, gOwn_be, gOwn_st, gOwn_se, gOwn_ot, gOwn_oe, gOwn_tt, gOwn_te, gOwn_lt, gOwn_le, gOwn_ft, gOwn_fe, dRetN_k, Res.bind_ok, Res.bind_err, Res.bind_bad, List.getElem?_cons_zero, List.getElem?_cons_succ, List.set_cons_zero, List.set_cons_succ, List.map_cons, List.map_nil, List.cons_append, List.nil_append, List.append_nil, List.length_cons, List.length_nil, List.replicate, List.take, if_true, if_false, ite_true, ite_false, reduceIte, Nat.reduceAdd, Nat.reduceSub, Nat.reduceLeDiff, Bool.false_eq_true, Nat.reduceEqDiff, Nat.add_eq, Nat.add_zero, Nat.zero_add, Option.bind_some, Option.map_some, Nat.sub_self, eq_self, and_self, and_true, true_and, Bool.and_true, Bool.true_and, Bool.and_false, Bool.false_and, Bool.or_true, Bool.true_or, Bool.or_false, Bool.false_or, Bool.not_true, Bool.not_false, String.reduceBEq, decide_true, decide_false, List.reverse_cons, List.reverse_nil, List.isEmpty_cons, List.isEmpty_nil, Option.getD_some, Int.reduceLT, Int.reduceLE, Int.reduceEq, Int.reduceAdd, Int.reduceSub, Int.reduceMul, Int.reduceNeg, Nat.reduceLT, Nat.reduceMul, not_true_eq_false, not_false_eq_true, and_false, false_and, List.length_map, Int.natCast_zero, Int.reduceToNat, Int.cast_ofNat_Int, Int.reduceFDiv, Int.reduceFMod, Int.reduceBEq, Int.reduceBNe, Int.reduceNe, Nat.reduceBEq, Int.reducePow, ite_self, L0, hk, hc, p18, gMod_i z1, gMod_i hm0, hq]
      · refine ⟨c.fmod m, [.lst (cs.map .int), .int (kn + 1), .int (c.fdiv m), .int t], ?_, ⟨cs, kn + 1, c.fdiv m, t, rfl, hl, by omega, by omega, t0, t1⟩, (fmod_range hm).1, (fmod_range hm).2⟩
        have c1 : 0 < c := by omega
        simp only [fn__law_take, den__law_take, mkFn_a, finF, I0, dC_a, dFrz_a, frzE_val, frzE_mu, get_v, dVs_n, dArs_n, getAll_n, dSkip_a, asN_a, asT_a, asT_l, asC_a, asNil_a, loopF_n, gDiv_i, gMul_i, gMod_i, gEq_int, gNe_int, at0, at1, at2, at3, gAdd_i, gSub_i, gLt_i, gLe_i, gGt_i, gGe_i, gInt_i, gLen_l, gLen_f, gLen_t, gAbs_i, its_l, its_t, its_f, mkFn_s, stF_rt, stF_nx, stF_er, enumD_n, enumD_c, zipD_c, zipD_n, zipD_m, dPn_e, noX_n, noX_v, noX_m, noX_u, noX_x, finX_s, finX_n, dBreak_e, dCont_e, rngD_z, rngD_s, dTrue_e, loopC_n, loopC_k, goC_s, goC_o, bindX_o, wipeE_n, wipeE_c, restE_n, restE_c, okOwn_n, runH_n, shp_i, shp_b, shp_o, shp_s, shp_t, shp_l, shp_f, shps_n, shps_c, gEq_ci, gNe_ci, gEq_cb, gNe_cb, gEq_cs, gNe_cs, gEq_co, gNe_co, gEq_ct, gNe_ct, gEq_cl, gNe_cl, gEq_cf, gNe_cf, deq_ii, deq_bb, deq_bi, deq_ib, deq_ss, deq_tt, deq_ll, deq_lf, deq_fl, deq_ff, deq_oo, deqs_nn, deqs_cc, deqs_nc, deqs_cn, deq_oi, deq_io, deq_ob, deq_bo, deq_os, deq_so, deq_ot, deq_to, deq_ol, deq_lo, deq_it, deq_ti, deq_il, deq_li, deq_is, deq_si, deq_tl, deq_lt, deq_ts, deq_st, deq_ls, deq_sl, deq_bt, deq_tb, deq_bs, deq_sb, tru_b, tru_l, tru_t, tru_i, tru_o, ni_i, ni_b, ni_s, ni_o, ni_t, ni_l, ni_f, isTs_n, isTs_c, isT_i, isT_b, isT_s, isT_t, isT_l, isT_f, isT_o, gIs_n, gIs_bb, gIsNot_n, gIsNot_bb, isN_o, isN_i, isN_b, isN_s, isN_t, isN_l, isN_f, gList_t, gList_l, gList_f, gTuple_l, gTuple_f, gTuple_t, gIx_t, gIx_l, gIx_f, gSl_t, gSl_l, gSl_f, gEqS_e, gNeS_e, st_ok, st_err, st_bad, fl_m, fl_i, fl_b, fl_s, fl_o, fl_t, fl_l, fl_f, fl_n, fl_g, frzAr_n, frzAr_v, frzAr_s, hasS_n, hasS_v, hasS_s, vb_e, at4, at5, at6, at7, at8, at9, at10, at11, at12, atm1_1, atm1_2, atm1_3, atm1_4, atm1_5, atm1_6, atm1_7, atm1_8, ixq1_0, ixq2_0, ixq2_1, ixq3_0, ixq3_1, ixq3_2, ixq4_0, ixq4_1, ixq4_2, ixq4_3, ixq5_0, ixq5_1, ixq5_2, ixq5_3, ixq5_4, ixq6_0, ixq6_1, ixq6_2, ixq6_3, ixq6_4, ixq6_5, ixq7_0, ixq7_1, ixq7_2, ixq7_3, ixq7_4, ixq7_5, ixq7_6, ixq8_0, ixq8_1, ixq8_2, ixq8_3, ixq8_4, ixq8_5, ixq8_6, ixq8_7, dVar_k, kVar_v, kVar_m, dSlot_k, kSlot_v, kSlot_m, dMove_k, kMove_v, kMove_m, dLV_k, kLV_k, dVal_k, kVal_k, get_k, kGet_v, kGet_m, kEnt_k, dBin_k, kBin1_k, kBin2_k, kBin3_k, dNeg_k, kNeg_k, dTB_k, kTB_k, dBT_k, kBT_k, dTru_k, kTru_k, kTru2_k, kTru3_k, dNotT_k, kNotT_k, dAndT_k, kAndT_t, kAndT_f, dOrT_k, kOrT_t, kOrT_f, dAndV_k, kAndV_t, kAndV_f, dOrV_k, kOrV_t, kOrV_f, dNotL_k, kNotL_k, dNotV_k, dIf_k, dIfF_k, dIfS_k, kIf_t, kIf_f, dChain_k, kCh1_k, kCh2_k, kCh3_k, kCh4_t, kCh4_f, kCh6_k, dVs_k, kVs1_k, kVs2_k, dArs_k, kAr1_k, kAr2_k, dTup_k, kTup_k, dLst_k, kLst_k, getAll_k, kAll_k, dCB_k, kCB_k, kCB2_k, dCall_k, kCl_k, kCl2_k, kCl3_o, kCl3_e, kCl4_t, kCl4_f, kCl4_v, kCl4_n, dCall0_k, kC0_o, kC0_e, dCallR_k, kCR0_m, kCR0_v, kCR1_k, kCR2_k, kCR3_o, kCR3_e, kCR5_k, kCR6_k, kCR7_o, kCR7_e, dCallK_k, kCK1_k, kCK2_k, dIsi_k, kIsi_k, kIsi2_k, dSeq_k, kSeq_n, kSeq_r, kSeq_b, kSeq_c, kSeq_e, kSeq_d, dRet_k, kRet_k, dSet_k, kSet_v, kSet_m, dAsg_k, kAsg_k, kAsg2_k, dPar_k, kPar_k, dPar3_k, kPar3_k, dPut_k, kPut1_k, kPut2_k, kPut3_k, kPut4_k, kPut5_k, dExp_k, kExp_k, dApp_k, kApp_k, kApp2_k, kApp3_k, dAug_k, kAug_k, kAug2_k, kAug3_k, gAddI_k, dFor_k, kFor_k, loopF_k, kLp_k, kLp2_n, kLp2_c, kLp2_b, kLp2_r, kLp2_e, dIt_k, kIt_k, kIt2_k, dIsK_k, kIsK_k, kIsK2_k, kIsK3_k, kD_k, dAt_k, kAt_k, kAt2_k, dRev_k, kRev1_k, kRev2_k, kRev3_k, dEnum_k, kEnu_k, kEnu2_k, dZip_k, kZip_k, kZip2_k, dRng1_k, kRg1_c, kRng1_k, dRng2_k, kRg2_c, kRng2_k, dPs_k, kPs_k, dSl_k, kSl1_k, kSl2_k, kSl3_k, kSl4_k, frzS_k, kFrz_m, kFrz_v, kFrz_u, dMake_k, kMk_k, kMk2_o, kMk2_e, dProp_k, kPr_k, kPr2_k, dLc_k, kLc_k, kLc1_k, kLc2_k, eleC_k, kEle_k, kEle2_t, kEle2_f, kEle3_k, okOwn_k, kOwn_u, kOwn_v, dTry_k, kTry_e, kTry_o, runH_k, kRH_t, kRH_f, kXE_s, kXE_n, dRaise_k, kRai_k, dXf_k, kXf_k, preI_k, kPre_n, kPre_e, dFlds_k, mkIni_k, gOwn_it, gOwn_ie, gOwn_bt, gOwn_be, gOwn_st, gOwn_se, gOwn_ot, gOwn_oe, gOwn_tt, gOwn_te, gOwn_lt, gOwn_le, gOwn_ft, gOwn_fe, dRetN_k, Res.bind_ok, Res.bind_err, Res.bind_bad, List.getElem?_cons_zero, List.getElem?_cons_succ, List.set_cons_zero, List.set_cons_succ, List.map_cons, List.map_nil, List.cons_append, List.nil_append, List.append_nil, List.length_cons, List.length_nil, List.replicate, List.take, if_true, if_false, ite_true, ite_false, reduceIte, Nat.reduceAdd, Nat.reduceSub, Nat.reduceLeDiff, Bool.false_eq_true, Nat.reduceEqDiff, Nat.add_eq, Nat.add_zero, Nat.zero_add, Option.bind_some, Option.map_some, Nat.sub_self, eq_self, and_self, and_true, true_and, Bool.and_true, Bool.true_and, Bool.and_false, Bool.false_and, Bool.or_true, Bool.true_or, Bool.or_false, Bool.false_or, Bool.not_true, Bool.not_false, String.reduceBEq, decide_true, decide_false, List.reverse_cons, List.reverse_nil, List.isEmpty_cons, List.isEmpty_nil, Option.getD_some, Int.reduceLT, Int.reduceLE, Int.reduceEq, Int.reduceAdd, Int.reduceSub, Int.reduceMul, Int.reduceNeg, Nat.reduceLT, Nat.reduceMul, not_true_eq_false, not_false_eq_true, and_false, false_and, List.length_map, Int.natCast_zero, Int.reduceToNat, Int.cast_ofNat_Int, Int.reduceFDiv, Int.reduceFMod, Int.reduceBEq, Int.reduceBNe, Int.reduceNe, Nat.reduceBEq, Int.reducePow, ite_self, L0, hk, hc, c1, p18, gDiv_i hd, gMod_i z1, gMod_i hm0]
    · obtain ⟨q, hq⟩ := mixed_ev ((t + 1).fmod 2147483549) k (Bd.ofR (b := 2147483549) (fmod_range (by decide)) (by decide)) bk
      have f1 := fmod_range (a := t + 1) (b := 2147483549) (by decide)
      refine ⟨q.fmod m, [.lst (cs.map .int), .int k, .int 0, .int ((t + 1).fmod 2147483549)], ?_, ⟨cs, k, 0, _, rfl, hl, k0, k1, f1.1, f1.2⟩, (fmod_range hm).1, (fmod_range hm).2⟩
      simp only [fn__law_take, den__law_take, mkFn_a, finF, dC_a, dFrz_a, frzE_val, frzE_mu, get_v, dVs_n, dArs_n, getAll_n, dSkip_a, asN_a, asT_a, asT_l, asC_a, asNil_a, loopF_n, gDiv_i, gMul_i, gMod_i, gEq_int, gNe_int, at0, at1, at2, at3, gAdd_i, gSub_i, gLt_i, gLe_i, gGt_i, gGe_i, gInt_i, gLen_l, gLen_f, gLen_t, gAbs_i, its_l, its_t, its_f, mkFn_s, stF_rt, stF_nx, stF_er, enumD_n, enumD_c, zipD_c, zipD_n, zipD_m, dPn_e, noX_n, noX_v, noX_m, noX_u, noX_x, finX_s, finX_n, dBreak_e, dCont_e, rngD_z, rngD_s, dTrue_e, loopC_n, loopC_k, goC_s, goC_o, bindX_o, wipeE_n, wipeE_c, restE_n, restE_c, okOwn_n, runH_n, shp_i, shp_b, shp_o, shp_s, shp_t, shp_l, shp_f, shps_n, shps_c, gEq_ci, gNe_ci, gEq_cb, gNe_cb, gEq_cs, gNe_cs, gEq_co, gNe_co, gEq_ct, gNe_ct, gEq_cl, gNe_cl, gEq_cf, gNe_cf, deq_ii, deq_bb, deq_bi, deq_ib, deq_ss, deq_tt, deq_ll, deq_lf, deq_fl, deq_ff, deq_oo, deqs_nn, deqs_cc, deqs_nc, deqs_cn, deq_oi, deq_io, deq_ob, deq_bo, deq_os, deq_so, deq_ot, deq_to, deq_ol, deq_lo, deq_it, deq_ti, deq_il, deq_li, deq_is, deq_si, deq_tl, deq_lt, deq_ts, deq_st, deq_ls, deq_sl, deq_bt, deq_tb, deq_bs, deq_sb, tru_b, tru_l, tru_t, tru_i, tru_o, ni_i, ni_b, ni_s, ni_o, ni_t, ni_l, ni_f, isTs_n, isTs_c, isT_i, isT_b, isT_s, isT_t, isT_l, isT_f, isT_o, gIs_n, gIs_bb, gIsNot_n, gIsNot_bb, isN_o, isN_i, isN_b, isN_s, isN_t, isN_l, isN_f, gList_t, gList_l, gList_f, gTuple_l, gTuple_f, gTuple_t, gIx_t, gIx_l, gIx_f, gSl_t, gSl_l, gSl_f, gEqS_e, gNeS_e, st_ok, st_err, st_bad, fl_m, fl_i, fl_b, fl_s, fl_o, fl_t, fl_l, fl_f, fl_n, fl_g, frzAr_n, frzAr_v, frzAr_s, hasS_n, hasS_v, hasS_s, vb_e, at4, at5, at6, at7, at8, at9, at10, at11, at12, atm1_1, atm1_2, atm1_3, atm1_4, atm1_5, atm1_6, atm1_7, atm1_8, ixq1_0, ixq2_0, ixq2_1, ixq3_0, ixq3_1, ixq3_2, ixq4_0, ixq4_1, ixq4_2, ixq4_3, ixq5_0, ixq5_1, ixq5_2, ixq5_3, ixq5_4, ixq6_0, ixq6_1, ixq6_2, ixq6_3, ixq6_4, ixq6_5, ixq7_0, ixq7_1, ixq7_2, ixq7_3, ixq7_4, ixq7_5, ixq7_6, ixq8_0, ixq8_1, ixq8_2, ixq8_3, ixq8_4, ixq8_5, ixq8_6, ixq8_7, dVar_k, kVar_v, kVar_m, dSlot_k, kSlot_v, kSlot_m, dMove_k, kMove_v, kMove_m, dLV_k, kLV_k, dVal_k, kVal_k, get_k, kGet_v, kGet_m, kEnt_k, dBin_k, kBin1_k, kBin2_k, kBin3_k, dNeg_k, kNeg_k, dTB_k, kTB_k, dBT_k, kBT_k, dTru_k, kTru_k, kTru2_k, kTru3_k, dNotT_k, kNotT_k, dAndT_k, kAndT_t, kAndT_f, dOrT_k, kOrT_t, kOrT_f, dAndV_k, kAndV_t, kAndV_f, dOrV_k, kOrV_t, kOrV_f, dNotL_k, kNotL_k, dNotV_k, dIf_k, dIfF_k, dIfS_k, kIf_t, kIf_f, dChain_k, kCh1_k, kCh2_k, kCh3_k, kCh4_t, kCh4_f, kCh6_k, dVs_k, kVs1_k, kVs2_k, dArs_k, kAr1_k, kAr2_k, dTup_k, kTup_k, dLst_k, kLst_k, getAll_k, kAll_k, dCB_k, kCB_k, kCB2_k, dCall_k, kCl_k, kCl2_k, kCl3_o, kCl3_e, kCl4_t, kCl4_f, kCl4_v, kCl4_n, dCall0_k, kC0_o, kC0_e, dCallR_k, kCR0_m, kCR0_v, kCR1_k, kCR2_k, kCR3_o, kCR3_e, kCR5_k, kCR6_k, kCR7_o, kCR7_e, dCallK_k, kCK1_k, kCK2_k, dIsi_k, kIsi_k, kIsi2_k, dSeq_k, kSeq_n, kSeq_r, kSeq_b, kSeq_c, kSeq_e, kSeq_d, dRet_k, kRet_k, dSet_k, kSet_v, kSet_m, dAsg_k, kAsg_k, kAsg2_k, dPar_k, kPar_k, dPar3_k, kPar3_k, dPut_k, kPut1_k, kPut2_k, kPut3_k, kPut4_k, kPut5_k, dExp_k, kExp_k, dApp_k, kApp_k, kApp2_k, kApp3_k, dAug_k, kAug_k, kAug2_k, kAug3_k, gAddI_k, dFor_k, kFor_k, loopF_k, kLp_k, kLp2_n, kLp2_c, kLp2_b, kLp2_r, kLp2_e, dIt_k, kIt_k, kIt2_k, dIsK_k, kIsK_k, kIsK2_k, kIsK3_k, kD_k, dAt_k, kAt_k, kAt2_k, dRev_k, kRev1_k, kRev2_k, kRev3_k, dEnum_k, kEnu_k, kEnu2_k, dZip_k, kZip_k, kZip2_k, dRng1_k, kRg1_c, kRng1_k, dRng2_k, kRg2_c, kRng2_k, dPs_k, kPs_k, dSl_k, kSl1_k, kSl2_k, kSl3_k, kSl4_k, frzS_k, kFrz_m, kFrz_v, kFrz_u, dMake_k, kMk_k, kMk2_o, kMk2_e, dProp_k, kPr_k, kPr2_k, dLc_k, kLc_k, kLc1_k, kLc2_k, eleC_k, kEle_k, kEle2_t, kEle2_f, kEle3_k, okOwn_k, kOwn_u, kOwn_v, dTry_k, kTry_e, kTry_o, runH_k, kRH_t, kRH_f, kXE_s, kXE_n, dRaise_k, kRai_k, dXf_k, kXf_k, preI_k, kPre_n, kPre_e, dFlds_k, mkIni_k, gOwn_it, gOwn_ie, gOwn_bt, gOwn_be, gOwn_st, gOwn_se, gOwn_ot, gOwn_oe, gOwn_tt, gOwn_te, gOwn_lt, gOwn_le, gOwn_ft, gOwn_fe, dRetN_k, Res.bind_ok, Res.bind_err, Res.bind_bad, List.getElem?_cons_zero, List.getElem?_cons_succ, List.set_cons_zero, List.set_cons_succ, List.map_cons, List.map_nil, List.cons_append, List.nil_append, List.append_nil, List.length_cons, List.length_nil, List.replicate, List.take, if_true, if_false, ite_true, ite_false, reduceIte, Nat.reduceAdd, Nat.reduceSub, Nat.reduceLeDiff, Bool.false_eq_true, Nat.reduceEqDiff, Nat.add_eq, Nat.add_zero, Nat.zero_add, Option.bind_some, Option.map_some, Nat.sub_self, eq_self, and_self, and_true, true_and, Bool.and_true, Bool.true_and, Bool.and_false, Bool.false_and, Bool.or_true, Bool.true_or, Bool.or_false, Bool.false_or, Bool.not_true, Bool.not_false, String.reduceBEq, decide_true, decide_false, List.reverse_cons, List.reverse_nil, List.isEmpty_cons, List.isEmpty_nil, Option.getD_some, Int.reduceLT, Int.reduceLE, Int.reduceEq, Int.reduceAdd, Int.reduceSub, Int.reduceMul, Int.reduceNeg, Nat.reduceLT, Nat.reduceMul, not_true_eq_false, not_false_eq_true, and_false, false_and, List.length_map, Int.natCast_zero, Int.reduceToNat, Int.cast_ofNat_Int, Int.reduceFDiv, Int.reduceFMod, Int.reduceBEq, Int.reduceBNe, Int.reduceNe, Nat.reduceBEq, Int.reducePow, ite_self, L0, hk, gMod_i z2, gMod_i hm0, hq]
  · by_cases hp : 0 < r
    · refine ⟨r.fmod m, [.lst (cs.map .int), .int k, .int (r.fdiv m), .int t], ?_, ⟨cs, k, _, t, rfl, hl, k0, k1, t0, t1⟩, (fmod_range hm).1, (fmod_range hm).2⟩
      simp only [fn__law_take, den__law_take, mkFn_a, finF, dC_a, dFrz_a, frzE_val, frzE_mu, get_v, dVs_n, dArs_n, getAll_n, dSkip_a, asN_a, asT_a, asT_l, asC_a, asNil_a, loopF_n, gDiv_i, gMul_i, gMod_i, gEq_int, gNe_int, at0, at1, at2, at3, gAdd_i, gSub_i, gLt_i, gLe_i, gGt_i, gGe_i, gInt_i, gLen_l, gLen_f, gLen_t, gAbs_i, its_l, its_t, its_f, mkFn_s, stF_rt, stF_nx, stF_er, enumD_n, enumD_c, zipD_c, zipD_n, zipD_m, dPn_e, noX_n, noX_v, noX_m, noX_u, noX_x, finX_s, finX_n, dBreak_e, dCont_e, rngD_z, rngD_s, dTrue_e, loopC_n, loopC_k, goC_s, goC_o, bindX_o, wipeE_n, wipeE_c, restE_n, restE_c, okOwn_n, runH_n, shp_i, shp_b, shp_o, shp_s, shp_t, shp_l, shp_f, shps_n, shps_c, gEq_ci, gNe_ci, gEq_cb, gNe_cb, gEq_cs, gNe_cs, gEq_co, gNe_co, gEq_ct, gNe_ct, gEq_cl, gNe_cl, gEq_cf, gNe_cf, deq_ii, deq_bb, deq_bi, deq_ib, deq_ss, deq_tt, deq_ll, deq_lf, deq_fl, deq_ff, deq_oo, deqs_nn, deqs_cc, deqs_nc, deqs_cn, deq_oi, deq_io, deq_ob, deq_bo, deq_os, deq_so, deq_ot, deq_to, deq_ol, deq_lo, deq_it, deq_ti, deq_il, deq_li, deq_is, deq_si, deq_tl, deq_lt, deq_ts, deq_st, deq_ls, deq_sl, deq_bt, deq_tb, deq_bs, deq_sb, tru_b, tru_l, tru_t, tru_i, tru_o, ni_i, ni_b, ni_s, ni_o, ni_t, ni_l, ni_f, isTs_n, isTs_c, isT_i, isT_b, isT_s, isT_t, isT_l, isT_f, isT_o, gIs_n, gIs_bb, gIsNot_n, gIsNot_bb, isN_o, isN_i, isN_b, isN_s, isN_t, isN_l, isN_f, gList_t, gList_l, gList_f, gTuple_l, gTuple_f, gTuple_t, gIx_t, gIx_l, gIx_f, gSl_t, gSl_l, gSl_f, gEqS_e, gNeS_e, st_ok, st_err, st_bad, fl_m, fl_i, fl_b, fl_s, fl_o, fl_t, fl_l, fl_f, fl_n, fl_g, frzAr_n, frzAr_v, frzAr_s, hasS_n, hasS_v, hasS_s, vb_e, at4, at5, at6, at7, at8, at9, at10, at11, at12, atm1_1, atm1_2, atm1_3, atm1_4, atm1_5, atm1_6, atm1_7, atm1_8, ixq1_0, ixq2_0, ixq2_1, ixq3_0, ixq3_1, ixq3_2, ixq4_0, ixq4_1, ixq4_2, ixq4_3, ixq5_0, ixq5_1, ixq5_2, ixq5_3, ixq5_4, ixq6_0, ixq6_1, ixq6_2, ixq6_3, ixq6_4, ixq6_5, ixq7_0, ixq7_1, ixq7_2, ixq7_3, ixq7_4, ixq7_5, ixq7_6, ixq8_0, ixq8_1, ixq8_2, ixq8_3, ixq8_4, ixq8_5, ixq8_6, ixq8_7, dVar_k, kVar_v, kVar_m, dSlot_k, kSlot_v, kSlot_m, dMove_k, kMove_v, kMove_m, dLV_k, kLV_k, dVal_k, kVal_k, get_k, kGet_v, kGet_m, kEnt_k, dBin_k, kBin1_k, kBin2_k, kBin3_k, dNeg_k, kNeg_k, dTB_k, kTB_k, dBT_k, kBT_k, dTru_k, kTru_k, kTru2_k, kTru3_k, dNotT_k, kNotT_k, dAndT_k, kAndT_t, kAndT_f, dOrT_k, kOrT_t, kOrT_f, dAndV_k, kAndV_t, kAndV_f, dOrV_k, kOrV_t, kOrV_f, dNotL_k, kNotL_k, dNotV_k, dIf_k, dIfF_k, dIfS_k, kIf_t, kIf_f, dChain_k, kCh1_k, kCh2_k, kCh3_k, kCh4_t, kCh4_f, kCh6_k, dVs_k, kVs1_k, kVs2_k, dArs_k, kAr1_k, kAr2_k, dTup_k, kTup_k, dLst_k, kLst_k, getAll_k, kAll_k, dCB_k, kCB_k, kCB2_k, dCall_k, kCl_k, kCl2_k, kCl3_o, kCl3_e, kCl4_t, kCl4_f, kCl4_v, kCl4_n, dCall0_k, kC0_o, kC0_e, dCallR_k, kCR0_m, kCR0_v, kCR1_k, kCR2_k, kCR3_o, kCR3_e, kCR5_k, kCR6_k, kCR7_o, kCR7_e, dCallK_k, kCK1_k, kCK2_k, dIsi_k, kIsi_k, kIsi2_k, dSeq_k, kSeq_n, kSeq_r, kSeq_b, kSeq_c, kSeq_e, kSeq_d, dRet_k, kRet_k, dSet_k, kSet_v, kSet_m, dAsg_k, kAsg_k, kAsg2_k, dPar_k, kPar_k, dPar3_k, kPar3_k, dPut_k, kPut1_k, kPut2_k, kPut3_k, kPut4_k, kPut5_k, dExp_k, kExp_k, dApp_k, kApp_k, kApp2_k, kApp3_k, dAug_k, kAug_k, kAug2_k, kAug3_k, gAddI_k, dFor_k, kFor_k, loopF_k, kLp_k, kLp2_n, kLp2_c, kLp2_b, kLp2_r, kLp2_e, dIt_k, kIt_k, kIt2_k, dIsK_k, kIsK_k, kIsK2_k, kIsK3_k, kD_k, dAt_k, kAt_k, kAt2_k, dRev_k, kRev1_k, kRev2_k, kRev3_k, dEnum_k, kEnu_k, kEnu2_k, dZip_k, kZip_k, kZip2_k, dRng1_k, kRg1_c, kRng1_k, dRng2_k, kRg2_c, kRng2_k, dPs_k, kPs_k, dSl_k, kSl1_k, kSl2_k, kSl3_k, kSl4_k, frzS_k, kFrz_m, kFrz_v, kFrz_u, dMake_k, kMk_k, kMk2_o, kMk2_e, dProp_k, kPr_k, kPr2_k, dLc_k, kLc_k, kLc1_k, kLc2_k, eleC_k, kEle_k, kEle2_t, kEle2_f, kEle3_k, okOwn_k, kOwn_u, kOwn_v, dTry_k, kTry_e, kTry_o, runH_k, kRH_t, kRH_f, kXE_s, kXE_n, dRaise_k, kRai_k, dXf_k, kXf_k, preI_k, kPre_n, kPre_e, dFlds_k, mkIni_k, gOwn_it, gOwn_ie, gOwn_bt, gOwn_be, gOwn_st, gOwn_se, gOwn_ot, gOwn_oe, gOwn_tt, gOwn_te, gOwn_lt, gOwn_le, gOwn_ft, gOwn_fe, dRetN_k, Res.bind_ok, Res.bind_err, Res.bind_bad, List.getElem?_cons_zero, List.getElem?_cons_succ, List.set_cons_zero, List.set_cons_succ, List.map_cons, List.map_nil, List.cons_append, List.nil_append, List.append_nil, List.length_cons, List.length_nil, List.replicate, List.take, if_true, if_false, ite_true, ite_false, reduceIte, Nat.reduceAdd, Nat.reduceSub, Nat.reduceLeDiff, Bool.false_eq_true, Nat.reduceEqDiff, Nat.add_eq, Nat.add_zero, Nat.zero_add, Option.bind_some, Option.map_some, Nat.sub_self, eq_self, and_self, and_true, true_and, Bool.and_true, Bool.true_and, Bool.and_false, Bool.false_and, Bool.or_true, Bool.true_or, Bool.or_false, Bool.false_or, Bool.not_true, Bool.not_false, String.reduceBEq, decide_true, decide_false, List.reverse_cons, List.reverse_nil, List.isEmpty_cons, List.isEmpty_nil, Option.getD_some, Int.reduceLT, Int.reduceLE, Int.reduceEq, Int.reduceAdd, Int.reduceSub, Int.reduceMul, Int.reduceNeg, Nat.reduceLT, Nat.reduceMul, not_true_eq_false, not_false_eq_true, and_false, false_and, List.length_map, Int.natCast_zero, Int.reduceToNat, Int.cast_ofNat_Int, Int.reduceFDiv, Int.reduceFMod, Int.reduceBEq, Int.reduceBNe, Int.reduceNe, Nat.reduceBEq, Int.reducePow, ite_self, L0, hr, hp, gDiv_i hd, gMod_i hm0]
    · obtain ⟨q, hq⟩ := mixed_ev ((t + 1).fmod 2147483549) k (Bd.ofR (b := 2147483549) (fmod_range (by decide)) (by decide)) bk
      have f1 := fmod_range (a := t + 1) (b := 2147483549) (by decide)
      refine ⟨q.fmod m, [.lst (cs.map .int), .int k, .int r, .int ((t + 1).fmod 2147483549)], ?_, ⟨cs, k, r, _, rfl, hl, k0, k1, f1.1, f1.2⟩, (fmod_range hm).1, (fmod_range hm).2⟩
      simp only [fn__law_take, den__law_take, mkFn_a, finF, dC_a, dFrz_a, frzE_val, frzE_mu, get_v, dVs_n, dArs_n, getAll_n, dSkip_a, asN_a, asT_a, asT_l, asC_a, asNil_a, loopF_n, gDiv_i, gMul_i, gMod_i, gEq_int, gNe_int, at0, at1, at2, at3, gAdd_i, gSub_i, gLt_i, gLe_i, gGt_i, gGe_i, gInt_i, gLen_l, gLen_f, gLen_t, gAbs_i, its_l, its_t, its_f, mkFn_s, stF_rt, stF_nx, stF_er, enumD_n, enumD_c, zipD_c, zipD_n, zipD_m, dPn_e, noX_n, noX_v, noX_m, noX_u, noX_x, finX_s, finX_n, dBreak_e, dCont_e, rngD_z, rngD_s, dTrue_e, loopC_n, loopC_k, goC_s, goC_o, bindX_o, wipeE_n, wipeE_c, restE_n, restE_c, okOwn_n, runH_n, shp_i, shp_b, shp_o, shp_s, shp_t, shp_l, shp_f, shps_n, shps_c, gEq_ci, gNe_ci, gEq_cb, gNe_cb, gEq_cs, gNe_cs, gEq_co, gNe_co, gEq_ct, gNe_ct, gEq_cl, gNe_cl, gEq_cf, gNe_cf, deq_ii, deq_bb, deq_bi, deq_ib, deq_ss, deq_tt, deq_ll, deq_lf, deq_fl, deq_ff, deq_oo, deqs_nn, deqs_cc, deqs_nc, deqs_cn, deq_oi, deq_io, deq_ob, deq_bo, deq_os, deq_so, deq_ot, deq_to, deq_ol, deq_lo, deq_it, deq_ti, deq_il, deq_li, deq_is, deq_si, deq_tl, deq_lt, deq_ts, deq_st, deq_ls, deq_sl, deq_bt, deq_tb, deq_bs, deq_sb, tru_b, tru_l, tru_t, tru_i, tru_o, ni_i, ni_b, ni_s, ni_o, ni_t, ni_l, ni_f, isTs_n, isTs_c, isT_i, isT_b, isT_s, isT_t, isT_l, isT_f, isT_o, gIs_n, gIs_bb, gIsNot_n, gIsNot_bb, isN_o, isN_i, isN_b, isN_s, isN_t, isN_l, isN_f, gList_t, gList_l, gList_f, gTuple_l, gTuple_f, gTuple_t, gIx_t, gIx_l, gIx_f, gSl_t, gSl_l, gSl_f, gEqS_e, gNeS_e, st_ok, st_err, st_bad, fl_m, fl_i, fl_b, fl_s, fl_o, fl_t, fl_l, fl_f, fl_n, fl_g, frzAr_n, frzAr_v, frzAr_s, hasS_n, hasS_v, hasS_s, vb_e, at4, at5, at6, at7, at8, at9, at10, at11, at12, atm1_1, atm1_2, atm1_3, atm1_4, atm1_5, atm1_6, atm1_7, atm1_8, ixq1_0, ixq2_0, ixq2_1, ixq3_0, ixq3_1, ixq3_2, ixq4_0, ixq4_1, ixq4_2, ixq4_3, ixq5_0, ixq5_1, ixq5_2, ixq5_3, ixq5_4, ixq6_0, ixq6_1, ixq6_2, ixq6_3, ixq6_4, ixq6_5, ixq7_0, ixq7_1, ixq7_2, ixq7_3, ixq7_4, ixq7_5, ixq7_6, ixq8_0, ixq8_1, ixq8_2, ixq8_3, ixq8_4, ixq8_5, ixq8_6, ixq8_7, dVar_k, kVar_v, kVar_m, dSlot_k, kSlot_v, kSlot_m, dMove_k, kMove_v, kMove_m, dLV_k, kLV_k, dVal_k, kVal_k, get_k, kGet_v, kGet_m, kEnt_k, dBin_k, kBin1_k, kBin2_k, kBin3_k, dNeg_k, kNeg_k, dTB_k, kTB_k, dBT_k, kBT_k, dTru_k, kTru_k, kTru2_k, kTru3_k, dNotT_k, kNotT_k, dAndT_k, kAndT_t, kAndT_f, dOrT_k, kOrT_t, kOrT_f, dAndV_k, kAndV_t, kAndV_f, dOrV_k, kOrV_t, kOrV_f, dNotL_k, kNotL_k, dNotV_k, dIf_k, dIfF_k, dIfS_k, kIf_t, kIf_f, dChain_k, kCh1_k, kCh2_k, kCh3_k, kCh4_t, kCh4_f, kCh6_k, dVs_k, kVs1_k, kVs2_k, dArs_k, kAr1_k, kAr2_k, dTup_k, kTup_k, dLst_k, kLst_k, getAll_k, kAll_k, dCB_k, kCB_k, kCB2_k, dCall_k, kCl_k, kCl2_k, kCl3_o, kCl3_e, kCl4_t, kCl4_f, kCl4_v, kCl4_n, dCall0_k, kC0_o, kC0_e, dCallR_k, kCR0_m, kCR0_v, kCR1_k, kCR2_k, kCR3_o, kCR3_e, kCR5_k, kCR6_k, kCR7_o, kCR7_e, dCallK_k, kCK1_k, kCK2_k, dIsi_k, kIsi_k, kIsi2_k, dSeq_k, kSeq_n, kSeq_r, kSeq_b, kSeq_c, kSeq_e, kSeq_d, dRet_k, kRet_k, dSet_k, kSet_v, kSet_m, dAsg_k, kAsg_k, kAsg2_k, dPar_k, kPar_k, dPar3_k, kPar3_k, dPut_k, kPut1_k, kPut2_k, kPut3_k, kPut4_k, kPut5_k, dExp_k, kExp_k, dApp_k, kApp_k, kApp2_k, kApp3_k, dAug_k, kAug_k, kAug2_k, kAug3_k, gAddI_k, dFor_k, kFor_k, loopF_k, kLp_k, kLp2_n, kLp2_c, kLp2_b, kLp2_r, kLp2_e, dIt_k, kIt_k, kIt2_k, dIsK_k, kIsK_k, kIsK2_k, kIsK3_k, kD_k, dAt_k, kAt_k, kAt2_k, dRev_k, kRev1_k, kRev2_k, kRev3_k, dEnum_k, kEnu_k, kEnu2_k, dZip_k, kZip_k, kZip2_k, dRng1_k, kRg1_c, kRng1_k, dRng2_k, kRg2_c, kRng2_k, dPs_k, kPs_k, dSl_k, kSl1_k, kSl2_k, kSl3_k, kSl4_k, frzS_k, kFrz_m, kFrz_v, kFrz_u, dMake_k, kMk_k, kMk2_o, kMk2_e, dProp_k, kPr_k, kPr2_k, dLc_k, kLc_k, kLc1_k, kLc2_k, eleC_k, kEle_k, kEle2_t, kEle2_f, kEle3_k, okOwn_k, kOwn_u, kOwn_v, dTry_k, kTry_e, kTry_o, runH_k, kRH_t, kRH_f, kXE_s, kXE_n, dRaise_k, kRai_k, dXf_k, kXf_k, preI_k, kPre_n, kPre_e, dFlds_k, mkIni_k, gOwn_it, gOwn_ie, gOwn_bt, gOwn_be, gOwn_st, gOwn_se, gOwn_ot, gOwn_oe, gOwn_tt, gOwn_te, gOwn_lt, gOwn_le, gOwn_ft, gOwn_fe, dRetN_k, Res.bind_ok, Res.bind_err, Res.bind_bad, List.getElem?_cons_zero, List.getElem?_cons_succ, List.set_cons_zero, List.set_cons_succ, List.map_cons, List.map_nil, List.cons_append, List.nil_append, List.append_nil, List.length_cons, List.length_nil, List.replicate, List.take, if_true, if_false, ite_true, ite_false, reduceIte, Nat.reduceAdd, Nat.reduceSub, Nat.reduceLeDiff, Bool.false_eq_true, Nat.reduceEqDiff, Nat.add_eq, Nat.add_zero, Nat.zero_add, Option.bind_some, Option.map_some, Nat.sub_self, eq_self, and_self, and_true, true_and, Bool.and_true, Bool.true_and, Bool.and_false, Bool.false_and, Bool.or_true, Bool.true_or, Bool.or_false, Bool.false_or, Bool.not_true, Bool.not_false, String.reduceBEq, decide_true, decide_false, List.reverse_cons, List.reverse_nil, List.isEmpty_cons, List.isEmpty_nil, Option.getD_some, Int.reduceLT, Int.reduceLE, Int.reduceEq, Int.reduceAdd, Int.reduceSub, Int.reduceMul, Int.reduceNeg, Nat.reduceLT, Nat.reduceMul, not_true_eq_false, not_false_eq_true, and_false, false_and, List.length_map, Int.natCast_zero, Int.reduceToNat, Int.cast_ofNat_Int, Int.reduceFDiv, Int.reduceFMod, Int.reduceBEq, Int.reduceBNe, Int.reduceNe, Nat.reduceBEq, Int.reducePow, ite_self, L0, hr, hp, gMod_i z2, gMod_i hm0, hq]
theorem hand_loop : ∀ (ns : List Int) (f e3 : Ent) (tot : Int) (acc : List Int), 0 ≤ tot → tot < 2147483549 → acc.length + ns.length ≤ 63 → ∃ (t : Int) (e : Ent), loopF (asN 3) bd__law_hand_1 (ns.map .int) [f, .val (.int tot), .mu (acc.map .int), e3] = .ok .nx [f, .val (.int t), .mu ((acc ++ ns.map fun z => (z.natAbs : Int)).map .int), e] ∧ 0 ≤ t ∧ t < 2147483549
  | [], f, e3, tot, acc, h0, h1, hl => ⟨tot, e3, by rw [List.map_nil, List.map_nil, List.append_nil]; rfl, h0, h1⟩
  | z :: ns, f, e3, tot, acc, h0, h1, hl => by
    rw [List.length_cons] at hl
    have r := fmod_range (a := tot * 1103 + z) (b := 2147483549) (by decide)
    obtain ⟨t, e, ih, t0, t1⟩ := hand_loop ns f (.val (.int z)) ((tot * 1103 + z).fmod 2147483549) (acc ++ [(z.natAbs : Int)]) r.1 r.2 (by rw [List.length_append, List.length_singleton]; omega)
    refine ⟨t, e, ?_, t0, t1⟩
    have m1 : mulOk tot 1103 = true := mulOk_of (k := 39) (m := 39) (Bd.ofR (b := 2147483549) ⟨h0, h1⟩ (by decide)) .lit (by decide)
    have z2 : (2147483549 : Int) ≠ 0 := by decide
    have l1 : acc.length < 1000000 := by omega
    rw [List.map_append, List.map_cons, List.map_nil, List.append_assoc] at ih
    rw [List.map_cons, loopF_c, List.map_cons]
    simp only [bd__law_hand_1, dC_a, dFrz_a, frzE_val, frzE_mu, get_v, dVs_n, dArs_n, getAll_n, dSkip_a, asN_a, asT_a, asT_l, asC_a, asNil_a, loopF_n, gDiv_i, gMul_i, gMod_i, gEq_int, gNe_int, at0, at1, at2, at3, gAdd_i, gSub_i, gLt_i, gLe_i, gGt_i, gGe_i, gInt_i, gLen_l, gLen_f, gLen_t, gAbs_i, its_l, its_t, its_f, mkFn_s, stF_rt, stF_nx, stF_er, enumD_n, enumD_c, zipD_c, zipD_n, zipD_m, dPn_e, noX_n, noX_v, noX_m, noX_u, noX_x, finX_s, finX_n, dBreak_e, dCont_e, rngD_z, rngD_s, dTrue_e, loopC_n, loopC_k, goC_s, goC_o, bindX_o, wipeE_n, wipeE_c, restE_n, restE_c, okOwn_n, runH_n, shp_i, shp_b, shp_o, shp_s, shp_t, shp_l, shp_f, shps_n, shps_c, gEq_ci, gNe_ci, gEq_cb, gNe_cb, gEq_cs, gNe_cs, gEq_co, gNe_co, gEq_ct, gNe_ct, gEq_cl, gNe_cl, gEq_cf, gNe_cf, deq_ii, deq_bb, deq_bi, deq_ib, deq_ss, deq_tt, deq_ll, deq_lf, deq_fl, deq_ff, deq_oo, deqs_nn, deqs_cc, deqs_nc, deqs_cn, deq_oi, deq_io, deq_ob, deq_bo, deq_os, deq_so, deq_ot, deq_to, deq_ol, deq_lo, deq_it, deq_ti, deq_il, deq_li, deq_is, deq_si, deq_tl, deq_lt, deq_ts, deq_st, deq_ls, deq_sl, deq_bt, deq_tb, deq_bs, deq_sb, tru_b, tru_l, tru_t, tru_i, tru_o, ni_i, ni_b, ni_s, ni_o, ni_t, ni_l, ni_f, isTs_n, isTs_c, isT_i, isT_b, isT_s, isT_t, isT_l, isT_f, isT_o, gIs_n, gIs_bb, gIsNot_n, gIsNot_bb, isN_o, isN_i, isN_b, isN_s, isN_t, isN_l, isN_f, gList_t, gList_l, gList_f, gTuple_l, gTuple_f, gTuple_t, gIx_t, gIx_l, gIx_f, gSl_t, gSl_l, gSl_f, gEqS_e, gNeS_e, st_ok, st_err, st_bad, fl_m, fl_i, fl_b, fl_s, fl_o, fl_t, fl_l, fl_f, fl_n, fl_g, frzAr_n, frzAr_v, frzAr_s, hasS_n, hasS_v, hasS_s, vb_e, at4, at5, at6, at7, at8, at9, at10, at11, at12, atm1_1, atm1_2, atm1_3, atm1_4, atm1_5, atm1_6, atm1_7, atm1_8, ixq1_0, ixq2_0, ixq2_1, ixq3_0, ixq3_1, ixq3_2, ixq4_0, ixq4_1, ixq4_2, ixq4_3, ixq5_0, ixq5_1, ixq5_2, ixq5_3, ixq5_4, ixq6_0, ixq6_1, ixq6_2, ixq6_3, ixq6_4, ixq6_5, ixq7_0, ixq7_1, ixq7_2, ixq7_3, ixq7_4, ixq7_5, ixq7_6, ixq8_0, ixq8_1, ixq8_2, ixq8_3, ixq8_4, ixq8_5, ixq8_6, ixq8_7, dVar_k, kVar_v, kVar_m, dSlot_k, kSlot_v, kSlot_m, dMove_k, kMove_v, kMove_m, dLV_k, kLV_k, dVal_k, kVal_k, get_k, kGet_v, kGet_m, kEnt_k, dBin_k, kBin1_k, kBin2_k, kBin3_k, dNeg_k, kNeg_k, dTB_k, kTB_k, dBT_k, kBT_k, dTru_k, kTru_k, kTru2_k, kTru3_k, dNotT_k, kNotT_k, dAndT_k, kAndT_t, kAndT_f, dOrT_k, kOrT_t, kOrT_f, dAndV_k, kAndV_t, kAndV_f, dOrV_k, kOrV_t, kOrV_f, dNotL_k, kNotL_k, dNotV_k, dIf_k, dIfF_k, dIfS_k, kIf_t, kIf_f, dChain_k, kCh1_k, kCh2_k, kCh3_k, kCh4_t, kCh4_f, kCh6_k, dVs_k, kVs1_k, kVs2_k, dArs_k, kAr1_k, kAr2_k, dTup_k, kTup_k, dLst_k, kLst_k, getAll_k, kAll_k, dCB_k, kCB_k, kCB2_k, dCall_k, kCl_k, kCl2_k, kCl3_o, kCl3_e, kCl4_t, kCl4_f, kCl4_v, kCl4_n, dCall0_k, kC0_o, kC0_e, dCallR_k, kCR0_m, kCR0_v, kCR1_k, kCR2_k, kCR3_o, kCR3_e, kCR5_k, kCR6_k, kCR7_o, kCR7_e, dCallK_k, kCK1_k, kCK2_k, dIsi_k, kIsi_k, kIsi2_k, dSeq_k, kSeq_n, kSeq_r, kSeq_b, kSeq_c, kSeq_e, kSeq_d, dRet_k, kRet_k, dSet_k, kSet_v, kSet_m, dAsg_k, kAsg_k, kAsg2_k, dPar_k, kPar_k, dPar3_k, kPar3_k, dPut_k, kPut1_k, kPut2_k, kPut3_k, kPut4_k, kPut5_k, dExp_k, kExp_k, dApp_k, kApp_k, kApp2_k, kApp3_k, dAug_k, kAug_k, kAug2_k, kAug3_k, gAddI_k, dFor_k, kFor_k, loopF_k, kLp_k, kLp2_n, kLp2_c, kLp2_b, kLp2_r, kLp2_e, dIt_k, kIt_k, kIt2_k, dIsK_k, kIsK_k, kIsK2_k, kIsK3_k, kD_k, dAt_k, kAt_k, kAt2_k, dRev_k, kRev1_k, kRev2_k, kRev3_k, dEnum_k, kEnu_k, kEnu2_k, dZip_k, kZip_k, kZip2_k, dRng1_k, kRg1_c, kRng1_k, dRng2_k, kRg2_c, kRng2_k, dPs_k, kPs_k, dSl_k, kSl1_k, kSl2_k, kSl3_k, kSl4_k, frzS_k, kFrz_m, kFrz_v, kFrz_u, dMake_k, kMk_k, kMk2_o, kMk2_e, dProp_k, kPr_k, kPr2_k, dLc_k, kLc_k, kLc1_k, kLc2_k, eleC_k, kEle_k, kEle2_t, kEle2_f, kEle3_k, okOwn_k, kOwn_u, kOwn_v, dTry_k, kTry_e, kTry_o, runH_k, kRH_t, kRH_f, kXE_s, kXE_n, dRaise_k, kRai_k, dXf_k, kXf_k, preI_k, kPre_n, kPre_e, dFlds_k, mkIni_k, gOwn_it, gOwn_ie, gOwn_bt, gOwn_be, gOwn_st, gOwn_se, gOwn_ot, gOwn_oe, gOwn_tt, gOwn_te, gOwn_lt, gOwn_le, gOwn_ft, gOwn_fe, dRetN_k, Res.bind_ok, Res.bind_err, Res.bind_bad, List.getElem?_cons_zero, List.getElem?_cons_succ, List.set_cons_zero, List.set_cons_succ, List.map_cons, List.map_nil, List.cons_append, List.nil_append, List.append_nil, List.length_cons, List.length_nil, List.replicate, List.take, if_true, if_false, ite_true, ite_false, reduceIte, Nat.reduceAdd, Nat.reduceSub, Nat.reduceLeDiff, Bool.false_eq_true, Nat.reduceEqDiff, Nat.add_eq, Nat.add_zero, Nat.zero_add, Option.bind_some, Option.map_some, Nat.sub_self, eq_self, and_self, and_true, true_and, Bool.and_true, Bool.true_and, Bool.and_false, Bool.false_and, Bool.or_true, Bool.true_or, Bool.or_false, Bool.false_or, Bool.not_true, Bool.not_false, String.reduceBEq, decide_true, decide_false, List.reverse_cons, List.reverse_nil, List.isEmpty_cons, List.isEmpty_nil, Option.getD_some, Int.reduceLT, Int.reduceLE, Int.reduceEq, Int.reduceAdd, Int.reduceSub, Int.reduceMul, Int.reduceNeg, Nat.reduceLT, Nat.reduceMul, not_true_eq_false, not_false_eq_true, and_false, false_and, List.length_map, Int.natCast_zero, Int.reduceToNat, Int.cast_ofNat_Int, Int.reduceFDiv, Int.reduceFMod, Int.reduceBEq, Int.reduceBNe, Int.reduceNe, Nat.reduceBEq, Int.reducePow, ite_self, gMul_i m1, gMod_i z2, l1]
    exact ih
theorem hand_ev (ns : List Int) (h : ns.length ≤ 63) : ∃ xs, (fn__law_hand [.val (.fl (ns.map .int))]).st = .ok (.mu xs) [] ∧ HandOk xs := by
  have m1 : mulOk 3 (ns.length : Int) = true := mulOk_of (k := 39) (m := 39) .lit (Bd.nat (Nat.lt_of_le_of_lt h (by decide))) (by decide)
  obtain ⟨t, e, hl, t0, t1⟩ := hand_loop ns (.val (.fl (ns.map .int))) .un (3 * (ns.length : Int) + 71) [] (by omega) (by omega) (by simpa using h)
  rw [List.nil_append, List.map_nil] at hl
  refine ⟨[.lst ((ns.map fun z => (z.natAbs : Int)).map .int), .int 0, .int 0, .int t], ?_, ns.map fun z => (z.natAbs : Int), 0, 0, t, rfl, by rw [List.length_map]; exact h, by omega, by omega, t0, t1⟩
  simp only [fn__law_hand, den__law_hand, dC_a, dFrz_a, frzE_val, frzE_mu, get_v, dVs_n, dArs_n, getAll_n, dSkip_a, asN_a, asT_a, asT_l, asC_a, asNil_a, loopF_n, gDiv_i, gMul_i, gMod_i, gEq_int, gNe_int, at0, at1, at2, at3, gAdd_i, gSub_i, gLt_i, gLe_i, gGt_i, gGe_i, gInt_i, gLen_l, gLen_f, gLen_t, gAbs_i, its_l, its_t, its_f, mkFn_s, stF_rt, stF_nx, stF_er, enumD_n, enumD_c, zipD_c, zipD_n, zipD_m, dPn_e, noX_n, noX_v, noX_m, noX_u, noX_x, finX_s, finX_n, dBreak_e, dCont_e, rngD_z, rngD_s, dTrue_e, loopC_n, loopC_k, goC_s, goC_o, bindX_o, wipeE_n, wipeE_c, restE_n, restE_c, okOwn_n, runH_n, shp_i, shp_b, shp_o, shp_s, shp_t, shp_l, shp_f, shps_n, shps_c, gEq_ci, gNe_ci, gEq_cb, gNe_cb, gEq_cs, gNe_cs, gEq_co, gNe_co, gEq_ct, gNe_ct, gEq_cl, gNe_cl, gEq_cf, gNe_cf, deq_ii, deq_bb, deq_bi, deq_ib, deq_ss, deq_tt, deq_ll, deq_lf, deq_fl, deq_ff, deq_oo, deqs_nn, deqs_cc, deqs_nc, deqs_cn, deq_oi, deq_io, deq_ob, deq_bo, deq_os, deq_so, deq_ot, deq_to, deq_ol, deq_lo, deq_it, deq_ti, deq_il, deq_li, deq_is, deq_si, deq_tl, deq_lt, deq_ts, deq_st, deq_ls, deq_sl, deq_bt, deq_tb, deq_bs, deq_sb, tru_b, tru_l, tru_t, tru_i, tru_o, ni_i, ni_b, ni_s, ni_o, ni_t, ni_l, ni_f, isTs_n, isTs_c, isT_i, isT_b, isT_s, isT_t, isT_l, isT_f, isT_o, gIs_n, gIs_bb, gIsNot_n, gIsNot_bb, isN_o, isN_i, isN_b, isN_s, isN_t, isN_l, isN_f, gList_t, gList_l, gList_f, gTuple_l, gTuple_f, gTuple_t, gIx_t, gIx_l, gIx_f, gSl_t, gSl_l, gSl_f, gEqS_e, gNeS_e, st_ok, st_err, st_bad, fl_m, fl_i, fl_b, fl_s, fl_o, fl_t, fl_l, fl_f, fl_n, fl_g, frzAr_n, frzAr_v, frzAr_s, hasS_n, hasS_v, hasS_s, vb_e, at4, at5, at6, at7, at8, at9, at10, at11, at12, atm1_1, atm1_2, atm1_3, atm1_4, atm1_5, atm1_6, atm1_7, atm1_8, ixq1_0, ixq2_0, ixq2_1, ixq3_0, ixq3_1, ixq3_2, ixq4_0, ixq4_1, ixq4_2, ixq4_3, ixq5_0, ixq5_1, ixq5_2, ixq5_3, ixq5_4, ixq6_0, ixq6_1, ixq6_2, ixq6_3, ixq6_4, ixq6_5, ixq7_0, ixq7_1, ixq7_2, ixq7_3, ixq7_4, ixq7_5, ixq7_6, ixq8_0, ixq8_1, ixq8_2, ixq8_3, ixq8_4, ixq8_5, ixq8_6, ixq8_7, dVar_k, kVar_v, kVar_m, dSlot_k, kSlot_v, kSlot_m, dMove_k, kMove_v, kMove_m, dLV_k, kLV_k, dVal_k, kVal_k, get_k, kGet_v, kGet_m, kEnt_k, dBin_k, kBin1_k, kBin2_k, kBin3_k, dNeg_k, kNeg_k, dTB_k, kTB_k, dBT_k, kBT_k, dTru_k, kTru_k, kTru2_k, kTru3_k, dNotT_k, kNotT_k, dAndT_k, kAndT_t, kAndT_f, dOrT_k, kOrT_t, kOrT_f, dAndV_k, kAndV_t, kAndV_f, dOrV_k, kOrV_t, kOrV_f, dNotL_k, kNotL_k, dNotV_k, dIf_k, dIfF_k, dIfS_k, kIf_t, kIf_f, dChain_k, kCh1_k, kCh2_k, kCh3_k, kCh4_t, kCh4_f, kCh6_k, dVs_k, kVs1_k, kVs2_k, dArs_k, kAr1_k, kAr2_k, dTup_k, kTup_k, dLst_k, kLst_k, getAll_k, kAll_k, dCB_k, kCB_k, kCB2_k, dCall_k, kCl_k, kCl2_k, kCl3_o, kCl3_e, kCl4_t, kCl4_f, kCl4_v, kCl4_n, dCall0_k, kC0_o, kC0_e, dCallR_k, kCR0_m, kCR0_v, kCR1_k, kCR2_k, kCR3_o, kCR3_e, kCR5_k, kCR6_k, kCR7_o, kCR7_e, dCallK_k, kCK1_k, kCK2_k, dIsi_k, kIsi_k, kIsi2_k, dSeq_k, kSeq_n, kSeq_r, kSeq_b, kSeq_c, kSeq_e, kSeq_d, dRet_k, kRet_k, dSet_k, kSet_v, kSet_m, dAsg_k, kAsg_k, kAsg2_k, dPar_k, kPar_k, dPar3_k, kPar3_k, dPut_k, kPut1_k, kPut2_k, kPut3_k, kPut4_k, kPut5_k, dExp_k, kExp_k, dApp_k, kApp_k, kApp2_k, kApp3_k, dAug_k, kAug_k, kAug2_k, kAug3_k, gAddI_k, dFor_k, kFor_k, loopF_k, kLp_k, kLp2_n, kLp2_c, kLp2_b, kLp2_r, kLp2_e, dIt_k, kIt_k, kIt2_k, dIsK_k, kIsK_k, kIsK2_k, kIsK3_k, kD_k, dAt_k, kAt_k, kAt2_k, dRev_k, kRev1_k, kRev2_k, kRev3_k, dEnum_k, kEnu_k, kEnu2_k, dZip_k, kZip_k, kZip2_k, dRng1_k, kRg1_c, kRng1_k, dRng2_k, kRg2_c, kRng2_k, dPs_k, kPs_k, dSl_k, kSl1_k, kSl2_k, kSl3_k, kSl4_k, frzS_k, kFrz_m, kFrz_v, kFrz_u, dMake_k, kMk_k, kMk2_o, kMk2_e, dProp_k, kPr_k, kPr2_k, dLc_k, kLc_k, kLc1_k, kLc2_k, eleC_k, kEle_k, kEle2_t, kEle2_f, kEle3_k, okOwn_k, kOwn_u, kOwn_v, dTry_k, kTry_e, kTry_o, runH_k, kRH_t, kRH_f, kXE_s, kXE_n, dRaise_k, kRai_k, dXf_k, kXf_k, preI_k, kPre_n, kPre_e, dFlds_k, mkIni_k, gOwn_it, gOwn_ie, gOwn_bt, gOwn_be, gOwn_st, gOwn_se, gOwn_ot, gOwn_oe, gOwn_tt, gOwn_te, gOwn_lt, gOwn_le, gOwn_ft, gOwn_fe, dRetN_k, Res.bind_ok, Res.bind_err, Res.bind_bad, List.getElem?_cons_zero, List.getElem?_cons_succ, List.set_cons_zero, List.set_cons_succ, List.map_cons, List.map_nil, List.cons_append, List.nil_append, List.append_nil, List.length_cons, List.length_nil, List.replicate, List.take, if_true, if_false, ite_true, ite_false, reduceIte, Nat.reduceAdd, Nat.reduceSub, Nat.reduceLeDiff, Bool.false_eq_true, Nat.reduceEqDiff, Nat.add_eq, Nat.add_zero, Nat.zero_add, Option.bind_some, Option.map_some, Nat.sub_self, eq_self, and_self, and_true, true_and, Bool.and_true, Bool.true_and, Bool.and_false, Bool.false_and, Bool.or_true, Bool.true_or, Bool.or_false, Bool.false_or, Bool.not_true, Bool.not_false, String.reduceBEq, decide_true, decide_false, List.reverse_cons, List.reverse_nil, List.isEmpty_cons, List.isEmpty_nil, Option.getD_some, Int.reduceLT, Int.reduceLE, Int.reduceEq, Int.reduceAdd, Int.reduceSub, Int.reduceMul, Int.reduceNeg, Nat.reduceLT, Nat.reduceMul, not_true_eq_false, not_false_eq_true, and_false, false_and, List.length_map, Int.natCast_zero, Int.reduceToNat, Int.cast_ofNat_Int, Int.reduceFDiv, Int.reduceFMod, Int.reduceBEq, Int.reduceBNe, Int.reduceNe, Nat.reduceBEq, Int.reducePow, ite_self, gMul_i m1, hl]
end Kx

set_option linter.all false
set_option maxRecDepth 100000
set_option maxHeartbeats 4000000
namespace Kx
open PySem PySem.Spec PyProof.Rows L2 Ev
def stoOf {α : Type} : Res α → Sto
  | .ok _ e => e
  | _ => []
def sl {α : Type} (r : Res α) (i : Nat) : Ent := (stoOf r).getD i .un
theorem faces_loop (x0 : Ent) : ∃ a b c d, loopF (asN 1) bd__law_faces_6 [.int 0, .int 1, .int 2, .int 3, .int 4, .int 5] [x0, .un, .un, .un, .un, .un, .un, .un, .un] = .ok .nx [x0, a, b, c, d, .un, .un, .un, .un] := by
  refine ⟨sl (loopF (asN 1) bd__law_faces_6 [.int 0, .int 1, .int 2, .int 3, .int 4, .int 5] [x0, .un, .un, .un, .un, .un, .un, .un, .un]) 1, sl (loopF (asN 1) bd__law_faces_6 [.int 0, .int 1, .int 2, .int 3, .int 4, .int 5] [x0, .un, .un, .un, .un, .un, .un, .un, .un]) 2, sl (loopF (asN 1) bd__law_faces_6 [.int 0, .int 1, .int 2, .int 3, .int 4, .int 5] [x0, .un, .un, .un, .un, .un, .un, .un, .un]) 3, sl (loopF (asN 1) bd__law_faces_6 [.int 0, .int 1, .int 2, .int 3, .int 4, .int 5] [x0, .un, .un, .un, .un, .un, .un, .un, .un]) 4, ?_⟩
  kernel_rfl
/-! odd things -/
def oddL (hi : Int) : List D := [.bl true, .non, .str "1", .int (-1), .int (hi + 1), .tup [.int 0], .bl false, .int (hi + 100000000000000000000)]
theorem odd_ev (xs : List D) (h : HandOk xs) (hi : Int) : ∃ d ys, fn__law_odd [.mu xs, .val (.int hi)] = .ok (.val d) [.mu ys, .val (.int hi)] ∧ HandOk ys ∧ d ∈ oddL hi := by
  obtain ⟨v, ys, e, hy, v0, v1⟩ := take_ev xs h 8 (by decide) (by decide)
  have p20 : gPow (.int 10) (.int 20) = some (.val (.int 100000000000000000000)) := by rfl
  rcases (show v = 0 ∨ v = 1 ∨ v = 2 ∨ v = 3 ∨ v = 4 ∨ v = 5 ∨ v = 6 ∨ v = 7 by omega) with rfl | rfl | rfl | rfl | rfl | rfl | rfl | rfl
  · exact ⟨.bl true, ys, by simp? [fn__law_odd, den__law_odd, mkFn_a, finF, p20, e], hy, by simp [oddL]⟩
  · exact ⟨.non, ys, by simp? [fn__law_odd, den__law_odd, mkFn_a, finF, p20, e], hy, by simp [oddL]⟩
  · exact ⟨.str "1", ys, by simp? [fn__law_odd, den__law_odd, mkFn_a, finF, p20, e], hy, by simp [oddL]⟩
  · exact ⟨.int (-1), ys, by simp? [fn__law_odd, den__law_odd, mkFn_a, finF, p20, e], hy, by simp [oddL]⟩
  · exact ⟨.int (hi + 1), ys, by simp? [fn__law_odd, den__law_odd, mkFn_a, finF, p20, e], hy, by simp [oddL]⟩
  · exact ⟨.tup [.int 0], ys, by simp? [fn__law_odd, den__law_odd, mkFn_a, finF, p20, e], hy, by simp [oddL]⟩
  · exact ⟨.bl false, ys, by simp? [fn__law_odd, den__law_odd, mkFn_a, finF, p20, e], hy, by simp [oddL]⟩
  · exact ⟨.int (hi + 100000000000000000000), ys, by simp? [fn__law_odd, den__law_odd, mkFn_a, finF, p20, e], hy, by simp [oddL]⟩
theorem faces_7 (x0 x1 x2 x3 x4 : Ent) {d : D} (h : d ∈ oddL 5) : loopF (asN 6) bd__law_faces_7 [.fn "check_face", .fn "face_axes", .fn "faces_beside"] [x0, x1, x2, x3, x4, .val d, .un, .un, .un] = .ok .nx [x0, x1, x2, x3, x4, .val d, .val (.fn "faces_beside"), .un, .un] := by
  simp only [oddL, List.mem_cons, List.not_mem_nil, or_false] at h
  rcases h with rfl | rfl | rfl | rfl | rfl | rfl | rfl | rfl <;> kernel_rfl
theorem faces_8 (x0 x1 x2 x3 x4 x6 : Ent) {d : D} (h : d ∈ oddL 5) {v : Int} (v0 : 0 ≤ v) (v1 : v < 6) : loopF (asN 6) bd__law_faces_8 [.fn "are_beside", .fn "edge_between"] [x0, x1, x2, x3, x4, .val d, x6, .val (.int v), .un] = .ok .nx [x0, x1, x2, x3, x4, .val d, .val (.fn "edge_between"), .val (.int v), .un] := by
  simp only [oddL, List.mem_cons, List.not_mem_nil, or_false] at h
  rcases (show v = 0 ∨ v = 1 ∨ v = 2 ∨ v = 3 ∨ v = 4 ∨ v = 5 by omega) with rfl | rfl | rfl | rfl | rfl | rfl <;> rcases h with rfl | rfl | rfl | rfl | rfl | rfl | rfl | rfl <;> kernel_rfl
theorem faces_ev (xs : List D) (h : HandOk xs) : ∃ ys, fn__law_faces [.mu xs] = .ok (.val (.bl true)) [.mu ys] ∧ HandOk ys := by
  obtain ⟨a, b, c, d, lp⟩ := faces_loop (.mu xs)
  obtain ⟨o, ys0, e0, h0, ho⟩ := odd_ev xs h 5
  obtain ⟨v, ys1, e1, h1, v0, v1⟩ := take_ev ys0 h0 6 (by decide) (by decide)
  have l7 := faces_7 (.mu ys0) a b c d ho
  have l8 := faces_8 (.mu ys1) a b c d (.val (.fn "faces_beside")) ho v0 v1
  refine ⟨ys1, ?_, h1⟩
  simp? [fn__law_faces, den__law_faces, mkFn_a, finF, ↓lp, e0, ↓l7, l7, e1, ↓l8, l8]
end Kx

set_option linter.all false
set_option maxRecDepth 100000
set_option maxHeartbeats 4000000
namespace Kx
open PySem PySem.Spec PyProof.Rows L2 Ev
def dueL : List D := [.tup [.int 0, .int 1], .tup [.int 0, .int 2], .tup [.int 0, .int 4], .tup [.int 1, .int 3], .tup [.int 1, .int 5], .tup [.int 2, .int 3], .tup [.int 2, .int 6], .tup [.int 3, .int 7], .tup [.int 4, .int 5], .tup [.int 4, .int 6], .tup [.int 5, .int 7], .tup [.int 6, .int 7]]
theorem e_due (x0 : Ent) : ∃ a b, loopF (asN 2) bd__law_edges_3 [.int 0, .int 1, .int 2, .int 3, .int 4, .int 5, .int 6, .int 7] [x0, .mu [], .un, .un, .un, .un, .un, .un, .un, .un, .un, .un, .un] = .ok .nx [x0, .mu dueL, a, b, .un, .un, .un, .un, .un, .un, .un, .un, .un] := by
  refine ⟨sl (loopF (asN 2) bd__law_edges_3 [.int 0, .int 1, .int 2, .int 3, .int 4, .int 5, .int 6, .int 7] [x0, .mu [], .un, .un, .un, .un, .un, .un, .un, .un, .un, .un, .un]) 2, sl (loopF (asN 2) bd__law_edges_3 [.int 0, .int 1, .int 2, .int 3, .int 4, .int 5, .int 6, .int 7] [x0, .mu [], .un, .un, .un, .un, .un, .un, .un, .un, .un, .un, .un]) 3, ?_⟩
  kernel_rfl
theorem all_due : (fn_all_edges []).st = .ok (.val (.tup dueL)) [] := by kernel_rfl
theorem e_4 (x0 x1 x2 x3 : Ent) : ∃ a, loopF (asN 4) bd__law_edges_4 dueL [x0, x1, x2, x3, .un, .un, .un, .un, .un, .un, .un, .un, .un] = .ok .nx [x0, x1, x2, x3, a, .un, .un, .un, .un, .un, .un, .un, .un] := by
  refine ⟨sl (loopF (asN 4) bd__law_edges_4 dueL [x0, x1, x2, x3, .un, .un, .un, .un, .un, .un, .un, .un, .un]) 4, ?_⟩
  kernel_rfl
theorem e_5 (x0 x1 x2 x3 x4 : Ent) : ∃ a b, loopF (asN 5) bd__law_edges_5 [.int 0, .int 1, .int 2, .int 3, .int 4, .int 5, .int 6, .int 7] [x0, x1, x2, x3, x4, .un, .un, .un, .un, .un, .un, .un, .un] = .ok .nx [x0, x1, x2, x3, x4, a, b, .un, .un, .un, .un, .un, .un] := by
  refine ⟨sl (loopF (asN 5) bd__law_edges_5 [.int 0, .int 1, .int 2, .int 3, .int 4, .int 5, .int 6, .int 7] [x0, x1, x2, x3, x4, .un, .un, .un, .un, .un, .un, .un, .un]) 5, sl (loopF (asN 5) bd__law_edges_5 [.int 0, .int 1, .int 2, .int 3, .int 4, .int 5, .int 6, .int 7] [x0, x1, x2, x3, x4, .un, .un, .un, .un, .un, .un, .un, .un]) 6, ?_⟩
  kernel_rfl
theorem dSeq_assoc (a b c : DenS) : dSeq a (dSeq b c) = dSeq (dSeq a b) c := by
  funext env
  rw [dSeq_k, dSeq_k, dSeq_k]
  cases a env with
  | ok f e => cases f <;> first | rfl | (show dSeq b c e = kSeq c (b e); rw [dSeq_k])
  | err _ _ _ _ => rfl
  | bad => rfl
noncomputable def midE : DenS := dSeq (dSet 8 (dVal (dAndV (dIsi ["list", "tuple"] (dSlot 7)) (dAndV (dFrz (dBin gEq (dLV (dFrz (dCB gLen (dArs [dSlot 7])))) (dLV (dC (.int 2))))) (dAndV (dFrz (dCall fn__law_whole [] (dArs [dLV (dFrz (dBin gIx (dSlot 7) (dLV (dC (.int 0))))), dLV (dC (.int 0)), dLV (dC (.int 7))]))) (dFrz (dCall fn__law_whole [] (dArs [dLV (dFrz (dBin gIx (dSlot 7) (dLV (dC (.int 1))))), dLV (dC (.int 0)), dLV (dC (.int 7))])))))))) (dSeq (dSet 9 (dIfF (dTru (dSlot 8)) (dCB gTuple (dArs [dLV (dFrz (dCB gSortB (dArs [dSlot 7])))])) (dVal (dC .non)))) (dSeq (dSet 10 (dCall fn__law_asked [] (dArs [dLV (dC (.fn "check_edge")), dSlot 7]))) (dIfS (dTB (dBin gIn (dSlot 9) (dSlot 1))) (dIfS (dOrT (dTB (dBin gNe (dSlot 10) (dSlot 9))) (dTB (dBin gNe (dLV (dFrz (dCall fn__law_asked [] (dArs [dLV (dC (.fn "faces_of_edge")), dSlot 7])))) (dLV (dFrz (dCall fn_faces_of_edge [] (dArs [dSlot 9]))))))) (dRet (dVal (dC (.bl false)))) (dSkip)) (dIfS (dOrT (dNotT (dTru (dLV (dFrz (dCall fn__law_like [] (dArs [dSlot 10, dLV (dFrz (dLst [dC (.str "BadEdge"), dVar 7]))])))))) (dNotT (dTru (dLV (dFrz (dCall fn__law_like [] (dArs [dLV (dFrz (dCall fn__law_asked [] (dArs [dLV (dC (.fn "faces_of_edge")), dSlot 7]))), dLV (dFrz (dLst [dC (.str "BadEdge"), dVar 7]))]))))))) (dRet (dVal (dC (.bl false)))) (dSkip)))))
theorem mid_e : dSeq (dSet 8 (dVal (dAndV (dIsi ["list", "tuple"] (dSlot 7)) (dAndV (dFrz (dBin gEq (dLV (dFrz (dCB gLen (dArs [dSlot 7])))) (dLV (dC (.int 2))))) (dAndV (dFrz (dCall fn__law_whole [] (dArs [dLV (dFrz (dBin gIx (dSlot 7) (dLV (dC (.int 0))))), dLV (dC (.int 0)), dLV (dC (.int 7))]))) (dFrz (dCall fn__law_whole [] (dArs [dLV (dFrz (dBin gIx (dSlot 7) (dLV (dC (.int 1))))), dLV (dC (.int 0)), dLV (dC (.int 7))])))))))) (dSeq (dSet 9 (dIfF (dTru (dSlot 8)) (dCB gTuple (dArs [dLV (dFrz (dCB gSortB (dArs [dSlot 7])))])) (dVal (dC .non)))) (dSeq (dSet 10 (dCall fn__law_asked [] (dArs [dLV (dC (.fn "check_edge")), dSlot 7]))) (dSeq (dIfS (dTB (dBin gIn (dSlot 9) (dSlot 1))) (dIfS (dOrT (dTB (dBin gNe (dSlot 10) (dSlot 9))) (dTB (dBin gNe (dLV (dFrz (dCall fn__law_asked [] (dArs [dLV (dC (.fn "faces_of_edge")), dSlot 7])))) (dLV (dFrz (dCall fn_faces_of_edge [] (dArs [dSlot 9]))))))) (dRet (dVal (dC (.bl false)))) (dSkip)) (dIfS (dOrT (dNotT (dTru (dLV (dFrz (dCall fn__law_like [] (dArs [dSlot 10, dLV (dFrz (dLst [dC (.str "BadEdge"), dVar 7]))])))))) (dNotT (dTru (dLV (dFrz (dCall fn__law_like [] (dArs [dLV (dFrz (dCall fn__law_asked [] (dArs [dLV (dC (.fn "faces_of_edge")), dSlot 7]))), dLV (dFrz (dLst [dC (.str "BadEdge"), dVar 7]))]))))))) (dRet (dVal (dC (.bl false)))) (dSkip))) (dSeq (dSet 11 (dCallR fn__law_odd 0 [] (dArs [dLV (dC (.int 7))]))) (dRet (dVal (dAndV (dFrz (dCall fn__law_like [] (dArs [dLV (dFrz (dCall fn__law_asked [] (dArs [dLV (dC (.fn "check_corner")), dSlot 11]))), dLV (dFrz (dLst [dC (.str "BadCorner"), dVar 11]))]))) (dFrz (dCall fn__law_like [] (dArs [dLV (dFrz (dCall fn__law_asked [] (dArs [dLV (dC (.fn "faces_of_corner")), dSlot 11]))), dLV (dFrz (dLst [dC (.str "BadCorner"), dVar 11]))])))))))))) = dSeq midE (dSeq (dSet 11 (dCallR fn__law_odd 0 [] (dArs [dLV (dC (.int 7))]))) (dRet (dVal (dAndV (dFrz (dCall fn__law_like [] (dArs [dLV (dFrz (dCall fn__law_asked [] (dArs [dLV (dC (.fn "check_corner")), dSlot 11]))), dLV (dFrz (dLst [dC (.str "BadCorner"), dVar 11]))]))) (dFrz (dCall fn__law_like [] (dArs [dLV (dFrz (dCall fn__law_asked [] (dArs [dLV (dC (.fn "faces_of_corner")), dSlot 11]))), dLV (dFrz (dLst [dC (.str "BadCorner"), dVar 11]))]))))))) := by
  unfold midE
  rw [← dSeq_assoc, ← dSeq_assoc, ← dSeq_assoc]
/-- the couple is right -/
def MidOk (c : D) : Prop := ∀ x0 x2 x3 x4 x5 x6 : Ent, midE [x0, .val (.lst dueL), x2, x3, x4, x5, x6, .val c, .un, .un, .un, .un, .un] = .ok .nx [x0, .val (.lst dueL), x2, x3, x4, x5, x6, .val c, sl (midE [x0, .val (.lst dueL), x2, x3, x4, x5, x6, .val c, .un, .un, .un, .un, .un]) 8, sl (midE [x0, .val (.lst dueL), x2, x3, x4, x5, x6, .val c, .un, .un, .un, .un, .un]) 9, sl (midE [x0, .val (.lst dueL), x2, x3, x4, x5, x6, .val c, .un, .un, .un, .un, .un]) 10, .un, .un]
theorem mid_t {i j : Int} (i0 : 0 ≤ i) (i1 : i < 8) (j0 : 0 ≤ j) (j1 : j < 8) : MidOk (.tup [.int i, .int j]) := by
  rcases (show i = 0 ∨ i = 1 ∨ i = 2 ∨ i = 3 ∨ i = 4 ∨ i = 5 ∨ i = 6 ∨ i = 7 by omega) with rfl | rfl | rfl | rfl | rfl | rfl | rfl | rfl <;> rcases (show j = 0 ∨ j = 1 ∨ j = 2 ∨ j = 3 ∨ j = 4 ∨ j = 5 ∨ j = 6 ∨ j = 7 by omega) with rfl | rfl | rfl | rfl | rfl | rfl | rfl | rfl <;> exact fun x0 x2 x3 x4 x5 x6 => by kernel_rfl
end Kx

set_option linter.all false
set_option maxRecDepth 100000
set_option maxHeartbeats 4000000
namespace Kx
open PySem PySem.Spec PyProof.Rows L2 Ev
theorem MidOk.ex {c : D} (h : MidOk c) (x0 x2 x3 x4 x5 x6 : Ent) : ∃ p q r, midE [x0, .val (.lst dueL), x2, x3, x4, x5, x6, .val c, .un, .un, .un, .un, .un] = .ok .nx [x0, .val (.lst dueL), x2, x3, x4, x5, x6, .val c, p, q, r, .un, .un] := ⟨_, _, _, h x0 x2 x3 x4 x5 x6⟩
theorem mid_l {i j : Int} (i0 : 0 ≤ i) (i1 : i < 8) (j0 : 0 ≤ j) (j1 : j < 8) : MidOk (.lst [.int i, .int j]) := by
  rcases (show i = 0 ∨ i = 1 ∨ i = 2 ∨ i = 3 ∨ i = 4 ∨ i = 5 ∨ i = 6 ∨ i = 7 by omega) with rfl | rfl | rfl | rfl | rfl | rfl | rfl | rfl <;> rcases (show j = 0 ∨ j = 1 ∨ j = 2 ∨ j = 3 ∨ j = 4 ∨ j = 5 ∨ j = 6 ∨ j = 7 by omega) with rfl | rfl | rfl | rfl | rfl | rfl | rfl | rfl <;> exact fun x0 x2 x3 x4 x5 x6 => by kernel_rfl
theorem mid_o {i : Int} (i0 : 0 ≤ i) (i1 : i < 8) {d : D} (h : d ∈ oddL 7) : MidOk (.tup [.int i, d]) := by
  simp only [oddL, List.mem_cons, List.not_mem_nil, or_false] at h
  rcases (show i = 0 ∨ i = 1 ∨ i = 2 ∨ i = 3 ∨ i = 4 ∨ i = 5 ∨ i = 6 ∨ i = 7 by omega) with rfl | rfl | rfl | rfl | rfl | rfl | rfl | rfl <;> rcases h with rfl | rfl | rfl | rfl | rfl | rfl | rfl | rfl <;> exact fun x0 x2 x3 x4 x5 x6 => by kernel_rfl
theorem mid_p {i : Int} (i0 : 0 ≤ i) (i1 : i < 8) {d : D} (h : d ∈ oddL 7) : MidOk (.tup [d, .int i]) := by
  simp only [oddL, List.mem_cons, List.not_mem_nil, or_false] at h
  rcases (show i = 0 ∨ i = 1 ∨ i = 2 ∨ i = 3 ∨ i = 4 ∨ i = 5 ∨ i = 6 ∨ i = 7 by omega) with rfl | rfl | rfl | rfl | rfl | rfl | rfl | rfl <;> rcases h with rfl | rfl | rfl | rfl | rfl | rfl | rfl | rfl <;> exact fun x0 x2 x3 x4 x5 x6 => by kernel_rfl
theorem mid_1 {i : Int} (i0 : 0 ≤ i) (i1 : i < 8) : MidOk (.tup [.int i]) := by
  rcases (show i = 0 ∨ i = 1 ∨ i = 2 ∨ i = 3 ∨ i = 4 ∨ i = 5 ∨ i = 6 ∨ i = 7 by omega) with rfl | rfl | rfl | rfl | rfl | rfl | rfl | rfl <;> exact fun x0 x2 x3 x4 x5 x6 => by kernel_rfl
theorem mid_3 : MidOk (.tup [.int 0, .int 1, .int 3]) := fun x0 x2 x3 x4 x5 x6 => by kernel_rfl
theorem mid_i {i : Int} (i0 : 0 ≤ i) (i1 : i < 8) : MidOk (.int i) := by
  rcases (show i = 0 ∨ i = 1 ∨ i = 2 ∨ i = 3 ∨ i = 4 ∨ i = 5 ∨ i = 6 ∨ i = 7 by omega) with rfl | rfl | rfl | rfl | rfl | rfl | rfl | rfl <;> exact fun x0 x2 x3 x4 x5 x6 => by kernel_rfl
theorem lastA {d : D} (h : d ∈ oddL 7) : (fn__law_asked [.val (.fn "check_corner"), .val d]).st = .ok (.mu [.str "BadCorner", d]) [] := by
  simp only [oddL, List.mem_cons, List.not_mem_nil, or_false] at h
  rcases h with rfl | rfl | rfl | rfl | rfl | rfl | rfl | rfl <;> kernel_rfl
theorem lastB {d : D} (h : d ∈ oddL 7) : (fn__law_asked [.val (.fn "faces_of_corner"), .val d]).st = .ok (.mu [.str "BadCorner", d]) [] := by
  simp only [oddL, List.mem_cons, List.not_mem_nil, or_false] at h
  rcases h with rfl | rfl | rfl | rfl | rfl | rfl | rfl | rfl <;> kernel_rfl
theorem lastC {d : D} (h : d ∈ oddL 7) : (fn__law_like [.val (.lst [.str "BadCorner", d]), .val (.lst [.str "BadCorner", d])]).st = .ok (.val (.bl true)) [] := by
  simp only [oddL, List.mem_cons, List.not_mem_nil, or_false] at h
  rcases h with rfl | rfl | rfl | rfl | rfl | rfl | rfl | rfl <;> kernel_rfl
theorem due_ne : gNe (.tup dueL) (.tup dueL) = some (.val (.bl false)) := by kernel_rfl
theorem edges_ev (xs : List D) (h : HandOk xs) : ∃ ys, fn__law_edges [.mu xs] = .ok (.val (.bl true)) [.mu ys] ∧ HandOk ys := by
  obtain ⟨a, b, l1⟩ := e_due (.mu xs)
  obtain ⟨c, l2⟩ := e_4 (.mu xs) (.val (.lst dueL)) a b
  obtain ⟨f, g, l3⟩ := e_5 (.mu xs) (.val (.lst dueL)) a b c
  have ad := all_due
  have dn := due_ne
  obtain ⟨i, ys0, e0, h0, i0, i1⟩ := take_ev xs h 8 (by decide) (by decide)
  obtain ⟨j, ys1, e1, h1, j0, j1⟩ := take_ev ys0 h0 8 (by decide) (by decide)
  obtain ⟨o1, ys2, e2, h2, ho1⟩ := odd_ev ys1 h1 7
  obtain ⟨o2, ys3, e3, h3, ho2⟩ := odd_ev ys2 h2 7
  obtain ⟨k, ys4, e4, h4, k0, k1⟩ := take_ev ys3 h3 7 (by decide) (by decide)
  obtain ⟨o3, ys5, e5, h5, ho3⟩ := odd_ev ys4 h4 7
  have la := lastA ho3
  have lb := lastB ho3
  have lc := lastC ho3
  refine ⟨ys5, ?_, h5⟩
  rcases (show k = 0 ∨ k = 1 ∨ k = 2 ∨ k = 3 ∨ k = 4 ∨ k = 5 ∨ k = 6 by omega) with rfl | rfl | rfl | rfl | rfl | rfl | rfl
  · obtain ⟨p, q, r, m⟩ := MidOk.ex (mid_t i0 i1 j0 j1) (.mu ys4) (.val (.int i)) (.val (.int j)) c f g
    simp? [fn__law_edges, den__law_edges, mkFn_a, finF, ↓l1, ad, dn, ↓l2, ↓l3, l3, e0, e1, e2, e3, e4, ↓mid_e, ↓m, e5, la, lb, lc]
  · obtain ⟨p, q, r, m⟩ := MidOk.ex (mid_l j0 j1 i0 i1) (.mu ys4) (.val (.int i)) (.val (.int j)) c f g
    simp? [fn__law_edges, den__law_edges, mkFn_a, finF, ↓l1, ad, dn, ↓l2, ↓l3, l3, e0, e1, e2, e3, e4, ↓mid_e, ↓m, e5, la, lb, lc]
  · obtain ⟨p, q, r, m⟩ := MidOk.ex (mid_o i0 i1 ho1) (.mu ys4) (.val (.int i)) (.val (.int j)) c f g
    simp? [fn__law_edges, den__law_edges, mkFn_a, finF, ↓l1, ad, dn, ↓l2, ↓l3, l3, e0, e1, e2, e3, e4, ↓mid_e, ↓m, e5, la, lb, lc]
  · obtain ⟨p, q, r, m⟩ := MidOk.ex (mid_1 i0 i1) (.mu ys4) (.val (.int i)) (.val (.int j)) c f g
    simp? [fn__law_edges, den__law_edges, mkFn_a, finF, ↓l1, ad, dn, ↓l2, ↓l3, l3, e0, e1, e2, e3, e4, ↓mid_e, ↓m, e5, la, lb, lc]
  · obtain ⟨p, q, r, m⟩ := MidOk.ex (mid_3) (.mu ys4) (.val (.int i)) (.val (.int j)) c f g
    simp? [fn__law_edges, den__law_edges, mkFn_a, finF, ↓l1, ad, dn, ↓l2, ↓l3, l3, e0, e1, e2, e3, e4, ↓mid_e, ↓m, e5, la, lb, lc]
  · obtain ⟨p, q, r, m⟩ := MidOk.ex (mid_p j0 j1 ho2) (.mu ys4) (.val (.int i)) (.val (.int j)) c f g
    simp? [fn__law_edges, den__law_edges, mkFn_a, finF, ↓l1, ad, dn, ↓l2, ↓l3, l3, e0, e1, e2, e3, e4, ↓mid_e, ↓m, e5, la, lb, lc]
  · obtain ⟨p, q, r, m⟩ := MidOk.ex (mid_i i0 i1) (.mu ys4) (.val (.int i)) (.val (.int j)) c f g
    simp? [fn__law_edges, den__law_edges, mkFn_a, finF, ↓l1, ad, dn, ↓l2, ↓l3, l3, e0, e1, e2, e3, e4, ↓mid_e, ↓m, e5, la, lb, lc]
end Kx

set_option linter.all false
set_option maxRecDepth 100000
set_option maxHeartbeats 4000000
namespace Kx
open PySem PySem.Spec PyProof.Rows L2 Ev
theorem gMul_l {i j : Int} (h : i.natAbs < 2 ^ 64 := by decide) : gMul (.int i) (.int j) = some (.val (.int (i * j))) := gMul_i (mulOk_l h)
theorem gMul_60 {i j : Int} (h : 1 ≤ i ∧ i ≤ 60) : gMul (.int i) (.int j) = some (.val (.int (i * j))) := gMul_i (mulOk_l (by omega))
def S3 (a b c : Int) : List D := [.int a, .int b, .int c]
def bxD (a b c : Int) : D := .ins "Box" ["sides"] [.tup [.int a, .int b, .int c]]
def pt (x y z : Int) : D := .tup [.tup [.int x, .int 1], .tup [.int y, .int 1], .tup [.int z, .int 1]]
def PL (a b c : Int) : List D := [pt 0 0 0, pt 0 0 c, pt 0 b 0, pt 0 b c, pt a 0 0, pt a 0 c, pt a b 0, pt a b c]
theorem places_ev (a b c : Int) : (fn_pr_Box_corner_places [.val (bxD a b c)]).st = .ok (.val (.tup (PL a b c))) [] := by kernel_rfl
theorem places_tup (a b c : Int) : (fn__law_tuples [.val (.tup (PL a b c))]).st = .ok (.val (.bl true)) [] := by kernel_rfl
theorem sides_tup (a b c : Int) : (fn__law_tuples [.val (.tup (S3 a b c))]).st = .ok (.val (.bl true)) [] := by kernel_rfl
theorem own_box (neg : Bool) (a b c a' b' c' : Int) : gOwn eqT_Box neg (bxD a b c) (bxD a' b' c') = some (.val (.bl (ifn neg (deqs (S3 a b c) (S3 a' b' c'))))) := by cases neg <;> kernel_rfl
theorem eq_sides (a b c a' b' c' : Int) : gEq (.lst (S3 a b c)) (.lst (S3 a' b' c')) = some (.val (.bl (deqs (S3 a b c) (S3 a' b' c')))) := by kernel_rfl
theorem ne_sides (a b c a' b' c' : Int) : gNe (.lst (S3 a b c)) (.lst (S3 a' b' c')) = some (.val (.bl (!deqs (S3 a b c) (S3 a' b' c')))) := by kernel_rfl
theorem cB : ([("Box" : Str)].contains "Box") = true := by rfl
theorem lkB (x : D) : List.lookup ("sides" : Str) ([("sides" : Str)].zip [x]) = some x := by rfl
theorem skin_ev {a b c : Int} (ha : 1 ≤ a ∧ a ≤ 60) (hb : 1 ≤ b ∧ b ≤ 60) (hc : 1 ≤ c ∧ c ≤ 60) : (fn_pr_Box_skin_area [.val (bxD a b c)]).st = .ok (.val (.int (2 * (a * b + b * c + c * a)))) [] := by
  have m1 := gMul_60 (j := b) ha
  have m2 := gMul_60 (j := c) hb
  have m3 := gMul_60 (j := a) hc
  have m4 := fun j => gMul_l (i := 2) (j := j)
  unfold bxD
  simp? [fn_pr_Box_skin_area, den_pr_Box_skin_area, cB, lkB, m1, m2, m3, m4]
theorem corners_loop (x0 x1 x3 x4 x5 x6 x7 : Ent) (a b c : Int) : ∃ y, loopF (asN 9) bd_law_3 [.int 0, .int 1, .int 2, .int 3, .int 4, .int 5, .int 6, .int 7] [x0, x1, .val (.lst (S3 a b c)), x3, x4, x5, x6, x7, .mu [], .un, .un, .un, .un, .un, .un, .un, .un] = .ok .nx [x0, x1, .val (.lst (S3 a b c)), x3, x4, x5, x6, x7, .mu (PL a b c), .val (.int 7), y, .un, .un, .un, .un, .un, .un] := by
  have bits : ∀ k q, (fn__law_bits [.val (.int k)]).st = q → (fn__law_bits [.val (.int k)]).st = q := fun _ _ h => h
  have m0 := fun j => gMul_l (i := 0) (j := j)
  have m1 := fun j => gMul_l (i := 1) (j := j)
  have b0 : (fn__law_bits [.val (.int 0)]).st = .ok (.val (.tup [.int 0, .int 0, .int 0])) [] := by kernel_rfl
  have b1 : (fn__law_bits [.val (.int 1)]).st = .ok (.val (.tup [.int 0, .int 0, .int 1])) [] := by kernel_rfl
  have b2 : (fn__law_bits [.val (.int 2)]).st = .ok (.val (.tup [.int 0, .int 1, .int 0])) [] := by kernel_rfl
  have b3 : (fn__law_bits [.val (.int 3)]).st = .ok (.val (.tup [.int 0, .int 1, .int 1])) [] := by kernel_rfl
  have b4 : (fn__law_bits [.val (.int 4)]).st = .ok (.val (.tup [.int 1, .int 0, .int 0])) [] := by kernel_rfl
  have b5 : (fn__law_bits [.val (.int 5)]).st = .ok (.val (.tup [.int 1, .int 0, .int 1])) [] := by kernel_rfl
  have b6 : (fn__law_bits [.val (.int 6)]).st = .ok (.val (.tup [.int 1, .int 1, .int 0])) [] := by kernel_rfl
  have b7 : (fn__law_bits [.val (.int 7)]).st = .ok (.val (.tup [.int 1, .int 1, .int 1])) [] := by kernel_rfl
  refine ⟨.val (.tup [.int 1, .int 1, .int 1]), ?_⟩
  unfold S3 PL pt
  simp? [bd_law_3, el_law_2, b0, b1, b2, b3, b4, b5, b6, b7, m0, m1, Int.zero_mul, Int.one_mul]
/-! a box of anything -/
def wh : D → Int → Int → Bool
  | .int i, l, u => decide (l ≤ i) && decide (i ≤ u)
  | _, _, _ => false
theorem whole_ii (i l h : Int) : (fn_is_whole [.val (.int i), .val (.int l), .val (.int h)]).st = .ok (.val (.bl (decide (l ≤ i) && decide (i ≤ h)))) [] := by
  by_cases c : l ≤ i
  · simp? [fn_is_whole, den_is_whole, decide_eq_true c]
  · simp? [fn_is_whole, den_is_whole, decide_eq_false c]
theorem whole_any {n : Nat} {d : D} (h : shp n d = true) (l u : Int) : (fn_is_whole [.val d, .val (.int l), .val (.int u)]).st = .ok (.val (.bl (wh d l u))) [] := by
  cases d with
  | int i => exact whole_ii i l u
  | ins _ _ _ => cases n <;> cases h
  | fn _ => cases n <;> cases h
  | _ => (simp only [wh]; simp? [fn_is_whole, den_is_whole])
theorem lwhole_any {n : Nat} {d : D} (h : shp n d = true) (l u : Int) : (fn__law_whole [.val d, .val (.int l), .val (.int u)]).st = .ok (.val (.bl (wh d l u))) [] := by
  cases d with
  | int i =>
    simp only [wh]
    by_cases c : l ≤ i <;> by_cases e : i ≤ u <;> simp? [fn__law_whole, den__law_whole, c, e, decide_true, decide_false, Bool.and_true, Bool.and_false, Bool.false_and]
  | ins _ _ _ => cases n <;> cases h
  | fn _ => cases n <;> cases h
  | _ => (simp only [wh]; simp? [fn__law_whole, den__law_whole])
end Kx

set_option linter.all false
set_option maxRecDepth 100000
set_option maxHeartbeats 4000000
namespace Kx
open PySem PySem.Spec PyProof.Rows L2 Ev
theorem cBB : ([("BadBox" : Str)].contains "BadBox") = true := by rfl
theorem lkI (x : D) : List.lookup ("index" : Str) ([("index" : Str)].zip [x]) = some x := by rfl
theorem tBB : tabX "BadBox" "BadBox" = some true := by rfl
def Sq3 (d : D) (x y z : D) : Prop := d = .lst [x, y, z] ∨ d = .tup [x, y, z]
section
variable {d x y z : D}
theorem ini_ok3 (hd : Sq3 d x y z) (hx : shp 8 x = true) (hy : shp 8 y = true) (hz : shp 8 z = true) (wx : wh x 1 60 = true) (wy : wh y 1 60 = true) (wz : wh z 1 60 = true) : ∃ e, fnI_Box [d] = .ok [.tup [x, y, z]] e := by
  have w0 := whole_any hx 1 60
  have w1 := whole_any hy 1 60
  have w2 := whole_any hz 1 60
  rw [wx] at w0
  rw [wy] at w1
  rw [wz] at w2
  refine ⟨[.un, .val d, .val (.int 2), .val z], ?_⟩
  simp only [fnI_Box, g_ini_Box]
  rcases hd with rfl | rfl <;> simp? [w0, w1, w2, bd_ini_Box_1]
theorem ini_b0 (hd : Sq3 d x y z) (hx : shp 8 x = true) (wx : wh x 1 60 = false) : ∃ e, fnI_Box [d] = .err "BadBox" ["index"] [.int 0] e := by
  have w0 := whole_any hx 1 60
  rw [wx] at w0
  refine ⟨[.un, .val d, .val (.int 0), .val x], ?_⟩
  simp only [fnI_Box, g_ini_Box]
  rcases hd with rfl | rfl <;> simp? [w0, bd_ini_Box_1]
theorem ini_b1 (hd : Sq3 d x y z) (hx : shp 8 x = true) (hy : shp 8 y = true) (wx : wh x 1 60 = true) (wy : wh y 1 60 = false) : ∃ e, fnI_Box [d] = .err "BadBox" ["index"] [.int 1] e := by
  have w0 := whole_any hx 1 60
  have w1 := whole_any hy 1 60
  rw [wx] at w0
  rw [wy] at w1
  refine ⟨[.un, .val d, .val (.int 1), .val y], ?_⟩
  simp only [fnI_Box, g_ini_Box]
  rcases hd with rfl | rfl <;> simp? [w0, w1, bd_ini_Box_1]
theorem ini_b2 (hd : Sq3 d x y z) (hx : shp 8 x = true) (hy : shp 8 y = true) (hz : shp 8 z = true) (wx : wh x 1 60 = true) (wy : wh y 1 60 = true) (wz : wh z 1 60 = false) : ∃ e, fnI_Box [d] = .err "BadBox" ["index"] [.int 2] e := by
  have w0 := whole_any hx 1 60
  have w1 := whole_any hy 1 60
  have w2 := whole_any hz 1 60
  rw [wx] at w0
  rw [wy] at w1
  rw [wz] at w2
  refine ⟨[.un, .val d, .val (.int 2), .val z], ?_⟩
  simp only [fnI_Box, g_ini_Box]
  rcases hd with rfl | rfl <;> simp? [w0, w1, w2, bd_ini_Box_1]
end
theorem lbox_ok {d x y z : D} {e : Sto} (h : fnI_Box [d] = .ok [.tup [x, y, z]] e) : (fn__law_box [.val d]).st = .ok (.val (.ins "Box" ["sides"] [.tup [x, y, z]])) [] := by
  simp? [fn__law_box, den__law_box, h]
theorem lbox_bad {d : D} {k : Int} {e : Sto} (h : fnI_Box [d] = .err "BadBox" ["index"] [.int k] e) : (fn__law_box [.val d]).st = .ok (.mu [.str "BadBox", .int k]) [] := by
  have t := tBB
  simp? [fn__law_box, den__law_box, h, t, cBB, lkI]
/-! spoilt sides -/
theorem odd_bad {d : D} (h : d ∈ oddL 60) : shp 8 d = true ∧ wh d 1 60 = false := by
  simp only [oddL, List.mem_cons, List.not_mem_nil, or_false] at h
  rcases h with rfl | rfl | rfl | rfl | rfl | rfl | rfl | rfl <;> first | exact ⟨rfl, rfl⟩ | exact ⟨by rw [shp_s]; decide +kernel, rfl⟩
def Rows (R : List D) : Prop := ∃ x y z, R = [x, y, z] ∧ (shp 8 x = true ∧ shp 8 y = true ∧ shp 8 z = true)
def Spoilt (R : List D) : Prop := ∃ x y z, R = [x, y, z] ∧ (shp 8 x = true ∧ shp 8 y = true ∧ shp 8 z = true) ∧ (wh x 1 60 && (wh y 1 60 && wh z 1 60)) = false
/-- one change -/
theorem change_ev (xs : List D) (h : HandOk xs) {R : List D} (hR : Rows R) (x1 x2 x4 : Ent) : ∃ ys R', bd__law_spoilt_1 [.mu xs, x1, x2, .mu R, x4, .un] = .ok .nx [.mu ys, x1, x2, .mu R', x4, .un] ∧ HandOk ys ∧ Rows R' ∧ Spoilt R' := by
  obtain ⟨x, y, z, rfl, hx, hy, hz⟩ := hR
  obtain ⟨o, ys0, e0, h0, ho⟩ := odd_ev xs h 60
  obtain ⟨so, wo⟩ := odd_bad ho
  obtain ⟨k, ys1, e1, h1, k0, k1⟩ := take_ev ys0 h0 3 (by decide) (by decide)
  obtain ⟨j, ys2, e2, h2, j0, j1⟩ := take_ev ys1 h1 3 (by decide) (by decide)
  obtain ⟨w, hw, sw, bw⟩ : ∃ w, gIx (.lst [.int 0, o, .int 61]) (.int k) = some (.val w) ∧ shp 8 w = true ∧ wh w 1 60 = false := by
    rcases (show k = 0 ∨ k = 1 ∨ k = 2 by omega) with rfl | rfl | rfl
    · exact ⟨.int 0, rfl, rfl, rfl⟩
    · exact ⟨o, rfl, so, wo⟩
    · exact ⟨.int 61, rfl, rfl, rfl⟩
  rcases (show j = 0 ∨ j = 1 ∨ j = 2 by omega) with rfl | rfl | rfl
  · refine ⟨ys2, [w, y, z], ?_, h2, ⟨w, y, z, rfl, sw, hy, hz⟩, ⟨w, y, z, rfl, ⟨sw, hy, hz⟩, by rw [bw]; rfl⟩⟩
    simp? [bd__law_spoilt_1, e0, e1, e2, ↓hw]
  · refine ⟨ys2, [x, w, z], ?_, h2, ⟨x, w, z, rfl, hx, sw, hz⟩, ⟨x, w, z, rfl, ⟨hx, sw, hz⟩, by rw [bw, Bool.false_and, Bool.and_false]⟩⟩
    simp? [bd__law_spoilt_1, e0, e1, e2, ↓hw]
  · refine ⟨ys2, [x, y, w], ?_, h2, ⟨x, y, w, rfl, hx, hy, sw⟩, ⟨x, y, w, rfl, ⟨hx, hy, sw⟩, by rw [bw, Bool.and_false, Bool.and_false]⟩⟩
    simp? [bd__law_spoilt_1, e0, e1, e2, ↓hw]
end Kx

set_option linter.all false
set_option maxRecDepth 100000
set_option maxHeartbeats 4000000
namespace Kx
open PySem PySem.Spec PyProof.Rows L2 Ev
/-- the index of the first odd side -/
theorem index_ev (x0 x1 x2 x4 : Ent) {x y z : D} (hx : shp 8 x = true) (hy : shp 8 y = true) (hz : shp 8 z = true) (hb : (wh x 1 60 && (wh y 1 60 && wh z 1 60)) = false) : ∃ k rest, loopC [5] (asN 5) cd__law_spoilt_2 el__law_spoilt_3 [.int 0, .int 1, .int 2] [] [x0, x1, x2, .val (.lst [x, y, z]), x4, .un] = .ok (.int k :: rest) [x0, x1, x2, .val (.lst [x, y, z]), x4, .un] ∧ (fn__law_box [.val (.lst [x, y, z])]).st = .ok (.mu [.str "BadBox", .int k]) [] := by
  have w0 := lwhole_any hx 1 60
  have w1 := lwhole_any hy 1 60
  have w2 := lwhole_any hz 1 60
  cases h0 : wh x 1 60 with
  | false =>
    obtain ⟨e, h⟩ := ini_b0 (d := .lst [x, y, z]) (.inl rfl) hx h0
    rw [h0] at w0
    cases h1 : wh y 1 60 <;> cases h2 : wh z 1 60 <;> rw [h1] at w1 <;> rw [h2] at w2 <;> exact ⟨0, _, by simp? [cd__law_spoilt_2, el__law_spoilt_3, w0, w1, w2] <;> rfl, lbox_bad h⟩
  | true =>
    rw [h0] at w0
    cases h1 : wh y 1 60 with
    | false =>
      obtain ⟨e, h⟩ := ini_b1 (d := .lst [x, y, z]) (.inl rfl) hx hy h0 h1
      rw [h1] at w1
      cases h2 : wh z 1 60 <;> rw [h2] at w2 <;> exact ⟨1, _, by simp? [cd__law_spoilt_2, el__law_spoilt_3, w0, w1, w2] <;> rfl, lbox_bad h⟩
    | true =>
      rw [h1] at w1
      cases h2 : wh z 1 60 with
      | false =>
        obtain ⟨e, h⟩ := ini_b2 (d := .lst [x, y, z]) (.inl rfl) hx hy hz h0 h1 h2
        rw [h2] at w2
        exact ⟨2, _, by simp? [cd__law_spoilt_2, el__law_spoilt_3, w0, w1, w2] <;> rfl, lbox_bad h⟩
      | true => rw [h0, h1, h2] at hb; cases hb
theorem spoilt_ev (xs : List D) (h : HandOk xs) (a b c : Int) : ∃ R I ys z, fn__law_spoilt [.mu xs, .val (.lst (S3 a b c))] = .ok (.mu [R, I]) [.mu ys, z] ∧ HandOk ys ∧ ((I = .non ∧ R = .lst (S3 a b c)) ∨ ∃ k, I = .int k ∧ (fn__law_box [.val R]).st = .ok (.mu [.str "BadBox", .int k]) []) := by
  obtain ⟨kd, ys0, e0, h0, k0, k1⟩ := take_ev xs h 8 (by decide) (by decide)
  rcases (show kd = 0 ∨ kd = 1 ∨ (kd ≠ 0 ∧ kd ≠ 1 ∧ kd < 5) ∨ (kd ≠ 0 ∧ kd ≠ 1 ∧ ¬ kd < 5) by omega) with rfl | rfl | ⟨n0, n1, n5⟩ | ⟨n0, n1, n5⟩
  · obtain ⟨v, ys1, e1, h1, v0, v1⟩ := take_ev ys0 h0 4 (by decide) (by decide)
    have rid : ∀ d, gIx (.lst [.non, .int 7, .str "012", .bl true]) (.int v) = some (.val d) → fn__law_rid [.mu ys0] = .ok (.val d) [.mu ys1] := fun d hd => by
      simp? [fn__law_rid, den__law_rid, mkFn_a, finF, e1, ↓hd]
    rcases (show v = 0 ∨ v = 1 ∨ v = 2 ∨ v = 3 by omega) with rfl | rfl | rfl | rfl
    · have r := rid .non rfl
      exact ⟨.non, .int 0, ys1, _, by simp? [fn__law_spoilt, den__law_spoilt, mkFn_a, finF, e0, r] <;> rfl, h1, .inr ⟨0, rfl, by kernel_rfl⟩⟩
    · have r := rid (.int 7) rfl
      exact ⟨.int 7, .int 0, ys1, _, by simp? [fn__law_spoilt, den__law_spoilt, mkFn_a, finF, e0, r] <;> rfl, h1, .inr ⟨0, rfl, by kernel_rfl⟩⟩
    · have r := rid (.str "012") rfl
      exact ⟨.str "012", .int 0, ys1, _, by simp? [fn__law_spoilt, den__law_spoilt, mkFn_a, finF, e0, r] <;> rfl, h1, .inr ⟨0, rfl, by kernel_rfl⟩⟩
    · have r := rid (.bl true) rfl
      exact ⟨.bl true, .int 0, ys1, _, by simp? [fn__law_spoilt, den__law_spoilt, mkFn_a, finF, e0, r] <;> rfl, h1, .inr ⟨0, rfl, by kernel_rfl⟩⟩
  · obtain ⟨v, ys1, e1, h1, v0, v1⟩ := take_ev ys0 h0 3 (by decide) (by decide)
    have cu : Ev.cutD (S3 a b c) none (some 2) = [.int a, .int b] := rfl
    have ad : gAdd (.lst (S3 a b c)) (.lst [.int 1]) = some (.mu [.int a, .int b, .int c, .int 1]) := rfl
    rcases (show v = 0 ∨ v = 1 ∨ v = 2 by omega) with rfl | rfl | rfl
    · exact ⟨.lst [.int a, .int b], .int 0, ys1, _, by simp? [fn__law_spoilt, den__law_spoilt, mkFn_a, finF, e0, cu, ad, e1] <;> rfl, h1, .inr ⟨0, rfl, by kernel_rfl⟩⟩
    · exact ⟨.lst [.int a, .int b, .int c, .int 1], .int 0, ys1, _, by simp? [fn__law_spoilt, den__law_spoilt, mkFn_a, finF, e0, cu, ad, e1] <;> rfl, h1, .inr ⟨0, rfl, by kernel_rfl⟩⟩
    · exact ⟨.lst [], .int 0, ys1, _, by simp? [fn__law_spoilt, den__law_spoilt, mkFn_a, finF, e0, cu, ad, e1] <;> rfl, h1, .inr ⟨0, rfl, by kernel_rfl⟩⟩
  · obtain ⟨v, ys1, e1, h1, v0, v1⟩ := take_ev ys0 h0 2 (by decide) (by decide)
    obtain ⟨ys2, R1, c1, h2, r1, s1⟩ := change_ev ys1 h1 (R := S3 a b c) ⟨_, _, _, rfl, shp_i, shp_i, shp_i⟩ (.val (.lst (S3 a b c))) (.val (.int kd)) (.val (.int 0))
    rcases (show v = 0 ∨ v = 1 by omega) with rfl | rfl
    · obtain ⟨x, y, z, rfl, ⟨hx, hy, hz⟩, hb⟩ := s1
      obtain ⟨k, rest, lc, bx⟩ := index_ev (.mu ys2) (.val (.lst (S3 a b c))) (.val (.int kd)) (.val (.int 0)) hx hy hz hb
      refine ⟨.lst [x, y, z], .int k, ys2, .val (.lst (S3 a b c)), ?_, h2, .inr ⟨k, rfl, bx⟩⟩
      generalize S3 a b c = S at *
      simp? [fn__law_spoilt, den__law_spoilt, mkFn_a, finF, e0, n0, n1, n5, e1, ↓c1, ↓lc, lc]
    · obtain ⟨ys3, R2, c2, h3, r2, s2⟩ := change_ev ys2 h2 r1 (.val (.lst (S3 a b c))) (.val (.int kd)) (.val (.int 1))
      obtain ⟨x, y, z, rfl, ⟨hx, hy, hz⟩, hb⟩ := s2
      obtain ⟨k, rest, lc, bx⟩ := index_ev (.mu ys3) (.val (.lst (S3 a b c))) (.val (.int kd)) (.val (.int 1)) hx hy hz hb
      refine ⟨.lst [x, y, z], .int k, ys3, .val (.lst (S3 a b c)), ?_, h3, .inr ⟨k, rfl, bx⟩⟩
      generalize S3 a b c = S at *
      simp? [fn__law_spoilt, den__law_spoilt, mkFn_a, finF, e0, n0, n1, n5, e1, ↓c1, ↓c2, ↓lc, lc]
  · refine ⟨.lst (S3 a b c), .non, ys0, .val (.lst (S3 a b c)), ?_, h0, .inl ⟨rfl, rfl⟩⟩
    generalize S3 a b c = S at *
    simp? [fn__law_spoilt, den__law_spoilt, mkFn_a, finF, e0, n0, n1, n5]
theorem other_ev (x0 x2 x3 x4 x5 x6 x7 x8 x9 x10 x11 x12 x13 x14 x15 : Ent) (xs : List D) (h : HandOk xs) {s : Int} (hs : 1 ≤ s ∧ s ≤ 60) : ∃ v ys, el_law_4 [x0, .mu xs, x2, x3, x4, x5, x6, x7, x8, x9, x10, x11, x12, x13, x14, x15, .val (.int s)] = .ok (.int v) [x0, .mu ys, x2, x3, x4, x5, x6, x7, x8, x9, x10, x11, x12, x13, x14, x15, .val (.int s)] ∧ HandOk ys ∧ 1 ≤ v ∧ v ≤ 60 := by
  obtain ⟨t, ys0, e0, h0, t0, t1⟩ := take_ev xs h 2 (by decide) (by decide)
  obtain ⟨w, ys1, e1, h1, w0, w1⟩ := take_ev ys0 h0 60 (by decide) (by decide)
  rcases (show t = 0 ∨ t = 1 by omega) with rfl | rfl
  · exact ⟨1 + w, ys1, by simp? [el_law_4, e0, e1], h1, by omega, by omega⟩
  · exact ⟨s, ys0, by simp? [el_law_4, e0], h0, hs.1, hs.2⟩
theorem shaped_ev (xs : List D) (h : HandOk xs) (S : List D) : ∃ r ys z, fn__law_shaped [.mu xs, .val (.lst S)] = .ok r [.mu ys, z] ∧ HandOk ys ∧ (r = .mu S ∨ r = .val (.tup S)) := by
  obtain ⟨t, ys0, e0, h0, t0, t1⟩ := take_ev xs h 2 (by decide) (by decide)
  rcases (show t = 0 ∨ t = 1 by omega) with rfl | rfl
  · exact ⟨.mu S, ys0, .val (.lst S), by simp? [fn__law_shaped, den__law_shaped, mkFn_a, finF, e0], h0, .inl rfl⟩
  · exact ⟨.val (.tup S), ys0, .val (.lst S), by simp? [fn__law_shaped, den__law_shaped, mkFn_a, finF, e0], h0, .inr rfl⟩
end Kx

set_option linter.all false
set_option maxRecDepth 100000
set_option maxHeartbeats 4000000
namespace Kx
open PySem PySem.Spec PyProof.Rows L2 Ev
theorem sides_ev (s : Ent) (xs : List D) (h : HandOk xs) : ∃ a b c ys, loopC [15] (asN 15) dTrue el_law_1 [.int 0, .int 1, .int 2] [] [s, .mu xs, .un, .un, .un, .un, .un, .un, .un, .un, .un, .un, .un, .un, .un, .un, .un] = .ok (S3 a b c) [s, .mu ys, .un, .un, .un, .un, .un, .un, .un, .un, .un, .un, .un, .un, .un, .un, .un] ∧ HandOk ys ∧ (1 ≤ a ∧ a ≤ 60) ∧ (1 ≤ b ∧ b ≤ 60) ∧ (1 ≤ c ∧ c ≤ 60) := by
  obtain ⟨v1, ys1, e1, h1, l1, u1⟩ := take_ev xs h 60 (by decide) (by decide)
  obtain ⟨v2, ys2, e2, h2, l2, u2⟩ := take_ev ys1 h1 60 (by decide) (by decide)
  obtain ⟨v3, ys3, e3, h3, l3, u3⟩ := take_ev ys2 h2 60 (by decide) (by decide)
  refine ⟨1 + v1, 1 + v2, 1 + v3, ys3, ?_, h3, by omega, by omega, by omega⟩
  unfold S3
  simp? [el_law_1, e1, e2, e3]
theorem others_ev (x0 x2 x3 x4 x5 x6 x7 x8 x9 x10 x11 x12 x13 x14 x15 : Ent) (xs : List D) (h : HandOk xs) {a b c : Int} (ha : 1 ≤ a ∧ a ≤ 60) (hb : 1 ≤ b ∧ b ≤ 60) (hc : 1 ≤ c ∧ c ≤ 60) : ∃ o1 o2 o3 ys, loopC [16] (asN 16) dTrue el_law_4 (S3 a b c) [] [x0, .mu xs, x2, x3, x4, x5, x6, x7, x8, x9, x10, x11, x12, x13, x14, x15, .un] = .ok (S3 o1 o2 o3) [x0, .mu ys, x2, x3, x4, x5, x6, x7, x8, x9, x10, x11, x12, x13, x14, x15, .un] ∧ HandOk ys ∧ (1 ≤ o1 ∧ o1 ≤ 60) ∧ (1 ≤ o2 ∧ o2 ≤ 60) ∧ (1 ≤ o3 ∧ o3 ≤ 60) := by
  obtain ⟨v1, ys1, e1, h1, l1, u1⟩ := other_ev x0 x2 x3 x4 x5 x6 x7 x8 x9 x10 x11 x12 x13 x14 x15 xs h ha
  obtain ⟨v2, ys2, e2, h2, l2, u2⟩ := other_ev x0 x2 x3 x4 x5 x6 x7 x8 x9 x10 x11 x12 x13 x14 x15 ys1 h1 hb
  obtain ⟨v3, ys3, e3, h3, l3, u3⟩ := other_ev x0 x2 x3 x4 x5 x6 x7 x8 x9 x10 x11 x12 x13 x14 x15 ys2 h2 hc
  refine ⟨v1, v2, v3, ys3, ?_, h3, ⟨l1, u1⟩, ⟨l2, u2⟩, ⟨l3, u3⟩⟩
  unfold S3
  simp? [↓e1, e1, ↓e2, e2, ↓e3, e3]
theorem st_inv {r : Ev.FR} {v : Ent} (h : r.st = .ok v []) : ∃ ps, r = .ok v ps := by
  cases r with
  | ok w ps =>
    rw [st_ok] at h
    cases h
    exact ⟨ps, rfl⟩
  | err _ _ _ _ => rw [st_err] at h; cases h
  | bad => rw [st_bad] at h; cases h
theorem wh_in {i : Int} (h : 1 ≤ i ∧ i ≤ 60) : wh (.int i) 1 60 = true := by
  simp only [wh]
  rw [decide_eq_true h.1, decide_eq_true h.2]
  rfl
theorem own_f (a b c a' b' c' : Int) : gOwn eqT_Box false (bxD a b c) (bxD a' b' c') = some (.val (.bl (deqs (S3 a b c) (S3 a' b' c')))) := own_box false a b c a' b' c'
theorem own_t (a b c a' b' c' : Int) : gOwn eqT_Box true (bxD a b c) (bxD a' b' c') = some (.val (.bl (!deqs (S3 a b c) (S3 a' b' c')))) := own_box true a b c a' b' c'
theorem deqs_self (a b c : Int) : deqs (S3 a b c) (S3 a b c) = true := by
  unfold S3
  rw [deqs_cc, deqs_cc, deqs_cc, deqs_nn, deq_int, deq_int, deq_int, decide_eq_true rfl, decide_eq_true rfl, decide_eq_true rfl]
  rfl
theorem callU_of {g : Fn} {fs : DenA} {env e : Sto} {as : List Ar} {ds : List D} {r : Ent} {ps : List Ent} (h1 : fs env = .ok as e) (h2 : getAll as e = some ds) (h3 : (g (ds.map .val)).st = .ok r ps) (h4 : r.nol = true) : dCallU g [] fs env = .ok r e := by
  unfold dCallU
  rw [h1, Res.bind_ok, h2]
  dsimp only
  rw [List.append_nil]
  cases hg : g (ds.map .val) with
  | ok w qs =>
    rw [hg, st_ok] at h3
    cases h3
    dsimp only
    rw [if_pos h4]
  | err _ _ _ _ => rw [hg, st_err] at h3; cases h3
  | bad => rw [hg, st_bad] at h3; cases h3
theorem law_true (ns : List Int) (h : ns.length ≤ 63) (hb : ∀ z ∈ ns, Builtin.Int.intBits z ≤ 1048576) : ∃ ps, fn_law [.val (.fl (ns.map D.int))] = .ok (.val (.bl true)) ps := by
  obtain ⟨x0, e0, h0⟩ := hand_ev ns h
  obtain ⟨a, b, c, x1, lc, h1, ha, hbb, hc⟩ := sides_ev (.val (.fl (ns.map .int))) x0 h0
  obtain ⟨r, x2, z2, e2, h2, hr⟩ := shaped_ev x1 h1 (S3 a b c)
  have skin := skin_ev ha hbb hc
  have m1 := gMul_60 (j := b) ha
  have m2 := gMul_60 (j := c) hbb
  have m3 := gMul_60 (j := a) hc
  have m4 := fun j => gMul_l (i := 2) (j := j)
  have pl := places_ev a b c
  have pt := places_tup a b c
  have stp := sides_tup a b c
  have pn : gNe (.tup (PL a b c)) (.tup (PL a b c)) = some (.val (.bl false)) := gNe_self (by kernel_rfl)
  have sn : gNe (.tup (S3 a b c)) (.tup (S3 a b c)) = some (.val (.bl false)) := gNe_self (by kernel_rfl)
  have sq : gEq (.tup (S3 a b c)) (.tup (S3 a b c)) = some (.val (.bl true)) := gEq_self (by kernel_rfl)
  have bx : ∀ d, Sq3 d (.int a) (.int b) (.int c) → (fn__law_box [.val d]).st = .ok (.val (bxD a b c)) [] := fun d hd => by
    obtain ⟨e, q⟩ := ini_ok3 hd shp_i shp_i shp_i (wh_in ha) (wh_in hbb) (wh_in hc)
    exact lbox_ok q
  have bL : (fn__law_box [.val (.lst (S3 a b c))]).st = .ok (.val (bxD a b c)) [] := bx _ (.inl rfl)
  have bT : (fn__law_box [.val (.tup (S3 a b c))]).st = .ok (.val (bxD a b c)) [] := bx _ (.inr rfl)
  have cuL : dCallU fn__law_box [] (dArs [dSlot 3]) [.val (.fl (ns.map .int)), .mu x2, .val (.lst (S3 a b c)), .mu (S3 a b c), .un, .un, .un, .un, .un, .un, .un, .un, .un, .un, .un, .un, .un] = .ok (.val (bxD a b c)) [.val (.fl (ns.map .int)), .mu x2, .val (.lst (S3 a b c)), .mu (S3 a b c), .un, .un, .un, .un, .un, .un, .un, .un, .un, .un, .un, .un, .un] := callU_of (as := [.s 3]) rfl rfl bL rfl
  have cuT : dCallU fn__law_box [] (dArs [dSlot 3]) [.val (.fl (ns.map .int)), .mu x2, .val (.lst (S3 a b c)), .val (.tup (S3 a b c)), .un, .un, .un, .un, .un, .un, .un, .un, .un, .un, .un, .un, .un] = .ok (.val (bxD a b c)) [.val (.fl (ns.map .int)), .mu x2, .val (.lst (S3 a b c)), .val (.tup (S3 a b c)), .un, .un, .un, .un, .un, .un, .un, .un, .un, .un, .un, .un, .un] := callU_of (as := [.v (.tup (S3 a b c))]) rfl rfl bT rfl
  refine st_inv ?_
  rcases hr with rfl | rfl
  · obtain ⟨y, cl⟩ := corners_loop (.val (.fl (ns.map .int))) (.mu x2) (.mu [.int 0, .int b, .int c]) (.val (bxD a b c)) (.val (.int a)) (.val (.int b)) (.val (.int c)) a b c
    obtain ⟨o1, o2, o3, x3, lo, h3, b1, b2, b3⟩ := others_ev (.val (.fl (ns.map .int))) (.val (.lst (S3 a b c))) (.mu [.int 0, .int b, .int c]) (.val (bxD a b c)) (.val (.int a)) (.val (.int b)) (.val (.int c)) (.mu (PL a b c)) (.val (.int 7)) y .un .un .un .un .un x2 h2 ha hbb hc
    obtain ⟨be, ob⟩ := ini_ok3 (d := .lst (S3 o1 o2 o3)) (.inl rfl) shp_i shp_i shp_i (wh_in b1) (wh_in b2) (wh_in b3)
    obtain ⟨R, I, x4, z4, e4, h4, hs⟩ := spoilt_ev x3 h3 a b c
    obtain ⟨x5, e5, h5⟩ := faces_ev x4 h4
    obtain ⟨x6, e6, h6⟩ := edges_ev x5 h5
    have of := own_f o1 o2 o3 a b c
    have ot := own_t o1 o2 o3 a b c
    have es := eq_sides o1 o2 o3 a b c
    have ns' := ne_sides o1 o2 o3 a b c
    have os := own_t a b c a b c
    rw [deqs_self] at os
    generalize deqs (S3 o1 o2 o3) (S3 a b c) = q at *
    have io : isOwn [("Box", true)] (bxD a b c) = some true := by rfl
    have iz : gIs (.non) (.non) = some (.val (.bl true)) := rfl
    rcases hs with ⟨rfl, rfl⟩ | ⟨k, rfl, hk⟩
    · unfold bxD S3 at *
      cases q <;> simp? [fn_law, den_law, e0, ↓lc, lc, e2, ↓cuL, cuL, io, cB, lkB, ↓sn, stp, m1, m2, m3, m4, skin, ↓cl, cl, pl, ↓pn, pt, ↓lo, lo, ob, ↓of, ↓ot, ↓es, ↓ns', e4, bL, ↓os, e5, e6, ↓sq, beq_self_eq_true, Bool.not_true, Bool.not_false]
    · have kn : gNe (.lst [.str "BadBox", .int k]) (.lst [.str "BadBox", .int k]) = some (.val (.bl false)) := gNe_self (by kernel_rfl)
      unfold bxD S3 at *
      cases q <;> simp? [fn_law, den_law, e0, ↓lc, lc, e2, ↓cuL, cuL, io, cB, lkB, ↓sn, stp, m1, m2, m3, m4, skin, ↓cl, cl, pl, ↓pn, pt, ↓lo, lo, ob, ↓of, ↓ot, ↓es, ↓ns', e4, hk, ↓kn, e5, e6, ↓sq, beq_self_eq_true, Bool.not_true, Bool.not_false]
  · obtain ⟨y, cl⟩ := corners_loop (.val (.fl (ns.map .int))) (.mu x2) (.val (.tup (S3 a b c))) (.val (bxD a b c)) (.val (.int a)) (.val (.int b)) (.val (.int c)) a b c
    obtain ⟨o1, o2, o3, x3, lo, h3, b1, b2, b3⟩ := others_ev (.val (.fl (ns.map .int))) (.val (.lst (S3 a b c))) (.val (.tup (S3 a b c))) (.val (bxD a b c)) (.val (.int a)) (.val (.int b)) (.val (.int c)) (.mu (PL a b c)) (.val (.int 7)) y .un .un .un .un .un x2 h2 ha hbb hc
    obtain ⟨be, ob⟩ := ini_ok3 (d := .lst (S3 o1 o2 o3)) (.inl rfl) shp_i shp_i shp_i (wh_in b1) (wh_in b2) (wh_in b3)
    obtain ⟨R, I, x4, z4, e4, h4, hs⟩ := spoilt_ev x3 h3 a b c
    obtain ⟨x5, e5, h5⟩ := faces_ev x4 h4
    obtain ⟨x6, e6, h6⟩ := edges_ev x5 h5
    have of := own_f o1 o2 o3 a b c
    have ot := own_t o1 o2 o3 a b c
    have es := eq_sides o1 o2 o3 a b c
    have ns' := ne_sides o1 o2 o3 a b c
    have os := own_t a b c a b c
    rw [deqs_self] at os
    generalize deqs (S3 o1 o2 o3) (S3 a b c) = q at *
    have io : isOwn [("Box", true)] (bxD a b c) = some true := by rfl
    have iz : gIs (.non) (.non) = some (.val (.bl true)) := rfl
    rcases hs with ⟨rfl, rfl⟩ | ⟨k, rfl, hk⟩
    · unfold bxD S3 at *
      cases q <;> simp? [fn_law, den_law, e0, ↓lc, lc, e2, ↓cuT, cuT, io, cB, lkB, ↓sn, stp, m1, m2, m3, m4, skin, ↓cl, cl, pl, ↓pn, pt, ↓lo, lo, ob, ↓of, ↓ot, ↓es, ↓ns', e4, bL, ↓os, e5, e6, ↓sq, beq_self_eq_true, Bool.not_true, Bool.not_false]
    · have kn : gNe (.lst [.str "BadBox", .int k]) (.lst [.str "BadBox", .int k]) = some (.val (.bl false)) := gNe_self (by kernel_rfl)
      unfold bxD S3 at *
      cases q <;> simp? [fn_law, den_law, e0, ↓lc, lc, e2, ↓cuT, cuT, io, cB, lkB, ↓sn, stp, m1, m2, m3, m4, skin, ↓cl, cl, pl, ↓pn, pt, ↓lo, lo, ob, ↓of, ↓ot, ↓es, ↓ns', e4, hk, ↓kn, e5, e6, ↓sq, beq_self_eq_true, Bool.not_true, Bool.not_false]
end Kx

set_option Elab.async false
set_option linter.all false
set_option maxRecDepth 100000
set_option maxHeartbeats 0
namespace Kx
open PySem PySem.W PySem.Calls PyProof.Rows L2 Ev
abbrev R : PySem.W.OpenRow := PySem.W.OpenLaw.row PySem.Challenge.rw_tautparcel_k02_whole_boxes_faces_and_edg
abbrev hk : PySem.W.Hook := hookX 6 fa fn
def ob (s : PySem.W.SharedT) : AlX := obsXG 6 fa fn (HandSHeadRun.getT s)
theorem ob_eq (s : PySem.W.SharedT) : ob s = hk.obs s.abs := obsXG_eq (HandSHeadRun.getT_eq s)
def loose0 : List PySem.Str := ["ParcelError", "BadBox", "BadCorner", "BadFace", "BadEdge", "NoEdge", "is_whole", "MOST_SIDE", "FRAMES", "check_face", "check_corner", "face_axes", "are_beside", "faces_beside", "corner_bits", "faces_of_corner", "all_edges", "check_edge", "faces_of_edge", "edge_between", "Box", "_law_hand", "_law_mixed", "_law_take", "_law_axes", "_law_tuples", "_law_odd", "_law_rid", "_law_whole", "_law_bits"]
def loose1 : List PySem.Str := ["_law_shaped", "_law_box", "_law_asked", "_law_between", "_law_plain", "_law_like", "_law_faces", "_law_edges", "_law_spoilt"]
def loose : List PySem.Str := loose0 ++ loose1
theorem run (w : World) : HandSHeadRun.RunEq R (PySem.W.view R.prog [43]) hk ob 6000 loose w := by
  intro os
  kernel_rfl
end Kx
open PySem PySem.W PySem.Calls PyProof.Rows in
theorem PySem.Challenge.cw_tautparcel_k02_whole_boxes_faces_and_edg_holds : PySem.Challenge.rw_tautparcel_k02_whole_boxes_faces_and_edg.Holds := by
  w_on; o_law
  refine HandSHeadRun.head_any (r := OpenLaw.row PySem.Challenge.rw_tautparcel_k02_whole_boxes_faces_and_edg) (q := view (OpenLaw.row PySem.Challenge.rw_tautparcel_k02_whole_boxes_faces_and_edg).prog [43]) (H := Kx.hk) (ob := Kx.ob) (M := 6000) (loose := Kx.loose) (d := HandSHeadRun.topDef (OpenLaw.row PySem.Challenge.rw_tautparcel_k02_whole_boxes_faces_and_edg).prog 43) (kwd := []) Kx.ob_eq
    (by kernel_rfl) (fun s => by kernel_rfl) Kx.run (by kernel_rfl) (by kernel_rfl) (by kernel_rfl) (by rfl) (by first | assumption | decide +kernel) (by decide +kernel) ⟨rfl, rfl, rfl, rfl, rfl, by decide +kernel⟩ ?hw ?hc
  case hw => w_witness2
  case hc =>
    refine Ev.walk_ev (l := PySem.Challenge.rw_tautparcel_k02_whole_boxes_faces_and_edg) (k := 15) (x := "_law_script") (g := Kx.fn_law) rfl (by kernel_rfl) ⟨⟨rfl, by decide, by decide⟩, rfl⟩ ?F Kx.law_true
    intro w mg fa h Y G hmg0
    obtain ⟨K, KX, c⟩ := Y
    have hmg : mg ("law" : PySem.Str) = some (.ref fa) := by
      have e : (HandSHeadRun.topDef (OpenLaw.row PySem.Challenge.rw_tautparcel_k02_whole_boxes_faces_and_edg).prog 43).name = ("law" : PySem.Str) := by kernel_rfl
      rw [← e]
      exact hmg0
    have T : Kx.Tz K mg := ⟨⟨h, KX, G⟩, c⟩
    have e := hmg.symm.trans (T.glo (T.c.fact 0))
    cases e
    have b := L2.FunD.bindsA (ps := ["_law_script"]) T.F_law fun _ _ _ _ _ _ us hl => match us, hl with | [_], _ => rfl
    exact ⟨K, _, KX, fun s v => b s [v] rfl, fun base _ _ => Kx.ok_law T⟩

