import PyProof.Rows.All
import Wide.All
import OpenK.AllK
import Wide.FinOn
import HandS.ForMost
import HandS.ForExc
import HandS.ExcCtx
import HandS.IsInst
import HandS.TupAny
import HandS.TupLe
import HandS.Conv
import HandS.SortInts
import HandS.Defaults
import HandS.Gcd
import HandS.Style
import HandS.RaiseMore
import KE.KMathGC
import HandS.Walk
import HandS.Zip
import HandS.EndBits
import KE.KExcSuper
import HandS.Nested
import HandS.ExcInit
import HandS.ExcField
import HandS.Hot
import HandS.ExcIs
import KE.GoesEnum
import HandS.Dict
import PySem.Challenge.RW_everyline_k02_figures_and_what_is_none
section
set_option Elab.async false
set_option linter.all false
set_option maxRecDepth 100000
set_option autoImplicit false
/-! A value semantics over the hand layer: data, what stands for them, slots, steps. -/
namespace Z
open PySem
open L2 hiding XE Takes CX passes_call takes_of passAt PMk MkP ps_raise mk_of ps_try_as ps_try_many pmk_own XE.of_call XE.new XE.leave Takes.imp Sky.land
open L2N (Takes CX takes_of passAt PMk MkP ps_raise)

/-- data: what a value stands for, whole -/
inductive D where
  | non
  | bl (b : Bool)
  | int (i : Int)
  | str (x : Str)
  | lst (xs : List D)
  | tup (xs : List D)
  | dct (ks : List Key) (vs : List D)
  | ins (c : Str) (ns : List Str) (vs : List D)
  /-- an exception of an own class, its fields -/
  | exc (c : Str) (ns : List Str) (vs : List D)
  /-- the law's own argument -/
  | scr (ns : List Int)

variable {K : PySem.W.Frag} {mg : Str → Option Value}

/-- at a: an exception of the class at C, its dict at dd, its context none -/
def ExV (C dd a : Addr) : HO := .ext fun h => ∃ (oe : Obj) (us : Array Value), h.get? a = some oe ∧ L2N.Zn (.ref C) (some dd) oe ∧ oe.data = .fields us ∧ 2 < us.size
mutual
/-- v stands for d, by what S holds (S: the part of the heap that stays) -/
inductive Rp (K : PySem.W.Frag) (mg : Str → Option Value) (S : Hp) : V → D → Prop
  | non : Rp K mg S .non .non
  | bl (b : Bool) : Rp K mg S (.bl b) (.bl b)
  | int (i : Int) : Rp K mg S (.int i) (.int i)
  | str (x : Str) : Rp K mg S (.str x) (.str x)
  | lst {a : Addr} {vs : List V} {ds : List D} : S a = some (.lst vs) → RpA K mg S vs ds → Rp K mg S (.ref a) (.lst ds)
  | scr {a : Addr} {ns : List Int} : SqL K S a (ns.map V.int) → Rp K mg S (.ref a) (.scr ns)
  | tup {a : Addr} {vs : List V} {ds : List D} : SqT K S a vs → RpA K mg S vs ds → Rp K mg S (.ref a) (.tup ds)
  | dct {a : Addr} {kvs : List (Key × V)} {ks : List Key} {vs : List V} {ds : List D} : S a = some (.dK kvs) → kvs.map (·.1) = ks → kvs.map (·.2) = vs → RpA K mg S vs ds → Rp K mg S (.ref a) (.dct ks ds)
  | ins {a C dx : Addr} {fs : List (Str × V)} {c : Str} {ns : List Str} {vs : List V} {ds : List D} : S a = some (.ins C dx fs) → mg c = some (.ref C) → fs.map (·.1) = ns → fs.map (·.2) = vs → RpA K mg S vs ds → Rp K mg S (.ref a) (.ins c ns ds)
  | exc {a C dd : Addr} {fs : List (Str × V)} {c : Str} {ns : List Str} {vs : List V} {ds : List D} : S a = some (ExV C dd a) → mg c = some (.ref C) → S dd = some (.xd fs) → fs.map (·.1) = ns → fs.map (·.2) = vs → RpA K mg S vs ds → Rp K mg S (.ref a) (.exc c ns ds)
inductive RpA (K : PySem.W.Frag) (mg : Str → Option Value) (S : Hp) : List V → List D → Prop
  | nil : RpA K mg S [] []
  | cons {v : V} {vs : List V} {d : D} {ds : List D} : Rp K mg S v d → RpA K mg S vs ds → RpA K mg S (v :: vs) (d :: ds)
end

theorem same_tup {S S' : Hp} {a : Addr} {vs : List V} (e : Same S S') (h : SqT K S a vs) : SqT K S' a vs := by
  rcases h with (h | ⟨o, h⟩) | h
  · exact .inl (.inl (e _ _ h))
  · exact .inl (.inr ⟨o, e _ _ h⟩)
  · exact .inr h

mutual
theorem Rp.mono {S S' : Hp} (e : Same S S') : ∀ {d : D} {v : V}, Rp K mg S v d → Rp K mg S' v d
  | .non, _, h => by cases h; exact .non
  | .bl _, _, h => by cases h; exact .bl _
  | .int _, _, h => by cases h; exact .int _
  | .str _, _, h => by cases h; exact .str _
  | .lst ds, _, h => by cases h with | lst a b => exact .lst (e _ _ a) (RpA.mono e b)
  | .scr ns, _, h => by cases h with | scr a => exact .scr (e.seq a)
  | .tup ds, _, h => by cases h with | tup a b => exact .tup (same_tup e a) (RpA.mono e b)
  | .dct ks ds, _, h => by cases h with | dct a b c r => exact .dct (e _ _ a) b c (RpA.mono e r)
  | .ins c ns ds, _, h => by cases h with | ins a b c d r => exact .ins (e _ _ a) b c d (RpA.mono e r)
  | .exc c ns ds, _, h => by cases h with | exc a b c d f r => exact .exc (e _ _ a) b (e _ _ c) d f (RpA.mono e r)
theorem RpA.mono {S S' : Hp} (e : Same S S') : ∀ {ds : List D} {vs : List V}, RpA K mg S vs ds → RpA K mg S' vs ds
  | [], _, h => by cases h; exact .nil
  | d :: ds, _, h => by cases h with | cons a b => exact .cons (Rp.mono e a) (RpA.mono e b)
end
theorem RpA.len {S : Hp} : ∀ {ds : List D} {vs : List V}, RpA K mg S vs ds → vs.length = ds.length
  | [], _, h => by cases h; rfl
  | d :: ds, _, h => by cases h with | cons a b => exact congrArg Nat.succ b.len
theorem RpA.get {S : Hp} : ∀ {ds : List D} {vs : List V} {i : Nat} {d : D}, RpA K mg S vs ds → ds[i]? = some d → ∃ v, vs[i]? = some v ∧ Rp K mg S v d
  | [], _, _, _, _, e => by simp at e
  | d :: ds, _, 0, _, h, e => by
    cases h with
    | cons a b =>
      have : d = _ := Option.some.inj e
      subst this
      exact ⟨_, rfl, a⟩
  | d :: ds, _, i + 1, _, h, e => by
    cases h with
    | cons a b => exact b.get (i := i) e
theorem RpA.getV {S : Hp} : ∀ {ds : List D} {vs : List V} {i : Nat} {v : V}, RpA K mg S vs ds → vs[i]? = some v → ∃ d, ds[i]? = some d ∧ Rp K mg S v d
  | [], _, _, _, h, e => by cases h; simp at e
  | d :: ds, _, 0, _, h, e => by
    cases h with
    | cons a b =>
      have := Option.some.inj e
      subst this
      exact ⟨_, rfl, a⟩
  | d :: ds, _, i + 1, _, h, e => by
    cases h with
    | cons a b => exact b.getV (i := i) e
theorem RpA.app {S : Hp} : ∀ {ds es : List D} {vs ws : List V}, RpA K mg S vs ds → RpA K mg S ws es → RpA K mg S (vs ++ ws) (ds ++ es)
  | [], _, _, _, h, r => by cases h; exact r
  | d :: ds, _, _, _, h, r => by cases h with | cons a b => exact .cons a (b.app r)
theorem RpA.one {S : Hp} {d : D} {v : V} (h : Rp K mg S v d) : RpA K mg S [v] [d] := .cons h .nil
theorem RpA.drop {S : Hp} : ∀ (n : Nat) {ds : List D} {vs : List V}, RpA K mg S vs ds → RpA K mg S (vs.drop n) (ds.drop n)
  | 0, _, _, h => h
  | n + 1, [], _, h => by cases h; exact .nil
  | n + 1, d :: ds, _, h => by cases h with | cons a b => exact b.drop n
theorem RpA.take {S : Hp} : ∀ (n : Nat) {ds : List D} {vs : List V}, RpA K mg S vs ds → RpA K mg S (vs.take n) (ds.take n)
  | 0, _, _, h => .nil
  | n + 1, [], _, h => by cases h; exact .nil
  | n + 1, d :: ds, _, h => by cases h with | cons a b => exact .cons a (b.take n)
theorem RpA.set {S : Hp} {x : V} {y : D} (r : Rp K mg S x y) : ∀ (n : Nat) {ds : List D} {vs : List V}, RpA K mg S vs ds → RpA K mg S (vs.set n x) (ds.set n y)
  | _, [], _, h => by cases h; exact .nil
  | 0, d :: ds, _, h => by cases h with | cons a b => exact .cons r b
  | n + 1, d :: ds, _, h => by cases h with | cons a b => exact .cons a (b.set r n)
theorem RpA.erase {S : Hp} : ∀ (n : Nat) {ds : List D} {vs : List V}, RpA K mg S vs ds → RpA K mg S (vs.eraseIdx n) (ds.eraseIdx n)
  | _, [], _, h => by cases h; exact .nil
  | 0, d :: ds, _, h => by cases h with | cons a b => exact b
  | n + 1, d :: ds, _, h => by cases h with | cons a b => exact .cons a (b.erase n)
theorem RpA.rev {S : Hp} : ∀ {ds : List D} {vs : List V}, RpA K mg S vs ds → RpA K mg S vs.reverse ds.reverse
  | [], _, h => by cases h; exact .nil
  | d :: ds, _, h => by
    cases h with
    | cons a b =>
      rw [List.reverse_cons, List.reverse_cons]
      exact b.rev.app (.one a)

/-- the top object, its parts standing by S -/
inductive HoR (K : PySem.W.Frag) (mg : Str → Option Value) (S : Hp) : HO → D → Prop
  | lst {vs : List V} {ds : List D} : RpA K mg S vs ds → HoR K mg S (.lst vs) (.lst ds)
  | dct {kvs : List (Key × V)} {ks : List Key} {vs : List V} {ds : List D} : kvs.map (·.1) = ks → kvs.map (·.2) = vs → RpA K mg S vs ds → HoR K mg S (.dK kvs) (.dct ks ds)
  | ins {C dx : Addr} {fs : List (Str × V)} {c : Str} {ns : List Str} {vs : List V} {ds : List D} : mg c = some (.ref C) → fs.map (·.1) = ns → fs.map (·.2) = vs → RpA K mg S vs ds → HoR K mg S (.ins C dx fs) (.ins c ns ds)
theorem HoR.mono {S S' : Hp} (e : Same S S') {ho : HO} {d : D} (h : HoR K mg S ho d) : HoR K mg S' ho d := by
  cases h with
  | lst a => exact .lst (a.mono e)
  | dct a b r => exact .dct a b (r.mono e)
  | ins a b c r => exact .ins a b c (r.mono e)
theorem HoR.frozen {S : Hp} {ho : HO} {d : D} {a : Addr} (h : HoR K mg S ho d) (ha : S a = some ho) : Rp K mg S (.ref a) d := by
  cases h with
  | lst r => exact .lst ha r
  | dct b c r => exact .dct ha b c r
  | ins b c d r => exact .ins ha b c d r
theorem same_upd {H : Hp} {p : Addr} {o : HO} (h : H p = none) : Same H (upd H p o) := fun b x e => by
  rw [upd_ne (ne_of_none e h)]
  exact e

/-! ### slots -/
inductive Sl where
  | no
  | v (d : D)
  /-- a list (dict, instance) that this frame alone knows -/
  | own (d : D)
  /-- a parameter's, the caller's own: changed here -/
  | io (d : D)
abbrev Env := List Sl
def Sl.mut : Sl → Option D
  | .own d => some d
  | .io d => some d
  | _ => none
def SlR (K : PySem.W.Frag) (mg : Str → Option Value) (S H : Hp) (o : Option (Option V)) : Sl → Prop
  | .no => True
  | .v d => ∃ v, o = some (some v) ∧ Rp K mg S v d
  | .own d => ∃ a ho, o = some (some (.ref a)) ∧ S a = none ∧ H a = some ho ∧ HoR K mg S ho d
  | .io d => ∃ a ho, o = some (some (.ref a)) ∧ S a = none ∧ H a = some ho ∧ HoR K mg S ho d
def OwnAt (env : Env) (σ : St) (i : Nat) (q : Addr) : Prop := (∃ s d, env[i]? = some s ∧ s.mut = some d) ∧ σ[i]? = some (some (.ref q))
def Own (env : Env) (σ : St) (q : Addr) : Prop := ∃ i, OwnAt env σ i q
structure Rel (K : PySem.W.Frag) (mg : Str → Option Value) (env : Env) (σ : St) (S H : Hp) : Prop where
  len : σ.length = env.length
  sub : Same S H
  sl : ∀ (i : Nat) (s : Sl), env[i]? = some s → SlR K mg S H σ[i]? s
  inj : ∀ (i j : Nat) (q : Addr), OwnAt env σ i q → OwnAt env σ j q → i = j
theorem SlR.mut {S H : Hp} {o : Option (Option V)} {s : Sl} {d : D} (h : SlR K mg S H o s) (e : s.mut = some d) : ∃ a ho, o = some (some (.ref a)) ∧ S a = none ∧ H a = some ho ∧ HoR K mg S ho d := by
  cases s with
  | no => cases e
  | v _ => cases e
  | own _ => cases e; exact h
  | io _ => cases e; exact h
theorem Rel.own {env : Env} {σ : St} {S H : Hp} (r : Rel K mg env σ S H) {q : Addr} (h : Own env σ q) : S q = none ∧ ∃ ho, H q = some ho := by
  obtain ⟨i, ⟨s, d, e, m⟩, hq⟩ := h
  obtain ⟨a, ho, h1, h2, h3, _⟩ := (r.sl i s e).mut m
  rw [hq] at h1
  cases h1
  exact ⟨h2, ho, h3⟩

/-- from a state to a later one -/
structure Step (K : PySem.W.Frag) (mg : Str → Option Value) (env : Env) (σ : St) (S H : Hp) (env' : Env) (σ' : St) (S' H' : Hp) : Prop where
  rel : Rel K mg env' σ' S' H'
  ext : Same S S'
  frm : ∀ q o, H q = some o → ¬ Own env σ q → H' q = some o
  new : ∀ q o, S' q = some o → S q = some o ∨ H q = none ∨ Own env σ q
  own : ∀ q, Own env' σ' q → Own env σ q ∨ H q = none
  io : ∀ (i : Nat) (d : D), env[i]? = some (Sl.io d) → σ'[i]? = σ[i]? ∧ ∃ d', env'[i]? = some (Sl.io d')
section
variable {env env1 env2 : Env} {σ σ1 σ2 : St} {S S1 S2 H H1 H2 : Hp}
theorem Step.refl (r : Rel K mg env σ S H) : Step K mg env σ S H env σ S H :=
  ⟨r, Same.refl S, fun _ _ e _ => e, fun _ _ e => .inl e, fun _ h => .inl h, fun i d e => ⟨rfl, d, e⟩⟩
theorem Step.trans (a : Step K mg env σ S H env1 σ1 S1 H1) (b : Step K mg env1 σ1 S1 H1 env2 σ2 S2 H2) : Step K mg env σ S H env2 σ2 S2 H2 where
  rel := b.rel
  ext := a.ext.trans b.ext
  frm := fun q o e n => b.frm q o (a.frm q o e n) fun h => (a.own q h).elim n fun z => by rw [e] at z; cases z
  new := fun q o e => by
    have back : H1 q = none → H q = none ∨ Own env σ q := fun z => by
      cases h : H q with
      | none => exact .inl rfl
      | some o' =>
        refine .inr (Classical.byContradiction fun n => ?_)
        rw [a.frm q o' h n] at z
        cases z
    rcases b.new q o e with h | h | h
    · exact a.new q o h
    · exact .inr (back h)
    · rcases a.own q h with h | h
      · exact .inr (.inr h)
      · exact .inr (.inl h)
  own := fun q h => by
    have back : H1 q = none → Own env σ q ∨ H q = none := fun z => by
      cases h : H q with
      | none => exact .inr rfl
      | some o' =>
        refine .inl (Classical.byContradiction fun n => ?_)
        rw [a.frm q o' h n] at z
        cases z
    rcases b.own q h with h | h
    · exact a.own q h
    · exact back h
  io := fun i d e => by
    obtain ⟨x, d1, y⟩ := a.io i d e
    obtain ⟨x2, d2, y2⟩ := b.io i d1 y
    exact ⟨x2.trans x, d2, y2⟩
/-- a thing that stood apart stands apart still -/
theorem Step.apart (a : Step K mg env σ S H env1 σ1 S1 H1) {q : Addr} {o : HO} (h : H q = some o) (hS : S q = none) (n : ¬ Own env σ q) : H1 q = some o ∧ S1 q = none ∧ ¬ Own env1 σ1 q := by
  refine ⟨a.frm q o h n, ?_, fun z => (a.own q z).elim n fun z => by rw [h] at z; cases z⟩
  cases e : S1 q with
  | none => rfl
  | some o' =>
    rcases a.new q o' e with z | z | z
    · rw [hS] at z; cases z
    · rw [h] at z; cases z
    · exact absurd z n
theorem SlR.laid {S H : Hp} {o : Option (Option V)} {s : Sl} {p : Addr} {u : HO} (h : SlR K mg S H o s) (hp : H p = none) (sub : Same S H) (sS : Bool) : SlR K mg (if sS then upd S p u else S) (upd H p u) o s := by
  have hS : S p = none := sub.free hp
  have e1 : Same S (if sS then upd S p u else S) := by
    cases sS with
    | true => exact same_upd hS
    | false => exact Same.refl S
  have n1 : ∀ a, S a = none → a ≠ p → (if sS then upd S p u else S) a = none := fun a ha n => by
    cases sS with
    | true =>
      show upd S p u a = none
      rw [upd_ne n]
      exact ha
    | false => exact ha
  cases s with
  | no => trivial
  | v d =>
    obtain ⟨v, a, b⟩ := h
    exact ⟨v, a, b.mono e1⟩
  | own d =>
    obtain ⟨a, ho, h1, h2, h3, h4⟩ := h
    have n : a ≠ p := ne_of_none h3 hp
    exact ⟨a, ho, h1, n1 a h2 n, by rw [upd_ne n]; exact h3, h4.mono e1⟩
  | io d =>
    obtain ⟨a, ho, h1, h2, h3, h4⟩ := h
    have n : a ≠ p := ne_of_none h3 hp
    exact ⟨a, ho, h1, n1 a h2 n, by rw [upd_ne n]; exact h3, h4.mono e1⟩
/-- a new object, that stays (sS) or stands apart -/
theorem Rel.laid (r : Rel K mg env σ S H) {p : Addr} {u : HO} (hp : H p = none) (sS : Bool) : Step K mg env σ S H env σ (if sS then upd S p u else S) (upd H p u) := by
  have hS : S p = none := r.sub.free hp
  refine ⟨⟨r.len, ?_, fun i s e => (r.sl i s e).laid hp r.sub sS, r.inj⟩, ?_, fun q o e _ => ?_, fun q o e => ?_, fun q h => .inl h, fun i d e => ⟨rfl, d, e⟩⟩
  · cases sS with
    | true =>
      intro b o e
      have e' : upd S p u b = some o := e
      by_cases hb : b = p
      · subst hb
        rw [upd_same] at e' ⊢
        exact e'
      · rw [upd_ne hb] at e' ⊢
        exact r.sub b o e'
    | false =>
      intro b o e
      rw [upd_ne (ne_of_none (r.sub b o e) hp)]
      exact r.sub b o e
  · cases sS with
    | true => exact same_upd hS
    | false => exact Same.refl S
  · rw [upd_ne (ne_of_none e hp)]
    exact e
  · cases sS with
    | true =>
      have e' : upd S p u q = some o := e
      by_cases hb : q = p
      · subst hb
        exact .inr (.inl hp)
      · rw [upd_ne hb] at e'
        exact .inl e'
    | false => exact .inl e
/-- a thing that stood apart stays from now on -/
theorem Rel.freeze (r : Rel K mg env σ S H) {p : Addr} {u : HO} (hp : H p = some u) (hS : S p = none) (n : ¬ Own env σ p) : Rel K mg env σ (upd S p u) H := by
  refine ⟨r.len, fun b o e => ?_, fun i s e => ?_, r.inj⟩
  · by_cases hb : b = p
    · subst hb
      rw [upd_same] at e
      rw [← e]
      exact hp
    · rw [upd_ne hb] at e
      exact r.sub b o e
  · have q := r.sl i s e
    cases s with
    | no => trivial
    | v d =>
      obtain ⟨v, a, b⟩ := q
      exact ⟨v, a, b.mono (same_upd hS)⟩
    | own d =>
      obtain ⟨a, ho, h1, h2, h3, h4⟩ := q
      have na : a ≠ p := fun z => by subst z; exact n ⟨i, ⟨_, d, e, rfl⟩, h1⟩
      exact ⟨a, ho, h1, by rw [upd_ne na]; exact h2, h3, h4.mono (same_upd hS)⟩
    | io d =>
      obtain ⟨a, ho, h1, h2, h3, h4⟩ := q
      have na : a ≠ p := fun z => by subst z; exact n ⟨i, ⟨_, d, e, rfl⟩, h1⟩
      exact ⟨a, ho, h1, by rw [upd_ne na]; exact h2, h3, h4.mono (same_upd hS)⟩
end

/-! ### results, the value semantics -/
inductive Rs where
  | v (d : D)
  /-- new, known nowhere -/
  | fr (d : D)
  /-- what slot i owns -/
  | bw (i : Nat)
/-- what a stretch of code may freeze: what it has made, what its slots own -/
def Mine (env : Env) (σ : St) (H : Hp) (q : Addr) : Prop := H q = none ∨ Own env σ q
theorem Step.mine {env env1 : Env} {σ σ1 : St} {S S1 H H1 : Hp} (a : Step K mg env σ S H env1 σ1 S1 H1) {q : Addr} (h : Mine env1 σ1 H1 q) : Mine env σ H q := by
  rcases h with h | h
  · cases e : H q with
    | none => exact .inl e
    | some o =>
      refine .inr (Classical.byContradiction fun n => ?_)
      rw [a.frm q o e n] at h
      cases h
  · rcases a.own q h with z | z
    · exact .inr z
    · exact .inl z
/-- a thing of its own, that stands apart, stays from now on -/
theorem Step.freeze {env env1 : Env} {σ σ1 : St} {S S1 H H1 : Hp} (a : Step K mg env σ S H env1 σ1 S1 H1) {p : Addr} {u : HO} (hp : H1 p = some u) (hS : S1 p = none) (n : ¬ Own env1 σ1 p) (m : Mine env σ H p) :
    Step K mg env σ S H env1 σ1 (upd S1 p u) H1 where
  rel := a.rel.freeze hp hS n
  ext := a.ext.trans (same_upd hS)
  frm := a.frm
  new := fun q o e => by
    by_cases hb : q = p
    · subst hb
      exact .inr m
    · rw [upd_ne hb] at e
      exact a.new q o e
  own := a.own
  io := a.io
def RsR (K : PySem.W.Frag) (mg : Str → Option Value) (N : Addr → Prop) (env : Env) (σ : St) (S H : Hp) (v : V) : Rs → Prop
  | .v d => Rp K mg S v d
  | .fr d => ∃ a ho, v = .ref a ∧ S a = none ∧ H a = some ho ∧ HoR K mg S ho d ∧ ¬ Own env σ a ∧ N a
  | .bw i => σ[i]? = some (some v)
def Rs.get (env : Env) : Rs → Option D
  | .v d => some d
  | .fr d => some d
  | .bw i => match env[i]? with
    | some s => s.mut
    | none => none
/-- what may be read now -/
def Tp (K : PySem.W.Frag) (mg : Str → Option Value) (S H : Hp) (v : V) (d : D) : Prop := Rp K mg S v d ∨ ∃ a ho, v = .ref a ∧ H a = some ho ∧ HoR K mg S ho d
theorem RsR.tp {N : Addr → Prop} {env : Env} {σ : St} {S H : Hp} {v : V} {r : Rs} {d : D} (R : Rel K mg env σ S H) (h : RsR K mg N env σ S H v r) (e : r.get env = some d) : Tp K mg S H v d := by
  cases r with
  | v d' => cases e; exact .inl h
  | fr d' =>
    cases e
    obtain ⟨a, ho, h1, _, h3, h4, _⟩ := h
    exact .inr ⟨a, ho, h1, h3, h4⟩
  | bw i =>
    have h' : σ[i]? = some (some v) := h
    unfold Rs.get at e
    cases es : env[i]? with
    | none => simp [es] at e
    | some s =>
      simp only [es] at e
      obtain ⟨a, ho, h1, _, h3, h4⟩ := (R.sl i s es).mut e
      rw [h'] at h1
      have : v = .ref a := by simpa using h1
      exact .inr ⟨a, ho, this, h3, h4⟩
theorem RsR.mono {N : Addr → Prop} {env env' : Env} {σ : St} {S H S' H' : Hp} {v : V} {r : Rs} (st : Step K mg env σ S H env' σ S' H') (h : RsR K mg N env σ S H v r) : RsR K mg N env' σ S' H' v r := by
  cases r with
  | v d => exact Rp.mono st.ext h
  | fr d =>
    obtain ⟨a, ho, h1, h2, h3, h4, h5, h6⟩ := h
    obtain ⟨x, y, z⟩ := st.apart h3 h2 h5
    exact ⟨a, ho, h1, y, x, h4.mono st.ext, z, h6⟩
  | bw i => exact h
theorem Tp.lst {S H : Hp} {v : V} {ds : List D} (sub : Same S H) (h : Tp K mg S H v (.lst ds)) : ∃ a vs, v = .ref a ∧ H a = some (.lst vs) ∧ RpA K mg S vs ds := by
  rcases h with h | ⟨a, ho, h1, h2, h3⟩
  · cases h with
    | lst a b => exact ⟨_, _, rfl, sub _ _ a, b⟩
  · cases h3 with
    | lst r => exact ⟨a, _, h1, h2, r⟩
theorem Tp.tup {S H : Hp} {v : V} {ds : List D} (sub : Same S H) (h : Tp K mg S H v (.tup ds)) : ∃ a vs, v = .ref a ∧ SqT K H a vs ∧ RpA K mg S vs ds := by
  rcases h with h | ⟨a, ho, h1, h2, h3⟩
  · cases h with
    | tup a b => exact ⟨_, _, rfl, same_tup sub a, b⟩
  · cases h3

inductive Res (α : Type) where
  | ok (a : α) (env : Env)
  | ex (c : Str) (ns : List Str) (vs : List D) (env : Env)
abbrev M (α : Type) := Env → Option (Res α)
def M.ret {α : Type} (a : α) : M α := fun env => some (.ok a env)
def M.no {α : Type} : M α := fun _ => none
def M.bind {α β : Type} (m : M α) (k : α → M β) : M β := fun env => match m env with
  | none => none
  | some (.ok a env1) => k a env1
  | some (.ex c ns vs e) => some (.ex c ns vs e)
/-- a plain answer, the state as it is -/
def M.of {α : Type} (f : Env → Option α) : M α := fun env => match f env with
  | some a => some (.ok a env)
  | none => none

/-- a relation of results: N: what may be frozen -/
abbrev RL (β α : Type) := (Addr → Prop) → Env → St → Hp → Hp → β → α → Prop
def Go {β α : Type} (K : PySem.W.Frag) (mg : Str → Option Value) (W : WX) (R : RL β α) (m : M α) (env : Env) (σ : St) (S H : Hp) (Q : β → Hp → Prop) : Prop := match m env with
  | none => False
  | some (.ok a env') => ∀ v S' H', Step K mg env σ S H env' σ S' H' → R (Mine env σ H) env' σ S' H' v a → Q v H'
  | some (.ex c ns ds env') => ∀ C d fv S' H', mg c = some (.ref C) → Step K mg env σ S H env' σ S' H' → S' d = some (.xd fv) → fv.map (·.1) = ns → RpA K mg S' (fv.map (·.2)) ds → W (.ref C) (some d) σ H'
def tM {β α : Type} (K : PySem.W.Frag) (mg : Str → Option Value) (W : WX) (R : RL β α) (m : M α) : St → Hp → (β → Hp → Prop) → Prop := fun σ H Q => ∃ env S, Rel K mg env σ S H ∧ Go K mg W R m env σ S H Q
def RD (K : PySem.W.Frag) (mg : Str → Option Value) : RL V D := fun _ _ _ S _ v d => Rp K mg S v d
def RR (K : PySem.W.Frag) (mg : Str → Option Value) : RL V Rs := fun N env σ S H v r => RsR K mg N env σ S H v r
def RA (K : PySem.W.Frag) (mg : Str → Option Value) : RL (List V) (List D) := fun _ _ _ S _ vs ds => RpA K mg S vs ds
def RB : RL Bool Bool := fun _ _ _ _ _ b c => b = c
/-- the more may be frozen, the less is said -/
def RNm {β α : Type} (R : RL β α) : Prop := ∀ {N N' : Addr → Prop}, (∀ q, N q → N' q) → ∀ {env σ S H v a}, R N env σ S H v a → R N' env σ S H v a
theorem nmD : RNm (RD K mg) := fun _ _ _ _ _ _ _ h => h
theorem nmA : RNm (RA K mg) := fun _ _ _ _ _ _ _ h => h
theorem nmB : RNm RB := fun _ _ _ _ _ _ _ h => h
theorem nmR : RNm (RR K mg) := by
  intro N N' i env σ S H v a h
  cases a with
  | v d => exact h
  | fr d =>
    obtain ⟨a, ho, h1, h2, h3, h4, h5, h6⟩ := h
    exact ⟨a, ho, h1, h2, h3, h4, h5, i _ h6⟩
  | bw j => exact h
section
variable {β α β' α' : Type} {W : WX} {R : RL β α} {R' : RL β' α'} {m : M α} {k : α → M α'} {env : Env} {σ : St} {S H : Hp} {Q : β' → Hp → Prop}
theorem Go.bind (nm : RNm R') (h : Go K mg W R' (M.bind m k) env σ S H Q) :
    Go K mg W R m env σ S H fun v H1 => ∃ env1 S1 a, Step K mg env σ S H env1 σ S1 H1 ∧ R (Mine env σ H) env1 σ S1 H1 v a ∧ Go K mg W R' (k a) env1 σ S1 H1 Q := by
  unfold Go M.bind at h
  unfold Go
  cases hm : m env with
  | none =>
    simp only [hm] at h
  | some r =>
    cases r with
    | ok a env1 =>
      simp only [hm] at h ⊢
      refine fun v S1 H1 st ra => ⟨env1, S1, a, st, ra, ?_⟩
      cases hk : k a env1 with
      | none => simp only [hk] at h
      | some r2 =>
        cases r2 with
        | ok b env2 =>
          simp only [hk] at h ⊢
          exact fun v2 S2 H2 st2 rb => h v2 S2 H2 (st.trans st2) (nm (fun q hq => st.mine hq) rb)
        | ex c ns vs env2 =>
          simp only [hk] at h ⊢
          exact fun C d fv S2 H2 hc st2 e1 e2 e3 => h C d fv S2 H2 hc (st.trans st2) e1 e2 e3
    | ex c ns vs env1 =>
      simp only [hm] at h ⊢
      exact h
theorem Go.imp {Q1 Q2 : β → Hp → Prop} (h : Go K mg W R m env σ S H Q1) (i : ∀ v H', Q1 v H' → Q2 v H') : Go K mg W R m env σ S H Q2 := by
  unfold Go at h ⊢
  cases hm : m env with
  | none => simp only [hm] at h
  | some x =>
    cases x with
    | ok a env1 =>
      simp only [hm] at h ⊢
      exact fun v S1 H1 st ra => i v H1 (h v S1 H1 st ra)
    | ex c ns vs env1 =>
      simp only [hm] at h ⊢
      exact h
/-- a part, then the rest: the shape of every rule -/
theorem Go.part (nm : RNm R') (r : Rel K mg env σ S H) (h : Go K mg W R' (M.bind m k) env σ S H Q) {Q1 : β → Hp → Prop}
    (i : ∀ v H1 env1 S1 a, Step K mg env σ S H env1 σ S1 H1 → R (Mine env σ H) env1 σ S1 H1 v a → Go K mg W R' (k a) env1 σ S1 H1 Q → Q1 v H1) : tM K mg W R m σ H Q1 :=
  ⟨env, S, r, (h.bind (R := R) nm).imp fun v H1 ⟨env1, S1, a, st, ra, g⟩ => i v H1 env1 S1 a st ra g⟩
theorem Go.of {f : Env → Option α} {Q1 : β → Hp → Prop} (h : Go K mg W R (M.of f) env σ S H Q1) : ∃ a, f env = some a ∧ ∀ v S' H', Step K mg env σ S H env σ S' H' → R (Mine env σ H) env σ S' H' v a → Q1 v H' := by
  unfold Go M.of at h
  cases hf : f env with
  | none => simp only [hf] at h
  | some a =>
    simp only [hf] at h
    exact ⟨a, rfl, h⟩
theorem Go.ret {a : α} {Q1 : β → Hp → Prop} (r : Rel K mg env σ S H) (h : Go K mg W R (M.ret a) env σ S H Q1) {v : β} (hv : R (Mine env σ H) env σ S H v a) : Q1 v H := h v S H (Step.refl r) hv
end
end Z
end

section
set_option Elab.async false
set_option linter.all false
set_option maxRecDepth 100000
set_option autoImplicit false
/-! The rules of expressions: what an expression does, as a plain function of slots. -/
namespace Z
open PySem
open L2 hiding XE Takes CX passes_call takes_of passAt PMk MkP ps_raise mk_of ps_try_as ps_try_many pmk_own XE.of_call XE.new XE.leave Takes.imp Sky.land
open L2N (Takes CX takes_of passAt PMk MkP ps_raise)
variable {X : Cx}

theorem pe_imp {e : Expr} {t t' : TE} (h : PE X e t) (i : ∀ σ H Q, t' σ H Q → t σ H Q) : PE X e t' := ⟨fun pins s σ H Q I q => h.run pins s σ H Q I (i σ H Q q)⟩
theorem pa_imp {es : List Expr} {t t' : TA} (h : PA X es t) (i : ∀ σ H Q, t' σ H Q → t σ H Q) : PA X es t' := ⟨fun pos pins s σ H Q I q => h.run pos pins s σ H Q I (i σ H Q q)⟩
theorem pt_imp {e : Expr} {t t' : TT} (h : PT X e t) (i : ∀ σ H Q, t' σ H Q → t σ H Q) : PT X e t' := ⟨fun pins s σ H Q I q => h.run pins s σ H Q I (i σ H Q q)⟩
theorem pw_imp {e : Expr} {t t' : TT} (h : PW X e t) (i : ∀ σ H Q, t' σ H Q → t σ H Q) : PW X e t' := ⟨fun wh pins s σ H Q I q => h.run wh pins s σ H Q I (i σ H Q q)⟩

def SR (X : Cx) (e : Expr) (m : M Rs) : Prop := ∀ W, Takes X W → PE X e (tM X.K X.mg W (RR X.K X.mg) m)
def SV (X : Cx) (e : Expr) (m : M D) : Prop := ∀ W, Takes X W → PE X e (tM X.K X.mg W (RD X.K X.mg) m)
def SA (X : Cx) (es : List Expr) (m : M (List D)) : Prop := ∀ W, Takes X W → PA X es (tM X.K X.mg W (RA X.K X.mg) m)
def ST (X : Cx) (e : Expr) (m : M Bool) : Prop := ∀ W, Takes X W → PT X e (tM X.K X.mg W RB m)
def SW (X : Cx) (e : Expr) (m : M Bool) : Prop := ∀ W, Takes X W → PW X e (tM X.K X.mg W RB m)

/-! ### values and what is new -/
def mR (m : M D) : M Rs := m.bind fun d => M.ret (.v d)
def mV (m : M Rs) : M D := fun env => match m env with
  | some (.ok (.v d) env1) => some (.ok d env1)
  | some (.ok (.fr d) env1) => some (.ok d env1)
  | some (.ex c ns vs env1) => some (.ex c ns vs env1)
  | _ => none
theorem sr_v {e : Expr} {m : M D} (h : SV X e m) : SR X e (mR m) := fun W tk => pe_imp (h W tk) fun σ H Q ⟨env, S, r, g⟩ =>
  g.part nmR r fun v H1 env1 S1 a st ra g1 => g1.ret (R := RR X.K X.mg) st.rel ra
theorem sv_r {e : Expr} {m : M Rs} (h : SR X e m) : SV X e (mV m) := fun W tk => pe_imp (h W tk) fun σ H Q ⟨env, S, r, g⟩ => by
  refine ⟨env, S, r, ?_⟩
  unfold Go mV at g
  unfold Go
  cases hm : m env with
  | none => simp only [hm] at g
  | some x =>
    cases x with
    | ok a env1 =>
      cases a with
      | v d =>
        simp only [hm] at g ⊢
        exact fun v S1 H1 st ra => g v S1 H1 st ra
      | fr d =>
        simp only [hm] at g ⊢
        intro v S1 H1 st ra
        obtain ⟨a, ho, rfl, h2, h3, h4, h5, h6⟩ := ra
        exact g _ _ H1 (st.freeze h3 h2 h5 h6) ((h4.mono (same_upd h2)).frozen upd_same)
      | bw i => simp only [hm] at g
    | ex c ns vs env1 =>
      simp only [hm] at g ⊢
      exact g

/-! ### constants -/
theorem sv_c {e : Expr} {v : V} {d : D} (h : PE X e (tC v)) (hd : ∀ S, Rp X.K X.mg S v d) : SV X e (M.ret d) := fun W tk => pe_imp h fun σ H Q ⟨env, S, r, g⟩ => g.ret (R := RD X.K X.mg) r (hd S)
theorem sv_int {i : Int} {j pos} : SV X (.Constant (.int i) j pos) (M.ret (.int i)) := sv_c pe_int fun _ => .int _
theorem sv_bl {b : Bool} {j pos} : SV X (.Constant (.bool b) j pos) (M.ret (.bl b)) := sv_c pe_bl fun _ => .bl _
theorem sv_non {j pos} : SV X (.Constant .none j pos) (M.ret .non) := sv_c pe_non fun _ => .non
theorem sv_str {x : Str} {j pos} : SV X (.Constant (.str x) j pos) (M.ret (.str x)) := sv_c pe_str fun _ => .str _
theorem sv_glob {x : Str} {v : V} {d : D} {u : Value} {pos : Pos} (hm : X.mg x = some u) (r : RelV v u) (hd : ∀ S, Rp X.K X.mg S v d) (hg : Gl X x := by rfl) (hb : (x == ("__debug__" : Str)) = false := by decide) : SV X (.Name x pos) (M.ret d) := sv_c (pe_glob hg hm r hb) hd

/-! ### names -/
/-- a slot's state is told anew, the value as it is -/
theorem Rel.reset {K : PySem.W.Frag} {mg : Str → Option Value} {env : Env} {σ : St} {S H : Hp} (r : Rel K mg env σ S H) {i : Nat} {s' : Sl} (h : SlR K mg S H σ[i]? s') (hm : s'.mut = none) : Rel K mg (env.set i s') σ S H := by
  have nown : ∀ j q, OwnAt (env.set i s') σ j q → OwnAt env σ j q := fun j q ⟨⟨s, d, e, m⟩, hq⟩ => by
    refine ⟨⟨s, d, ?_, m⟩, hq⟩
    by_cases hj : i = j
    · subst hj
      rw [List.getElem?_set] at e
      simp only [if_true] at e
      split at e
      · cases e
        rw [hm] at m
        cases m
      · cases e
    · rw [List.getElem?_set_ne hj] at e
      exact e
  refine ⟨by rw [List.length_set]; exact r.len, r.sub, fun j s e => ?_, fun j k q h1 h2 => r.inj j k q (nown j q h1) (nown k q h2)⟩
  by_cases hj : i = j
  · subst hj
    rw [List.getElem?_set] at e
    simp only [if_true] at e
    split at e
    · cases e
      exact h
    · cases e
  · rw [List.getElem?_set_ne hj] at e
    exact r.sl j s e
theorem own_reset {env : Env} {σ : St} {i : Nat} {s' : Sl} (hm : s'.mut = none) {q : Addr} (h : Own (env.set i s') σ q) : Own env σ q := by
  obtain ⟨j, ⟨s, d, e, m⟩, hq⟩ := h
  refine ⟨j, ⟨s, d, ?_, m⟩, hq⟩
  by_cases hj : i = j
  · subst hj
    rw [List.getElem?_set] at e
    simp only [if_true] at e
    split at e
    · cases e
      rw [hm] at m
      cases m
    · cases e
  · rw [List.getElem?_set_ne hj] at e
    exact e
def mVar (i : Nat) : M D := fun env => match env[i]? with
  | some (.v d) => some (.ok d env)
  | some (.own d) => some (.ok d (env.set i (.v d)))
  | _ => none
def mPeek (i : Nat) : M Rs := fun env => match env[i]? with
  | some (.v d) => some (.ok (.v d) env)
  | some (.own _) => some (.ok (.bw i) env)
  | some (.io _) => some (.ok (.bw i) env)
  | _ => none
def mTake (i : Nat) : M Rs := fun env => match env[i]? with
  | some (.v d) => some (.ok (.v d) env)
  | some (.own d) => some (.ok (.fr d) (env.set i .no))
  | _ => none
theorem io_ne {env : Env} {i : Nat} {s s' : Sl} (h : env[i]? = some s) (hs : ∀ d, s ≠ .io d) (j : Nat) (d : D) (e : env[j]? = some (.io d)) : (env.set i s')[j]? = some (.io d) := by
  have hj : i ≠ j := fun z => by
    subst z
    rw [h] at e
    cases e
    exact hs d rfl
  rw [List.getElem?_set_ne hj]
  exact e
section
variable {i : Nat} {x : Str} {pos : Pos}
theorem sv_var (h : PE X (.Name x pos) (tVar i)) : SV X (.Name x pos) (mVar i) := fun W tk => pe_imp h fun σ H Q ⟨env, S, r, g⟩ => by
  unfold Go mVar at g
  cases hi : env[i]? with
  | none => simp only [hi] at g
  | some s =>
    cases s with
    | no => simp only [hi] at g
    | io d => simp only [hi] at g
    | v d =>
      simp only [hi] at g
      obtain ⟨v, e, rv⟩ := r.sl i _ hi
      exact ⟨v, e, g v S H (Step.refl r) rv⟩
    | own d =>
      simp only [hi] at g
      obtain ⟨a, ho, e, hS, hH, hr⟩ := r.sl i _ hi
      have ow : Own env σ a := ⟨i, ⟨_, d, hi, rfl⟩, e⟩
      have fz : Rp X.K X.mg (upd S a ho) (.ref a) d := (hr.mono (same_upd hS)).frozen upd_same
      -- the slot told as a value; then the object stays
      have sub' : Same (upd S a ho) H := fun b o eb => by
        by_cases hb : b = a
        · subst hb
          rw [upd_same] at eb
          rw [← eb]
          exact hH
        · rw [upd_ne hb] at eb
          exact r.sub b o eb
      have rel' : Rel X.K X.mg (env.set i (.v d)) σ (upd S a ho) H := by
        have nown : ∀ j q, OwnAt (env.set i (.v d)) σ j q → OwnAt env σ j q ∧ i ≠ j := fun j q ⟨⟨s, d', es, m⟩, hq⟩ => by
          by_cases hj : i = j
          · subst hj
            rw [List.getElem?_set] at es
            simp only [if_true] at es
            split at es
            · cases es
              cases m
            · cases es
          · rw [List.getElem?_set_ne hj] at es
            exact ⟨⟨⟨s, d', es, m⟩, hq⟩, hj⟩
        refine ⟨by rw [List.length_set]; exact r.len, sub', fun j s es => ?_, fun j k q h1 h2 => r.inj j k q (nown j q h1).1 (nown k q h2).1⟩
        by_cases hj : i = j
        · subst hj
          rw [List.getElem?_set] at es
          simp only [if_true] at es
          split at es
          · cases es
            exact ⟨_, e, fz⟩
          · cases es
        · rw [List.getElem?_set_ne hj] at es
          have q := r.sl j s es
          have nb : ∀ b, σ[j]? = some (some (.ref b)) → (∃ d', s.mut = some d') → b ≠ a := fun b hb ⟨d', hd⟩ z => by
            subst z
            exact hj (r.inj i j b ⟨⟨_, d, hi, rfl⟩, e⟩ ⟨⟨s, d', es, hd⟩, hb⟩)
          cases s with
          | no => trivial
          | v d' =>
            obtain ⟨v, h1, h2⟩ := q
            exact ⟨v, h1, h2.mono (same_upd hS)⟩
          | own d' =>
            obtain ⟨b, ho', h1, h2, h3, h4⟩ := q
            exact ⟨b, ho', h1, by rw [upd_ne (nb b h1 ⟨d', rfl⟩)]; exact h2, h3, h4.mono (same_upd hS)⟩
          | io d' =>
            obtain ⟨b, ho', h1, h2, h3, h4⟩ := q
            exact ⟨b, ho', h1, by rw [upd_ne (nb b h1 ⟨d', rfl⟩)]; exact h2, h3, h4.mono (same_upd hS)⟩
      refine ⟨_, e, g (.ref a) (upd S a ho) H ⟨rel', same_upd hS, fun q o eq _ => eq, fun q o eq => ?_, fun q hq => .inl (own_reset rfl hq), fun j d' ej => ⟨rfl, d', io_ne hi (fun _ z => by cases z) j d' ej⟩⟩ fz⟩
      by_cases hb : q = a
      · subst hb
        exact .inr (.inr ow)
      · rw [upd_ne hb] at eq
        exact .inl eq
theorem sr_peek (h : PE X (.Name x pos) (tVar i)) : SR X (.Name x pos) (mPeek i) := fun W tk => pe_imp h fun σ H Q ⟨env, S, r, g⟩ => by
  unfold Go mPeek at g
  cases hi : env[i]? with
  | none => simp only [hi] at g
  | some s =>
    cases s with
    | no => simp only [hi] at g
    | io d =>
      simp only [hi] at g
      obtain ⟨a, ho, e, _⟩ := r.sl i _ hi
      exact ⟨_, e, g _ S H (Step.refl r) e⟩
    | v d =>
      simp only [hi] at g
      obtain ⟨v, e, rv⟩ := r.sl i _ hi
      exact ⟨v, e, g v S H (Step.refl r) rv⟩
    | own d =>
      simp only [hi] at g
      obtain ⟨a, ho, e, _⟩ := r.sl i _ hi
      exact ⟨_, e, g _ S H (Step.refl r) e⟩
theorem sr_take (h : PE X (.Name x pos) (tVar i)) : SR X (.Name x pos) (mTake i) := fun W tk => pe_imp h fun σ H Q ⟨env, S, r, g⟩ => by
  unfold Go mTake at g
  cases hi : env[i]? with
  | none => simp only [hi] at g
  | some s =>
    cases s with
    | no => simp only [hi] at g
    | io d => simp only [hi] at g
    | v d =>
      simp only [hi] at g
      obtain ⟨v, e, rv⟩ := r.sl i _ hi
      exact ⟨v, e, g v S H (Step.refl r) rv⟩
    | own d =>
      simp only [hi] at g
      obtain ⟨a, ho, e, hS, hH, hr⟩ := r.sl i _ hi
      have ow : Own env σ a := ⟨i, ⟨_, d, hi, rfl⟩, e⟩
      have rel' : Rel X.K X.mg (env.set i .no) σ S H := r.reset (s' := .no) trivial rfl
      have nown : ¬ Own (env.set i .no) σ a := fun ⟨j, ⟨s, d', es, m⟩, hq⟩ => by
        by_cases hj : i = j
        · subst hj
          rw [List.getElem?_set] at es
          simp only [if_true] at es
          split at es
          · cases es
            cases m
          · cases es
        · rw [List.getElem?_set_ne hj] at es
          exact hj (r.inj i j a ⟨⟨_, d, hi, rfl⟩, e⟩ ⟨⟨s, d', es, m⟩, hq⟩)
      exact ⟨_, e, g (.ref a) S H ⟨rel', Same.refl S, fun q o eq _ => eq, fun q o eq => .inl eq, fun q hq => .inl (own_reset rfl hq), fun j d' ej => ⟨rfl, d', io_ne hi (fun _ z => by cases z) j d' ej⟩⟩ ⟨a, ho, rfl, hS, hH, hr, nown, .inr ow⟩⟩
end

/-! ### two operands, plain answers -/
def mOp (f : D → D → Option D) (ma mb : M D) : M D := ma.bind fun a => mb.bind fun b => M.of fun _ => f a b
/-- r says f -/
def Says (K : PySem.W.Frag) (mg : Str → Option Value) (r : R2) (f : D → D → Option D) : Prop :=
  ∀ {S H : Hp} {x y : V} {a b d : D} {Q : VK}, Same S H → Rp K mg S x a → Rp K mg S y b → f a b = some d → (∀ v, (∀ S', Rp K mg S' v d) → Q v H) → r x y H Q
theorem tm_op {W : WX} {r : R2} {f : D → D → Option D} {ma mb : M D} (hr : Says X.K X.mg r f) : ∀ σ H Q, tM X.K X.mg W (RD X.K X.mg) (mOp f ma mb) σ H Q → tOp r (tM X.K X.mg W (RD X.K X.mg) ma) (tM X.K X.mg W (RD X.K X.mg) mb) σ H Q := fun σ H Q ⟨env, S, rl, g⟩ =>
  g.part nmD rl fun x H1 env1 S1 a st ra g1 => g1.part nmD st.rel fun y H2 env2 S2 b st2 rb g2 => by
    obtain ⟨d, e, q⟩ := g2.of
    exact hr st2.rel.sub (Rp.mono st2.ext ra) rb e fun v hv => q v S2 H2 (Step.refl st2.rel) (hv S2)
theorem sv_bin {op : Operator} {r : R2} {f : D → D → Option D} {a b : Expr} {ma mb : M D} {pos : Pos} (ho : OpR X (binaryOp op) r) (hr : Says X.K X.mg r f) (ha : SV X a ma) (hb : SV X b mb) : SV X (.BinOp a op b pos) (mOp f ma mb) := fun W tk =>
  pe_imp (pe_op ho (ha W tk) (hb W tk)) (tm_op hr)
theorem sv_cmp {op : CmpOp} {r : R2} {f : D → D → Option D} {a b : Expr} {ma mb : M D} {pos : Pos} (ho : OpR X (compareOp op) r) (hr : Says X.K X.mg r f) (hm : behindInMarks op b = false) (ha : SV X a ma) (hb : SV X b mb) : SV X (.Compare a [op] [b] pos) (mOp f ma mb) := fun W tk =>
  pe_imp (pe_cmpR ho (ha W tk) (hb W tk) hm) (tm_op hr)
/-- a test whose value is a truth -/
def mTst (m : M D) : M Bool := m.bind fun d => M.of fun _ => match d with
  | .bl b => some b
  | _ => none
theorem tm_tst {W : WX} {m : M D} : ∀ σ H Q, tM X.K X.mg W RB (mTst m) σ H Q → tTest (tM X.K X.mg W (RD X.K X.mg) m) σ H Q := fun σ H Q ⟨env, S, rl, g⟩ =>
  g.part nmB rl fun x H1 env1 S1 a st ra g1 => by
    obtain ⟨d, e, q⟩ := g1.of
    cases a with
    | bl c =>
      cases e
      cases ra
      exact ⟨_, rfl, q _ S1 H1 (Step.refl st.rel) rfl⟩
    | _ => cases e
theorem st_v {e : Expr} {m : M D} (h : SV X e m) (he : ∀ whole, isTrue e X.env whole = (do let v ← whole; standAt e.pos; holding [v] (truthy v)) := by intro _; rfl) : ST X e (mTst m) := fun W tk => pt_imp (pt_val (h W tk) he) tm_tst
theorem st_cmp {op : CmpOp} {r : R2} {f : D → D → Option D} {a b : Expr} {ma mb : M D} {pos : Pos} (ho : OpR X (compareOp op) r) (hr : Says X.K X.mg r f) (hm : behindInMarks op b = false) (ha : SV X a ma) (hb : SV X b mb) : ST X (.Compare a [op] [b] pos) (mTst (mOp f ma mb)) := fun W tk =>
  pt_imp (pt_cmpR ho (ha W tk) (hb W tk) hm) fun σ H Q h => by
    have h1 := tm_tst σ H Q h
    exact tm_op hr σ H _ h1

/-! ints -/
def fI (C : Int → Int → Bool) (g : Int → Int → D) : D → D → Option D
  | .int i, .int j => if C i j then some (g i j) else none
  | _, _ => none
def fI0 (g : Int → Int → D) : D → D → Option D
  | .int i, .int j => some (g i j)
  | _, _ => none
section
variable {K : PySem.W.Frag} {mg : Str → Option Value}
theorem says_I0 {g : Int → Int → V} {g' : Int → Int → D} (h : ∀ i j S, Rp K mg S (g i j) (g' i j)) : Says K mg (rI0 g) (fI0 g') := by
  intro S H x y a b d Q _ ra rb e q
  cases a with
  | int i =>
    cases b with
    | int j =>
      cases e
      cases ra
      cases rb
      exact ⟨i, j, rfl, rfl, q _ fun S' => h i j S'⟩
    | _ => cases e
  | _ => cases e
theorem says_I {C : Int → Int → Prop} {C' : Int → Int → Bool} {g : Int → Int → V} {g' : Int → Int → D} (hC : ∀ i j, C' i j = true → C i j) (h : ∀ i j S, Rp K mg S (g i j) (g' i j)) : Says K mg (rI C g) (fI C' g') := by
  intro S H x y a b d Q _ ra rb e q
  cases a with
  | int i =>
    cases b with
    | int j =>
      have e' : (if C' i j = true then some (g' i j) else none) = some d := e
      split at e'
      · rename_i hc
        cases e'
        cases ra
        cases rb
        exact ⟨i, j, rfl, rfl, hC i j hc, q _ fun S' => h i j S'⟩
      · cases e'
    | _ => cases e
  | _ => cases e
end
def cMul (i j : Int) : Bool := decide (i.natAbs < 2 ^ 64) || decide (j.natAbs < 2 ^ 64)
def cDiv (_ j : Int) : Bool := decide (j ≠ 0) && decide (j.natAbs < 18446744073709551616)
def cMod (_ j : Int) : Bool := decide (j ≠ 0)
def cPow (i j : Int) : Bool := decide (0 ≤ j) && decide (j ≤ 1000000) && decide (i.natAbs < 2 ^ 64)
abbrev fAdd := fI0 fun i j => .int (i + j)
abbrev fSub := fI0 fun i j => .int (i - j)
abbrev fMul := fI cMul fun i j => .int (i * j)
abbrev fDiv := fI cDiv fun i j => .int (i.fdiv j)
abbrev fMod := fI cMod fun i j => .int (i.fmod j)
abbrev fPow := fI cPow fun i j => .int (i ^ j.toNat)
abbrev fLt := fI0 fun i j => .bl (decide (i < j))
abbrev fLe := fI0 fun i j => .bl (decide (i ≤ j))
abbrev fGt := fI0 fun i j => .bl (decide (j < i))
abbrev fGe := fI0 fun i j => .bl (decide (j ≤ i))
section
variable {a b : Expr} {ma mb : M D} {pos : Pos}
theorem sv_add (ha : SV X a ma) (hb : SV X b mb) : SV X (.BinOp a .Add b pos) (mOp fAdd ma mb) := sv_bin op_add (says_I0 fun _ _ _ => .int _) ha hb
theorem sv_sub (ha : SV X a ma) (hb : SV X b mb) : SV X (.BinOp a .Sub b pos) (mOp fSub ma mb) := sv_bin op_sub (says_I0 fun _ _ _ => .int _) ha hb
theorem sv_mul (ha : SV X a ma) (hb : SV X b mb) : SV X (.BinOp a .Mult b pos) (mOp fMul ma mb) := sv_bin op_mul (says_I (fun i j h => by
  unfold cMul at h
  simp only [Bool.or_eq_true, decide_eq_true_eq] at h
  rcases h with h | h
  · exact .inl ⟨by omega, by omega⟩
  · exact .inr ⟨by omega, by omega⟩) fun _ _ _ => .int _) ha hb
theorem op_fdiv64 : OpR X (binaryOp .FloorDiv) (rI (fun _ j => j ≠ 0 ∧ j.natAbs < 18446744073709551616) fun i j => .int (i.fdiv j)) := opI fun _ j _ _ _ _ _ hc q => PyProof.Rows.floordiv_int hc.1 q (.inl (PyProof.noPylong_of_log2 (Nat.lt_of_lt_of_le ((Nat.log2_lt (k := 64) (by have := hc.1; omega)).mpr hc.2) (by decide))))
theorem sv_div (ha : SV X a ma) (hb : SV X b mb) : SV X (.BinOp a .FloorDiv b pos) (mOp fDiv ma mb) := sv_bin op_fdiv64 (says_I (fun i j h => by
  unfold cDiv at h
  simp only [Bool.and_eq_true, decide_eq_true_eq] at h
  exact h) fun _ _ _ => .int _) ha hb
theorem sv_mod (ha : SV X a ma) (hb : SV X b mb) : SV X (.BinOp a .Mod b pos) (mOp fMod ma mb) := sv_bin op_modN (says_I (fun i j h => of_decide_eq_true h) fun _ _ _ => .int _) ha hb
theorem sv_pow (ha : SV X a ma) (hb : SV X b mb) : SV X (.BinOp a .Pow b pos) (mOp fPow ma mb) := sv_bin op_pow (says_I (fun i j h => by
  unfold cPow at h
  simp only [Bool.and_eq_true, decide_eq_true_eq] at h
  exact ⟨h.1.1, h.1.2, h.2⟩) fun _ _ _ => .int _) ha hb
theorem st_lt (ha : SV X a ma) (hb : SV X b mb) : ST X (.Compare a [.Lt] [b] pos) (mTst (mOp fLt ma mb)) := st_cmp op_lt (says_I0 fun _ _ _ => .bl _) (nomark _) ha hb
theorem st_le (ha : SV X a ma) (hb : SV X b mb) : ST X (.Compare a [.LtE] [b] pos) (mTst (mOp fLe ma mb)) := st_cmp op_le (says_I0 fun _ _ _ => .bl _) (nomark _) ha hb
theorem st_gt (ha : SV X a ma) (hb : SV X b mb) : ST X (.Compare a [.Gt] [b] pos) (mTst (mOp fGt ma mb)) := st_cmp op_gt (says_I0 fun _ _ _ => .bl _) (nomark _) ha hb
theorem st_ge (ha : SV X a ma) (hb : SV X b mb) : ST X (.Compare a [.GtE] [b] pos) (mTst (mOp fGe ma mb)) := st_cmp op_ge (says_I0 fun _ _ _ => .bl _) (nomark _) ha hb
theorem sv_lt (ha : SV X a ma) (hb : SV X b mb) : SV X (.Compare a [.Lt] [b] pos) (mOp fLt ma mb) := sv_cmp op_lt (says_I0 fun _ _ _ => .bl _) (nomark _) ha hb
theorem sv_le (ha : SV X a ma) (hb : SV X b mb) : SV X (.Compare a [.LtE] [b] pos) (mOp fLe ma mb) := sv_cmp op_le (says_I0 fun _ _ _ => .bl _) (nomark _) ha hb
theorem sv_gt (ha : SV X a ma) (hb : SV X b mb) : SV X (.Compare a [.Gt] [b] pos) (mOp fGt ma mb) := sv_cmp op_gt (says_I0 fun _ _ _ => .bl _) (nomark _) ha hb
theorem sv_ge (ha : SV X a ma) (hb : SV X b mb) : SV X (.Compare a [.GtE] [b] pos) (mOp fGe ma mb) := sv_cmp op_ge (says_I0 fun _ _ _ => .bl _) (nomark _) ha hb
end

/-! ### truth: and, or, not -/
def mAnd (m n : M Bool) : M Bool := m.bind fun b => if b then n else M.ret false
def mOr (m n : M Bool) : M Bool := m.bind fun b => if b then M.ret true else n
def mNot (m : M Bool) : M Bool := m.bind fun b => M.ret !b
section
variable {a b : Expr} {rest : List Expr} {m n : M Bool} {pos : Pos}
theorem sw_and1 (h : ST X a m) : SW X (.BoolOp .And [a] pos) m := fun W tk => pw_and1 (h W tk)
theorem sw_or1 (h : ST X a m) : SW X (.BoolOp .Or [a] pos) m := fun W tk => pw_or1 (h W tk)
theorem sw_and (h1 : ST X a m) (h2 : SW X (.BoolOp .And (b :: rest) pos) n) : SW X (.BoolOp .And (a :: b :: rest) pos) (mAnd m n) := fun W tk => pw_imp (pw_and (h1 W tk) (h2 W tk)) fun σ H Q ⟨env, S, r, g⟩ =>
  g.part nmB r fun x H1 env1 S1 c st ra g1 => by
    have e : x = c := ra
    subst e
    cases x with
    | true => exact ⟨env1, S1, st.rel, g1⟩
    | false => exact g1.ret (R := RB) st.rel rfl
theorem sw_or (h1 : ST X a m) (h2 : SW X (.BoolOp .Or (b :: rest) pos) n) : SW X (.BoolOp .Or (a :: b :: rest) pos) (mOr m n) := fun W tk => pw_imp (pw_or (h1 W tk) (h2 W tk)) fun σ H Q ⟨env, S, r, g⟩ =>
  g.part nmB r fun x H1 env1 S1 c st ra g1 => by
    have e : x = c := ra
    subst e
    cases x with
    | false => exact ⟨env1, S1, st.rel, g1⟩
    | true => exact g1.ret (R := RB) st.rel rfl
theorem st_w {e : Expr} (h : SW X e m) : ST X e m := fun W tk => (h W tk).pt
theorem st_not (h : ST X a m) : ST X (.UnaryOp .Not a pos) (mNot m) := fun W tk => pt_imp (pt_not (h W tk)) fun σ H Q ⟨env, S, r, g⟩ =>
  g.part nmB r fun x H1 env1 S1 c st ra g1 => by
    have e : x = c := ra
    subst e
    exact g1.ret (R := RB) st.rel rfl
/-- as values -/
def mAndV (m n : M D) : M D := m.bind fun d => match d with
  | .bl true => n
  | .bl false => M.ret (.bl false)
  | _ => M.no
def mOrV (m n : M D) : M D := m.bind fun d => match d with
  | .bl false => n
  | .bl true => M.ret (.bl true)
  | _ => M.no
def mNotV (m : M D) : M D := m.bind fun d => match d with
  | .bl b => M.ret (.bl !b)
  | _ => M.no
variable {u v : M D}
theorem sv_one {op} (h : SV X a u) : SV X (.BoolOp op [a] pos) u := fun W tk => pe_one (h W tk)
theorem sv_andV (h1 : SV X a u) (h2 : SV X (.BoolOp .And (b :: rest) pos) v) : SV X (.BoolOp .And (a :: b :: rest) pos) (mAndV u v) := fun W tk => pe_imp (pe_and (h1 W tk) (h2 W tk)) fun σ H Q ⟨env, S, r, g⟩ =>
  g.part nmD r fun x H1 env1 S1 c st ra g1 => by
    cases c with
    | bl c =>
      cases ra
      refine ⟨c, rfl, ?_⟩
      cases c with
      | true => exact ⟨env1, S1, st.rel, g1⟩
      | false => exact g1.ret (R := RD X.K X.mg) st.rel (.bl _)
    | _ => exact False.elim g1
theorem sv_orV (h1 : SV X a u) (h2 : SV X (.BoolOp .Or (b :: rest) pos) v) : SV X (.BoolOp .Or (a :: b :: rest) pos) (mOrV u v) := fun W tk => pe_imp (pe_or (h1 W tk) (h2 W tk)) fun σ H Q ⟨env, S, r, g⟩ =>
  g.part nmD r fun x H1 env1 S1 c st ra g1 => by
    cases c with
    | bl c =>
      cases ra
      refine ⟨c, rfl, ?_⟩
      cases c with
      | false => exact ⟨env1, S1, st.rel, g1⟩
      | true => exact g1.ret (R := RD X.K X.mg) st.rel (.bl _)
    | _ => exact False.elim g1
theorem sv_notV (h1 : SV X a u) : SV X (.UnaryOp .Not a pos) (mNotV u) := fun W tk => pe_imp (pe_not (h1 W tk)) fun σ H Q ⟨env, S, r, g⟩ =>
  g.part nmD r fun x H1 env1 S1 c st ra g1 => by
    cases c with
    | bl c =>
      cases ra
      exact ⟨c, rfl, g1.ret (R := RD X.K X.mg) st.rel (.bl _)⟩
    | _ => exact False.elim g1
end
/-- a if t else b -/
def mIf {α : Type} (t : M Bool) (a b : M α) : M α := t.bind fun c => if c then a else b
theorem sv_if {c a b : Expr} {t : M Bool} {m n : M D} {pos : Pos} (hc : ST X c t) (ha : SV X a m) (hb : SV X b n) : SV X (.IfExp c a b pos) (mIf t m n) := fun W tk => pe_imp (pe_ifExp (hc W tk) (ha W tk) (hb W tk)) fun σ H Q ⟨env, S, r, g⟩ =>
  g.part nmD r fun x H1 env1 S1 c st ra g1 => by
    have e : x = c := ra
    subst e
    cases x with
    | true => exact ⟨env1, S1, st.rel, g1⟩
    | false => exact ⟨env1, S1, st.rel, g1⟩

/-! ### argument lists, displays -/
def mNil : M (List D) := M.ret []
def mCons (m : M D) (n : M (List D)) : M (List D) := m.bind fun d => n.bind fun ds => M.ret (d :: ds)
theorem sa_nil : SA X [] mNil := fun W tk => pa_imp pa_nil fun σ H Q ⟨env, S, r, g⟩ => g.ret (R := RA X.K X.mg) r .nil
theorem sa_cons {e : Expr} {es : List Expr} {m : M D} {n : M (List D)} (h : SV X e m) (hr : SA X es n) (hs : starEach (e :: es) X.env = (false, eval e X.env) :: starEach es X.env := by rfl) : SA X (e :: es) (mCons m n) := fun W tk => pa_imp (pa_cons (h W tk) (hr W tk) hs) fun σ H Q ⟨env, S, r, g⟩ =>
  g.part nmA r fun x H1 env1 S1 a st ra g1 => g1.part nmA st.rel fun xs H2 env2 S2 ds st2 rb g2 => g2.ret (R := RA X.K X.mg) st2.rel (.cons (Rp.mono st2.ext ra) rb)
def szOk (n : Nat) : Bool := decide (n ≤ 1000000)
theorem szOk_of {n : Nat} (h : szOk n = true) : n ≤ sizeLine := Nat.le_trans (of_decide_eq_true h) (by decide)
def mTup (m : M (List D)) : M D := m.bind fun ds => M.of fun _ => if szOk ds.length then some (.tup ds) else none
def mLst (m : M (List D)) : M Rs := m.bind fun ds => M.of fun _ => if szOk ds.length then some (.fr (.lst ds)) else none
/-- a new object that stays -/
theorem new_stay {env : Env} {σ : St} {S H : Hp} (r : Rel X.K X.mg env σ S H) {p : Addr} {u : HO} (hp : H p = none) : Step X.K X.mg env σ S H env σ (upd S p u) (upd H p u) := r.laid hp true
theorem new_apart {env : Env} {σ : St} {S H : Hp} (r : Rel X.K X.mg env σ S H) {p : Addr} {u : HO} {d : D} (hp : H p = none) (h : HoR X.K X.mg S u d) : Step X.K X.mg env σ S H env σ S (upd H p u) ∧ RsR X.K X.mg (Mine env σ H) env σ S (upd H p u) (.ref p) (.fr d) :=
  ⟨r.laid hp false, p, u, rfl, r.sub.free hp, upd_same, h, (fun z => by
    obtain ⟨_, ho, e⟩ := r.own z
    rw [hp] at e
    cases e), .inl hp⟩
theorem sv_tup {es : List Expr} {m : M (List D)} {x1} {pos : Pos} (h : SA X es m) : SV X (.Tuple es x1 pos) (mTup m) := fun W tk => pe_imp (pe_tup (h W tk)) fun σ H Q ⟨env, S, r, g⟩ =>
  g.part nmD r fun vs H1 env1 S1 ds st ra g1 => by
    obtain ⟨d, e, q⟩ := g1.of
    have hs : vs.length = ds.length := RpA.len ra
    split at e
    · rename_i hz
      cases e
      refine ⟨by rw [hs]; exact szOk_of hz, fun p hp => q _ _ _ (new_stay st.rel hp) ?_⟩
      exact .tup (.of upd_same) (RpA.mono (same_upd (st.rel.sub.free hp)) ra)
    · cases e
theorem sr_lst {es : List Expr} {m : M (List D)} {pos : Pos} (h : SA X es m) : SR X (.List es pos) (mLst m) := fun W tk => pe_imp (pe_lst (h W tk)) fun σ H Q ⟨env, S, r, g⟩ =>
  g.part nmR r fun vs H1 env1 S1 ds st ra g1 => by
    obtain ⟨d, e, q⟩ := g1.of
    have hs : vs.length = ds.length := RpA.len ra
    split at e
    · rename_i hz
      cases e
      refine ⟨by rw [hs]; exact szOk_of hz, fun p hp => ?_⟩
      obtain ⟨s1, s2⟩ := new_apart st.rel (u := .lst vs) (d := .lst ds) hp (.lst ra)
      exact q _ _ _ s1 s2
    · cases e
end Z
end

section
set_option Elab.async false
set_option linter.all false
set_option maxRecDepth 100000
set_option autoImplicit false
/-! More rules of expressions: ==, is, in, isinstance, built-ins, subscripts, slices. -/
namespace Z
open PySem
open L2 hiding XE Takes CX passes_call takes_of passAt PMk MkP ps_raise mk_of ps_try_as ps_try_many pmk_own XE.of_call XE.new XE.leave Takes.imp Sky.land
open L2N (Takes CX takes_of passAt PMk MkP ps_raise)
variable {X : Cx}

/-! ### data as the library's data -/
mutual
def D.py : D → PyData
  | .non => .none
  | .bl b => .bool b
  | .int i => .int i
  | .str x => .str x
  | .lst xs => .list (D.pyA xs)
  | .tup xs => .tuple (D.pyA xs)
  | .dct _ _ => .none
  | .ins _ _ _ => .none
  | .exc _ _ _ => .none
  | .scr _ => .none
def D.pyA : List D → List PyData
  | [] => []
  | d :: ds => d.py :: D.pyA ds
end
mutual
def D.pure : D → Bool
  | .non => true
  | .bl _ => true
  | .int _ => true
  | .str _ => true
  | .lst xs => D.pureA xs
  | .tup xs => D.pureA xs
  | .dct _ _ => false
  | .ins _ _ _ => false
  | .exc _ _ _ => false
  | .scr _ => false
def D.pureA : List D → Bool
  | [] => true
  | d :: ds => d.pure && D.pureA ds
end
section
variable {K : PySem.W.Frag} {mg : Str → Option Value}
mutual
theorem Rp.dp {S : Hp} : ∀ {d : D} {v : V}, Rp K mg S v d → d.pure = true → Dp K S v d.py
  | .non, _, h, _ => by cases h; exact .non
  | .bl _, _, h, _ => by cases h; exact .bl _
  | .int _, _, h, _ => by cases h; exact .int _
  | .str _, _, h, _ => by cases h; exact .str _
  | .lst ds, _, h, p => by cases h with | lst a b => exact .lst (.of a) (RpA.dp b p)
  | .tup ds, _, h, p => by cases h with | tup a b => exact .tup a (RpA.dp b p)
  | .dct _ _, _, _, p => by cases p
  | .ins _ _ _, _, _, p => by cases p
  | .exc _ _ _, _, _, p => by cases p
  | .scr _, _, _, p => by cases p
theorem RpA.dp {S : Hp} : ∀ {ds : List D} {vs : List V}, RpA K mg S vs ds → D.pureA ds = true → DpAll K S vs (D.pyA ds)
  | [], _, h, _ => by cases h; exact .nil
  | d :: ds, _, h, p => by
    cases h with
    | cons a b =>
      have p' : (d.pure && D.pureA ds) = true := p
      rw [Bool.and_eq_true] at p'
      exact .cons (Rp.dp a p'.1) (RpA.dp b p'.2)
end
theorem Tp.dp {S H : Hp} {d : D} {v : V} (sub : Same S H) (h : Tp K mg S H v d) (p : d.pure = true) : Dp K H v d.py := by
  rcases h with h | ⟨a, ho, rfl, h2, h3⟩
  · exact Rp.dp (h.mono sub) p
  · cases h3 with
    | lst r => exact .lst (.of h2) (RpA.dp (r.mono sub) p)
    | dct _ _ _ => cases p
    | ins _ _ _ _ => cases p
end
def gd (d : D) : Bool := d.pure && SeqAt.shaped d.py
def fEq (a b : D) : Option D := if gd a && gd b then some (.bl (PyData.eqv a.py b.py)) else none
def fNe (a b : D) : Option D := if gd a && gd b then some (.bl (!PyData.eqv a.py b.py)) else none
theorem gd_two {a b : D} {o : D} {z : D} (h : (if gd a && gd b then some z else none) = some o) : (a.pure = true ∧ SeqAt.shaped a.py = true) ∧ (b.pure = true ∧ SeqAt.shaped b.py = true) ∧ z = o := by
  split at h
  · rename_i q
    unfold gd at q
    simp only [Bool.and_eq_true] at q
    exact ⟨q.1, q.2, Option.some.inj h⟩
  · cases h

/-! ### two things to be read -/
def mRd2 (f : D → D → Option D) (ma mb : M Rs) : M D := ma.bind fun a => mb.bind fun b => M.of fun env => (a.get env).bind fun x => (b.get env).bind fun y => f x y
def Says2 (K : PySem.W.Frag) (mg : Str → Option Value) (r : R2) (f : D → D → Option D) : Prop :=
  ∀ {S H : Hp} {x y : V} {a b d : D} {Q : VK}, Same S H → Tp K mg S H x a → Tp K mg S H y b → f a b = some d → (∀ v, (∀ S', Same S S' → Rp K mg S' v d) → Q v H) → r x y H Q
theorem tm_rd2 {W : WX} {r : R2} {f : D → D → Option D} {ma mb : M Rs} (hr : Says2 X.K X.mg r f) : ∀ σ H Q, tM X.K X.mg W (RD X.K X.mg) (mRd2 f ma mb) σ H Q → tOp r (tM X.K X.mg W (RR X.K X.mg) ma) (tM X.K X.mg W (RR X.K X.mg) mb) σ H Q := fun σ H Q ⟨env, S, rl, g⟩ =>
  g.part nmD rl fun x H1 env1 S1 a st ra g1 => g1.part nmD st.rel fun y H2 env2 S2 b st2 rb g2 => by
    obtain ⟨d, e, q⟩ := g2.of
    cases ea : a.get env2 with
    | none => simp [ea] at e
    | some a' =>
      cases eb : b.get env2 with
      | none => simp [ea, eb] at e
      | some b' =>
        simp only [ea, eb, Option.bind_some] at e
        exact hr st2.rel.sub (RsR.tp st2.rel (RsR.mono st2 ra) ea) (RsR.tp st2.rel rb eb) e fun v hv => q v S2 H2 (Step.refl st2.rel) (hv S2 (Same.refl S2))
section
variable {op : CmpOp} {r : R2} {f : D → D → Option D} {a b : Expr} {ma mb : M Rs} {pos : Pos}
theorem sv_cmp2 (ho : OpR X (compareOp op) r) (hr : Says2 X.K X.mg r f) (hm : behindInMarks op b = false) (ha : SR X a ma) (hb : SR X b mb) : SV X (.Compare a [op] [b] pos) (mRd2 f ma mb) := fun W tk => pe_imp (pe_cmpR ho (ha W tk) (hb W tk) hm) (tm_rd2 hr)
theorem st_cmp2 (ho : OpR X (compareOp op) r) (hr : Says2 X.K X.mg r f) (hm : behindInMarks op b = false) (ha : SR X a ma) (hb : SR X b mb) : ST X (.Compare a [op] [b] pos) (mTst (mRd2 f ma mb)) := fun W tk => pt_imp (pt_cmpR ho (ha W tk) (hb W tk) hm) fun σ H Q h => tm_rd2 hr σ H _ (tm_tst σ H Q h)
theorem says_eq {K : PySem.W.Frag} {mg : Str → Option Value} : Says2 K mg (rEqD K) fEq := by
  intro S H x y a b d Q sub ha hb e q
  obtain ⟨⟨p1, p2⟩, ⟨p3, p4⟩, rfl⟩ := gd_two e
  exact ⟨_, _, ha.dp sub p1, hb.dp sub p3, p2, p4, q _ fun _ _ => .bl _⟩
theorem says_ne {K : PySem.W.Frag} {mg : Str → Option Value} : Says2 K mg (rNeD K) fNe := by
  intro S H x y a b d Q sub ha hb e q
  obtain ⟨⟨p1, p2⟩, ⟨p3, p4⟩, rfl⟩ := gd_two e
  exact ⟨_, _, ha.dp sub p1, hb.dp sub p3, p2, p4, q _ fun _ _ => .bl _⟩
variable (hu : X.A.units + 64 < cLine)
include hu
theorem sv_eq (ha : SR X a ma) (hb : SR X b mb) : SV X (.Compare a [.Eq] [b] pos) (mRd2 fEq ma mb) := sv_cmp2 (op_eqD hu) says_eq (nomark _) ha hb
theorem sv_ne (ha : SR X a ma) (hb : SR X b mb) : SV X (.Compare a [.NotEq] [b] pos) (mRd2 fNe ma mb) := sv_cmp2 (op_neD hu) says_ne (nomark _) ha hb
theorem st_eq (ha : SR X a ma) (hb : SR X b mb) : ST X (.Compare a [.Eq] [b] pos) (mTst (mRd2 fEq ma mb)) := st_cmp2 (op_eqD hu) says_eq (nomark _) ha hb
theorem st_ne (ha : SR X a ma) (hb : SR X b mb) : ST X (.Compare a [.NotEq] [b] pos) (mTst (mRd2 fNe ma mb)) := st_cmp2 (op_neD hu) says_ne (nomark _) ha hb
end

/-! ### is None, is True, in -/
def fIsN : D → D → Option D
  | .non, .non => some (.bl true)
  | _, .non => some (.bl false)
  | _, _ => none
def fNotN : D → D → Option D
  | .non, .non => some (.bl false)
  | _, .non => some (.bl true)
  | _, _ => none
def fIsB : D → D → Option D
  | .bl a, .bl b => some (.bl (decide (a = b)))
  | _, _ => none
def fNotB : D → D → Option D
  | .bl a, .bl b => some (.bl (!decide (a = b)))
  | _, _ => none
section
variable {K : PySem.W.Frag} {mg : Str → Option Value}
theorem Tp.non_iff {S H : Hp} {v : V} {d : D} (h : Tp K mg S H v d) : decide (v = .non) = (match d with | .non => true | _ => false) := by
  rcases h with h | ⟨a, ho, rfl, h2, h3⟩
  · cases h <;> simp
  · cases h3 <;> simp
theorem says_isN : Says2 K mg (fun x y H Q => y = .non ∧ Q (.bl (decide (x = .non))) H) fIsN := by
  intro S H x y a b d Q sub ha hb e q
  have hy : b = .non → y = .non := fun z => by
    have := hb.non_iff
    subst z
    exact of_decide_eq_true this
  have hx := ha.non_iff
  cases b <;> first | (cases a <;> cases e; done) | skip
  refine ⟨hy rfl, ?_⟩
  rw [hx]
  cases a <;> (cases e; exact q _ fun _ _ => .bl _)
theorem says_notN : Says2 K mg (fun x y H Q => y = .non ∧ Q (.bl (!decide (x = .non))) H) fNotN := by
  intro S H x y a b d Q sub ha hb e q
  have hy : b = .non → y = .non := fun z => by
    have := hb.non_iff
    subst z
    exact of_decide_eq_true this
  have hx := ha.non_iff
  cases b <;> first | (cases a <;> cases e; done) | skip
  refine ⟨hy rfl, ?_⟩
  rw [hx]
  cases a <;> (cases e; exact q _ fun _ _ => .bl _)
theorem says_isB : Says K mg (fun x y H Q => ∃ a b, x = .bl a ∧ y = .bl b ∧ Q (.bl (decide (a = b))) H) fIsB := by
  intro S H x y a b d Q sub ha hb e q
  cases a <;> cases b <;> cases e
  cases ha
  cases hb
  exact ⟨_, _, rfl, rfl, q _ fun _ => .bl _⟩
theorem says_notB : Says K mg (fun x y H Q => ∃ a b, x = .bl a ∧ y = .bl b ∧ Q (.bl (!decide (a = b))) H) fNotB := by
  intro S H x y a b d Q sub ha hb e q
  cases a <;> cases b <;> cases e
  cases ha
  cases hb
  exact ⟨_, _, rfl, rfl, q _ fun _ => .bl _⟩
/-- flat things -/
def D.flat : D → Bool
  | .non => true
  | .bl _ => true
  | .int _ => true
  | .str _ => true
  | _ => false
def D.v : D → V
  | .bl b => .bl b
  | .int i => .int i
  | .str x => .str x
  | _ => .non
theorem Rp.flat {S : Hp} {v : V} {d : D} (h : Rp K mg S v d) (f : d.flat = true) : v = d.v := by
  cases h <;> first | rfl | cases f
theorem RpA.flat {S : Hp} : ∀ {ds : List D} {vs : List V}, RpA K mg S vs ds → ds.all D.flat = true → vs = ds.map D.v
  | [], _, h, _ => by cases h; rfl
  | d :: ds, _, h, p => by
    cases h with
    | cons a b =>
      rw [List.all_cons, Bool.and_eq_true] at p
      rw [a.flat p.1, b.flat p.2]
      rfl
def inB (neg : Bool) (x : D) (ds : List D) : Option D := if x.flat && ds.all D.flat && flatV x.v && (ds.map D.v).all flatV then some (.bl (if neg then !inV x.v (ds.map D.v) else inV x.v (ds.map D.v))) else none
def fIn (neg : Bool) (x : D) : D → Option D
  | .lst ds => inB neg x ds
  | .tup ds => inB neg x ds
  | _ => none
theorem says_in {neg : Bool} : Says2 K mg (rIn K neg) (fIn neg) := by
  intro S H x y a b d Q sub ha hb e q
  have go : ∀ {p vs ds}, y = .ref p → (SqL K H p vs ∨ SqT K H p vs) → RpA K mg S vs ds → inB neg a ds = some d → rIn K neg x y H Q := fun {p vs ds} ey hs hr e => by
    unfold inB at e
    split at e
    · rename_i hc
      simp only [Bool.and_eq_true] at hc
      obtain ⟨⟨⟨h1, h2⟩, h3⟩, h4⟩ := hc
      have ev := hr.flat h2
      have ex : x = a.v := by
        rcases ha with ha | ⟨p, ho, rfl, h5, h6⟩
        · exact ha.flat h1
        · cases h6 <;> cases h1
      subst ev
      subst ex
      cases e
      exact ⟨p, _, ey, hs, h3, h4, q _ fun _ _ => .bl _⟩
    · cases e
  cases b with
  | lst ds =>
    obtain ⟨p, vs, e1, e2, e3⟩ := hb.lst sub
    exact go e1 (.inl (.of e2)) e3 e
  | tup ds =>
    obtain ⟨p, vs, e1, e2, e3⟩ := hb.tup sub
    exact go e1 (.inr e2) e3 e
  | _ => cases e
end
section
variable {a b : Expr} {ma mb : M Rs} {na nb : M D} {pos : Pos}
theorem sv_isN (ha : SR X a ma) (hb : SR X b mb) : SV X (.Compare a [.Is] [b] pos) (mRd2 fIsN ma mb) := sv_cmp2 op_isN says_isN (nomark _) ha hb
theorem sv_notN (ha : SR X a ma) (hb : SR X b mb) : SV X (.Compare a [.IsNot] [b] pos) (mRd2 fNotN ma mb) := sv_cmp2 op_notN says_notN (nomark _) ha hb
theorem st_isN (ha : SR X a ma) (hb : SR X b mb) : ST X (.Compare a [.Is] [b] pos) (mTst (mRd2 fIsN ma mb)) := st_cmp2 op_isN says_isN (nomark _) ha hb
theorem st_notN (ha : SR X a ma) (hb : SR X b mb) : ST X (.Compare a [.IsNot] [b] pos) (mTst (mRd2 fNotN ma mb)) := st_cmp2 op_notN says_notN (nomark _) ha hb
theorem st_isB (ha : SV X a na) (hb : SV X b nb) : ST X (.Compare a [.Is] [b] pos) (mTst (mOp fIsB na nb)) := st_cmp op_is_bl says_isB (nomark _) ha hb
theorem st_notB (ha : SV X a na) (hb : SV X b nb) : ST X (.Compare a [.IsNot] [b] pos) (mTst (mOp fNotB na nb)) := st_cmp op_isnot_bl says_notB (nomark _) ha hb
theorem sv_in (ha : SR X a ma) (hb : SR X b mb) (hm : behindInMarks .In b = false) : SV X (.Compare a [.In] [b] pos) (mRd2 (fIn false) ma mb) := sv_cmp2 op_in_seq says_in hm ha hb
theorem sv_notIn (ha : SR X a ma) (hb : SR X b mb) (hm : behindInMarks .NotIn b = false) : SV X (.Compare a [.NotIn] [b] pos) (mRd2 (fIn true) ma mb) := sv_cmp2 op_notIn_seq says_in hm ha hb
theorem st_in (ha : SR X a ma) (hb : SR X b mb) (hm : behindInMarks .In b = false) : ST X (.Compare a [.In] [b] pos) (mTst (mRd2 (fIn false) ma mb)) := st_cmp2 op_in_seq says_in hm ha hb
theorem st_notIn (ha : SR X a ma) (hb : SR X b mb) (hm : behindInMarks .NotIn b = false) : ST X (.Compare a [.NotIn] [b] pos) (mTst (mRd2 (fIn true) ma mb)) := st_cmp2 op_notIn_seq says_in hm ha hb
end

/-! ### one thing to be read -/
def mG (f : D → Option D) (m : M Rs) : M D := m.bind fun r => M.of fun env => (r.get env).bind f
def mU (f : D → Option D) (m : M D) : M D := m.bind fun a => M.of fun _ => f a
def mN (f : D → Option D) (m : M Rs) : M Rs := m.bind fun r => M.of fun env => (r.get env).bind fun d => (f d).bind fun o => some (.fr o)
theorem Go.get {α : Type} {β : Type} {W : WX} {R : RL β α} {f : D → Option α} {r : Rs} {env : Env} {σ : St} {S H : Hp} {Q : β → Hp → Prop} {v : V} {N : Addr → Prop} (rel : Rel X.K X.mg env σ S H) (ra : RsR X.K X.mg N env σ S H v r)
    (g : Go X.K X.mg W R (M.of fun env => (r.get env).bind f) env σ S H Q) : ∃ d o, Tp X.K X.mg S H v d ∧ f d = some o ∧ ∀ w S' H', Step X.K X.mg env σ S H env σ S' H' → R (Mine env σ H) env σ S' H' w o → Q w H' := by
  obtain ⟨o, e, q⟩ := g.of
  cases er : r.get env with
  | none => simp [er] at e
  | some d =>
    simp only [er, Option.bind_some] at e
    exact ⟨d, o, RsR.tp rel ra er, e, q⟩
section
variable {W : WX} {rd : List V → Hp → VK → Prop} {f : D → Option D}
/-- a call of a built-in with one argument, whose answer makes nothing -/
theorem tm_g {m : M Rs} (hr : ∀ {S H : Hp} {x : V} {a d : D} {Q : VK}, Same S H → Tp X.K X.mg S H x a → f a = some d → (∀ v, (∀ S', Same S S' → Rp X.K X.mg S' v d) → Q v H) → rd [x] H Q) : ∀ σ H Q, tM X.K X.mg W (RD X.K X.mg) (mG f m) σ H Q → tCB rd (tCons (tM X.K X.mg W (RR X.K X.mg) m) tNil) σ H Q := fun σ H Q ⟨env, S, rl, g⟩ =>
  g.part nmD rl fun x H1 env1 S1 a st ra g1 => by
    obtain ⟨d, o, t, e, q⟩ := g1.get st.rel ra
    exact hr st.rel.sub t e fun v hv => q v S1 H1 (Step.refl st.rel) (hv S1 (Same.refl S1))
theorem tm_u {m : M D} (hr : ∀ {S H : Hp} {x : V} {a d : D} {Q : VK}, Rp X.K X.mg S x a → f a = some d → (∀ v, (∀ S', Rp X.K X.mg S' v d) → Q v H) → rd [x] H Q) : ∀ σ H Q, tM X.K X.mg W (RD X.K X.mg) (mU f m) σ H Q → tCB rd (tCons (tM X.K X.mg W (RD X.K X.mg) m) tNil) σ H Q := fun σ H Q ⟨env, S, rl, g⟩ =>
  g.part nmD rl fun x H1 env1 S1 a st ra g1 => by
    obtain ⟨d, e, q⟩ := g1.of
    exact hr ra e fun v hv => q v S1 H1 (Step.refl st.rel) (hv S1)
/-- .. whose answer is new -/
theorem tm_n {m : M Rs} (hr : ∀ {S H : Hp} {x : V} {a d : D} {Q : VK}, Same S H → Tp X.K X.mg S H x a → f a = some d → (∀ p u, H p = none → HoR X.K X.mg S u d → Q (.ref p) (upd H p u)) → rd [x] H Q) : ∀ σ H Q, tM X.K X.mg W (RR X.K X.mg) (mN f m) σ H Q → tCB rd (tCons (tM X.K X.mg W (RR X.K X.mg) m) tNil) σ H Q := fun σ H Q ⟨env, S, rl, g⟩ =>
  g.part nmR rl fun x H1 env1 S1 a st ra g1 => by
    obtain ⟨d, o, t, e, q⟩ := g1.get st.rel ra
    cases ef : f d with
    | none => simp [ef] at e
    | some d' =>
      simp only [ef, Option.bind_some] at e
      cases e
      exact hr st.rel.sub t ef fun p u hp hu => by
        obtain ⟨s1, s2⟩ := new_apart st.rel hp hu
        exact q _ _ _ s1 s2
end
section
variable {x : Str} {a : Expr} {p pos : Pos} {m : M Rs} {n : M D}
theorem sv_neg (h : SV X a n) : SV X (.UnaryOp .USub a pos) (mU (fun d => match d with | .int i => some (.int (-i)) | _ => none) n) := fun W tk => pe_imp (pe_un un_neg (h W tk)) fun σ H Q ⟨env, S, rl, g⟩ =>
  g.part nmD rl fun x H1 env1 S1 a st ra g1 => by
    obtain ⟨d, e, q⟩ := g1.of
    cases a <;> cases e
    cases ra
    exact ⟨_, rfl, q _ S1 H1 (Step.refl st.rel) (.int _)⟩
/-- len -/
def fLen : D → Option D
  | .lst xs => some (.int (xs.length : Nat))
  | .tup xs => some (.int (xs.length : Nat))
  | .str s => if szOk s.length then some (.int (s.length : Nat)) else none
  | _ => none
theorem sv_len (ha : SR X a m) (hm : X.mg "len" = none) (hg : Gl X "len" := by rfl) (he : starEach [a] X.env = (false, eval a X.env) :: starEach [] X.env := by rfl) : SV X (.Call (.Name "len" p) [a] [] pos) (mG fLen m) := fun W tk =>
  pe_imp (pe_callB call_len hg hm PySem.boot_len (pa_cons (ha W tk) pa_nil he) (by decide) (by decide) he) (tm_g fun {S H x a d Q} sub t e q => by
    cases a with
    | lst ds =>
      obtain ⟨p, vs, rfl, h2, h3⟩ := t.lst sub
      cases e
      refine ⟨_, _, rfl, .inl ⟨vs, .of h2, rfl⟩, ?_⟩
      rw [h3.len]
      exact q _ fun _ _ => .int _
    | tup ds =>
      obtain ⟨p, vs, rfl, h2, h3⟩ := t.tup sub
      cases e
      refine ⟨_, _, rfl, .inr ⟨vs, h2, rfl⟩, ?_⟩
      rw [h3.len]
      exact q _ fun _ _ => .int _
    | str s =>
      have e' : (if szOk s.length = true then some (D.int (s.length : Nat)) else none) = some d := e
      split at e'
      · rename_i hz
        cases e'
        rcases t with t | ⟨_, _, _, _, t⟩
        · cases t
          exact ⟨_, _, rfl, ⟨szOk_of hz, rfl⟩, q _ fun _ _ => .int _⟩
        · cases t
      · cases e'
    | _ => cases e)
def fAbs : D → Option D
  | .int i => some (.int (if i < 0 then -i else i))
  | _ => none
theorem sv_abs (ha : SV X a n) (hm : X.mg "abs" = none) (hg : Gl X "abs" := by rfl) (he : starEach [a] X.env = (false, eval a X.env) :: starEach [] X.env := by rfl) : SV X (.Call (.Name "abs" p) [a] [] pos) (mU fAbs n) := fun W tk =>
  pe_imp (pe_callB call_abs hg hm (by decide +kernel) (pa_cons (ha W tk) pa_nil he) (by decide) (by decide) he) (tm_u fun {S H x a d Q} ra e q => by
    cases a <;> cases e
    cases ra
    exact ⟨_, rfl, q _ fun _ => .int _⟩)
def fInt : D → Option D
  | .int i => some (.int i)
  | .bl b => some (.int (if b then 1 else 0))
  | _ => none
theorem sv_toInt (ha : SV X a n) (hm : X.mg "int" = none) (hg : Gl X "int" := by rfl) (he : starEach [a] X.env = (false, eval a X.env) :: starEach [] X.env := by rfl) : SV X (.Call (.Name "int" p) [a] [] pos) (mU fInt n) := fun W tk =>
  pe_imp (pe_callTy call_int1 hg hm (by decide +kernel) (pa_cons (ha W tk) pa_nil he) (by decide) (by decide) he) (tm_u fun {S H x a d Q} ra e q => by
    cases a with
    | int i => cases e; cases ra; exact .inl ⟨_, rfl, q _ fun _ => .int _⟩
    | bl b => cases e; cases ra; exact .inr ⟨_, rfl, q _ fun _ => .int _⟩
    | _ => cases e)
def fBool : D → Option D
  | .int i => some (.bl (i != 0))
  | .bl b => some (.bl b)
  | _ => none
theorem sv_toBool (ha : SV X a n) (hm : X.mg "bool" = none) (hg : Gl X "bool" := by rfl) (he : starEach [a] X.env = (false, eval a X.env) :: starEach [] X.env := by rfl) : SV X (.Call (.Name "bool" p) [a] [] pos) (mU fBool n) := fun W tk =>
  pe_imp (pe_callTy call_bool1 hg hm (by decide +kernel) (pa_cons (ha W tk) pa_nil he) (by decide) (by decide) he) (tm_u fun {S H x a d Q} ra e q => by
    cases a with
    | int i => cases e; cases ra; exact .inl ⟨_, rfl, q _ fun _ => .bl _⟩
    | bl b => cases e; cases ra; exact .inr ⟨_, rfl, q _ fun _ => .bl _⟩
    | _ => cases e)
def fStrI : D → Option D
  | .int i => if i.natAbs.log2 < 1920 then some (.str (toString i : String)) else none
  | _ => none
theorem sv_toStr (ha : SV X a n) (hm : X.mg "str" = none) (hg : Gl X "str" := by rfl) (he : starEach [a] X.env = (false, eval a X.env) :: starEach [] X.env := by rfl) : SV X (.Call (.Name "str" p) [a] [] pos) (mU fStrI n) := fun W tk =>
  pe_imp (pe_callTy call_str_int hg hm (by decide +kernel) (pa_cons (ha W tk) pa_nil he) (by decide) (by decide) he) (tm_u fun {S H x a d Q} ra e q => by
    cases a with
    | int i =>
      have e' : (if i.natAbs.log2 < 1920 then some (D.str (toString i : String)) else none) = some d := e
      split at e'
      · rename_i hz
        cases e'
        cases ra
        exact ⟨_, rfl, hz, q _ fun _ => .str _⟩
      · cases e'
    | _ => cases e)
/-- tuple(a list), tuple(a tuple): the parts as they are -/
def fTuple : D → Option D
  | .lst xs => some (.tup xs)
  | .tup xs => some (.tup xs)
  | _ => none
theorem sv_tuple (ha : SR X a m) (hm : X.mg "tuple" = none) (hg : Gl X "tuple" := by rfl) (he : starEach [a] X.env = (false, eval a X.env) :: starEach [] X.env := by rfl) : SV X (.Call (.Name "tuple" p) [a] [] pos) (mG fTuple m) := fun W tk =>
  pe_imp (pe_callTy call_tuple_of hg hm (by decide +kernel) (pa_cons (ha W tk) pa_nil he) (by decide) (by decide) he) fun σ H Q ⟨env, S, rl, g⟩ =>
  g.part nmD rl fun x H1 env1 S1 a st ra g1 => by
    obtain ⟨d, o, t, e, q⟩ := g1.get st.rel ra
    cases d with
    | lst ds =>
      obtain ⟨p, vs, rfl, h2, h3⟩ := t.lst st.rel.sub
      cases e
      refine ⟨p, vs, rfl, .inl ⟨.of h2, fun l hl => q _ _ _ (new_stay st.rel hl) (.tup (.of upd_same) (RpA.mono (same_upd (st.rel.sub.free hl)) h3))⟩⟩
    | tup ds =>
      cases e
      have h := t
      rcases t with t | ⟨_, _, _, _, t⟩
      · obtain ⟨p, vs, rfl, h2, h3⟩ := h.tup st.rel.sub
        exact ⟨p, vs, rfl, .inr ⟨h2, q _ _ _ (Step.refl st.rel) t⟩⟩
      · cases t
    | _ => cases e
def fList : D → Option D
  | .lst xs => some (.lst xs)
  | .tup xs => some (.lst xs)
  | _ => none
theorem sr_list (ha : SR X a m) (hm : X.mg "list" = none) (hg : Gl X "list" := by rfl) (he : starEach [a] X.env = (false, eval a X.env) :: starEach [] X.env := by rfl) : SR X (.Call (.Name "list" p) [a] [] pos) (mN fList m) := fun W tk =>
  pe_imp (pe_callTy call_list_of hg hm (by decide +kernel) (pa_cons (ha W tk) pa_nil he) (by decide) (by decide) he) (tm_n fun {S H x a d Q} sub t e q => by
    cases a with
    | lst ds =>
      obtain ⟨p, vs, rfl, h2, h3⟩ := t.lst sub
      cases e
      exact ⟨p, vs, rfl, .inl (.of h2), fun l hl => q l _ hl (.lst h3)⟩
    | tup ds =>
      obtain ⟨p, vs, rfl, h2, h3⟩ := t.tup sub
      cases e
      exact ⟨p, vs, rfl, .inr h2, fun l hl => q l _ hl (.lst h3)⟩
    | _ => cases e)
end
/-! all, any, sum -/
def blOf : D → Option Bool
  | .bl b => some b
  | _ => none
def inOf : D → Option Int
  | .int i => some i
  | _ => none
def allOf {α : Type} (f : D → Option α) : List D → Option (List α)
  | [] => some []
  | d :: ds => (f d).bind fun a => (allOf f ds).bind fun as => some (a :: as)
section
variable {K : PySem.W.Frag} {mg : Str → Option Value}
theorem RpA.ints {S : Hp} : ∀ {ds : List D} {vs : List V} {ns : List Int}, RpA K mg S vs ds → allOf inOf ds = some ns → vs = ns.map V.int
  | [], _, _, h, e => by cases h; cases e; rfl
  | d :: ds, _, ns, h, e => by
    cases h with
    | cons a b =>
      cases d <;> first | (cases e; done) | skip
      rename_i i
      cases a
      cases er : allOf inOf ds with
      | none => simp [allOf, er, inOf] at e
      | some ms =>
        simp only [allOf, inOf, er, Option.bind_some] at e
        cases e
        rw [b.ints er]
        rfl
theorem RpA.bools {S : Hp} : ∀ {ds : List D} {vs : List V} {ns : List Bool}, RpA K mg S vs ds → allOf blOf ds = some ns → vs = ns.map V.bl
  | [], _, _, h, e => by cases h; cases e; rfl
  | d :: ds, _, ns, h, e => by
    cases h with
    | cons a b =>
      cases d <;> first | (cases e; done) | skip
      rename_i i
      cases a
      cases er : allOf blOf ds with
      | none => simp [allOf, er, blOf] at e
      | some ms =>
        simp only [allOf, blOf, er, Option.bind_some] at e
        cases e
        rw [b.bools er]
        rfl
theorem RpA.of_ints {S : Hp} : ∀ ns : List Int, RpA K mg S (ns.map V.int) (ns.map D.int)
  | [] => .nil
  | n :: ns => .cons (.int n) (RpA.of_ints ns)
end
section
variable {x : Str} {a b : Expr} {p pos : Pos} {m : M Rs} {n : M D}
def fAll : D → Option D
  | .lst ds => (allOf blOf ds).bind fun bs => some (.bl (bs.all id))
  | _ => none
def fAny : D → Option D
  | .lst ds => (allOf blOf ds).bind fun bs => some (.bl (bs.any id))
  | _ => none
def fSum : D → Option D
  | .lst ds => (allOf inOf ds).bind fun ns => some (.int ns.sum)
  | _ => none
theorem sv_all (hc : X.calm = true) (ha : SR X a m) (hm : X.mg "all" = none) (hg : Gl X "all" := by rfl) (he : starEach [a] X.env = (false, eval a X.env) :: starEach [] X.env := by rfl) : SV X (.Call (.Name "all" p) [a] [] pos) (mG fAll m) := fun W tk =>
  pe_imp (pe_callB (cr_all hc) hg hm (by decide +kernel) (pa_cons (ha W tk) pa_nil he) (by decide) (by decide) he) (tm_g fun {S H x a d Q} sub t e q => by
    cases a <;> first | (cases e; done) | skip
    rename_i ds
    obtain ⟨p, vs, rfl, h2, h3⟩ := t.lst sub
    cases er : allOf blOf ds with
    | none => simp [fAll, er] at e
    | some bs =>
      simp only [fAll, er, Option.bind_some] at e
      cases e
      rw [h3.bools er] at h2
      exact ⟨p, bs, rfl, .of h2, q _ fun _ _ => .bl _⟩)
theorem sv_any (hc : X.calm = true) (ha : SR X a m) (hm : X.mg "any" = none) (hg : Gl X "any" := by rfl) (he : starEach [a] X.env = (false, eval a X.env) :: starEach [] X.env := by rfl) : SV X (.Call (.Name "any" p) [a] [] pos) (mG fAny m) := fun W tk =>
  pe_imp (pe_callB (cr_any hc) hg hm (by decide +kernel) (pa_cons (ha W tk) pa_nil he) (by decide) (by decide) he) (tm_g fun {S H x a d Q} sub t e q => by
    cases a <;> first | (cases e; done) | skip
    rename_i ds
    obtain ⟨p, vs, rfl, h2, h3⟩ := t.lst sub
    cases er : allOf blOf ds with
    | none => simp [fAny, er] at e
    | some bs =>
      simp only [fAny, er, Option.bind_some] at e
      cases e
      rw [h3.bools er] at h2
      exact ⟨p, bs, rfl, .of h2, q _ fun _ _ => .bl _⟩)
theorem sv_sum (hc : X.calm = true) (ha : SR X a m) (hm : X.mg "sum" = none) (hg : Gl X "sum" := by rfl) (he : starEach [a] X.env = (false, eval a X.env) :: starEach [] X.env := by rfl) : SV X (.Call (.Name "sum" p) [a] [] pos) (mG fSum m) := fun W tk =>
  pe_imp (pe_callB (cr_sum hc) hg hm (by decide +kernel) (pa_cons (ha W tk) pa_nil he) (by decide) (by decide) he) (tm_g fun {S H x a d Q} sub t e q => by
    cases a <;> first | (cases e; done) | skip
    rename_i ds
    obtain ⟨p, vs, rfl, h2, h3⟩ := t.lst sub
    cases er : allOf inOf ds with
    | none => simp [fSum, er] at e
    | some ns =>
      simp only [fSum, er, Option.bind_some] at e
      cases e
      rw [h3.ints er] at h2
      exact ⟨p, ns, rfl, .of h2, q _ fun _ _ => .int _⟩)
end
/-! subscripts, slices -/
def fIx : D → D → Option D
  | .lst ds, .int i => atI ds i
  | .tup ds, .int i => atI ds i
  | .str s, .int i => if szOk s.length then (atI s.cps.toList i).bind fun c => some (.str ⟨#[c]⟩) else none
  | _, _ => none
def mIx (ma : M Rs) (mb : M D) : M D := ma.bind fun r => mb.bind fun i => M.of fun env => (r.get env).bind fun d => fIx d i
theorem RpA.atI {K : PySem.W.Frag} {mg : Str → Option Value} {S : Hp} {ds : List D} {vs : List V} {i : Int} {d : D} (h : RpA K mg S vs ds) (e : atI ds i = some d) : ∃ v, L2.atI vs i = some v ∧ Rp K mg S v d := by
  unfold L2.atI at e ⊢
  rw [h.len]
  cases ei : ixN ds.length i with
  | none => simp [ei] at e
  | some j =>
    simp only [ei, Option.bind_some] at e ⊢
    exact h.get e
theorem sv_ix {a b : Expr} {m : M Rs} {n : M D} {pos : Pos} (ha : SR X a m) (hb : SV X b n) (hp : PlainIx b := by exact fun _ _ => rfl) : SV X (.Subscript a b pos) (mIx m n) := fun W tk =>
  pe_imp (pe_ix ix_seq (ha W tk) (hb W tk) hp) fun σ H Q ⟨env, S, rl, g⟩ =>
  g.part nmD rl fun x H1 env1 S1 r st ra g1 => g1.part nmD st.rel fun y H2 env2 S2 i st2 rb g2 => by
    obtain ⟨d, o, t, e, q⟩ := g2.get st2.rel (RsR.mono st2 ra)
    cases i <;> first | (cases d <;> cases e; done) | skip
    rename_i i
    cases rb
    cases d with
    | lst ds =>
      obtain ⟨p, vs, rfl, h2, h3⟩ := t.lst st2.rel.sub
      obtain ⟨v, e1, e2⟩ := RpA.atI h3 e
      exact .inl ⟨p, vs, i, v, rfl, rfl, .of h2, e1, q v S2 H2 (Step.refl st2.rel) e2⟩
    | tup ds =>
      obtain ⟨p, vs, rfl, h2, h3⟩ := t.tup st2.rel.sub
      obtain ⟨v, e1, e2⟩ := RpA.atI h3 e
      exact .inr (.inl ⟨p, vs, i, v, rfl, rfl, h2, e1, q v S2 H2 (Step.refl st2.rel) e2⟩)
    | str s =>
      have e' : (if szOk s.length = true then (atI s.cps.toList i).bind fun c => some (D.str ⟨#[c]⟩) else none) = some o := e
      split at e'
      · rename_i hz
        cases ec : atI s.cps.toList i with
        | none => simp [ec] at e'
        | some c =>
          simp only [ec, Option.bind_some] at e'
          cases e'
          rcases t with t | ⟨_, _, _, _, t⟩
          · cases t
            exact .inr (.inr ⟨s, i, c, rfl, rfl, szOk_of hz, ec, q _ S2 H2 (Step.refl st2.rel) (.str _)⟩)
          · cases t
      · cases e'
    | _ => cases e
end Z
end

section
set_option Elab.async false
set_option linter.all false
set_option maxRecDepth 100000
set_option autoImplicit false
/-! The rules of statements. -/
namespace Z
open PySem
open L2 hiding XE Takes CX passes_call takes_of passAt PMk MkP ps_raise mk_of ps_try_as ps_try_many pmk_own XE.of_call XE.new XE.leave Takes.imp Sky.land
open L2N (Takes CX takes_of passAt PMk MkP ps_raise)
variable {X : Cx}

inductive SO where
  | nx (env : Env)
  | rt (r : Rs) (env : Env)
  | bk (env : Env)
  | ct (env : Env)
  | ex (c : Str) (ns : List Str) (vs : List D) (env : Env)
abbrev MS := Env → Option SO
def PostS (K : PySem.W.Frag) (mg : Str → Option Value) (W : WX) (o : Option SO) (env : Env) (σ : St) (S H : Hp) (E : Ends) : Prop := match o with
  | none => False
  | some (.nx env') => ∀ σ' S' H', Step K mg env σ S H env' σ' S' H' → E.nx σ' H'
  | some (.bk env') => ∀ σ' S' H', Step K mg env σ S H env' σ' S' H' → E.bk σ' H'
  | some (.ct env') => ∀ σ' S' H', Step K mg env σ S H env' σ' S' H' → E.ct σ' H'
  | some (.rt r env') => ∀ v σ' S' H', Step K mg env σ S H env' σ' S' H' → RsR K mg (Mine env σ H) env' σ' S' H' v r → E.rt v H'
  | some (.ex c ns ds env') => ∀ C d fv σ' S' H', mg c = some (.ref C) → Step K mg env σ S H env' σ' S' H' → S' d = some (.xd fv) → fv.map (·.1) = ns → RpA K mg S' (fv.map (·.2)) ds → W (.ref C) (some d) σ' H'
abbrev GoS (K : PySem.W.Frag) (mg : Str → Option Value) (W : WX) (m : MS) (env : Env) (σ : St) (S H : Hp) (E : Ends) : Prop := PostS K mg W (m env) env σ S H E
def tS (K : PySem.W.Frag) (mg : Str → Option Value) (W : WX) (m : MS) : TS := fun E σ H => ∃ env S, Rel K mg env σ S H ∧ GoS K mg W m env σ S H E
def SS (X : Cx) (st : Stmt) (m : MS) : Prop := ∀ W, Takes X W → PS X st (tS X.K X.mg W m)
def SSs (X : Cx) (st : List Stmt) (m : MS) : Prop := ∀ W, Takes X W → PSs X st (tS X.K X.mg W m)
theorem ps_imp {st : Stmt} {t t' : TS} (h : PS X st t) (i : ∀ E σ H, t' E σ H → t E σ H) : PS X st t' := ⟨fun pins s σ H D I q => h.run pins s σ H D I (i D σ H q)⟩
theorem pss_imp {st : List Stmt} {t t' : TS} (h : PSs X st t) (i : ∀ E σ H, t' E σ H → t E σ H) : PSs X st t' := ⟨fun pins s σ H D I q => h.run pins s σ H D I (i D σ H q)⟩

/-- from an earlier start -/
theorem PostS.from {K : PySem.W.Frag} {mg : Str → Option Value} {W : WX} {o : Option SO} {env env1 : Env} {σ σ1 : St} {S S1 H H1 : Hp} {E : Ends} (st : Step K mg env σ S H env1 σ1 S1 H1) (h : PostS K mg W o env σ S H E) : PostS K mg W o env1 σ1 S1 H1 E := by
  unfold PostS at h ⊢
  cases o with
  | none => exact h
  | some x =>
    cases x with
    | nx e => exact fun σ' S' H' s => h σ' S' H' (st.trans s)
    | bk e => exact fun σ' S' H' s => h σ' S' H' (st.trans s)
    | ct e => exact fun σ' S' H' s => h σ' S' H' (st.trans s)
    | rt r e => exact fun v σ' S' H' s rr => h v σ' S' H' (st.trans s) (nmR (K := K) (mg := mg) (fun q hq => st.mine hq) rr)
    | ex c ns ds e => exact fun C d fv σ' S' H' hc s a b c => h C d fv σ' S' H' hc (st.trans s) a b c
def mSeq (m n : MS) : MS := fun env => match m env with
  | some (.nx env1) => n env1
  | o => o
theorem PostS.seq {K : PySem.W.Frag} {mg : Str → Option Value} {W : WX} {m n : MS} {env env0 : Env} {σ0 : St} {S0 H0 : Hp} {E : Ends} (h : PostS K mg W (mSeq m n env) env0 σ0 S0 H0 E) : PostS K mg W (m env) env0 σ0 S0 H0 { E with nx := tS K mg W n E } := by
  unfold mSeq at h
  cases hm : m env with
  | none => simp only [hm] at h; exact h
  | some x =>
    cases x with
    | nx e =>
      simp only [hm] at h
      exact fun σ1 S1 H1 st => ⟨e, S1, st.rel, h.from st⟩
    | bk e => simp only [hm] at h; exact h
    | ct e => simp only [hm] at h; exact h
    | rt r e => simp only [hm] at h; exact h
    | ex c ns ds e => simp only [hm] at h; exact h
theorem sss_nil : SSs X [] (fun env => some (.nx env)) := fun W tk => pss_imp pss_nil fun E σ H ⟨env, S, r, g⟩ => g σ S H (Step.refl r)
theorem sss_cons {st : Stmt} {rest : List Stmt} {m n : MS} (h1 : SS X st m) (h2 : SSs X rest n) : SSs X (st :: rest) (mSeq m n) := fun W tk => pss_imp (pss_cons (h1 W tk) (h2 W tk)) fun E σ H ⟨env, S, r, g⟩ => ⟨env, S, r, PostS.seq g⟩
theorem sss_one {st : Stmt} {m : MS} (h1 : SS X st m) : SSs X [st] m := fun W tk => pss_one (h1 W tk)
theorem ss_pass {pos : Pos} : SS X (.Pass pos) (fun env => some (.nx env)) := fun W tk => ps_imp ps_pass fun E σ H ⟨env, S, r, g⟩ => g σ S H (Step.refl r)
theorem ss_break {pos : Pos} : SS X (.Break pos) (fun env => some (.bk env)) := fun W tk => ps_imp ps_break fun E σ H ⟨env, S, r, g⟩ => g σ S H (Step.refl r)
theorem ss_continue {pos : Pos} : SS X (.Continue pos) (fun env => some (.ct env)) := fun W tk => ps_imp ps_continue fun E σ H ⟨env, S, r, g⟩ => g σ S H (Step.refl r)
/-- code that is not come to -/
theorem ss_never {st : Stmt} : SS X st (fun _ => none) := fun W tk => ps_imp ps_never fun E σ H ⟨env, S, r, g⟩ => g
theorem sss_never {st : List Stmt} : SSs X st (fun _ => none) := fun W tk => pss_imp pss_never fun E σ H ⟨env, S, r, g⟩ => g

/-! ### an expression, then a stretch of statement -/
def mThen {α : Type} (m : M α) (k : α → MS) : MS := fun env => match m env with
  | none => none
  | some (.ok a env1) => k a env1
  | some (.ex c ns vs e) => some (.ex c ns vs e)
theorem GoS.part {β α : Type} {R : RL β α} {W : WX} {m : M α} {k : α → MS} {env : Env} {σ : St} {S H : Hp} {E : Ends} (r : Rel X.K X.mg env σ S H) (h : GoS X.K X.mg W (mThen m k) env σ S H E) {Q1 : β → Hp → Prop}
    (i : ∀ v H1 env1 S1 a, Step X.K X.mg env σ S H env1 σ S1 H1 → R (Mine env σ H) env1 σ S1 H1 v a → GoS X.K X.mg W (k a) env1 σ S1 H1 E → PostS X.K X.mg W (k a env1) env σ S H E → Q1 v H1) : tM X.K X.mg W R m σ H Q1 := by
  refine ⟨env, S, r, ?_⟩
  unfold GoS mThen at h
  unfold Go
  cases hm : m env with
  | none => simp only [hm] at h; exact h
  | some x =>
    cases x with
    | ok a e =>
      simp only [hm] at h
      exact fun v S1 H1 st ra => i v H1 e S1 a st ra (h.from st) h
    | ex c ns ds e =>
      simp only [hm] at h
      exact fun C d fv S' H' hc st => h C d fv σ S' H' hc st
/-- an expression's value dropped -/
def mDrop {α : Type} (m : M α) : MS := mThen m fun _ env => some (.nx env)
theorem ss_expr {e : Expr} {m : M D} {pos : Pos} (he : SV X e m) (hs : swapsWith e none pos.line X.env = pure false := by rfl) : SS X (.Expr e pos) (mDrop m) := fun W tk => ps_imp (ps_expr (he W tk) hs) fun E σ H ⟨env, S, r, g⟩ =>
  g.part r fun v H1 env1 S1 a st ra g1 _ => g1 σ S1 H1 (Step.refl st.rel)
theorem ss_exprR {e : Expr} {m : M Rs} {pos : Pos} (he : SR X e m) (hs : swapsWith e none pos.line X.env = pure false := by rfl) : SS X (.Expr e pos) (mDrop m) := fun W tk => ps_imp (ps_expr (he W tk) hs) fun E σ H ⟨env, S, r, g⟩ =>
  g.part r fun v H1 env1 S1 a st ra g1 _ => g1 σ S1 H1 (Step.refl st.rel)
/-- return -/
def mRet (m : M Rs) : MS := mThen m fun r env => some (.rt r env)
theorem ss_ret {e : Expr} {m : M Rs} {pos : Pos} (he : SR X e m) : SS X (.Return (some e) pos) (mRet m) := fun W tk => ps_imp (ps_ret (he W tk)) fun E σ H ⟨env, S, r, g⟩ =>
  g.part r fun v H1 env1 S1 a st ra g1 g2 => g2 v σ S1 H1 st ra
theorem ss_retN {pos : Pos} : SS X (.Return none pos) (fun env => some (.rt (.v .non) env)) := fun W tk => ps_imp ps_retN fun E σ H ⟨env, S, r, g⟩ => g .non σ S H (Step.refl r) .non
/-- if -/
def mIfS (t : M Bool) (a b : MS) : MS := mThen t fun c => if c then a else b
theorem ss_if {c : Expr} {a b : List Stmt} {t : M Bool} {m n : MS} {pos : Pos} (hc : ST X c t) (ha : SSs X a m) (hb : SSs X b n) : SS X (.If c a b pos) (mIfS t m n) := fun W tk => ps_imp (ps_if (hc W tk) (ha W tk) (hb W tk)) fun E σ H ⟨env, S, r, g⟩ =>
  g.part r fun v H1 env1 S1 a st ra g1 g2 => by
    have e : v = a := ra
    subst e
    cases v with
    | true => exact ⟨env1, S1, st.rel, g1⟩
    | false => exact ⟨env1, S1, st.rel, g1⟩

/-! ### stores -/
theorem Step.assign {K : PySem.W.Frag} {mg : Str → Option Value} {env0 env : Env} {σ0 σ : St} {S0 S H0 H : Hp} (st : Step K mg env0 σ0 S0 H0 env σ S H) {j : Nat} {v : V} {s : Sl} (hj : j < env.length) (hio : ∀ d, env[j]? ≠ some (.io d)) (hs : SlR K mg S H (some (some v)) s)
    (hown : ∀ d, s.mut = some d → ∃ a, v = .ref a ∧ ¬ Own env σ a ∧ Mine env0 σ0 H0 a) : Step K mg env0 σ0 S0 H0 (env.set j s) (σ.set j (some v)) S H := by
  have hjσ : j < σ.length := by rw [st.rel.len]; exact hj
  have at_ : ∀ i q, OwnAt (env.set j s) (σ.set j (some v)) i q → (i = j ∧ v = .ref q ∧ ∃ d, s.mut = some d) ∨ (i ≠ j ∧ OwnAt env σ i q) := fun i q ⟨⟨s', d, e, m⟩, hq⟩ => by
    by_cases h : j = i
    · subst h
      rw [List.getElem?_set_self hj] at e
      rw [List.getElem?_set_self hjσ] at hq
      cases e
      have hq' : v = .ref q := by simpa using hq
      exact .inl ⟨rfl, hq', d, m⟩
    · rw [List.getElem?_set_ne h] at e hq
      exact .inr ⟨fun z => h z.symm, ⟨s', d, e, m⟩, hq⟩
  refine ⟨⟨by rw [List.length_set, List.length_set]; exact st.rel.len, st.rel.sub, fun i s' e => ?_, fun i k q h1 h2 => ?_⟩, st.ext, st.frm, st.new, fun q ⟨i, h⟩ => ?_, fun i d e => ?_⟩
  · by_cases h : j = i
    · subst h
      rw [List.getElem?_set_self hj] at e
      rw [List.getElem?_set_self hjσ]
      cases e
      exact hs
    · rw [List.getElem?_set_ne h] at e ⊢
      exact st.rel.sl i s' e
  · rcases at_ i q h1 with ⟨e1, e2, d, m⟩ | ⟨n1, o1⟩
    · rcases at_ k q h2 with ⟨e3, _⟩ | ⟨n2, o2⟩
      · rw [e1, e3]
      · obtain ⟨a, ea, na, _⟩ := hown d m
        rw [e2] at ea
        cases ea
        exact absurd ⟨k, o2⟩ na
    · rcases at_ k q h2 with ⟨e3, e4, d, m⟩ | ⟨n2, o2⟩
      · obtain ⟨a, ea, na, _⟩ := hown d m
        rw [e4] at ea
        cases ea
        exact absurd ⟨i, o1⟩ na
      · exact st.rel.inj i k q o1 o2
  · rcases at_ i q h with ⟨_, e2, d, m⟩ | ⟨_, o⟩
    · obtain ⟨a, ea, _, mi⟩ := hown d m
      rw [e2] at ea
      cases ea
      rcases mi with z | z
      · exact .inr z
      · exact .inl z
    · exact st.own q ⟨i, o⟩
  · obtain ⟨x, d1, y⟩ := st.io i d e
    have h : j ≠ i := fun z => by
      subst z
      exact hio d1 y
    rw [List.getElem?_set_ne h, List.getElem?_set_ne h]
    exact ⟨x, d1, y⟩
def Rs.sl : Rs → Option Sl
  | .v d => some (.v d)
  | .fr d => some (.own d)
  | .bw _ => none
/-- may slot j be set -/
def isIo : Option Sl → Bool
  | some (.io _) => true
  | _ => false
def setSl (j : Nat) (s : Sl) (env : Env) : Option Env := if decide (j < env.length) && !isIo env[j]? then some (env.set j s) else none
theorem setSl_some {j : Nat} {s : Sl} {env env' : Env} (h : setSl j s env = some env') : j < env.length ∧ (∀ d, env[j]? ≠ some (.io d)) ∧ env' = env.set j s := by
  unfold setSl at h
  split at h
  · rename_i c
    simp only [Bool.and_eq_true, decide_eq_true_eq, Bool.not_eq_true'] at c
    cases h
    refine ⟨c.1, fun d e => ?_, rfl⟩
    rw [e] at c
    exact absurd c.2 (by simp [isIo])
  · cases h
def mSet (j : Nat) (m : M Rs) : MS := mThen m fun r env => r.sl.bind fun s => (setSl j s env).bind fun env' => some (.nx env')
theorem slr_of {K : PySem.W.Frag} {mg : Str → Option Value} {N : Addr → Prop} {env : Env} {σ : St} {S H : Hp} {v : V} {r : Rs} {s : Sl} (ra : RsR K mg N env σ S H v r) (e : r.sl = some s) :
    SlR K mg S H (some (some v)) s ∧ ∀ d, s.mut = some d → ∃ a, v = .ref a ∧ ¬ Own env σ a ∧ N a := by
  cases r with
  | v d =>
    cases e
    exact ⟨⟨v, rfl, ra⟩, fun _ z => by cases z⟩
  | fr d =>
    cases e
    obtain ⟨a, ho, rfl, h2, h3, h4, h5, h6⟩ := ra
    exact ⟨⟨a, ho, rfl, h2, h3, h4⟩, fun _ _ => ⟨a, rfl, h5, h6⟩⟩
  | bw i => cases e
theorem ss_set {j : Nat} {x : Str} {e : Expr} {m : M Rs} {pos pos' : Pos} (he : SR X e m) (hN : X.N.Nodup) (hi : X.N[j]? = some x) (hx : Loc X.env.scope x) (hf : X.fn x = true ∨ X.env.scope.names.lookup x = some .local) (hs : swapsWith e (some (.Name x pos')) pos.line X.env = pure false := by rfl) :
    SS X (.Assign [.Name x pos'] e pos) (mSet j m) := fun W tk => ps_imp (ps_set hN hi hx (he W tk) hs hf) fun E σ H ⟨env, S, r, g⟩ =>
  g.part r fun v H1 env1 S1 a st ra g1 g2 => by
    cases es : a.sl with
    | none => exact (show False by simpa [es, PostS] using g2).elim
    | some s =>
      cases ee : setSl j s env1 with
      | none => exact (show False by simpa [es, ee, PostS] using g2).elim
      | some env2 =>
        simp only [es, ee, Option.bind_some] at g2
        obtain ⟨c1, c2, rfl⟩ := setSl_some ee
        obtain ⟨d1, d2⟩ := slr_of ra es
        exact g2 _ S1 H1 (st.assign c1 c2 d1 d2)
/-! two values at once -/
def mPair (m n : M Rs) : M (Rs × Rs) := fun env => match m env with
  | none => none
  | some (.ok r env1) => (match n env1 with
    | none => none
    | some (.ok q env2) => some (.ok (r, q) env2)
    | some (.ex c ns vs e) => some (.ex c ns vs e))
  | some (.ex c ns vs e) => some (.ex c ns vs e)
def RP (K : PySem.W.Frag) (mg : Str → Option Value) : RL (List V) (Rs × Rs) := fun N env σ S H vs p => ∃ v w, vs = [v, w] ∧ RsR K mg N env σ S H v p.1 ∧ RsR K mg N env σ S H w p.2 ∧ ∀ d d', p.1 = .fr d → p.2 = .fr d' → v ≠ w
def SP2 (X : Cx) (es : List Expr) (m : M (Rs × Rs)) : Prop := ∀ W, Takes X W → PA X es (tM X.K X.mg W (RP X.K X.mg) m)
theorem sp_pair {a b : Expr} {m n : M Rs} (ha : SR X a m) (hb : SR X b n) (he : starEach [a, b] X.env = (false, eval a X.env) :: starEach [b] X.env := by rfl) (he2 : starEach [b] X.env = (false, eval b X.env) :: starEach [] X.env := by rfl) : SP2 X [a, b] (mPair m n) := fun W tk =>
  pa_imp (pa_cons (ha W tk) (pa_cons (hb W tk) pa_nil he2) he) fun σ H Q ⟨env, S, r, g⟩ => by
    refine ⟨env, S, r, ?_⟩
    unfold Go mPair at g
    unfold Go
    cases hm : m env with
    | none => simp only [hm] at g
    | some x =>
      cases x with
      | ex c ns ds e => simp only [hm] at g ⊢; exact g
      | ok a env1 =>
        simp only [hm] at g ⊢
        intro v S1 H1 st ra
        refine ⟨env1, S1, st.rel, ?_⟩
        unfold Go
        cases hn : n env1 with
        | none => simp only [hn] at g
        | some y =>
          cases y with
          | ex c ns ds e =>
            simp only [hn] at g ⊢
            exact fun C d fv S' H' hc st2 => g C d fv S' H' hc (st.trans st2)
          | ok b env2 =>
            simp only [hn] at g ⊢
            intro w S2 H2 st2 rb
            refine g [v, w] S2 H2 (st.trans st2) ⟨v, w, rfl, RsR.mono st2 ra, nmR (K := X.K) (mg := X.mg) (fun q hq => st.mine hq) rb, fun d d' e1 e2 => ?_⟩
            have e1' : a = .fr d := e1
            have e2' : b = .fr d' := e2
            subst e1'
            subst e2'
            obtain ⟨p, ho, rfl, h2, h3, h4, h5, h6⟩ := ra
            obtain ⟨q, hq, rfl, k2, k3, k4, k5, k6⟩ := rb
            intro z
            cases z
            rcases k6 with z | z
            · rw [h3] at z; cases z
            · exact h5 z
/-- a, b = x, y -/
def mPar (i j : Nat) (m : M (Rs × Rs)) : MS := mThen m fun p env => p.1.sl.bind fun s => p.2.sl.bind fun t => (setSl i s env).bind fun env' => (setSl j t env').bind fun env2 => some (.nx env2)
theorem ss_par {i j : Nat} {x y : Str} {a b : Expr} {m : M (Rs × Rs)} {px py pt : Pos} {kt k2 pt2} {pos : Pos} (ha : SP2 X [a, b] m) (hc : X.calm = true) (hN : X.N.Nodup) (hi : X.N[i]? = some x) (hj : X.N[j]? = some y) (hij : i ≠ j)
    (hx : X.env.scope.names.lookup x = some .local) (hy : X.env.scope.names.lookup y = some .local)
    (hw : swappedStores [.Tuple [.Name x px, .Name y py] kt pt] (.Tuple [a, b] k2 pt2) X.env = pure (some [x, y]))
    (hs : swapsWithSole [.Tuple [.Name x px, .Name y py] kt pt] (.Tuple [a, b] k2 pt2) pos.line X.env = pure false := by rfl) :
    SS X (.Assign [.Tuple [.Name x px, .Name y py] kt pt] (.Tuple [a, b] k2 pt2) pos) (mPar i j m) := fun W tk =>
  ps_imp (ps_par hc hN hi hj hij hx hy (ha W tk) hw hs) fun E σ H ⟨env, S, r, g⟩ =>
  g.part r fun vs H1 env1 S1 p st ra g2 g3 => by
    obtain ⟨v, w, rfl, ra, rb, nvw⟩ := ra
    refine ⟨v, w, rfl, ?_⟩
    cases es : p.1.sl with
    | none => exact (show False by simpa [es, PostS] using g3).elim
    | some s =>
      cases et : p.2.sl with
      | none => exact (show False by simpa [es, et, PostS] using g3).elim
      | some t =>
        cases ee : setSl i s env1 with
        | none => exact (show False by simpa [es, et, ee, PostS] using g3).elim
        | some env3 =>
          cases ef : setSl j t env3 with
          | none => exact (show False by simpa [es, et, ee, ef, PostS] using g3).elim
          | some env4 =>
            simp only [es, et, ee, ef, Option.bind_some] at g3
            obtain ⟨c1, c2, rfl⟩ := setSl_some ee
            obtain ⟨c3, c4, rfl⟩ := setSl_some ef
            obtain ⟨d1, d2⟩ := slr_of ra es
            obtain ⟨d3, d4⟩ := slr_of rb et
            refine g3 _ S1 H1 ((st.assign c1 c2 d1 d2).assign c3 c4 d3 fun d hd => ?_)
            obtain ⟨a', e1, n1, m1⟩ := d4 d hd
            refine ⟨a', e1, fun ⟨k, ⟨s', d', e', m'⟩, hq⟩ => ?_, m1⟩
            have hil : i < σ.length := by rw [st.rel.len]; exact c1
            by_cases h : i = k
            · subst h
              rw [List.getElem?_set_self c1] at e'
              rw [List.getElem?_set_self hil] at hq
              cases e'
              have hv : v = .ref a' := by simpa using hq
              cases e5 : p.1 with
              | v _ => rw [e5] at es; cases es; cases m'
              | bw _ => rw [e5] at es; cases es
              | fr da =>
                cases e6 : p.2 with
                | v _ => rw [e6] at et; cases et; cases hd
                | bw _ => rw [e6] at et; cases et
                | fr db => exact nvw da db e5 e6 (by rw [hv, e1])
            · rw [List.getElem?_set_ne h] at e' hq
              exact n1 ⟨k, ⟨s', d', e', m'⟩, hq⟩

/-! ### what a slot owns is changed -/
def Sl.upd (d' : D) : Sl → Sl
  | .own _ => .own d'
  | .io _ => .io d'
  | s => s
theorem Sl.upd_mut {d d' : D} : ∀ {s : Sl}, s.mut = some d → (s.upd d').mut = some d'
  | .no, h => by cases h
  | .v _, h => by cases h
  | .own _, _ => rfl
  | .io _, _ => rfl
theorem Step.change {K : PySem.W.Frag} {mg : Str → Option Value} {env0 env : Env} {σ0 σ : St} {S0 S H0 H : Hp} (st : Step K mg env0 σ0 S0 H0 env σ S H) {j : Nat} {a : Addr} {s : Sl} {d d' : D} {ho' : HO} (hj : env[j]? = some s) (hm : s.mut = some d) (ha : σ[j]? = some (some (.ref a)))
    (hr : HoR K mg S ho' d') : Step K mg env0 σ0 S0 H0 (env.set j (s.upd d')) σ S (upd H a ho') := by
  have hlt : j < env.length := (List.getElem?_eq_some_iff.mp hj).1
  have oj : OwnAt env σ j a := ⟨⟨s, d, hj, hm⟩, ha⟩
  obtain ⟨hSa, ho, hHa⟩ := st.rel.own ⟨j, oj⟩
  have at_ : ∀ i q, OwnAt (env.set j (s.upd d')) σ i q → OwnAt env σ i q := fun i q ⟨⟨s', d2, e, m⟩, hq⟩ => by
    by_cases h : j = i
    · subst h
      exact ⟨⟨s, d, hj, hm⟩, hq⟩
    · rw [List.getElem?_set_ne h] at e
      exact ⟨⟨s', d2, e, m⟩, hq⟩
  refine ⟨⟨by rw [List.length_set]; exact st.rel.len, fun b o e => ?_, fun i s' e => ?_, fun i k q h1 h2 => st.rel.inj i k q (at_ i q h1) (at_ k q h2)⟩, st.ext, fun q o e n => ?_, st.new, fun q ⟨i, h⟩ => st.own q ⟨i, at_ i q h⟩, fun i d0 e => ?_⟩
  · have nb : b ≠ a := fun z => by
      subst z
      rw [hSa] at e
      cases e
    rw [upd_ne nb]
    exact st.rel.sub b o e
  · by_cases h : j = i
    · subst h
      rw [List.getElem?_set_self hlt] at e
      have e' : s.upd d' = s' := by simpa using e
      subst e'
      cases s with
      | no => cases hm
      | v _ => cases hm
      | own _ => exact ⟨a, ho', ha, hSa, upd_same, hr⟩
      | io _ => exact ⟨a, ho', ha, hSa, upd_same, hr⟩
    · rw [List.getElem?_set_ne h] at e
      have q := st.rel.sl i s' e
      have nb : ∀ b, σ[i]? = some (some (.ref b)) → (∃ d2, s'.mut = some d2) → b ≠ a := fun b hb ⟨d2, m2⟩ z => by
        subst z
        exact h (st.rel.inj j i b oj ⟨⟨s', d2, e, m2⟩, hb⟩)
      cases s' with
      | no => trivial
      | v _ => exact q
      | own d2 =>
        obtain ⟨b, ho2, h1, h2, h3, h4⟩ := q
        exact ⟨b, ho2, h1, h2, by rw [upd_ne (nb b h1 ⟨d2, rfl⟩)]; exact h3, h4⟩
      | io d2 =>
        obtain ⟨b, ho2, h1, h2, h3, h4⟩ := q
        exact ⟨b, ho2, h1, h2, by rw [upd_ne (nb b h1 ⟨d2, rfl⟩)]; exact h3, h4⟩
  · have nq : q ≠ a := fun z => by
      subst z
      rcases st.own q ⟨j, oj⟩ with z | z
      · exact n z
      · rw [e] at z; cases z
    rw [upd_ne nq]
    exact st.frm q o e n
  · obtain ⟨x, d1, y⟩ := st.io i d0 e
    by_cases h : j = i
    · subst h
      rw [hj] at y
      cases y
      exact ⟨x, d', List.getElem?_set_self hlt⟩
    · rw [List.getElem?_set_ne h]
      exact ⟨x, d1, y⟩
/-- what slot j owns, as f turns it; o is handed out -/
def chg {α : Type} (j : Nat) (f : D → Option (α × D)) : Env → Option (α × Env) := fun env => match env[j]? with
  | some s => s.mut.bind fun d => (f d).bind fun p => some (p.1, env.set j (s.upd p.2))
  | none => none
theorem chg_some {α : Type} {j : Nat} {f : D → Option (α × D)} {env env' : Env} {o : α} (h : chg j f env = some (o, env')) : ∃ s d d', env[j]? = some s ∧ s.mut = some d ∧ f d = some (o, d') ∧ env' = env.set j (s.upd d') := by
  unfold chg at h
  cases hj : env[j]? with
  | none => simp [hj] at h
  | some s =>
    simp only [hj] at h
    cases hm : s.mut with
    | none => simp [hm] at h
    | some d =>
      simp only [hm, Option.bind_some] at h
      cases hf : f d with
      | none => simp [hf] at h
      | some p =>
        simp only [hf, Option.bind_some] at h
        cases h
        exact ⟨s, d, p.2, rfl, hm, hf, rfl⟩
def M.chg {α : Type} (j : Nat) (f : D → Option (α × D)) : M α := fun env => (Z.chg j f env).bind fun p => some (.ok p.1 p.2)
theorem Go.chg {α β : Type} {W : WX} {R : RL β α} {j : Nat} {f : D → Option (α × D)} {env : Env} {σ : St} {S H : Hp} {Q : β → Hp → Prop} (r : Rel X.K X.mg env σ S H) (g : Go X.K X.mg W R (M.chg j f) env σ S H Q) :
    ∃ a ho d o d', σ[j]? = some (some (.ref a)) ∧ H a = some ho ∧ HoR X.K X.mg S ho d ∧ f d = some (o, d') ∧ ∀ ho', HoR X.K X.mg S ho' d' → ∀ v, (∀ env', R (Mine env σ H) env' σ S (upd H a ho') v o) → Q v (upd H a ho') := by
  unfold Go M.chg at g
  cases hc : Z.chg j f env with
  | none => simp [hc] at g
  | some p =>
    obtain ⟨o, env'⟩ := p
    simp only [hc, Option.bind_some] at g
    obtain ⟨s, d, d', h1, h2, h3, rfl⟩ := chg_some hc
    obtain ⟨a, ho, e1, e2, e3, e4⟩ := (r.sl j s h1).mut h2
    exact ⟨a, ho, d, o, d', e1, e3, e4, h3, fun ho' hr v hv => g v S _ ((Step.refl r).change h1 h2 e1 hr) (hv _)⟩
/-- slot j owns a list now -/
def isL (s : Option Sl) : Bool := match s with
  | some s => (match s.mut with
    | some (.lst _) => true
    | _ => false)
  | none => false
def mHere {α : Type} (j : Nat) (m : M α) : M α := fun env => if isL env[j]? then m env else none
theorem Go.here {α β : Type} {W : WX} {R : RL β α} {m : M α} {j : Nat} {env : Env} {σ : St} {S H : Hp} {Q : β → Hp → Prop} (r : Rel X.K X.mg env σ S H) (g : Go X.K X.mg W R (mHere j m) env σ S H Q) :
    (∃ a vs, σ[j]? = some (some (.ref a)) ∧ H a = some (.lst vs)) ∧ Go X.K X.mg W R m env σ S H Q := by
  unfold Go mHere at g
  by_cases hl : isL env[j]? = true
  · rw [if_pos hl] at g
    refine ⟨?_, g⟩
    unfold isL at hl
    cases hj : env[j]? with
    | none => simp [hj] at hl
    | some s =>
      simp only [hj] at hl
      cases hm : s.mut with
      | none => simp [hm] at hl
      | some d =>
        obtain ⟨a, ho, e1, e2, e3, e4⟩ := (r.sl j s hj).mut hm
        cases e4 with
        | lst _ => exact ⟨a, _, e1, e3⟩
        | dct _ _ _ => simp [hm] at hl
        | ins _ _ _ _ => simp [hm] at hl
  · rw [if_neg hl] at g
    exact g.elim
theorem szOk_lt {n : Nat} (h : szOk n = true) : n < sizeLine := Nat.lt_of_le_of_lt (of_decide_eq_true h) (by decide)
theorem tyV_lst {K : PySem.W.Frag} {H : Hp} {a : Addr} {vs : List V} (h : H a = some (.lst vs)) : tyV K "list" (.ref a) H := .inl ⟨rfl, _, .inl (.inl h)⟩
/-- of a list alone -/
def onL {α : Type} (f : List D → Option (α × List D)) : D → Option (α × D)
  | .lst ds => (f ds).bind fun p => some (p.1, .lst p.2)
  | _ => none
theorem onL_some {α : Type} {f : List D → Option (α × List D)} {d d' : D} {o : α} (h : onL f d = some (o, d')) : ∃ ds ds', d = .lst ds ∧ f ds = some (o, ds') ∧ d' = .lst ds' := by
  cases d with
  | lst ds =>
    cases hf : f ds with
    | none => simp [onL, hf] at h
    | some p =>
      simp only [onL, hf, Option.bind_some] at h
      cases h
      exact ⟨ds, p.2, rfl, hf, rfl⟩
  | _ => cases h
theorem Go.chgL {α β : Type} {W : WX} {R : RL β α} {j : Nat} {f : List D → Option (α × List D)} {env : Env} {σ : St} {S H : Hp} {Q : β → Hp → Prop} (r : Rel X.K X.mg env σ S H) (g : Go X.K X.mg W R (M.chg j (onL f)) env σ S H Q) :
    ∃ a vs ds o ds', σ[j]? = some (some (.ref a)) ∧ H a = some (.lst vs) ∧ RpA X.K X.mg S vs ds ∧ f ds = some (o, ds') ∧ ∀ vs', RpA X.K X.mg S vs' ds' → ∀ v, (∀ env', R (Mine env σ H) env' σ S (upd H a (.lst vs')) v o) → Q v (upd H a (.lst vs')) := by
  obtain ⟨a, ho, d, o, d', k1, k2, k3, k4, k5⟩ := Go.chg r g
  obtain ⟨ds, ds', rfl, e, rfl⟩ := onL_some k4
  cases k3 with
  | lst r1 => exact ⟨a, _, ds, o, ds', k1, k2, r1, e, fun vs' r2 v hv => k5 _ (.lst r2) v hv⟩
/-- a method of slot j's list with one argument, with none -/
def mM1 (j : Nat) (f : D → List D → Option (D × List D)) (m : M D) : M D := mHere j (m.bind fun x => M.chg j (onL (f x)))
def mM0 (j : Nat) (f : List D → Option (D × List D)) : M D := mHere j (M.chg j (onL f))
theorem tm_m1 {W : WX} {j : Nat} {m : M D} {f : D → List D → Option (D × List D)} {r : V → List V → Hp → VK → Prop}
    (hr : ∀ {S H : Hp} {a : Addr} {vs : List V} {ds ds' : List D} {x : V} {y o : D} {Q : VK}, H a = some (.lst vs) → RpA X.K X.mg S vs ds → Rp X.K X.mg S x y → f y ds = some (o, ds') → (∀ vs', RpA X.K X.mg S vs' ds' → ∀ v, Rp X.K X.mg S v o → Q v (upd H a (.lst vs'))) → r (.ref a) [x] H Q) :
    ∀ σ H Q, tM X.K X.mg W (RD X.K X.mg) (mM1 j f m) σ H Q → tBM X.K "list" r (tVar j) (tCons (tM X.K X.mg W (RD X.K X.mg) m) tNil) σ H Q := fun σ H Q ⟨env, S, rl, g⟩ => by
  obtain ⟨⟨a, vs, e1, e2⟩, g⟩ := Go.here rl g
  refine ⟨.ref a, e1, tyV_lst e2, g.part nmD rl fun x H1 env1 S1 y st ra g1 => ?_⟩
  obtain ⟨a', vs', ds, o, ds', k1, k2, k3, k4, k5⟩ := Go.chgL st.rel g1
  rw [e1] at k1
  cases k1
  exact hr k2 k3 ra k4 fun vs2 h2 v hv => k5 vs2 h2 v fun env' => hv
theorem tm_m0 {W : WX} {j : Nat} {f : List D → Option (D × List D)} {r : V → List V → Hp → VK → Prop}
    (hr : ∀ {S H : Hp} {a : Addr} {vs : List V} {ds ds' : List D} {o : D} {Q : VK}, H a = some (.lst vs) → RpA X.K X.mg S vs ds → f ds = some (o, ds') → (∀ vs', RpA X.K X.mg S vs' ds' → ∀ v, Rp X.K X.mg S v o → Q v (upd H a (.lst vs'))) → r (.ref a) [] H Q) :
    ∀ σ H Q, tM X.K X.mg W (RD X.K X.mg) (mM0 j f) σ H Q → tBM0 X.K "list" r (tVar j) σ H Q := fun σ H Q ⟨env, S, rl, g⟩ => by
  obtain ⟨⟨a, vs, e1, e2⟩, g⟩ := Go.here rl g
  obtain ⟨a', vs', ds, o, ds', k1, k2, k3, k4, k5⟩ := Go.chgL rl g
  rw [e1] at k1
  cases k1
  exact ⟨.ref a, e1, tyV_lst e2, hr k2 k3 k4 fun vs2 h2 v hv => k5 vs2 h2 v fun env' => hv⟩
def fApp (x : D) (ds : List D) : Option (D × List D) := if szOk ds.length then some (.non, ds ++ [x]) else none
def fPopAt (k : D) (ds : List D) : Option (D × List D) := match k with
  | .int i => if decide (-(2 ^ 62) ≤ i) && decide (i < 2 ^ 62) then (seqIndex? i ds.length).bind fun n => (ds[n]?).bind fun d => some (d, ds.eraseIdx n) else none
  | _ => none
def fPop (ds : List D) : Option (D × List D) := (ds[ds.length - 1]?).bind fun d => some (d, ds.dropLast)
theorem RpA.dropLast {K : PySem.W.Frag} {mg : Str → Option Value} {S : Hp} {ds : List D} {vs : List V} (h : RpA K mg S vs ds) : RpA K mg S vs.dropLast ds.dropLast := by
  rw [List.dropLast_eq_take, List.dropLast_eq_take, h.len]
  exact h.take _
section
variable {j : Nat} {x : Str} {e : Expr} {m : M D} {p1 p2 pos : Pos}
theorem sv_append (hv : PE X (.Name x p1) (tVar j)) (he : SV X e m) (hbase : attributeBase (.Name x p1) "append" X.env (eval (.Name x p1) X.env) = eval (.Name x p1) X.env := by rfl)
    (hfew : ((backTo pos (starEach (e :: []) X.env)).all (fun x => !x.1) && (backToKw pos (keywordEach [] X.env)).all (fun x => x.1.isSome) && decide ((e :: []).length + ([] : List Keyword).length + (if ([] : List Keyword).isEmpty then 0 else 1) < 30)) = true := by rfl)
    (hline : (p2.endLine == pos.line) = true := by rfl) (hs : starEach (e :: []) X.env = (false, eval e X.env) :: starEach [] X.env := by rfl) : SV X (.Call (.Attribute (.Name x p1) "append" p2) [e] [] pos) (mM1 j fApp m) := fun W tk =>
  pe_imp (pe_bm PySem.F.plainAttrs_list PySem.F.slot_list_append PySem.F.type_list_append mt_append hv (pa_cons (he W tk) pa_nil hs) hbase hfew hline hs) (tm_m1 fun {S H a vs ds ds' x y o Q} h1 h2 h3 h4 q => by
    unfold fApp at h4
    split at h4
    · rename_i hz
      cases h4
      exact ⟨a, vs, x, rfl, rfl, h1, by rw [h2.len]; exact szOk_lt hz, q _ (h2.app (.one h3)) _ .non⟩
    · cases h4)
theorem sv_popAt (hv : PE X (.Name x p1) (tVar j)) (he : SV X e m) (hbase : attributeBase (.Name x p1) "pop" X.env (eval (.Name x p1) X.env) = eval (.Name x p1) X.env := by rfl)
    (hfew : ((backTo pos (starEach (e :: []) X.env)).all (fun x => !x.1) && (backToKw pos (keywordEach [] X.env)).all (fun x => x.1.isSome) && decide ((e :: []).length + ([] : List Keyword).length + (if ([] : List Keyword).isEmpty then 0 else 1) < 30)) = true := by rfl)
    (hline : (p2.endLine == pos.line) = true := by rfl) (hs : starEach (e :: []) X.env = (false, eval e X.env) :: starEach [] X.env := by rfl) : SV X (.Call (.Attribute (.Name x p1) "pop" p2) [e] [] pos) (mM1 j fPopAt m) := fun W tk =>
  pe_imp (pe_bm PySem.F.plainAttrs_list PySem.F.slot_list_pop PySem.F.type_list_pop mt_popAt hv (pa_cons (he W tk) pa_nil hs) hbase hfew hline hs) (tm_m1 fun {S H a vs ds ds' x y o Q} h1 h2 h3 h4 q => by
    cases y with
    | int i =>
      have h5 : (if (decide (-(2 ^ 62) ≤ i) && decide (i < 2 ^ 62)) = true then (seqIndex? i ds.length).bind fun n => (ds[n]?).bind fun d => some (d, ds.eraseIdx n) else none) = some (o, ds') := h4
      split at h5
      · rename_i hz
        simp only [Bool.and_eq_true, decide_eq_true_eq] at hz
        cases en : seqIndex? i ds.length with
        | none => simp [en] at h5
        | some n =>
          cases ed : ds[n]? with
          | none => simp [en, ed] at h5
          | some d =>
            simp only [en, ed, Option.bind_some] at h5
            cases h5
            cases h3
            obtain ⟨v, ev, rv⟩ := h2.get ed
            exact ⟨a, vs, i, n, v, rfl, rfl, h1, by omega, by omega, by rw [h2.len]; exact en, ev, q _ (h2.erase n) _ rv⟩
      · cases h5
    | _ => cases h4)
theorem sv_pop (hv : PE X (.Name x p1) (tVar j)) (hbase : attributeBase (.Name x p1) "pop" X.env (eval (.Name x p1) X.env) = eval (.Name x p1) X.env := by rfl) (hline : (p2.endLine == pos.line) = true := by rfl) :
    SV X (.Call (.Attribute (.Name x p1) "pop" p2) [] [] pos) (mM0 j fPop) := fun W tk =>
  pe_imp (pe_bm0 PySem.F.plainAttrs_list PySem.F.slot_list_pop PySem.F.type_list_pop mt_pop hv hbase hline) (tm_m0 fun {S H a vs ds ds' o Q} h1 h2 h4 q => by
    unfold fPop at h4
    cases ed : ds[ds.length - 1]? with
    | none => simp [ed] at h4
    | some d =>
      simp only [ed, Option.bind_some] at h4
      cases h4
      obtain ⟨v, ev, rv⟩ := h2.get ed
      exact ⟨a, vs, v, rfl, rfl, h1, by rw [h2.len]; exact ev, q _ h2.dropLast _ rv⟩)
end
/-! xs[i] = e -/
def fSetIx (i x : D) (ds : List D) : Option (Unit × List D) := match i with
  | .int k => (ixN ds.length k).bind fun n => some ((), ds.set n x)
  | _ => none
def mSetIx (j : Nat) (mx mi : M D) : MS := mThen mx fun x env => if isL env[j]? then mThen mi (fun i env => (chg j (onL (fSetIx i x)) env).bind fun p => some (.nx p.2)) env else none
theorem isL_some {K : PySem.W.Frag} {mg : Str → Option Value} {env : Env} {σ : St} {S H : Hp} {j : Nat} (r : Rel K mg env σ S H) (hl : isL env[j]? = true) : ∃ a vs, σ[j]? = some (some (.ref a)) ∧ H a = some (.lst vs) := by
  unfold isL at hl
  cases hj : env[j]? with
  | none => simp [hj] at hl
  | some s =>
    simp only [hj] at hl
    cases hm : s.mut with
    | none => simp [hm] at hl
    | some d =>
      obtain ⟨a, ho, e1, e2, e3, e4⟩ := (r.sl j s hj).mut hm
      cases e4 with
      | lst _ => exact ⟨a, _, e1, e3⟩
      | dct _ _ _ => simp [hm] at hl
      | ins _ _ _ _ => simp [hm] at hl
theorem ss_setIx {j : Nat} {x : Str} {i e : Expr} {mx mi : M D} {p1 p2 pos : Pos} (he : SV X e mx) (hv : PE X (.Name x p1) (tVar j)) (hi : SV X i mi)
    (ha : ∀ v, assign (.Subscript (.Name x p1) i p2) X.env v = (do
      let ov ← holding [v] (eval (.Name x p1) X.env)
      let iv ← holding [v, ov] (eval i X.env)
      standAt p2
      holding [v, ov, iv] (setItem ov iv v)
      release [v, ov, iv] []) := by intro _; rfl)
    (hs : swapsWithSole [.Subscript (.Name x p1) i p2] e pos.line X.env = pure false := by rfl) (hw : swappedStores [.Subscript (.Name x p1) i p2] e X.env = pure none := by rfl)
    (h1 : (assignEach [.Subscript (.Name x p1) i p2] X.env).map (·.2) = [assign (.Subscript (.Name x p1) i p2) X.env] := by rfl) : SS X (.Assign [.Subscript (.Name x p1) i p2] e pos) (mSetIx j mx mi) := fun W tk =>
  ps_imp (ps_asg (he W tk) (pg_sub hv (hi W tk) set_list ha) hs hw h1) fun E σ H ⟨env, S, r, g⟩ =>
  g.part r fun v H1 env1 S1 x st ra g1 _ => by
    dsimp only [GoS] at g1
    by_cases hl : isL env1[j]? = true
    · rw [if_pos hl] at g1
      obtain ⟨a, vs, e1, e2⟩ := isL_some st.rel hl
      refine ⟨.ref a, e1, GoS.part st.rel g1 fun w H2 env2 S2 i st2 rb g2 _ => ?_⟩
      dsimp only [GoS] at g2
      cases hc : chg j (onL (fSetIx i x)) env2 with
      | none => exact (show False by simpa [hc, PostS] using g2).elim
      | some p =>
        obtain ⟨o, env3⟩ := p
        simp only [hc, Option.bind_some] at g2
        obtain ⟨s, d, d', k1, k2, k3, rfl⟩ := chg_some hc
        obtain ⟨ds, ds', rfl, k4, rfl⟩ := onL_some k3
        obtain ⟨a', ho, q1, q2, q3, q4⟩ := (st2.rel.sl j s k1).mut k2
        rw [e1] at q1
        cases q1
        cases q4 with
        | lst r1 =>
          cases i with
          | int k =>
            cases rb
            cases en : ixN ds.length k with
            | none => simp [fSetIx, en] at k4
            | some n =>
              simp only [fSetIx, en, Option.bind_some] at k4
              cases k4
              refine ⟨a, _, k, n, rfl, rfl, q3, by rw [r1.len]; exact en, ?_⟩
              exact g2 σ S2 _ ((Step.refl st2.rel).change k1 k2 e1 (.lst (r1.set (Rp.mono st2.ext ra) n)))
          | _ => cases k4
    · rw [if_neg hl] at g1
      exact g1.elim
end Z
end

section
set_option Elab.async false
set_option linter.all false
set_option maxRecDepth 100000
set_option autoImplicit false
/-! Loops, comprehensions. -/
namespace Z
open PySem
open L2 hiding XE Takes CX passes_call takes_of passAt PMk MkP ps_raise mk_of ps_try_as ps_try_many pmk_own XE.of_call XE.new XE.leave Takes.imp Sky.land
open L2N (Takes CX takes_of passAt PMk MkP ps_raise)
variable {X : Cx}

/-! ### what is walked -/
def Yields (K : PySem.W.Frag) (mg : Str → Option Value) (S1 : Hp) (ds : List D) (Y : Nat → Hp → V → Hp → Prop) : Prop :=
  ∀ (i : Nat) (H : Hp) (x : V) (H' : Hp), i < ds.length → Y i H x H' → ∀ (env : Env) (σ : St) (S' : Hp), Rel K mg env σ S' H → Same S1 S' → ∃ S'' d, Step K mg env σ S' H env σ S'' H' ∧ ds[i]? = some d ∧ Rp K mg S'' x d
def tI (K : PySem.W.Frag) (mg : Str → Option Value) (W : WX) (m : M (List D)) : TI := fun σ H R => ∃ env S, Rel K mg env σ S H ∧ (match m env with
  | none => False
  | some (.ok ds env1) => ∀ (J : It) (G : Hp → Prop) (Y : Nat → Hp → V → Hp → Prop) (S1 H1 : Hp), Step K mg env σ S H env1 σ S1 H1 → Walk J ds.length G Y → (∀ S' H', Same S1 S' → Same S' H' → G H') → Yields K mg S1 ds Y → R J H1
  | some (.ex c ns ds env1) => ∀ C d fv S' H', mg c = some (.ref C) → Step K mg env σ S H env1 σ S' H' → S' d = some (.xd fv) → fv.map (·.1) = ns → RpA K mg S' (fv.map (·.2)) ds → W (.ref C) (some d) σ H')
def SI (X : Cx) (tg iter : Expr) (m : M (List D)) : Prop := ∀ W, Takes X W → PI X tg iter (tI X.K X.mg W m)
theorem pi_imp {tg it : Expr} {t t' : TI} (h : PI X tg it t) (i : ∀ σ H R, t' σ H R → t σ H R) : PI X tg it t' := ⟨fun pins s σ H R I q => h.run pins s σ H R I (i σ H R q)⟩
theorem pi_or {tg it : Expr} {t t' : TI} (h : PI X tg it t) (h' : PI X tg it t') : PI X tg it (fun σ H R => t σ H R ∨ t' σ H R) := ⟨fun pins s σ H R I q => q.elim (h.run pins s σ H R I) (h'.run pins s σ H R I)⟩
/-- the same of a value, its parts walked -/
def mIt (f : D → Option (List D)) (m : M D) : M (List D) := m.bind fun d => M.of fun _ => f d
theorem tI_of {W : WX} {f : D → Option (List D)} {m : M D} {σ : St} {H : Hp} {R : It → Hp → Prop} {te : TI}
    (hok : ∀ env S d ds env1, Rel X.K X.mg env σ S H → m env = some (.ok d env1) → f d = some ds →
      (∀ (J : It) (G : Hp → Prop) (Y : Nat → Hp → V → Hp → Prop) (S1 H1 : Hp), Step X.K X.mg env σ S H env1 σ S1 H1 → Walk J ds.length G Y → (∀ S' H', Same S1 S' → Same S' H' → G H') → Yields X.K X.mg S1 ds Y → R J H1) → te σ H R)
    (hex : ∀ env S c ns ds env1, Rel X.K X.mg env σ S H → m env = some (.ex c ns ds env1) → (∀ C d fv S' H', X.mg c = some (.ref C) → Step X.K X.mg env σ S H env1 σ S' H' → S' d = some (.xd fv) → fv.map (·.1) = ns → RpA X.K X.mg S' (fv.map (·.2)) ds → W (.ref C) (some d) σ H') → te σ H R)
    (h : tI X.K X.mg W (mIt f m) σ H R) : te σ H R := by
  obtain ⟨env, S, rl, g⟩ := h
  unfold mIt M.bind M.of at g
  cases hm : m env with
  | none => simp only [hm] at g
  | some x =>
    cases x with
    | ex c ns ds env1 =>
      simp only [hm] at g
      exact hex env S c ns ds env1 rl hm g
    | ok d env1 =>
      simp only [hm] at g
      cases hf : f d with
      | none => simp only [hf] at g
      | some ds =>
        simp only [hf] at g
        exact hok env S d ds env1 rl hm hf g
theorem go_ok {W : WX} {m : M D} {env env1 : Env} {σ : St} {S H : Hp} {d : D} {Q : V → Hp → Prop} (rl : Rel X.K X.mg env σ S H) (hm : m env = some (.ok d env1)) (h : ∀ v S1 H1, Step X.K X.mg env σ S H env1 σ S1 H1 → Rp X.K X.mg S1 v d → Q v H1) : tM X.K X.mg W (RD X.K X.mg) m σ H Q := by
  refine ⟨env, S, rl, ?_⟩
  unfold Go
  simp only [hm]
  exact h
theorem go_ex {W : WX} {m : M D} {env env1 : Env} {σ : St} {S H : Hp} {c : Str} {ns : List Str} {ds : List D} {Q : V → Hp → Prop} (rl : Rel X.K X.mg env σ S H) (hm : m env = some (.ex c ns ds env1))
    (h : ∀ C d fv S' H', X.mg c = some (.ref C) → Step X.K X.mg env σ S H env1 σ S' H' → S' d = some (.xd fv) → fv.map (·.1) = ns → RpA X.K X.mg S' (fv.map (·.2)) ds → W (.ref C) (some d) σ H') : tM X.K X.mg W (RD X.K X.mg) m σ H Q := by
  refine ⟨env, S, rl, ?_⟩
  unfold Go
  simp only [hm]
  exact h
theorem yields_at {S1 : Hp} {vs : List V} {ds : List D} (r : RpA X.K X.mg S1 vs ds) : Yields X.K X.mg S1 ds (YAt vs) := fun i H x H' hi ⟨e, hx⟩ env σ S' rl sm => by
  subst e
  obtain ⟨d, e1, e2⟩ := r.getV hx
  exact ⟨S', d, Step.refl rl, e1, e2.mono sm⟩
def items : D → Option (List D)
  | .lst ds => some ds
  | .tup ds => some ds
  | _ => none
theorem si_seq {tg e : Expr} {m : M D} (h : SV X e m) : SI X tg e (mIt items m) := fun W tk =>
  pi_imp (pi_or (pi_list (h W tk)) (pi_tup (h W tk))) fun σ H R q => tI_of (te := fun σ H R => iList X.K (tM X.K X.mg W (RD X.K X.mg) m) σ H R ∨ iTup X.K (tM X.K X.mg W (RD X.K X.mg) m) σ H R) (fun env S d ds env1 rl hm hf g => by
    cases d with
    | lst es =>
      cases hf
      refine .inl (go_ok rl hm fun v S1 H1 st rv => ?_)
      cases rv with
      | lst a b =>
        refine ⟨_, rfl, ⟨_, .of (st.rel.sub _ _ a)⟩, g _ _ _ S1 H1 st (by rw [← b.len]; exact walk_list (K := X.K)) (fun S' H' s1 s2 => SqL.of (K := X.K) (s2 _ _ (s1 _ _ a))) (yields_at b)⟩
    | tup es =>
      cases hf
      refine .inr (go_ok rl hm fun v S1 H1 st rv => ?_)
      cases rv with
      | tup a b =>
        refine ⟨_, rfl, ⟨_, same_tup st.rel.sub a⟩, g _ _ _ S1 H1 st (by rw [← b.len]; exact walk_tup (K := X.K)) (fun S' H' s1 s2 => same_tup s2 (same_tup s1 a)) (yields_at b)⟩
    | _ => cases hf) (fun env S c ns ds env1 rl hm g => .inl (go_ex rl hm g)) q
/-- 0, 1, .. below n -/
def rng (n : Nat) : List D := (List.range n).map fun i => D.int (i : Nat)
theorem rng_len (n : Nat) : (rng n).length = n := by unfold rng; rw [List.length_map, List.length_range]
def okR (i : Int) : Bool := decide (-(2 ^ 61) ≤ i) && decide (i < 2 ^ 61)
theorem okR_of {i : Int} (h : okR i = true) : -(2 ^ 62) ≤ i ∧ i < 2 ^ 62 := by
  unfold okR at h
  simp only [Bool.and_eq_true, decide_eq_true_eq] at h
  omega
def itR1 : D → Option (List D)
  | .int i => if okR i then some (rng i.toNat) else none
  | _ => none
theorem yields_rng {S1 : Hp} {lo : Int} {ds : List D} (h : ∀ i, i < ds.length → ds[i]? = some (.int (lo + (i : Nat)))) : Yields X.K X.mg S1 ds (YFn fun i => .int (lo + (i : Nat))) := fun i H x H' hi ⟨e, hx⟩ env σ S' rl sm => by
  subst e
  subst hx
  exact ⟨S', _, Step.refl rl, h i hi, .int _⟩
theorem si_range1 {tg a : Expr} {m : M D} {p pos : Pos} (h : SV X a m) (hm : X.mg "range" = none) (hg : Gl X "range" := by rfl) (he : starEach [a] X.env = (false, eval a X.env) :: starEach [] X.env := by rfl) (hs : starEach [a] X.env = [(false, eval a X.env)] := by rfl) : SI X tg (.Call (.Name "range" p) [a] [] pos) (mIt itR1 m) := fun W tk =>
  pi_imp (pi_range1 hg hm (pa_cons (h W tk) pa_nil he) hs) fun σ H R q => tI_of (te := iRng1 (tCons (tM X.K X.mg W (RD X.K X.mg) m) tNil)) (fun env S d ds env1 rl hm hf g => by
    cases d with
    | int i =>
      have hf' : (if okR i = true then some (rng i.toNat) else none) = some ds := hf
      split at hf'
      · rename_i hc
        cases hf'
        obtain ⟨b1, b2⟩ := okR_of hc
        refine go_ok rl hm fun v S1 H1 st rv => ?_
        cases rv
        refine ⟨i, rfl, b1, b2, g _ _ _ S1 H1 st (by rw [rng_len]; exact walk_range) (fun _ _ _ _ => trivial) (yields_rng fun i hi => ?_)⟩
        rw [rng_len] at hi
        unfold rng
        rw [List.getElem?_map, List.getElem?_range hi, Int.zero_add]
        rfl
      · cases hf'
    | _ => cases hf) (fun env S c ns ds env1 rl hm g => go_ex rl hm g) q

/-! ### targets -/
abbrev TgM := D → Env → Option Env
/-- nothing but the slots js is another -/
def But (js : List Nat) (σ σ' : St) : Prop := σ'.length = σ.length ∧ ∀ i, i ∉ js → σ'[i]? = σ[i]?
def tG (K : PySem.W.Frag) (mg : Str → Option Value) (t : TgM) (js : List Nat) : TG := fun v σ H Q => ∃ env S d env', Rel K mg env σ S H ∧ Rp K mg S v d ∧ t d env = some env' ∧ ∀ σ' S' H', Step K mg env σ S H env' σ' S' H' → But js σ σ' → Q σ' H'
def SG (X : Cx) (tg : Expr) (t : TgM) (js : List Nat) : Prop := PG X tg (tG X.K X.mg t js)
theorem pg_imp {tg : Expr} {t t' : TG} (h : PG X tg t) (i : ∀ v σ H Q, t' v σ H Q → t v σ H Q) : PG X tg t' := ⟨fun pins s σ H v u Q I r q => h.run pins s σ H v u Q I r (i v σ H Q q)⟩
def gN (j : Nat) : TgM := fun d env => setSl j (.v d) env
theorem sg_name {j : Nat} {x : Str} {pos : Pos} (hN : X.N.Nodup) (hi : X.N[j]? = some x) (hx : Loc X.env.scope x) (hf : X.fn x = true ∨ X.env.scope.names.lookup x = some .local) : SG X (.Name x pos) (gN j) [j] :=
  pg_imp (pg_name hN hi hx hf) fun v σ H Q ⟨env, S, d, env', r, rv, e, q⟩ => by
    obtain ⟨c1, c2, rfl⟩ := setSl_some e
    exact q _ S H ((Step.refl r).assign c1 c2 ⟨v, rfl, rv⟩ fun _ z => by cases z) ⟨List.length_set .., fun i hi => List.getElem?_set_ne (fun z => hi (by rw [z]; exact List.mem_singleton.mpr rfl))⟩
/-- a, b, .. = a tuple -/
abbrev TgsM := List D → Env → Option Env
def tGs (K : PySem.W.Frag) (mg : Str → Option Value) (t : TgsM) (js : List Nat) : TGs := fun vs σ H Q => ∃ env S ds env', Rel K mg env σ S H ∧ RpA K mg S vs ds ∧ t ds env = some env' ∧ ∀ σ' S' H', Step K mg env σ S H env' σ' S' H' → But js σ σ' → Q σ' H'
def SGs (X : Cx) (tgs : List Expr) (t : TgsM) (js : List Nat) : Prop := PGs X tgs (tGs X.K X.mg t js)
theorem pgs_imp {tgs : List Expr} {t t' : TGs} (h : PGs X tgs t) (i : ∀ v σ H Q, t' v σ H Q → t v σ H Q) : PGs X tgs t' := ⟨fun pins s σ H v u Q I r q => h.run pins s σ H v u Q I r (i v σ H Q q)⟩
def gsNil : TgsM := fun ds env => match ds with
  | [] => some env
  | _ => none
def gsCons (t : TgM) (u : TgsM) : TgsM := fun ds env => match ds with
  | d :: ds => (t d env).bind fun env1 => u ds env1
  | [] => none
theorem sgs_nil : SGs X [] gsNil [] := pgs_imp pgs_nil fun vs σ H Q ⟨env, S, ds, env', r, rv, e, q⟩ => by
  cases ds with
  | nil =>
    cases e
    cases rv
    exact ⟨rfl, q σ S H (Step.refl r) ⟨rfl, fun _ _ => rfl⟩⟩
  | cons d ds => cases e
theorem sgs_cons {e : Expr} {es : List Expr} {t : TgM} {u : TgsM} {is js : List Nat} (h1 : SG X e t is) (h2 : SGs X es u js) (hs : (assignEach (e :: es) X.env).map (·.2) = assign e X.env :: (assignEach es X.env).map (·.2) := by rfl) : SGs X (e :: es) (gsCons t u) (is ++ js) :=
  pgs_imp (pgs_cons h1 h2 hs) fun vs σ H Q ⟨env, S, ds, env', r, rv, e, q⟩ => by
    cases ds with
    | nil => cases e
    | cons d ds =>
      cases rv with
      | cons rv rvs =>
        have e' : (t d env).bind (fun env1 => u ds env1) = some env' := e
        cases e1 : t d env with
        | none => simp [e1] at e'
        | some env1 =>
          simp only [e1, Option.bind_some] at e'
          exact ⟨_, _, rfl, env, S, d, env1, r, rv, e1, fun σ1 S1 H1 st b1 => ⟨env1, S1, ds, env', st.rel, rvs.mono st.ext, e', fun σ2 S2 H2 st2 b2 => q σ2 S2 H2 (st.trans st2) ⟨b2.1.trans b1.1, fun i hi => (b2.2 i fun z => hi (List.mem_append_right _ z)).trans (b1.2 i fun z => hi (List.mem_append_left _ z))⟩⟩⟩
def gT (t : TgsM) : TgM := fun d env => match d with
  | .tup ds => t ds env
  | _ => none
theorem sg_tup {es : List Expr} {k : Nat} {t : TgsM} {js : List Nat} {n : Nat} {pos : Pos} (hc : X.calm = true) (h : SGs X es t js) (ht : ∀ ds env env', t ds env = some env' → ds.length = n) (hn : (assignEach es X.env).length = n := by rfl) (hst : (assignEach es X.env).findIdx? (·.1) = none := by rfl) : SG X (.Tuple es k pos) (gT t) js :=
  pg_imp (pg_tup hc h hn hst) fun v σ H Q ⟨env, S, d, env', r, rv, e, q⟩ => by
    cases d with
    | tup ds =>
      cases rv with
      | tup a b => exact ⟨_, _, rfl, same_tup r.sub a, by rw [b.len]; exact ht ds env env' e, env, S, ds, env', r, b, e, q⟩
    | _ => cases e
theorem gs2_len {t u : TgM} {ds : List D} {env env' : Env} (h : gsCons t (gsCons u gsNil) ds env = some env') : ds.length = 2 := by
  cases ds with
  | nil => cases h
  | cons a ds =>
    unfold gsCons at h
    cases e1 : t a env with
    | none => simp [e1] at h
    | some env1 =>
      simp only [e1, Option.bind_some] at h
      cases ds with
      | nil => cases h
      | cons b ds =>
        dsimp only at h
        cases e2 : u b env1 with
        | none => simp [e2] at h
        | some env2 =>
          simp only [e2, Option.bind_some] at h
          cases ds with
          | nil => rfl
          | cons c ds => cases h
/-- a target = a value, the value unpacked -/
def mUnp (t : TgM) (m : M D) : MS := mThen m fun d env => (t d env).bind fun env' => some (.nx env')
theorem ss_unp {tg e : Expr} {m : M D} {t : TgM} {js : List Nat} {pos : Pos} (he : SV X e m) (hg : SG X tg t js) (hs : swapsWithSole [tg] e pos.line X.env = pure false := by rfl) (hw : swappedStores [tg] e X.env = pure none := by rfl)
    (h1 : (assignEach [tg] X.env).map (·.2) = [assign tg X.env] := by rfl) : SS X (.Assign [tg] e pos) (mUnp t m) := fun W tk => ps_imp (ps_asg (he W tk) hg hs hw h1) fun E σ H ⟨env, S, r, g⟩ =>
  g.part r fun v H1 env1 S1 d st ra g1 g2 => by
    dsimp only [GoS] at g1
    cases e1 : t d env1 with
    | none => exact (show False by simpa [e1, PostS] using g1).elim
    | some env2 =>
      simp only [e1, Option.bind_some] at g1
      exact ⟨env1, S1, d, env2, st.rel, ra, e1, fun σ' S' H' st' _ => g1 σ' S' H' st'⟩

/-! ### for -/
def forL (t : TgM) (b : MS) : List D → MS
  | [] => fun env => some (.nx env)
  | d :: ds => fun env => match t d env with
    | none => none
    | some env1 => match b env1 with
      | some (.nx env2) => forL t b ds env2
      | some (.ct env2) => forL t b ds env2
      | some (.bk env2) => some (.nx env2)
      | o => o
def mFor (it : M (List D)) (t : TgM) (b : MS) : MS := mThen it fun ds => forL t b ds
theorem ss_for {tg iter : Expr} {body : List Stmt} {it : M (List D)} {t : TgM} {js : List Nat} {b : MS} {pos : Pos} (hp : PassesOwn (model X.prog X.w) X.A X.env X.xe) (hc : X.calm = true) (hi : SI X tg iter it) (hg : SG X tg t js) (hb : SSs X body b)
    (hs : ∀ x, foldedSetIterable iter X.env x = pure x := by intro _; rfl) : SS X (.For tg iter body [] pos) (mFor it t b) := fun W tk => ps_imp (ps_for hp hc (hi W tk) hg (hb W tk) hs) fun E σ H ⟨env, S, r, g⟩ => by
  refine ⟨env, S, r, ?_⟩
  dsimp only [GoS] at g
  unfold mFor mThen at g
  cases hm : it env with
  | none => simp only [hm] at g; exact g
  | some x =>
    cases x with
    | ex c ns ds e =>
      simp only [hm] at g
      exact fun C d fv S' H' hc st => g C d fv σ S' H' hc st
    | ok ds env1 =>
      simp only [hm] at g
      intro J G Y S1 H1 st wk hG hY
      refine for_it wk (fun i σ' H' => ∃ env' S', Step X.K X.mg env σ S H env' σ' S' H' ∧ Same S1 S' ∧ PostS X.K X.mg W (forL t b (ds.drop i) env') env σ S H E) ⟨env1, S1, st, Same.refl S1, g⟩ (fun i σ' H' _ ⟨env', S', st', sm, _⟩ => hG S' H' sm st'.rel.sub) (fun i x σ' H' H'' hi ⟨env', S', st', sm, g'⟩ y => ?_) (fun σ' H' ⟨env', S', st', sm, g'⟩ => ?_)
      · obtain ⟨S'', d, st2, ed, rd⟩ := hY i H' x H'' hi y env' σ' S' st'.rel sm
        have hd : ds.drop i = d :: ds.drop (i + 1) := by
          obtain ⟨h1, h2⟩ := List.getElem?_eq_some_iff.mp ed
          rw [← h2, List.drop_eq_getElem_cons h1]
        rw [hd] at g'
        unfold forL at g'
        cases et : t d env' with
        | none => simp only [et] at g'; exact g'.elim
        | some env2 =>
          simp only [et] at g'
          have st3 := st'.trans st2
          refine ⟨env', S'', d, env2, st2.rel, rd, et, fun σ2 S2 H2 st4 _ => ?_⟩
          have st5 := st3.trans st4
          refine ⟨env2, S2, st5.rel, ?_⟩
          dsimp only [GoS]
          have sm2 : Same S1 S2 := sm.trans (st2.ext.trans st4.ext)
          cases eb : b env2 with
          | none => simp only [eb] at g'; exact g'.elim
          | some o =>
            cases o with
            | nx e => simp only [eb] at g'; exact fun σ6 S6 H6 st6 => ⟨e, S6, st5.trans st6, sm2.trans st6.ext, g'⟩
            | ct e => simp only [eb] at g'; exact fun σ6 S6 H6 st6 => ⟨e, S6, st5.trans st6, sm2.trans st6.ext, g'⟩
            | bk e => simp only [eb] at g'; exact fun σ6 S6 H6 st6 => g' σ6 S6 H6 (st5.trans st6)
            | rt rr e => simp only [eb] at g'; exact PostS.from (o := some (.rt rr e)) st5 g'
            | ex c ns es e => simp only [eb] at g'; exact PostS.from (o := some (.ex c ns es e)) st5 g'
      · rw [List.drop_length] at g'
        exact g' σ' S' H' st'

/-! ### while -/
def whL (t : M Bool) (b : MS) : Nat → MS
  | 0 => fun _ => none
  | n + 1 => fun env => match t env with
    | none => none
    | some (.ok true env1) => (match b env1 with
      | some (.nx env2) => whL t b n env2
      | some (.ct env2) => whL t b n env2
      | some (.bk env2) => some (.nx env2)
      | o => o)
    | some (.ok false env1) => some (.nx env1)
    | some (.ex c ns vs e) => some (.ex c ns vs e)
theorem ss_while {c : Expr} {body : List Stmt} {t : M Bool} {b : MS} {n : Nat} {pos : Pos} (hp : PassesOwn (model X.prog X.w) X.A X.env X.xe) (hc : ST X c t) (hb : SSs X body b) : SS X (.While c body [] pos) (whL t b n) := fun W tk => ps_imp (ps_while hp (hc W tk) (hb W tk)) fun E σ H ⟨env, S, r, g⟩ => by
  refine ⟨fun m σ' H' => ∃ env' S', Step X.K X.mg env σ S H env' σ' S' H' ∧ PostS X.K X.mg W (whL t b m env') env σ S H E, ⟨n, env, S, Step.refl r, g⟩, fun m σ' H' ⟨env', S', st, g'⟩ => ?_⟩
  cases m with
  | zero => exact g'.elim
  | succ m =>
    refine ⟨env', S', st.rel, ?_⟩
    unfold whL at g'
    unfold Go
    cases ht : t env' with
    | none => simp only [ht] at g'; exact g'
    | some x =>
      cases x with
      | ex c ns vs e => simp only [ht] at g'; exact fun C d fv S1 H1 hc st1 => (PostS.from (o := some (.ex c ns vs e)) st g') C d fv σ' S1 H1 hc st1
      | ok v env1 =>
        intro v' S1 H1 st1 ev
        have ev' : v' = v := ev
        subst ev'
        have st2 := st.trans st1
        cases v' with
        | false =>
          simp only [ht] at g'
          exact g' σ' S1 H1 st2
        | true =>
          simp only [ht] at g'
          rw [if_pos rfl]
          refine ⟨fun σ3 H3 => ∃ env3 S3, Step X.K X.mg env σ S H env3 σ3 S3 H3 ∧ PostS X.K X.mg W (whL t b m env3) env σ S H E, fun σ3 H3 q => ⟨m, Nat.lt_succ_self m, q⟩, env1, S1, st2.rel, ?_⟩
          dsimp only [GoS]
          cases eb : b env1 with
          | none => simp only [eb] at g'; exact g'.elim
          | some o =>
            cases o with
            | nx e => simp only [eb] at g'; exact fun σ6 S6 H6 st6 => ⟨e, S6, st2.trans st6, g'⟩
            | ct e => simp only [eb] at g'; exact fun σ6 S6 H6 st6 => ⟨e, S6, st2.trans st6, g'⟩
            | bk e => simp only [eb] at g'; exact fun σ6 S6 H6 st6 => g' σ6 S6 H6 (st2.trans st6)
            | rt rr e => simp only [eb] at g'; exact PostS.from (o := some (.rt rr e)) st2 g'
            | ex c ns es e => simp only [eb] at g'; exact PostS.from (o := some (.ex c ns es e)) st2 g'
end Z
end

section
set_option Elab.async false
set_option linter.all false
set_option maxRecDepth 100000
set_option autoImplicit false
/-! List comprehensions. -/
namespace Z
open PySem
open L2 hiding XE Takes CX passes_call takes_of passAt PMk MkP ps_raise mk_of ps_try_as ps_try_many pmk_own XE.of_call XE.new XE.leave Takes.imp Sky.land
open L2N (Takes CX takes_of passAt PMk MkP ps_raise)
variable {X : Cx}

/-- the slots of a block's own names, empty -/
def clr (env : Env) : List Nat → Env
  | [] => env
  | v :: vs => (clr env vs).set v .no
theorem clr_len (env : Env) : ∀ vs, (clr env vs).length = env.length
  | [] => rfl
  | v :: vs => by unfold clr; rw [List.length_set, clr_len env vs]
theorem clr_out {env : Env} {i : Nat} : ∀ {vs : List Nat}, i ∉ vs → (clr env vs)[i]? = env[i]?
  | [], _ => rfl
  | v :: vs, h => by
    rw [List.mem_cons, not_or] at h
    unfold clr
    rw [List.getElem?_set_ne (fun z => h.1 z.symm)]
    exact clr_out h.2
theorem clr_in {env : Env} {i : Nat} {s : Sl} : ∀ {vs : List Nat}, i ∈ vs → (clr env vs)[i]? = some s → s = .no
  | v :: vs, h, e => by
    unfold clr at e
    by_cases hv : v = i
    · subst hv
      rw [List.getElem?_set] at e
      simp only [if_true] at e
      split at e
      · cases e; rfl
      · cases e
    · rw [List.getElem?_set_ne hv] at e
      rcases List.mem_cons.mp h with z | z
      · exact absurd z.symm hv
      · exact clr_in z e
theorem wipe_out {σ : St} {i : Nat} : ∀ {vs : List Nat}, i ∉ vs → (wipe σ vs)[i]? = σ[i]?
  | [], _ => rfl
  | v :: vs, h => by
    rw [List.mem_cons, not_or] at h
    unfold wipe
    rw [List.getElem?_set_ne (fun z => h.1 z.symm)]
    exact wipe_out h.2
section
variable {K : PySem.W.Frag} {mg : Str → Option Value} {env env0 env1 : Env} {σ σ0 σ1 : St} {S S0 S1 H H0 H1 : Hp} {vs : List Nat}
theorem own_clr {i : Nat} {q : Addr} (h : OwnAt (clr env vs) (wipe σ vs) i q) : i ∉ vs ∧ OwnAt env σ i q := by
  obtain ⟨⟨s, d, e, m⟩, hq⟩ := h
  have hi : i ∉ vs := fun z => by
    rw [clr_in z e] at m
    cases m
  rw [clr_out hi] at e
  rw [wipe_out hi] at hq
  exact ⟨hi, ⟨s, d, e, m⟩, hq⟩
theorem Rel.wipe (r : Rel K mg env σ S H) (vs : List Nat) : Rel K mg (clr env vs) (L2.wipe σ vs) S H := by
  refine ⟨by rw [L2.wipe_length, clr_len]; exact r.len, r.sub, fun i s e => ?_, fun i j q h1 h2 => r.inj i j q (own_clr h1).2 (own_clr h2).2⟩
  by_cases hi : i ∈ vs
  · rw [clr_in hi e]
    trivial
  · rw [clr_out hi] at e
    rw [wipe_out hi]
    exact r.sl i s e
/-- the block's slots emptied at a turn's end -/
theorem Step.clear (st : Step K mg env0 σ0 S0 H0 env σ S H) (hio : ∀ v ∈ vs, ∀ d, env0[v]? ≠ some (.io d)) : Step K mg env0 σ0 S0 H0 (clr env vs) (L2.wipe σ vs) S H :=
  ⟨st.rel.wipe vs, st.ext, st.frm, st.new, fun q ⟨i, h⟩ => st.own q ⟨i, (own_clr h).2⟩, fun i d e => by
    have hi : i ∉ vs := fun z => hio i z d e
    rw [clr_out hi, wipe_out hi]
    exact st.io i d e⟩
/-- the outer slots again -/
def unclr (env : Env) (env1 : Env) : List Nat → Env
  | [] => env1
  | v :: vs => match env[v]? with
    | some s => (unclr env env1 vs).set v s
    | none => unclr env env1 vs
theorem unclr_len : ∀ vs, (unclr env env1 vs).length = env1.length
  | [] => rfl
  | v :: vs => by
    unfold unclr
    cases env[v]? with
    | none => exact unclr_len vs
    | some s => show ((unclr env env1 vs).set v s).length = _; rw [List.length_set]; exact unclr_len vs
theorem unclr_out {i : Nat} : ∀ {vs : List Nat}, i ∉ vs → (unclr env env1 vs)[i]? = env1[i]?
  | [], _ => rfl
  | v :: vs, h => by
    rw [List.mem_cons, not_or] at h
    unfold unclr
    cases env[v]? with
    | none => exact unclr_out h.2
    | some s =>
      show ((unclr env env1 vs).set v s)[i]? = _
      rw [List.getElem?_set_ne (fun z => h.1 z.symm)]
      exact unclr_out h.2
theorem unclr_in {i : Nat} (hl : env1.length = env.length) : ∀ {vs : List Nat}, i ∈ vs → (unclr env env1 vs)[i]? = env[i]?
  | v :: vs, h => by
    unfold unclr
    by_cases hv : v = i
    · subst hv
      cases e : env[v]? with
      | none =>
        show (unclr env env1 vs)[v]? = none
        rw [List.getElem?_eq_none_iff] at e ⊢
        rw [unclr_len, hl]
        exact e
      | some s =>
        show ((unclr env env1 vs).set v s)[v]? = some s
        exact List.getElem?_set_self (by rw [unclr_len, hl]; exact (List.getElem?_eq_some_iff.mp e).1)
    · have hm : i ∈ vs := by
        rcases List.mem_cons.mp h with z | z
        · exact absurd z.symm hv
        · exact z
      cases e : env[v]? with
      | none => exact unclr_in hl hm
      | some s =>
        show ((unclr env env1 vs).set v s)[i]? = _
        rw [List.getElem?_set_ne hv]
        exact unclr_in hl hm
theorem Step.unwipe (r : Rel K mg env σ S H) (st : Step K mg (clr env vs) (L2.wipe σ vs) S H env1 (L2.wipe σ vs) S1 H1) : Step K mg env σ S H (unclr env env1 vs) σ S1 H1 := by
  have hl : env1.length = env.length := by
    have h1 := st.rel.len
    have h2 := r.len
    rw [L2.wipe_length] at h1
    omega
  -- what the outer slots in vs own stands apart of the block
  have apart : ∀ {i s d}, i ∈ vs → env[i]? = some s → s.mut = some d → ∃ a ho, σ[i]? = some (some (.ref a)) ∧ H a = some ho ∧ HoR K mg S ho d ∧ H1 a = some ho ∧ S1 a = none ∧ ¬ Own env1 (L2.wipe σ vs) a := fun {i s d} hi e m => by
    obtain ⟨a, ho, h1, h2, h3, h4⟩ := (r.sl i s e).mut m
    have no : ¬ Own (clr env vs) (L2.wipe σ vs) a := fun ⟨k, hk⟩ => by
      obtain ⟨nk, ok⟩ := own_clr hk
      exact nk (r.inj i k a ⟨⟨s, d, e, m⟩, h1⟩ ok ▸ hi)
    obtain ⟨x, y, z⟩ := st.apart h3 h2 no
    exact ⟨a, ho, h1, h3, h4, x, y, z⟩
  have at_ : ∀ i q, OwnAt (unclr env env1 vs) σ i q → (i ∈ vs ∧ OwnAt env σ i q) ∨ (i ∉ vs ∧ OwnAt env1 (L2.wipe σ vs) i q) := fun i q ⟨⟨s, d, e, m⟩, hq⟩ => by
    by_cases hi : i ∈ vs
    · rw [unclr_in hl hi] at e
      exact .inl ⟨hi, ⟨s, d, e, m⟩, hq⟩
    · rw [unclr_out hi] at e
      refine .inr ⟨hi, ⟨s, d, e, m⟩, ?_⟩
      rw [wipe_out hi]
      exact hq
  refine ⟨⟨by rw [unclr_len, hl]; exact r.len, st.rel.sub, fun i s e => ?_, fun i j q h1 h2 => ?_⟩, st.ext, fun q o e n => st.frm q o e fun ⟨k, hk⟩ => n ⟨k, (own_clr hk).2⟩, fun q o e => ?_, fun q ⟨i, h⟩ => ?_, fun i d e => ?_⟩
  · by_cases hi : i ∈ vs
    · rw [unclr_in hl hi] at e
      cases s with
      | no => trivial
      | v d =>
        obtain ⟨v, a, b⟩ := r.sl i _ e
        exact ⟨v, a, b.mono st.ext⟩
      | own d =>
        obtain ⟨a, ho, h1, h3, h4, h5, h6, _⟩ := apart hi e rfl
        exact ⟨a, ho, h1, h6, h5, h4.mono st.ext⟩
      | io d =>
        obtain ⟨a, ho, h1, h3, h4, h5, h6, _⟩ := apart hi e rfl
        exact ⟨a, ho, h1, h6, h5, h4.mono st.ext⟩
    · rw [unclr_out hi] at e
      have q := st.rel.sl i s e
      rw [wipe_out hi] at q
      exact q
  · rcases at_ i q h1 with ⟨i1, o1⟩ | ⟨i1, o1⟩
    · rcases at_ j q h2 with ⟨j1, o2⟩ | ⟨j1, o2⟩
      · exact r.inj i j q o1 o2
      · obtain ⟨⟨s, d, e, m⟩, hq⟩ := o1
        obtain ⟨a, ho, k1, _, _, _, _, k6⟩ := apart i1 e m
        rw [hq] at k1
        cases k1
        exact absurd ⟨j, o2⟩ k6
    · rcases at_ j q h2 with ⟨j1, o2⟩ | ⟨j1, o2⟩
      · obtain ⟨⟨s, d, e, m⟩, hq⟩ := o2
        obtain ⟨a, ho, k1, _, _, _, _, k6⟩ := apart j1 e m
        rw [hq] at k1
        cases k1
        exact absurd ⟨i, o1⟩ k6
      · exact st.rel.inj i j q o1 o2
  · rcases st.new q o e with h | h | ⟨k, hk⟩
    · exact .inl h
    · exact .inr (.inl h)
    · exact .inr (.inr ⟨k, (own_clr hk).2⟩)
  · rcases at_ i q h with ⟨_, o⟩ | ⟨_, o⟩
    · exact .inl ⟨i, o⟩
    · rcases st.own q ⟨i, o⟩ with ⟨k, hk⟩ | z
      · exact .inl ⟨k, (own_clr hk).2⟩
      · exact .inr z
  · refine ⟨rfl, ?_⟩
    by_cases hi : i ∈ vs
    · exact ⟨d, by rw [unclr_in hl hi]; exact e⟩
    · rw [unclr_out hi]
      have e' : (clr env vs)[i]? = some (.io d) := by rw [clr_out hi]; exact e
      exact (st.io i d e').2
/-- an object of nobody's is changed -/
theorem Step.poke (st : Step K mg env0 σ0 S0 H0 env σ S H) {p : Addr} (hp : H0 p = none) (hS : S p = none) (n : ¬ Own env σ p) {u : HO} : Step K mg env0 σ0 S0 H0 env σ S (upd H p u) := by
  refine ⟨⟨st.rel.len, fun b o e => ?_, fun i s e => ?_, st.rel.inj⟩, st.ext, fun q o e no => ?_, st.new, st.own, st.io⟩
  · have nb : b ≠ p := fun z => by
      subst z
      rw [hS] at e
      cases e
    rw [upd_ne nb]
    exact st.rel.sub b o e
  · have q := st.rel.sl i s e
    cases s with
    | no => trivial
    | v _ => exact q
    | own d =>
      obtain ⟨a, ho, h1, h2, h3, h4⟩ := q
      have na : a ≠ p := fun z => by subst z; exact n ⟨i, ⟨_, d, e, rfl⟩, h1⟩
      exact ⟨a, ho, h1, h2, by rw [upd_ne na]; exact h3, h4⟩
    | io d =>
      obtain ⟨a, ho, h1, h2, h3, h4⟩ := q
      have na : a ≠ p := fun z => by subst z; exact n ⟨i, ⟨_, d, e, rfl⟩, h1⟩
      exact ⟨a, ho, h1, h2, by rw [upd_ne na]; exact h3, h4⟩
  · have nq : q ≠ p := fun z => by
      subst z
      rw [hp] at e
      cases e
    rw [upd_ne nq]
    exact st.frm q o e no
end

/-! ### the comprehension -/
def lcL (t : TgM) (ts : M Bool) (el : M D) (vs : List Nat) : List D → List D → M (List D)
  | [], acc => fun env => some (.ok acc env)
  | d :: ds, acc => fun env => match t d env with
    | none => none
    | some env1 => match ts env1 with
      | some (.ok true env2) => (match el env2 with
        | some (.ok y env3) => if szOk acc.length then lcL t ts el vs ds (acc ++ [y]) (clr env3 vs) else none
        | _ => none)
      | some (.ok false env2) => lcL t ts el vs ds acc (clr env2 vs)
      | _ => none
def noIo (env : Env) (vs : List Nat) : Bool := vs.all fun v => !isIo env[v]?
def mLc (it : M (List D)) (t : TgM) (ts : M Bool) (el : M D) (vs : List Nat) : M Rs := fun env => match it env with
  | none => none
  | some (.ex c ns es e) => some (.ex c ns es e)
  | some (.ok ds env1) => if noIo env1 vs then (match lcL t ts el vs ds [] (clr env1 vs) with
    | some (.ok acc env2) => some (.ok (.fr (.lst acc)) (unclr env1 env2 vs))
    | _ => none) else none
def SIf (X : Cx) (ifs : List Expr) (m : M Bool) : Prop := ∀ W, Takes X W → PTs X ifs (tM X.K X.mg W RB m)
theorem sif_nil : SIf X [] (M.ret true) := fun W tk => ⟨fun pins s σ H Q I ⟨env, S, r, g⟩ => pts_nil.run pins s σ H Q I (g.ret (R := RB) r rfl)⟩
theorem sif_one {c : Expr} {m : M Bool} (h : ST X c m) : SIf X [c] m := fun W tk => pts_one (h W tk)
abbrev noW : WX := fun _ _ _ _ => False
theorem takes_blk {s : Shared} {H : Hp} {scope : Scope} {cenv : PySem.Env} {fp : List Addr} : Takes (X.blk s H scope cenv fp) noW := fun u s' ⟨_, _, _, _, _, _, _, _, _, _, _, _, _, _, _, _, w⟩ => w.elim
section
variable {elt tg iter : Expr} {ifs : List Expr} {scope : Scope} {own : List (Str × Nat)} {pos : Pos} {it : M (List D)} {t : TgM} {ts : M Bool} {el : M D}
/-- what the block's parts must show, at every start of the block -/
abbrev BlkG (X : Cx) (scope : Scope) (tg : Expr) (t : TgM) (js : List Nat) : Prop := ∀ (s : Shared) (H : Hp) (C : Addr) (cl : List (Str × Addr)) (fp : List Addr), SG (X.blk s H scope (compEnvC scope cl C X.env) fp) tg t js
abbrev BlkI (X : Cx) (scope : Scope) (ifs : List Expr) (m : M Bool) : Prop := ∀ (s : Shared) (H : Hp) (C : Addr) (cl : List (Str × Addr)) (fp : List Addr), SIf (X.blk s H scope (compEnvC scope cl C X.env) fp) ifs m
abbrev BlkV (X : Cx) (scope : Scope) (e : Expr) (m : M D) : Prop := ∀ (s : Shared) (H : Hp) (C : Addr) (cl : List (Str × Addr)) (fp : List Addr), SV (X.blk s H scope (compEnvC scope cl C X.env) fp) e m
theorem wipe_but {σ σ' : St} {vs : List Nat} (b : But vs (wipe σ vs) σ') : wipe σ' vs = wipe σ vs := by
  have hl : σ'.length = σ.length := by rw [b.1, wipe_length]
  apply List.ext_getElem?
  intro i
  by_cases hi : i ∈ vs
  · have e : ∀ τ : St, ∀ {us : List Nat}, i ∈ us → (wipe τ us)[i]? = if i < τ.length then some none else none := fun τ us => by
      induction us with
      | nil => intro h; cases h
      | cons u us ih =>
        intro h
        unfold wipe
        rw [List.getElem?_set, wipe_length]
        by_cases hu : u = i
        · subst hu
          rw [if_pos rfl]
        · rw [if_neg hu]
          rcases List.mem_cons.mp h with z | z
          · exact absurd z.symm hu
          · exact ih z
    rw [e σ' hi, e σ hi, hl]
  · rw [wipe_out hi, b.2 i hi]
theorem tm_lc {W : WX} {js : List Nat} (hj : ∀ j ∈ js, j ∈ own.map (·.2)) : ∀ σ H Q, tM X.K X.mg W (RR X.K X.mg) (mLc it t ts el (own.map (·.2))) σ H Q → tLc (tI X.K X.mg W it) (tG X.K X.mg t js) (tM X.K X.mg noW RB ts) (tM X.K X.mg noW (RD X.K X.mg) el) (own.map (·.2)) σ H Q := fun σ H Q ⟨env, S, r, g⟩ => by
  generalize own.map (·.2) = vs at g hj ⊢
  refine ⟨env, S, r, ?_⟩
  unfold Go mLc at g
  cases hm : it env with
  | none => simp only [hm] at g
  | some x =>
    cases x with
    | ex c ns ds e =>
      simp only [hm] at g
      exact g
    | ok ds env1 =>
      simp only [hm] at g
      intro J G Y S1 H1 st wk hG hY Dl hD
      by_cases hio : noIo env1 vs = true
      · rw [if_pos hio] at g
        have hio' : ∀ v ∈ vs, ∀ d, (clr env1 vs)[v]? ≠ some (.io d) := fun v hv d e => by cases clr_in hv e
        cases hl : lcL t ts el vs ds [] (clr env1 vs) with
        | none => simp only [hl] at g
        | some y =>
          cases y with
          | ex c ns es e => simp only [hl] at g
          | ok acc env2 =>
            simp only [hl] at g
            -- ahead of the list: the block's own view
            have r1 := st.rel.wipe vs
            have hS1 : S1 Dl = none := st.rel.sub.free hD
            have nD : ¬ Own (clr env1 vs) (wipe σ vs) Dl := fun z => by
              obtain ⟨_, ho, e⟩ := r1.own z
              rw [hD] at e
              cases e
            refine lc_it wk (fun i H' => ∃ env' S' vs' ac', Step X.K X.mg (clr env1 vs) (wipe σ vs) S1 H1 env' (wipe σ vs) S' H' ∧ H' Dl = some (.lst vs') ∧ S' Dl = none ∧ ¬ Own env' (wipe σ vs) Dl ∧ RpA X.K X.mg S' vs' ac' ∧ lcL t ts el vs (ds.drop i) ac' env' = some (.ok acc env2))
              ⟨clr env1 vs, S1, [], [], (Step.refl r1).poke hD hS1 nD, upd_same, hS1, nD, .nil, hl⟩ (fun i H' _ ⟨env', S', vs', ac', st', _⟩ => hG S' H' st'.ext st'.rel.sub) (fun i x H' H'' hi ⟨env', S', vs', ac', st', e1, e2, e3, e4, e5⟩ y => ?_) (fun H' ⟨env', S', vs', ac', st', e1, e2, e3, e4, e5⟩ => ?_)
            · obtain ⟨S2, d, st2, ed, rd⟩ := hY i H' x H'' hi y env' (wipe σ vs) S' st'.rel st'.ext
              have hd : ds.drop i = d :: ds.drop (i + 1) := by
                obtain ⟨h1, h2⟩ := List.getElem?_eq_some_iff.mp ed
                rw [← h2, List.drop_eq_getElem_cons h1]
              rw [hd] at e5
              unfold lcL at e5
              cases et : t d env' with
              | none => simp only [et] at e5; cases e5
              | some env3 =>
                simp only [et] at e5
                obtain ⟨a1, a2, a3⟩ := st2.apart e1 e2 e3
                refine ⟨env', S2, d, env3, st2.rel, rd, et, fun σ3 S3 H3 st3 bt => ?_⟩
                have st03 := (st'.trans st2).trans st3
                obtain ⟨b1, b2, b3⟩ := st3.apart a1 a2 a3
                have hw : wipe σ3 vs = wipe σ vs := wipe_but ⟨bt.1, fun i hi => bt.2 i fun z => hi (hj i z)⟩
                refine ⟨hw, env3, S3, st3.rel, ?_⟩
                unfold Go
                cases es : ts env3 with
                | none => simp only [es] at e5; cases e5
                | some z =>
                  cases z with
                  | ex _ _ _ _ => simp only [es] at e5; cases e5
                  | ok b env4 =>
                    simp only [es] at e5 ⊢
                    intro b' S4 H4 st4 eb
                    have eb' : b' = b := eb
                    subst eb'
                    obtain ⟨c1, c2, c3⟩ := st4.apart b1 b2 b3
                    have st04 := st03.trans st4
                    cases b' with
                    | false =>
                      rw [if_neg Bool.false_ne_true]
                      simp only at e5
                      have k := st04.clear (vs := vs) hio'
                      rw [hw] at k
                      refine ⟨clr env4 vs, S4, vs', ac', k, c1, c2, fun ⟨q, hq⟩ => ?_, e4.mono (st2.ext.trans (st3.ext.trans st4.ext)), e5⟩
                      rw [← hw] at hq
                      exact c3 ⟨q, (own_clr hq).2⟩
                    | true =>
                      rw [if_pos rfl]
                      simp only at e5
                      refine ⟨env4, S4, st4.rel, ?_⟩
                      unfold Go
                      cases ee : el env4 with
                      | none => simp only [ee] at e5; cases e5
                      | some z =>
                        cases z with
                        | ex _ _ _ _ => simp only [ee] at e5; cases e5
                        | ok y env5 =>
                          simp only [ee] at e5 ⊢
                          intro yv S5 H5 st5 ry
                          obtain ⟨d1, d2, d3⟩ := st5.apart c1 c2 c3
                          have st05 := st04.trans st5
                          have r4 : RpA X.K X.mg S5 vs' ac' := e4.mono ((st2.ext.trans (st3.ext.trans st4.ext)).trans st5.ext)
                          by_cases hz : szOk ac'.length = true
                          · rw [if_pos hz] at e5
                            refine ⟨vs', d1, by rw [r4.len]; exact szOk_lt hz, ?_⟩
                            have k := (st05.clear (vs := vs) hio').poke (u := .lst (vs' ++ [yv])) hD d2 (fun ⟨q, hq⟩ => d3 ⟨q, (own_clr hq).2⟩)
                            rw [hw] at k
                            refine ⟨clr env5 vs, S5, _, _, k, upd_same, d2, fun ⟨q, hq⟩ => ?_, r4.app (.one ry), e5⟩
                            rw [← hw] at hq
                            exact d3 ⟨q, (own_clr hq).2⟩
                          · rw [if_neg hz] at e5
                            cases e5
            · rw [List.drop_length] at e5
              have e6 : some (Res.ok ac' env') = some (Res.ok acc env2) := e5
              injection e6 with e6
              injection e6 with e6 e7
              subst e6
              subst e7
              refine g (.ref Dl) S' H' (st.trans (Step.unwipe st.rel st')) ⟨Dl, _, rfl, e2, e1, .lst e4, fun ⟨k, ⟨s, d, e, m⟩, hq⟩ => ?_, st.mine (.inl hD)⟩
              have hl2 : env'.length = env1.length := by
                have h1 := st'.rel.len
                have h2 := st.rel.len
                rw [wipe_length] at h1
                omega
              by_cases hk : k ∈ vs
              · rw [unclr_in hl2 hk] at e
                obtain ⟨_, ho, eo⟩ := st.rel.own ⟨k, ⟨s, d, e, m⟩, hq⟩
                rw [hD] at eo
                cases eo
              · rw [unclr_out hk] at e
                exact e3 ⟨k, ⟨s, d, e, m⟩, by rw [wipe_out hk]; exact hq⟩
      · rw [if_neg hio] at g
        exact g.elim
theorem sr_lc {js : List Nat} (hc : X.calm = true) (hN : X.N.Nodup) (hi : SI X tg iter it) (ok : BlkOk X.N X.env.scope scope own) (hg : BlkG X scope tg t js) (ht : BlkI X scope ifs ts) (he : BlkV X scope elt el) (hj : ∀ j ∈ js, j ∈ own.map (·.2)) (hs : ∀ x, foldedSetIterable iter X.env x = pure x := by intro _; rfl) :
    SR X (.ListComp elt [⟨tg, iter, ifs, 0⟩] scope pos) (mLc it t ts el (own.map (·.2))) := fun W tk =>
  pe_imp (pe_lc hc hN (hi W tk) ok (g := tG X.K X.mg t js) (fun s H C cl fp => hg s H C cl fp) (fun s H C cl fp => ht s H C cl fp noW takes_blk) (fun s H C cl fp => he s H C cl fp noW takes_blk) hs) (tm_lc hj)
/-- y = [..] -/
theorem ss_setLc {i : Nat} {y : Str} {py spos : Pos} {js : List Nat} (hc : X.calm = true) (hN : X.N.Nodup) (hy : X.N[i]? = some y) (hyl : X.env.scope.names.lookup y = some .local) (hsw : swapsWith (.ListComp elt [⟨tg, iter, ifs, 0⟩] scope pos) (some (.Name y py)) spos.line X.env = pure true)
    (hi : SI X tg iter it) (ok : BlkOk X.N X.env.scope scope own) (hg : BlkG X scope tg t js) (ht : BlkI X scope ifs ts) (he : BlkV X scope elt el) (hj : ∀ j ∈ js, j ∈ own.map (·.2)) (hs : ∀ x, foldedSetIterable iter X.env x = pure x := by intro _; rfl) :
    SS X (.Assign [.Name y py] (.ListComp elt [⟨tg, iter, ifs, 0⟩] scope pos) spos) (mSet i (mLc it t ts el (own.map (·.2)))) := fun W tk =>
  ps_imp (ps_setLc hc hN hy hyl hsw (hi W tk) ok (g := tG X.K X.mg t js) (fun s H C cl fp => hg s H C cl fp) (fun s H C cl fp => ht s H C cl fp noW takes_blk) (fun s H C cl fp => he s H C cl fp noW takes_blk) hs) fun E σ H ⟨env, S, r, g⟩ =>
  tm_lc hj σ H _ (GoS.part (R := RR X.K X.mg) r g fun v H1 env1 S1 a st ra g1 g2 => by
    cases es : a.sl with
    | none => exact (show False by simpa [es, PostS] using g2).elim
    | some s =>
      cases ee : setSl i s env1 with
      | none => exact (show False by simpa [es, ee, PostS] using g2).elim
      | some env2 =>
        simp only [es, ee, Option.bind_some] at g2
        obtain ⟨c1, c2, rfl⟩ := setSl_some ee
        obtain ⟨d1, d2⟩ := slr_of ra es
        exact g2 _ S1 H1 (st.assign c1 c2 d1 d2))
end
end Z
end

section
set_option Elab.async false
set_option linter.all false
set_option maxRecDepth 100000
set_option autoImplicit false
/-! Defs and their calls, where no repr is under way. -/
namespace Z
open PySem
open L2 hiding XE Takes CX passes_call takes_of passAt PMk MkP ps_raise mk_of ps_try_as ps_try_many pmk_own XE.of_call XE.new XE.leave Takes.imp Sky.land
open L2N (Takes CX takes_of passAt PMk MkP ps_raise)
open PyProof.Rows (envOfC)
variable {X : Cx}

/-- room, and nothing under way that repr looks at -/
def Rm (k : Nat) (A : Around) : Prop := Room k A ∧ A.guards = some []
theorem Rm.mono {j k : Nat} {A : Around} (r : Rm k A) (h : j ≤ k) : Rm j A := ⟨r.1.mono h, r.2⟩
theorem Rm.hu {k : Nat} {A : Around} (r : Rm k A) : A.units + 64 < cLine := r.1.units
/-- a def's promise, asked where Rm holds alone -/
structure FnG (P : Program) (w : World) (K : PySem.W.Frag) (mg : Str → Option Value) (base : Heap) (C : CXT) (k : Nat) (f : Addr) (fd : FuncData) (ps : List Str) (sp : Sp) : Prop where
  len : ∀ vs H Q E, sp vs H Q E → vs.length = ps.length
  run : ∀ {A : Around} {fr : List PySem.Env} {s : Shared} {H : Hp} {as : Args} {us : List Value} {vs : List V} {Q : VK} {E : XK}, Rm k A → Env0 P w K mg base A fr s H → BindsTo s fd as (ps.zip us) → Vals vs us → sp vs H Q E →
    codeAny (model P w) A (.call (.ref f) as) (CR C fr P w H s Q E) s
section
variable {P : Program} {w : World} {K : PySem.W.Frag} {mg : Str → Option Value} {base : Heap}
theorem FnG.mono {C : CXT} {j k : Nat} {f : Addr} {fd : FuncData} {ps : List Str} {sp : Sp} (F : FnG P w K mg base C j f fd ps sp) (h : j ≤ k) : FnG P w K mg base C k f fd ps sp := ⟨F.len, fun hr => F.run (hr.mono h)⟩
/-- by the body; the frame's own cells and names are laid by the library's rules -/
theorem fg_of {C : CXT} {k : Nat} {f : Addr} {nm qual : Str} {pa : Arguments} {bd : List Stmt} {sc : Scope} {v1 v2 v3 v4 v5 v6 oc : Value} {an od : Option Addr} {sl : Array (Option Value)} {N ps : List Str} {sp : Sp}
    (lk : K.lookup f = some ⟨oc, od, .func (PySem.W.fnOf nm qual pa bd sc v1 v2 v3 v4 an v5 v6), sl⟩) (hcd : PySem.W.codeIn K v5 qual = true) (Sc : FnScope N ps sc) (len : ∀ vs H Q E, sp vs H Q E → vs.length = ps.length)
    (hb : ∀ (A : Around) (fr : List PySem.Env) (s : Shared) (H : Hp) (vs : List V) (Q : VK) (E : XK), Rm k (A.deeper (envOfC qual sc s.heap.objs.size f v5)) → sp vs H Q E →
      ∃ t, PSs (cxOf C P w K mg base N qual sc f v5 A fr s H E) bd t ∧ t { nx := fun _ H' => Q .non H', rt := Q } (start N vs) H) :
    FnG P w K mg base C (k + 1) f (PySem.W.fnOf nm qual pa bd sc v1 v2 v3 v4 an v5 v6) ps sp where
  len := len
  run := by
    intro A fr s H as us vs Q E hr e0 bt rv hsp
    have hlen := len _ _ _ _ hsp
    have inK : K.In s.heap := e0.mod.kin.keeps fun b o e => (e0.bs b o e).1
    have noLim : s.heap.NoLimit := e0.mod.nolimit.keeps fun b o e => (e0.bs b o e).1
    have kinds : ∀ y ∈ ps.zip us, sc.names.lookup y.1 = some .local ∨ (sc.names.lookup y.1 = some .cell ∧ ((cellsFrom (s.heap.objs.size + 1) sc.names []).lookup y.1).isSome = true) := by
      intro y hy
      have hm : y.1 ∈ ps := (List.of_mem_zip (a := y.1) (b := y.2) hy).1
      exact (Sc.par _ hm).imp id fun q => ⟨q, PySem.W.cellsFrom_some _ _ _ (.inl q)⟩
    have room : Rm k (A.deeper (envOfC qual sc s.heap.objs.size f v5)) := ⟨hr.1.deeper _, hr.2⟩
    refine codeAny_call_function hr.1.depth (inK _ _ lk) rfl Sc.co Sc.gen rfl (PySem.W.codeRec_of inK hcd) (bt _ _ _ _ ?_)
    apply wpAny_newFunctionEnv_cells Sc.kind kinds
    intro env he s1 lay
    subst he
    refine ⟨noLim.keeps lay.toInCall.keep, codeAny_func ?_⟩
    obtain ⟨t, body, hq⟩ := hb A fr s H vs Q E room hsp
    have J := inv_start (CX := C) (E := E) Sc hr.1.hd e0 hlen rv lay
    refine wpAny_mono (body.run [] s1 (start N vs) H _ J hq) ?_ (fun e s' z => z)
    intro fl s' hs
    have out : ∀ {σ' : St} {H' : Hp} {v : V} {u : Value}, Inv (cxOf C P w K mg base N qual sc f v5 A fr s H E) [] σ' H' s' → RelV v u → Q v H' → CE fr P w H s Q u s' := by
      intro σ' H' v u I r q
      exact ⟨v, H', I.os, I.bare, I.base, I.hok, r, q⟩
    cases fl with
    | next =>
      obtain ⟨_, _, I, q⟩ := hs
      exact out (v := V.non) (u := Value.none) I rfl q
    | ret u => obtain ⟨_, _, _, I, r, q⟩ := hs; exact out I r q
    | brk => obtain ⟨_, _, _, z⟩ := hs; exact z.elim
    | cont => obtain ⟨_, _, _, z⟩ := hs; exact z.elim
end

/-! ### what a def does with data -/
inductive Ar where
  | v (d : D)
  | io (d : D)
inductive CO where
  | rt (r : Rs) (io : Option D)
  | ex (c : Str) (ns : List Str) (vs : List D) (io : Option D)
abbrev DF := List Ar → Option CO
/-- the arguments stand for as; the one that is changed stands at q -/
inductive ArR (K : PySem.W.Frag) (mg : Str → Option Value) (S H : Hp) : Option Addr → List V → List Ar → Prop
  | nil : ArR K mg S H none [] []
  | v {q : Option Addr} {v : V} {d : D} {vs : List V} {as : List Ar} : Rp K mg S v d → ArR K mg S H q vs as → ArR K mg S H q (v :: vs) (.v d :: as)
  | io {a : Addr} {ho : HO} {d : D} {vs : List V} {as : List Ar} : S a = none → H a = some ho → HoR K mg S ho d → ArR K mg S H none vs as → ArR K mg S H (some a) (.ref a :: vs) (.io d :: as)
/-- a call's end: S', H' -/
structure Dn (K : PySem.W.Frag) (mg : Str → Option Value) (q : Option Addr) (S H S' H' : Hp) (io : Option D) : Prop where
  sub : Same S' H'
  ext : Same S S'
  frm : ∀ b o, H b = some o → q ≠ some b → H' b = some o
  new : ∀ b o, S' b = some o → S b = some o ∨ H b = none
  at' : ∀ a, q = some a → ∃ ho d, io = some d ∧ S' a = none ∧ H' a = some ho ∧ HoR K mg S' ho d
def RsC (K : PySem.W.Frag) (mg : Str → Option Value) (H S' H' : Hp) (v : V) : Rs → Prop
  | .v d => Rp K mg S' v d
  | .fr d => ∃ a ho, v = .ref a ∧ H a = none ∧ S' a = none ∧ H' a = some ho ∧ HoR K mg S' ho d
  | .bw _ => False
def spM (K : PySem.W.Frag) (mg : Str → Option Value) (F : DF) : Sp := fun vs H Q E => ∃ S q as o, Same S H ∧ ArR K mg S H q vs as ∧ F as = some o ∧ (match o with
  | .rt r io => ∀ v S' H', Dn K mg q S H S' H' io → RsC K mg H S' H' v r → Q v H'
  | .ex c ns ds io => ∀ C d fv S' H', mg c = some (.ref C) → Dn K mg q S H S' H' io → S' d = some (.xd fv) → fv.map (·.1) = ns → RpA K mg S' (fv.map (·.2)) ds → E (.ref C) (some d) H')
theorem ArR.len {K : PySem.W.Frag} {mg : Str → Option Value} {S H : Hp} : ∀ {as : List Ar} {q : Option Addr} {vs : List V}, ArR K mg S H q vs as → vs.length = as.length
  | [], _, _, h => by cases h; rfl
  | a :: as, _, _, h => by
    cases h with
    | v _ t => exact congrArg Nat.succ t.len
    | io _ _ _ t => exact congrArg Nat.succ t.len

/-! ### a def's body, run -/
def Ar.sl : Ar → Sl
  | .v d => .v d
  | .io d => .io d
def env0 (n : Nat) (as : List Ar) : Env := as.map Ar.sl ++ List.replicate (n - as.length) .no
/-- which argument is changed -/
def ioIx : List Ar → Option Nat
  | [] => none
  | .io _ :: _ => some 0
  | .v _ :: as => (ioIx as).map (· + 1)
/-- what it holds at the end -/
def ioC (as : List Ar) (env : Env) : Option D := match ioIx as with
  | some i => (match env[i]? with
    | some (.io d) => some d
    | _ => none)
  | none => none
def runF (n : Nat) (m : MS) : DF := fun as => match m (env0 n as) with
  | some (.nx env) => some (.rt (.v .non) (ioC as env))
  | some (.rt (.v d) env) => some (.rt (.v d) (ioC as env))
  | some (.rt (.fr d) env) => some (.rt (.fr d) (ioC as env))
  | some (.ex c ns vs env) => some (.ex c ns vs (ioC as env))
  | _ => none
section
variable {K : PySem.W.Frag} {mg : Str → Option Value}
theorem ArR.at {S H : Hp} : ∀ {as : List Ar} {q : Option Addr} {vs : List V} {i : Nat} {a : Ar}, ArR K mg S H q vs as → as[i]? = some a → SlR K mg S H ((vs.map some)[i]?) a.sl
  | [], _, _, _, _, _, e => by simp at e
  | a :: as, _, _, 0, _, h, e => by
    have := Option.some.inj e
    subst this
    cases h with
    | v r _ => exact ⟨_, rfl, r⟩
    | io h1 h2 h3 _ => exact ⟨_, _, rfl, h1, h2, h3⟩
  | a :: as, _, _, i + 1, _, h, e => by
    cases h with
    | v _ t => exact t.at (i := i) e
    | io _ _ _ t => exact t.at (i := i) e
/-- the changed argument: one alone -/
theorem ArR.none_io {S H : Hp} : ∀ {as : List Ar} {vs : List V} {i : Nat} {d : D}, ArR K mg S H none vs as → as[i]? ≠ some (.io d)
  | [], _, _, _, _, e => by simp at e
  | a :: as, _, 0, _, h, e => by
    have := Option.some.inj e
    subst this
    cases h
  | a :: as, _, i + 1, _, h, e => by
    cases h with
    | v _ t => exact t.none_io (i := i) e
theorem ArR.io_at {S H : Hp} : ∀ {as : List Ar} {q : Option Addr} {vs : List V} {i : Nat} {d : D}, ArR K mg S H q vs as → as[i]? = some (.io d) → ∃ a, q = some a ∧ vs[i]? = some (V.ref a) ∧ ∀ (j : Nat) (d' : D), as[j]? = some (Ar.io d') → j = i
  | [], _, _, _, _, _, e => by simp at e
  | a :: as, _, _, 0, _, h, e => by
    have := Option.some.inj e
    subst this
    cases h with
    | io _ _ _ t =>
      refine ⟨_, rfl, rfl, fun j d' ej => ?_⟩
      cases j with
      | zero => rfl
      | succ j => exact (t.none_io (i := j) ej).elim
  | a :: as, _, _, i + 1, _, h, e => by
    cases h with
    | v _ t =>
      obtain ⟨b, h1, h2, h3⟩ := t.io_at (i := i) e
      refine ⟨b, h1, h2, fun j d' ej => ?_⟩
      cases j with
      | zero => cases ej
      | succ j => exact congrArg Nat.succ (h3 j d' ej)
    | io _ _ _ t => exact (t.none_io (i := i) e).elim
theorem ArR.q_at {S H : Hp} : ∀ {as : List Ar} {q : Addr} {vs : List V}, ArR K mg S H (some q) vs as → ∃ i d, ioIx as = some i ∧ as[i]? = some (.io d) ∧ vs[i]? = some (.ref q)
  | [], _, _, h => by cases h
  | a :: as, _, _, h => by
    cases h with
    | v _ t =>
      obtain ⟨i, d, h0, h1, h2⟩ := t.q_at
      exact ⟨i + 1, d, by unfold ioIx; rw [h0]; rfl, h1, h2⟩
    | io _ _ _ _ => exact ⟨0, _, rfl, rfl, rfl⟩
theorem env0_at {n : Nat} {as : List Ar} {i : Nat} {s : Sl} (h : (env0 n as)[i]? = some s) : (∃ a, as[i]? = some a ∧ s = a.sl) ∨ (as.length ≤ i ∧ s = .no) := by
  unfold env0 at h
  by_cases hi : i < as.length
  · rw [List.getElem?_append_left (by rw [List.length_map]; exact hi), List.getElem?_map] at h
    cases e : as[i]? with
    | none => rw [e] at h; cases h
    | some a =>
      rw [e] at h
      exact .inl ⟨a, rfl, (Option.some.inj h).symm⟩
  · rw [List.getElem?_append_right (by rw [List.length_map]; omega), List.getElem?_replicate] at h
    split at h
    · cases h
      exact .inr ⟨by omega, rfl⟩
    · cases h
theorem start_at {N : List Str} {vs : List V} {i : Nat} (hi : i < vs.length) : (start N vs)[i]? = (vs.map some)[i]? := by
  unfold L2.start
  rw [List.getElem?_append_left (by rw [List.length_map]; exact hi)]
theorem rel0 {N : List Str} {S H : Hp} {q : Option Addr} {vs : List V} {as : List Ar} (sub : Same S H) (h : ArR K mg S H q vs as) (hn : as.length ≤ N.length) : Rel K mg (env0 N.length as) (start N vs) S H ∧ ∀ b, Own (env0 N.length as) (start N vs) b ↔ q = some b := by
  have hl := h.len
  have own : ∀ i b, OwnAt (env0 N.length as) (start N vs) i b → ∃ d, as[i]? = some (.io d) ∧ q = some b := fun i b ⟨⟨s, d, e, m⟩, hq⟩ => by
    rcases env0_at e with ⟨a, ea, rfl⟩ | ⟨_, rfl⟩
    · cases a with
      | v _ => cases m
      | io d' =>
        obtain ⟨b', h1, h2, _⟩ := h.io_at ea
        have hi : i < vs.length := (List.getElem?_eq_some_iff.mp h2).1
        rw [start_at hi, List.getElem?_map, h2] at hq
        have hq' : b' = b := by simpa using hq
        subst hq'
        exact ⟨d', ea, h1⟩
    · cases m
  refine ⟨⟨?_, sub, fun i s e => ?_, fun i j b h1 h2 => ?_⟩, fun b => ⟨fun ⟨i, h1⟩ => (let ⟨_, _, z⟩ := own i b h1; z), fun e => ?_⟩⟩
  · unfold L2.start env0
    rw [List.length_append, List.length_append, List.length_map, List.length_map, List.length_replicate, List.length_replicate, hl]
  · rcases env0_at e with ⟨a, ea, rfl⟩ | ⟨_, rfl⟩
    · have hi : i < vs.length := by rw [hl]; exact (List.getElem?_eq_some_iff.mp ea).1
      rw [start_at hi]
      exact h.at ea
    · trivial
  · obtain ⟨d1, e1, _⟩ := own i b h1
    obtain ⟨d2, e2, _⟩ := own j b h2
    obtain ⟨_, _, _, u⟩ := h.io_at e2
    exact u i d1 e1
  · subst e
    obtain ⟨i, d, _, h1, h2⟩ := h.q_at
    have hi : i < vs.length := (List.getElem?_eq_some_iff.mp h2).1
    refine ⟨i, ⟨.io d, d, ?_, rfl⟩, ?_⟩
    · unfold env0
      rw [List.getElem?_append_left (by rw [List.length_map]; omega), List.getElem?_map, h1]
      rfl
    · rw [start_at hi, List.getElem?_map, h2]
      rfl
theorem dn_of {N : List Str} {S H S' H' : Hp} {q : Option Addr} {vs : List V} {as : List Ar} {env' : Env} {σ' : St} (sub : Same S H) (h : ArR K mg S H q vs as) (hn : as.length ≤ N.length) (st : Step K mg (env0 N.length as) (start N vs) S H env' σ' S' H') :
    Dn K mg q S H S' H' (ioC as env') ∧ ∀ b, q = some b → Own env' σ' b := by
  obtain ⟨r0, ow⟩ := rel0 sub h hn
  have hl := h.len
  have keyf : ∀ b, q = some b → ∃ i d', ioIx as = some i ∧ env'[i]? = some (.io d') ∧ σ'[i]? = some (some (.ref b)) := fun b e => by
    subst e
    obtain ⟨i, d, h0, h1, h2⟩ := h.q_at
    have hi : i < vs.length := (List.getElem?_eq_some_iff.mp h2).1
    have e0 : (env0 N.length as)[i]? = some (.io d) := by
      unfold env0
      rw [List.getElem?_append_left (by rw [List.length_map]; omega), List.getElem?_map, h1]
      rfl
    obtain ⟨x, d', y⟩ := st.io i d e0
    refine ⟨i, d', h0, y, ?_⟩
    rw [x, start_at hi, List.getElem?_map, h2]
    rfl
  have ow' : ∀ b, q = some b → Own env' σ' b := fun b e => by
    obtain ⟨i, d', _, h2, h3⟩ := keyf b e
    exact ⟨i, ⟨_, d', h2, rfl⟩, h3⟩
  refine ⟨⟨st.rel.sub, st.ext, fun b o e n => st.frm b o e fun z => n ((ow b).mp z), fun b o e => ?_, fun a e => ?_⟩, ow'⟩
  · rcases st.new b o e with z | z | z
    · exact .inl z
    · exact .inr z
    · have := (st.rel.own (ow' b ((ow b).mp z))).1
      rw [e] at this
      cases this
  · obtain ⟨i, d', h1, h2, h3⟩ := keyf a e
    obtain ⟨a', ho, k1, k2, k3, k4⟩ := st.rel.sl i _ h2
    rw [h3] at k1
    cases k1
    exact ⟨ho, d', by unfold ioC; rw [h1]; simp only [h2], k2, k3, k4⟩
end
/-- THE RULE for a def: its body's plain function, run from its arguments -/
theorem fg_body {P : Program} {w : World} {K : PySem.W.Frag} {mg : Str → Option Value} {base : Heap} {k : Nat} {f : Addr} {nm qual : Str} {pa : Arguments} {bd : List Stmt} {sc : Scope} {v1 v2 v3 v4 v5 v6 oc : Value} {an od : Option Addr} {sl : Array (Option Value)} {N ps : List Str} {m : MS} {F : DF}
    (lk : K.lookup f = some ⟨oc, od, .func (PySem.W.fnOf nm qual pa bd sc v1 v2 v3 v4 an v5 v6), sl⟩) (hcd : PySem.W.codeIn K v5 qual = true) (Sc : FnScope N ps sc)
    (hb : ∀ (A : Around) (fr : List PySem.Env) (s : Shared) (H : Hp) (E : XK), Rm k (A.deeper (envOfC qual sc s.heap.objs.size f v5)) → SSs (cxOf (L2N.CX P w) P w K mg base N qual sc f v5 A fr s H E) bd m)
    (hF : ∀ as o, F as = some o → as.length = ps.length ∧ runF N.length m as = some o) :
    FnG P w K mg base (L2N.CX P w) (k + 1) f (PySem.W.fnOf nm qual pa bd sc v1 v2 v3 v4 an v5 v6) ps (spM K mg F) := by
  refine fg_of lk hcd Sc (fun vs H Q E ⟨S, q, as, o, sub, ar, e, _⟩ => ar.len.trans (hF as o e).1) fun A fr s H vs Q E hr ⟨S, q, as, o, sub, ar, e, post⟩ => ?_
  have hn : as.length ≤ N.length := by
    rw [(hF as o e).1]
    have := congrArg List.length Sc.pre
    rw [List.length_take] at this
    omega
  have e := (hF as o e).2
  obtain ⟨r0, ow⟩ := rel0 sub ar hn
  refine ⟨_, hb A fr s H E hr (fun cls d _ H' => E cls d H') (takes_of rfl rfl rfl rfl), env0 N.length as, S, r0, ?_⟩
  dsimp only [GoS]
  unfold runF at e
  cases hm : m (env0 N.length as) with
  | none => simp [hm] at e
  | some x =>
    cases x with
    | nx env =>
      simp only [hm] at e
      cases e
      intro σ' S' H' st
      exact post .non S' H' (dn_of sub ar hn st).1 .non
    | bk env => simp [hm] at e
    | ct env => simp [hm] at e
    | ex c ns vs' env =>
      simp only [hm] at e
      cases e
      exact fun C d fv σ' S' H' hc st e1 e2 e3 => post C d fv S' H' hc (dn_of sub ar hn st).1 e1 e2 e3
    | rt r env =>
      cases r with
      | bw i => simp [hm] at e
      | v d =>
        simp only [hm] at e
        cases e
        exact fun v σ' S' H' st rr => post v S' H' (dn_of sub ar hn st).1 rr
      | fr d =>
        simp only [hm] at e
        cases e
        intro v σ' S' H' st rr
        obtain ⟨a, ho, rfl, h2, h3, h4, h5, h6⟩ := rr
        obtain ⟨dn, ow'⟩ := dn_of sub ar hn st
        refine post _ S' H' dn ⟨a, ho, rfl, ?_, h2, h3, h4⟩
        rcases h6 with z | z
        · exact z
        · exact absurd (ow' a ((ow a).mp z)) h5

/-! ### calls -/
inductive Ax where
  | v (d : D)
  | sl (j : Nat)
inductive AxR (K : PySem.W.Frag) (mg : Str → Option Value) (σ : St) (S : Hp) : List V → List Ax → Prop
  | nil : AxR K mg σ S [] []
  | v {v : V} {d : D} {vs : List V} {as : List Ax} : Rp K mg S v d → AxR K mg σ S vs as → AxR K mg σ S (v :: vs) (.v d :: as)
  | sl {v : V} {j : Nat} {vs : List V} {as : List Ax} : σ[j]? = some (some v) → AxR K mg σ S vs as → AxR K mg σ S (v :: vs) (.sl j :: as)
def RX (K : PySem.W.Frag) (mg : Str → Option Value) : RL (List V) (List Ax) := fun _ _ σ S _ vs as => AxR K mg σ S vs as
theorem nmX {K : PySem.W.Frag} {mg : Str → Option Value} : RNm (RX K mg) := fun _ _ _ _ _ _ _ h => h
theorem AxR.mono {K : PySem.W.Frag} {mg : Str → Option Value} {σ : St} {S S' : Hp} (e : Same S S') : ∀ {as : List Ax} {vs : List V}, AxR K mg σ S vs as → AxR K mg σ S' vs as
  | [], _, h => by cases h; exact .nil
  | a :: as, _, h => by
    cases h with
    | v r t => exact .v (r.mono e) (t.mono e)
    | sl r t => exact .sl r (t.mono e)
def SX (X : Cx) (es : List Expr) (m : M (List Ax)) : Prop := ∀ W, Takes X W → PA X es (tM X.K X.mg W (RX X.K X.mg) m)
def xNil : M (List Ax) := M.ret []
def xV (m : M D) (n : M (List Ax)) : M (List Ax) := m.bind fun d => n.bind fun as => M.ret (.v d :: as)
def xSl (j : Nat) (n : M (List Ax)) : M (List Ax) := (M.of fun env => match env[j]? with
  | some s => s.mut.bind fun _ => some ()
  | none => none).bind fun _ => n.bind fun as => M.ret (.sl j :: as)
theorem sx_nil : SX X [] xNil := fun W tk => pa_imp pa_nil fun σ H Q ⟨env, S, r, g⟩ => g.ret (R := RX X.K X.mg) r .nil
theorem sx_v {e : Expr} {es : List Expr} {m : M D} {n : M (List Ax)} (h : SV X e m) (hr : SX X es n) (hs : starEach (e :: es) X.env = (false, eval e X.env) :: starEach es X.env := by rfl) : SX X (e :: es) (xV m n) := fun W tk =>
  pa_imp (pa_cons (h W tk) (hr W tk) hs) fun σ H Q ⟨env, S, r, g⟩ => g.part nmX r fun x H1 env1 S1 a st ra g1 => g1.part nmX st.rel fun xs H2 env2 S2 ds st2 rb g2 => g2.ret (R := RX X.K X.mg) st2.rel (.v (Rp.mono st2.ext ra) rb)
theorem sx_sl {j : Nat} {x : Str} {p : Pos} {es : List Expr} {n : M (List Ax)} (h : PE X (.Name x p) (tVar j)) (hr : SX X es n) (hs : starEach (.Name x p :: es) X.env = (false, eval (.Name x p) X.env) :: starEach es X.env := by rfl) : SX X (.Name x p :: es) (xSl j n) := fun W tk =>
  pa_imp (pa_cons h (hr W tk) hs) fun σ H Q ⟨env, S, r, g⟩ => by
    have g0 := g.bind (R := fun _ _ _ _ _ (_ : Unit) _ => True) nmX
    obtain ⟨u, e, q⟩ := g0.of
    obtain ⟨env1, S1, a, st, _, g1⟩ := q () S H (Step.refl r) trivial
    cases ej : env[j]? with
    | none => simp [ej] at e
    | some s =>
      cases em : s.mut with
      | none => simp [ej, em] at e
      | some d =>
        obtain ⟨a', ho, e1, _⟩ := (r.sl j s ej).mut em
        exact ⟨.ref a', e1, g1.part nmX st.rel fun xs H2 env2 S2 ds st2 rb g2 => g2.ret (R := RX X.K X.mg) st2.rel (.sl e1 rb)⟩
end Z
end

section
set_option Elab.async false
set_option linter.all false
set_option maxRecDepth 100000
set_option autoImplicit false
/-! Calls of defs; the law's own call. -/
namespace Z
open PySem
open L2 hiding XE Takes CX passes_call takes_of passAt PMk MkP ps_raise mk_of ps_try_as ps_try_many pmk_own XE.of_call XE.new XE.leave Takes.imp Sky.land
open L2N (Takes CX takes_of passAt PMk MkP ps_raise)
open PyProof.Rows (envOfC IntsAre AllBare)
variable {X : Cx}

section
variable {k : Nat} {f : Addr} {fd : FuncData} {ps : List Str} {sp : Sp} {dvs : List V} {ds : List Value} {W : WX} {x : Str} {p pos : Pos} {e : Expr} {es : List Expr} {t : TA}
/-- the callee runs, where no repr is under way -/
theorem go_fg {pins : List (Addr × Obj)} {σ : St} {H : Hp} {s : Shared} {Q : VK} {us all : List Value} {kw : List (Str × Value)} {vs : List V} (F : FnG X.prog X.w X.K X.mg X.base (L2N.CX X.prog X.w) k f fd ps sp) (hr : Rm k X.A) (tk : Takes X W) (I : Inv X pins σ H s)
    (hb : BindsTo s fd ⟨us, kw⟩ (ps.zip all)) (r : Vals vs all) (h : sp vs H Q (WE W σ)) : wpAny (model X.prog X.w) X.A (call (.ref f) us kw) (EP X pins σ Q) X.xe s := by
  apply wpAny_call
  apply codeAny_mono (F.run hr I.env0 hb r h)
  intro res s' hq
  match res, hq with
  | .ok (.ret u), hq => exact I.after hq
  | .ok .next, hq => exact hq.elim
  | .ok .brk, hq => exact hq.elim
  | .ok .cont, hq => exact hq.elim
  | .error err, hq => exact passAt tk σ pins H s err s' I hq
theorem pe_fg (F : FnG X.prog X.w X.K X.mg X.base (L2N.CX X.prog X.w) k f fd ps sp) (hr : Rm k X.A) (tk : Takes X W) (hm : X.mg x = some (.ref f)) (hk : PySem.W.keepIn X.K (.ref f) = true) (hb : Binds X.K fd ps ds) (hd : Vals dvs ds) (ha : PA X (e :: es) t) (hg : Gl X x) (hx : (x == ("__debug__" : Str)) = false)
    (h1 : starEach (e :: es) X.env = (false, eval e X.env) :: starEach es X.env) (h2 : (backTo pos (starEach es X.env)).any (·.1) = false) : PE X (.Call (.Name x p) (e :: es) [] pos) (fun σ H Q => t σ H fun vs H1 => sp (vs ++ dvs) H1 Q (WE W σ)) where
  run := by
    intro pins s σ H Q I h
    apply wpAny_Call_Name_kw
    apply ld_glob I hg hm _ hx
    refine PySem.W.callWith_K (h₀ := X.base) I.ok.mod.kin hk (thn (ha.run pos pins s σ H _ I h) ?_) h1 h2
    rintro us s1 ⟨vs, H1, I1, r, q⟩
    have r2 := r.append hd
    have hl : (us ++ ds).length = ps.length := r2.length.symm.trans (F.len _ _ _ _ q)
    exact ⟨I1.kIn, go_fg F hr tk I1 (hb s1 us I1.kIn hl) r2 q⟩
theorem pe_fg0 (F : FnG X.prog X.w X.K X.mg X.base (L2N.CX X.prog X.w) k f fd ps sp) (hr : Rm k X.A) (tk : Takes X W) (hm : X.mg x = some (.ref f)) (hk : PySem.W.keepIn X.K (.ref f) = true) (hb : Binds X.K fd ps ds) (hd : Vals dvs ds) (hg : Gl X x) (hx : (x == ("__debug__" : Str)) = false) :
    PE X (.Call (.Name x p) [] [] pos) (fun σ H Q => sp dvs H Q (WE W σ)) where
  run := by
    intro pins s σ H Q I h
    apply wpAny_Call_Name_kw
    apply ld_glob I hg hm _ hx
    have hl : (([] : List Value) ++ ds).length = ps.length := hd.length.symm.trans (F.len _ _ _ _ h)
    exact PySem.W.callWith_K0 I.kIn hk (go_fg (us := []) F hr tk I (hb s [] I.kIn hl) hd h)
/-- with keywords: gV puts positional and keyword values in the parameters' order -/
theorem pe_fgK {ks : List Str} {g : List Value → List Value → List Value} {gV : List V → List V → List V} {kws : List Keyword} {tk' : TA} (F : FnG X.prog X.w X.K X.mg X.base (L2N.CX X.prog X.w) k f fd ps sp) (hr : Rm k X.A) (tk : Takes X W) (hm : X.mg x = some (.ref f)) (hk : PySem.W.keepIn X.K (.ref f) = true)
    (hb : KBinds X.K fd ps ks g gV) (ha : PA X (e :: es) t) (hw : PK X kws tk') (hg : Gl X x) (hx : (x == ("__debug__" : Str)) = false) (h1 : starEach (e :: es) X.env = (false, eval e X.env) :: starEach es X.env)
    (h2 : ((backTo pos (starEach (e :: es) X.env)).any (·.1) || (backToKw pos (keywordEach kws X.env)).any (·.1.isNone)) = false) (h3 : (backToKw pos (keywordEach kws X.env)).all (·.1.isSome) = true) (h4 : (backToKw pos (keywordEach kws X.env)).filterMap (·.1) = ks) :
    PE X (.Call (.Name x p) (e :: es) kws pos) (fun σ H Q => t σ H fun vs H1 => tk' σ H1 fun zs H2 => sp (gV vs zs) H2 Q (WE W σ)) where
  run := by
    intro pins s σ H Q I h
    apply wpAny_Call_Name_kw
    apply ld_glob I hg hm _ hx
    refine PySem.W.callWith_KW (h₀ := X.base) I.ok.mod.kin hk h3 (thn (ha.run pos pins s σ H _ I h) ?_) h2 h1
    rintro us s1 ⟨vs, H1, I1, r, q⟩
    refine thn (hw.run pos pins s1 σ H1 _ I1 q) ?_
    rintro ws s2 ⟨zs, H2, I2, rz, q2⟩
    refine ⟨I2.kIn, ?_⟩
    rw [h4]
    have r2 := hb.rel r rz
    have hl : (g us ws).length = ps.length := r2.length.symm.trans (F.len _ _ _ _ q2)
    exact go_fg F hr tk I2 (hb.to s2 us ws I2.kIn hl) r2 q2
end

/-! ### the plain function of a call -/
def noIoA : List Ar → Bool
  | [] => true
  | .v _ :: as => noIoA as
  | .io _ :: _ => false
def rsv (env : Env) : List Ax → Option (List Ar)
  | [] => some []
  | .v d :: as => (rsv env as).bind fun r => some (.v d :: r)
  | .sl j :: as => (match env[j]? with
    | some s => s.mut
    | none => none).bind fun d => (rsv env as).bind fun r => if noIoA r then some (.io d :: r) else none
def axIx : List Ax → Option Nat
  | [] => none
  | .v _ :: as => axIx as
  | .sl j :: _ => some j
def wb (axs : List Ax) (io : Option D) (env : Env) : Option Env := match axIx axs, io with
  | none, none => some env
  | some j, some d => (match env[j]? with
    | some s => some (env.set j (s.upd d))
    | none => none)
  | _, _ => none
def mCall (F : DF) (ds : List D) (m : M (List Ax)) : M Rs := m.bind fun axs env => (rsv env axs).bind fun as => match F (as ++ ds.map .v) with
  | none => none
  | some (.rt (.bw _) _) => none
  | some (.rt r io) => (wb axs io env).bind fun env' => some (.ok r env')
  | some (.ex c ns vs io) => (wb axs io env).bind fun env' => some (.ex c ns vs env')
section
variable {K : PySem.W.Frag} {mg : Str → Option Value}
theorem noIoA_of {S H : Hp} : ∀ {as : List Ar} {q : Option Addr} {vs : List V}, ArR K mg S H q vs as → noIoA as = true → q = none
  | [], _, _, h, _ => by cases h; rfl
  | .v _ :: as, _, _, h, e => by cases h with | v _ t => exact noIoA_of t e
  | .io _ :: as, _, _, h, e => by cases e
theorem rsv_ok {env : Env} {σ : St} {S H : Hp} (r : Rel K mg env σ S H) : ∀ {axs : List Ax} {vs : List V} {as : List Ar}, AxR K mg σ S vs axs → rsv env axs = some as →
    ∃ q, ArR K mg S H q vs as ∧ ((axIx axs = none ∧ q = none) ∨ ∃ j a s d, axIx axs = some j ∧ q = some a ∧ env[j]? = some s ∧ s.mut = some d ∧ σ[j]? = some (some (.ref a)))
  | [], _, _, h, e => by
    cases h
    cases e
    exact ⟨none, .nil, .inl ⟨rfl, rfl⟩⟩
  | .v d :: axs, _, _, h, e => by
    cases h with
    | v rv t =>
      unfold rsv at e
      cases er : rsv env axs with
      | none => simp [er] at e
      | some as' =>
        simp only [er, Option.bind_some] at e
        cases e
        obtain ⟨q, h1, h2⟩ := rsv_ok r t er
        exact ⟨q, .v rv h1, h2⟩
  | .sl j :: axs, _, _, h, e => by
    cases h with
    | sl hv t =>
      unfold rsv at e
      cases ej : env[j]? with
      | none => simp [ej] at e
      | some s =>
        cases em : s.mut with
        | none => simp [ej, em] at e
        | some d =>
          cases er : rsv env axs with
          | none => simp [ej, em, er] at e
          | some as' =>
            simp only [ej, em, er, Option.bind_some] at e
            split at e
            · rename_i hn
              cases e
              obtain ⟨q, h1, _⟩ := rsv_ok r t er
              have := noIoA_of h1 hn
              subst this
              obtain ⟨a, ho, k1, k2, k3, k4⟩ := (r.sl j s ej).mut em
              rw [hv] at k1
              cases k1
              exact ⟨some a, .io k2 k3 k4 h1, .inr ⟨j, a, s, d, rfl, rfl, ej, em, hv⟩⟩
            · cases e
theorem RpA.arR {S H : Hp} : ∀ {es : List D} {ws : List V}, RpA K mg S ws es → ArR K mg S H none ws (es.map .v)
  | [], _, h => by cases h; exact .nil
  | e :: es, _, h => by cases h with | cons a b => exact .v a b.arR
theorem ArR.app {S H : Hp} {ws : List V} {es : List D} (re : RpA K mg S ws es) : ∀ {as : List Ar} {q : Option Addr} {vs : List V}, ArR K mg S H q vs as → ArR K mg S H q (vs ++ ws) (as ++ es.map .v)
  | [], _, _, h => by cases h; exact re.arR
  | .v _ :: as, _, _, h => by cases h with | v a t => exact .v a (t.app re)
  | .io _ :: as, _, _, h => by cases h with | io a b c t => exact .io a b c (t.app re)
/-- a call's end is a step -/
theorem Dn.step {env env' : Env} {σ : St} {S H S' H' : Hp} {q : Option Addr} {axs : List Ax} {io : Option D} (r : Rel K mg env σ S H) (dn : Dn K mg q S H S' H' io)
    (h : (axIx axs = none ∧ q = none) ∨ ∃ j a s d, axIx axs = some j ∧ q = some a ∧ env[j]? = some s ∧ s.mut = some d ∧ σ[j]? = some (some (.ref a))) (e : wb axs io env = some env') : Step K mg env σ S H env' σ S' H' ∧ ∀ b, Own env' σ b → Own env σ b := by
  have own' : ∀ b, Own env σ b → q ≠ some b → ∃ ho, H b = some ho ∧ H' b = some ho ∧ S' b = none := fun b o n => by
    obtain ⟨h1, ho, h2⟩ := r.own o
    refine ⟨ho, h2, dn.frm b ho h2 n, ?_⟩
    cases e3 : S' b with
    | none => rfl
    | some u =>
      rcases dn.new b u e3 with z | z
      · rw [h1] at z; cases z
      · rw [h2] at z; cases z
  rcases h with ⟨h1, rfl⟩ | ⟨j, a, s, d, h1, rfl, ej, em, hσ⟩
  · unfold wb at e
    rw [h1] at e
    cases io with
    | some _ => cases e
    | none =>
      cases e
      refine ⟨⟨⟨r.len, dn.sub, fun i s es => ?_, r.inj⟩, dn.ext, fun b o e2 _ => dn.frm b o e2 (fun z => by cases z), fun b o e2 => (dn.new b o e2).imp id .inl, fun b o => .inl o, fun i d e2 => ⟨rfl, d, e2⟩⟩, fun b o => o⟩
      have q := r.sl i s es
      cases s with
      | no => trivial
      | v d =>
        obtain ⟨v, k1, k2⟩ := q
        exact ⟨v, k1, k2.mono dn.ext⟩
      | own d =>
        obtain ⟨b, ho, k1, k2, k3, k4⟩ := q
        obtain ⟨ho', m1, m2, m3⟩ := own' b ⟨i, ⟨_, d, es, rfl⟩, k1⟩ (fun z => by cases z)
        rw [k3] at m1
        cases m1
        exact ⟨b, ho, k1, m3, m2, k4.mono dn.ext⟩
      | io d =>
        obtain ⟨b, ho, k1, k2, k3, k4⟩ := q
        obtain ⟨ho', m1, m2, m3⟩ := own' b ⟨i, ⟨_, d, es, rfl⟩, k1⟩ (fun z => by cases z)
        rw [k3] at m1
        cases m1
        exact ⟨b, ho, k1, m3, m2, k4.mono dn.ext⟩
  · unfold wb at e
    rw [h1] at e
    obtain ⟨ho, d', rfl, n1, n2, n3⟩ := dn.at' a rfl
    simp only [ej] at e
    cases e
    have oj : OwnAt env σ j a := ⟨⟨s, d, ej, em⟩, hσ⟩
    have hlt : j < env.length := (List.getElem?_eq_some_iff.mp ej).1
    have at_ : ∀ i b, OwnAt (env.set j (s.upd d')) σ i b → OwnAt env σ i b := fun i b ⟨⟨s', d2, es, m⟩, hq⟩ => by
      by_cases h : j = i
      · subst h
        exact ⟨⟨s, d, ej, em⟩, hq⟩
      · rw [List.getElem?_set_ne h] at es
        exact ⟨⟨s', d2, es, m⟩, hq⟩
    refine ⟨⟨⟨by rw [List.length_set]; exact r.len, dn.sub, fun i s' es => ?_, fun i k b o1 o2 => r.inj i k b (at_ i b o1) (at_ k b o2)⟩, dn.ext, fun b o e2 n => dn.frm b o e2 fun z => ?_, fun b o e2 => (dn.new b o e2).imp id .inl, fun b ⟨i, o⟩ => .inl ⟨i, at_ i b o⟩, fun i d0 e2 => ⟨rfl, ?_⟩⟩, fun b ⟨i, o⟩ => ⟨i, at_ i b o⟩⟩
    · by_cases h : j = i
      · subst h
        rw [List.getElem?_set_self hlt] at es
        have es' : s.upd d' = s' := by simpa using es
        subst es'
        cases s with
        | no => cases em
        | v _ => cases em
        | own _ => exact ⟨a, ho, hσ, n1, n2, n3⟩
        | io _ => exact ⟨a, ho, hσ, n1, n2, n3⟩
      · rw [List.getElem?_set_ne h] at es
        have q := r.sl i s' es
        have nb : ∀ b, σ[i]? = some (some (.ref b)) → (∃ d2, s'.mut = some d2) → some a ≠ some b := fun b hb ⟨d2, m2⟩ z => by
          cases z
          exact h (r.inj j i a oj ⟨⟨s', d2, es, m2⟩, hb⟩)
        cases s' with
        | no => trivial
        | v d2 =>
          obtain ⟨v, k1, k2⟩ := q
          exact ⟨v, k1, k2.mono dn.ext⟩
        | own d2 =>
          obtain ⟨b, ho2, k1, k2, k3, k4⟩ := q
          obtain ⟨ho', m1, m2, m3⟩ := own' b ⟨i, ⟨_, d2, es, rfl⟩, k1⟩ (nb b k1 ⟨d2, rfl⟩)
          rw [k3] at m1
          cases m1
          exact ⟨b, ho2, k1, m3, m2, k4.mono dn.ext⟩
        | io d2 =>
          obtain ⟨b, ho2, k1, k2, k3, k4⟩ := q
          obtain ⟨ho', m1, m2, m3⟩ := own' b ⟨i, ⟨_, d2, es, rfl⟩, k1⟩ (nb b k1 ⟨d2, rfl⟩)
          rw [k3] at m1
          cases m1
          exact ⟨b, ho2, k1, m3, m2, k4.mono dn.ext⟩
    · cases z
      exact n ⟨j, oj⟩
    · by_cases h : j = i
      · subst h
        rw [ej] at e2
        cases e2
        exact ⟨d', List.getElem?_set_self hlt⟩
      · rw [List.getElem?_set_ne h]
        exact ⟨d0, e2⟩
theorem RsC.rs {env env' : Env} {σ : St} {S H S' H' : Hp} {v : V} {r : Rs} (rel : Rel K mg env σ S H) (ow : ∀ b, Own env' σ b → Own env σ b) (h : RsC K mg H S' H' v r) : RsR K mg (Mine env σ H) env' σ S' H' v r := by
  cases r with
  | v d => exact h
  | bw _ => exact h.elim
  | fr d =>
    obtain ⟨a, ho, rfl, h2, h3, h4, h5⟩ := h
    refine ⟨a, ho, rfl, h3, h4, h5, fun z => ?_, .inl h2⟩
    obtain ⟨_, ho', e⟩ := rel.own (ow a z)
    rw [h2] at e
    cases e
/-- what stands behind a call's arguments -/
theorem call_ok {W : WX} {F : DF} {dflt : List D} {dvs : List V} {axs : List Ax} {vs : List V} {env : Env} {σ : St} {S H : Hp} {Q : V → Hp → Prop} (rel : Rel K mg env σ S H) (ra : AxR K mg σ S vs axs) (rd : RpA K mg S dvs dflt)
    (g : Go K mg W (RR K mg) (fun env => (rsv env axs).bind fun as => match F (as ++ dflt.map .v) with
      | none => none
      | some (.rt (.bw _) _) => none
      | some (.rt r io) => (wb axs io env).bind fun env' => some (Res.ok r env')
      | some (.ex c ns vs io) => (wb axs io env).bind fun env' => some (Res.ex c ns vs env')) env σ S H Q) : spM K mg F (vs ++ dvs) H Q (WE W σ) := by
  unfold Go at g
  cases er : rsv env axs with
  | none => simp [er] at g
  | some as =>
    simp only [er, Option.bind_some] at g
    obtain ⟨q, h1, h2⟩ := rsv_ok rel ra er
    cases eF : F (as ++ dflt.map .v) with
    | none => simp [eF] at g
    | some o =>
      refine ⟨S, q, _, o, rel.sub, h1.app rd, eF, ?_⟩
      cases o with
      | ex c ns vs io =>
        simp only [eF] at g
        intro C d fv S' H' hc dn e1 e2 e3
        cases ew : wb axs io env with
        | none => simp [ew] at g
        | some env' =>
          simp only [ew, Option.bind_some] at g
          exact g C d fv S' H' hc (Dn.step rel dn h2 ew).1 e1 e2 e3
      | rt r io =>
        intro v S' H' dn rc
        cases r with
        | bw i => exact rc.elim
        | v d =>
          simp only [eF] at g
          cases ew : wb axs io env with
          | none => simp [ew] at g
          | some env' =>
            simp only [ew, Option.bind_some] at g
            obtain ⟨st, ow⟩ := Dn.step rel dn h2 ew
            exact g v S' H' st (rc.rs rel ow)
        | fr d =>
          simp only [eF] at g
          cases ew : wb axs io env with
          | none => simp [ew] at g
          | some env' =>
            simp only [ew, Option.bind_some] at g
            obtain ⟨st, ow⟩ := Dn.step rel dn h2 ew
            exact g v S' H' st (rc.rs rel ow)
end
section
variable {k : Nat} {f : Addr} {fd : FuncData} {ps : List Str} {F : DF} {dvs : List V} {dflt : List D} {ds : List Value} {x : Str} {p pos : Pos} {e : Expr} {es : List Expr} {m : M (List Ax)}
/-- f(e, ..), the lacking parameters' defaults dflt -/
theorem sr_call (G : FnG X.prog X.w X.K X.mg X.base (L2N.CX X.prog X.w) k f fd ps (spM X.K X.mg F)) (hr : Rm k X.A) (hm : X.mg x = some (.ref f)) (hk : PySem.W.keepIn X.K (.ref f) = true) (hb : Binds X.K fd ps ds) (hd : Vals dvs ds) (hdd : ∀ S, RpA X.K X.mg S dvs dflt) (ha : SX X (e :: es) m) (hg : Gl X x := by rfl) (hx : (x == ("__debug__" : Str)) = false := by decide)
    (h1 : starEach (e :: es) X.env = (false, eval e X.env) :: starEach es X.env := by rfl) (h2 : (backTo pos (starEach es X.env)).any (·.1) = false := by rfl) : SR X (.Call (.Name x p) (e :: es) [] pos) (mCall F dflt m) := fun W tk =>
  pe_imp (pe_fg G hr tk hm hk hb hd (ha W tk) hg hx h1 h2) fun σ H Q ⟨env, S, r, g⟩ => g.part nmR r fun vs H1 env1 S1 axs st ra g1 => call_ok st.rel ra (hdd S1) g1
theorem sr_call0 (G : FnG X.prog X.w X.K X.mg X.base (L2N.CX X.prog X.w) k f fd ps (spM X.K X.mg F)) (hr : Rm k X.A) (hm : X.mg x = some (.ref f)) (hk : PySem.W.keepIn X.K (.ref f) = true) (hb : Binds X.K fd ps ds) (hd : Vals dvs ds) (hdd : ∀ S, RpA X.K X.mg S dvs dflt) (hg : Gl X x := by rfl) (hx : (x == ("__debug__" : Str)) = false := by decide) :
    SR X (.Call (.Name x p) [] [] pos) (mCall F dflt xNil) := fun W tk =>
  pe_imp (pe_fg0 G hr tk hm hk hb hd hg hx) fun σ H Q ⟨env, S, r, g⟩ => by
    have q := g.part (R := RX X.K X.mg) (Q1 := fun vs H1 => spM X.K X.mg F (vs ++ dvs) H1 Q (WE W σ)) nmR r fun vs H1 env1 S1 axs st ra g1 => call_ok st.rel ra (hdd S1) g1
    obtain ⟨env', S', r', g'⟩ := q
    exact g'.ret (R := RX X.K X.mg) r' .nil
end

/-! ### the law's call -/
section
variable {P : Program} {w : World} {K : PySem.W.Frag} {mg mb : Str → Option Value} {k : Nat} {fa a : Addr} {fd : FuncData} {x : Str} {F : DF} {t0 : Shared} {vs : List Value} {ns : List Int}
/-- what the law's call must come to -/
abbrev LawEnd (t0 : Shared) (r : Result) (t1 : Shared) : Prop := r = .ok (.ret (.bool true)) ∧ OldK t0.heap t1.heap ∧ t1.os = t0.os ∧ AllBare t1.gens
/-- with nothing tracked, or the script alone -/
theorem law_at (KX : K.In t0.heap) (hns : t0.heap.Ns mainGlobals mg) (hb : t0.heap.Ns builtinsNs mb) (hbb : ∀ y : Str, y ≠ "__name__" → mb y = bootBuiltins y) (hlim : t0.heap.NoLimit) (hgens : t0.gens = #[]) (hr : Rm k callerA)
    (G : ∀ base : Heap, K.In base → base.Ns mainGlobals mg → FnG P w K mg base (L2N.CX P w) k fa fd [x] (spM K mg F)) (hbind : ∀ (s : Shared) (u : Value), BindsTo s fd ⟨[u], []⟩ [(x, u)]) (hF : F [.v (.scr ns)] = some (.rt (.v (.bl true)) none))
    {n : Nat} (ha : t0.heap.get? a = some { cls := .type "list", data := .seq vs.toArray n }) (H : Hp) (only : ∀ b, b ≠ a → H b = none) (self : H a = none ∨ ∃ o xs, H a = some (.frz o (.lst xs))) (hk : H a ≠ none → K.lookup a = none) (hS : SqL K H a (ns.map V.int)) (hok : HOk P w H t0.heap) :
    codeAny (model P w) callerA (.call (.ref fa) ⟨[.ref a], []⟩) (LawEnd t0) t0 := by
  have free : ∀ {b : Addr} {o : Obj}, t0.heap.get? b = some o → (∀ ob xs, H b ≠ some (.frz ob (.lst xs))) → H b = none := by
    intro b o _ hn
    by_cases e : b = a
    · subst e
      exact self.elim id fun ⟨ob, xs, z⟩ => absurd z (hn ob xs)
    · exact only b e
  have low : ∀ {b : Addr} {m : Str → Option Value}, t0.heap.Ns b m → (hidT t0.heap H).Ns b m := by
    rintro b m ⟨o, es, ep, e, d, rest⟩
    refine ⟨o, es, ep, hidT_get e ?_, d, rest⟩
    by_cases eb : b = a
    · subst eb
      rw [ha] at e
      cases e
      cases (show Data.seq vs.toArray n = Data.dict es ep from d)
    · exact only b eb
  have inK : K.In (hidT t0.heap H) := by
    intro b o e
    refine hidT_get (KX b o e) ?_
    by_cases eb : b = a
    · subst eb
      refine Classical.byContradiction fun z => ?_
      rw [hk z] at e
      cases e
    · exact only b eb
  have md : Mod K mg (hidT t0.heap H) := by
    obtain ⟨ml, l1, l2⟩ := hlim
    exact ⟨inK, low hns, ⟨mb, low hb, hbb⟩, ⟨ml, low l1, l2⟩⟩
  have e0 : Env0 P w K mg (hidT t0.heap H) callerA [] t0 H :=
    { frames := rfl, mod := md, bs := fun b o e => of_hidT e, bsz := Nat.le_of_eq (hidT_size _ _), funs := trivial, frf := fun b z => (nomatch z), hok := hok, bare := .of_eq hgens }
  have sp : spM K mg F [.ref a] H (fun v _ => v = .bl true) (fun _ _ _ => False) :=
    ⟨H, none, _, _, Same.refl H, .v (.scr hS) .nil, hF, fun v S' H' _ rc => by
      have rc' : Rp K mg S' v (.bl true) := rc
      cases rc'
      rfl⟩
  refine codeAny_mono ((G _ inK (low hns)).run (us := [.ref a]) hr e0 (hbind t0 (.ref a)) (.cons (show RelV (.ref a) (.ref a) from rfl) .nil) sp) ?_
  intro res t1 done
  match res, done with
  | .error _, ⟨_, _, _, _, _, _, _, _, _, _, _, _, z⟩ => exact z.elim
  | .ok .next, z => exact z.elim
  | .ok .brk, z => exact z.elim
  | .ok .cont, z => exact z.elim
  | .ok (.ret u), ⟨v, H', os, bare, un, hok', rv, q⟩ =>
    have q' : v = .bl true := q
    subst q'
    cases (show u = Value.bool true from rv)
    refine ⟨rfl, OldK.of_keep fun b o e => ?_, os, bare⟩
    by_cases hb0 : H b = none
    · exact un.keep b o e hb0 (fun z => nomatch z) (fun z => nomatch z)
    · have eb : b = a := Classical.byContradiction fun z => hb0 (only b z)
      subst eb
      rcases self with z | ⟨ob, xs, z⟩
      · exact absurd z hb0
      · have old := (hok b _ z).1
        have new := (hok' b _ (un.frzs b ob _ z)).1
        rw [e] at old
        cases old
        exact new
theorem law_go (KX : K.In t0.heap) (hns : t0.heap.Ns mainGlobals mg) (hb : t0.heap.Ns builtinsNs mb) (hbb : ∀ y : Str, y ≠ "__name__" → mb y = bootBuiltins y) (hlim : t0.heap.NoLimit) (hgens : t0.gens = #[]) (hr : Rm k callerA)
    (G : ∀ base : Heap, K.In base → base.Ns mainGlobals mg → FnG P w K mg base (L2N.CX P w) k fa fd [x] (spM K mg F)) (hbind : ∀ (s : Shared) (u : Value), BindsTo s fd ⟨[u], []⟩ [(x, u)]) (hF : F [.v (.scr ns)] = some (.rt (.v (.bl true)) none))
    (ha : t0.heap.get? a = some { cls := .type "list", data := .seq vs.toArray }) (hi : IntsAre vs ns) (hl : ns.length ≤ sizeLine) : codeAny (model P w) callerA (.call (.ref fa) ⟨[.ref a], []⟩) (LawEnd t0) t0 := by
  have rv : Vals (ns.map V.int) vs := vals_ints hi
  cases hk : K.lookup a with
  | some o =>
    have e := KX a o hk
    rw [ha] at e
    cases e
    refine law_at KX hns hb hbb hlim hgens hr G hbind hF ha (fun _ => none) (fun _ _ => rfl) (.inl rfl) (fun z => absurd rfl z) ?_ (fun b u z => nomatch z)
    exact .inr ⟨_, vs.toArray, _, hk, rfl, rfl, rfl, by rw [List.size_toArray, hi.length]; exact hl, by simpa using rv⟩
  | none =>
    have at_a : ∀ u, (fun b => if b = a then some u else none : Hp) a = some u := fun u => if_pos rfl
    refine law_at KX hns hb hbb hlim hgens hr G hbind hF ha (fun b => if b = a then some (.frz { cls := .type "list", data := .seq vs.toArray } (.lst (ns.map V.int))) else none) (fun b z => if_neg z) (.inr ⟨_, _, at_a _⟩) (fun _ => hk) (.inl (.inr ⟨_, at_a _⟩)) ?_
    intro b u z
    by_cases eb : b = a
    · subst eb
      rw [at_a] at z
      cases z
      exact ⟨ha, by rw [List.length_map]; exact hl, vs, _, rv, ha⟩
    · rw [show (fun b => if b = a then _ else none : Hp) b = none from if_neg eb] at z
      cases z
end
end Z
end

section
set_option Elab.async false
set_option linter.all false
set_option maxRecDepth 100000
set_option autoImplicit false
/-! Chains of comparisons, isinstance, sorted, range as a list, sums of lists, slices, stores into what a slot owns. -/
namespace SrtO
open PySem PyProof.Rows Srt
section
variable {prog : Program} {w : World} {A : Around} {E : Value → Shared → Prop} {s : Shared}
/-- a tuple's parts, collected -/
theorem collect_tup {l : Addr} {o : Obj} {vs : List Value} {n : Nat} {Q : List Value → Shared → Prop} (ho : s.heap.get? l = some o) (hc : o.cls = .type "tuple") (hd : o.data = .seq vs.toArray n) (hz : vs.length ≤ sizeLine)
    (h : Q vs { s with heap := (s.heap.push (seqObj "list" #[] 0)).update s.heap.objs.size (Obj.mapSeq (· ++ vs.toArray)) }) : wpAny (model prog w) A (collect (.ref l)) Q E s := by
  have hnew : (s.heap.push (seqObj "list" #[] 0)).get? s.heap.objs.size = some (seqObj "list" #[] 0) := Heap.get?_push_size _ rfl
  have hold : (s.heap.push (seqObj "list" #[] 0)).get? l = some o := Heap.get?_push_of_some _ ho
  have hlen : (#[] ++ vs.toArray : Array Value).size ≤ sizeLine + 1 := by
    simp only [Array.size_append, List.size_toArray, List.length_nil]
    omega
  unfold collect
  apply wpAny_bind
  apply wpAny_runValue
  apply codeAny_builtin entry_proto_collect'
  show wpAny _ _ (do again (.builtin "list.__iadd__" ⟨[← newList [], .ref l], []⟩)) _ _ s
  apply wpAny_bind
  refine wpAny_newList ?_ (Nat.zero_le _)
  apply wpAny_pure
  refine ⟨Code.quiet_builtin _ (by decide +kernel), codeAny_builtin entry_list_iadd' ?_⟩
  show wpAny _ _ (Builtin.List.listExtendWith (.ref s.heap.objs.size) (.ref l) (.ref s.heap.objs.size)) _ _ ⟨s.heap.push (seqObj "list" #[] 0), s.gens, s.drawn, s.toks, s.os⟩
  unfold Builtin.List.listExtendWith
  apply wpAny_bind
  refine wpAny_typeOf (v := .ref l) (T := "tuple") ⟨o, hold, hc⟩ ?_
  have tt : (Value.type "tuple" == Value.type "tuple") = true := rfl
  rw [if_pos (by rw [tt, Bool.or_true])]
  apply wpAny_bind
  apply listItems_at hold hd
  apply wpAny_bind
  apply listItems_at (xs := #[]) (n := 0) hnew rfl
  rw [if_neg (by simp)]
  apply wpAny_bind
  refine listUpdate_at (xs := #[]) (n := 0) hnew rfl ?_ (Nat.zero_le _) hlen
  apply wpAny_pure
  show wpAny (model prog w) A (load s.heap.objs.size >>= fun o => match o.data with
    | .seq xs _ => pure xs.toList
    | _ => unsupported "internal:collect") Q E { s with heap := (s.heap.push (seqObj "list" #[] 0)).update s.heap.objs.size (Obj.mapSeq (· ++ vs.toArray)) }
  apply wpAny_bind
  apply wpAny_load (get?_update_seq hnew _)
  show wpAny _ _ (pure ((#[] : Array Value) ++ vs.toArray).toList) Q E _
  have ev : ((#[] : Array Value) ++ vs.toArray).toList = vs := by simp
  rw [ev]
  exact wpAny_pure h
/-- sorted(t), t a tuple of ints -/
theorem sorted_tupI {l : Addr} {vs : List Value} {ns : List Int} {Q : Value → Shared → Prop} (hl : IsTup s.heap l vs.toArray) (hi : IntsAre vs ns) (hz : vs.length ≤ sizeLine)
    (h : ∀ out : List Value, Srtd ltIv out → Stb ltIv out vs → Q (.ref (s.heap.objs.size + 1)) { s with heap := sortedAll s.heap vs out.toArray }) : wpAny (model prog w) A (call (.builtin "sorted") [.ref l]) Q E s := by
  obtain ⟨o, ho, hc, n, hd⟩ := hl
  apply Calls.call_function_entry kind_sorted plain_sorted entry_sorted (args_sorted1 _)
  unfold Builtin.«sorted»
  apply wpAny_bind (m := checkCount "sorted" 1 1 _)
  apply wpAny_pure
  apply wpAny_bind
  apply collect_tup ho hc hd hz
  apply wpAny_bind
  refine wpAny_newList ?_ hz
  generalize hg : (s.heap.push (seqObj "list" #[] 0)).update s.heap.objs.size (Obj.mapSeq (· ++ vs.toArray)) = g1
  have sz : g1.objs.size = s.heap.objs.size + 1 := by rw [← hg, Heap.size_update, size_push']
  have at1 : (g1.push (seqObj "list" vs.toArray 0)).get? (s.heap.objs.size + 1) = some (seqObj "list" vs.toArray 0) := sz ▸ Heap.get?_push_size _ rfl
  show wpAny _ _ _ _ _ { s with heap := g1.push (seqObj "list" vs.toArray 0) }
  rw [sz]
  apply wpAny_bind
  apply wpAny_holding
  refine wpAny_call_entry slot_list_sort ⟨_, at1, rfl⟩ entry_list_sort (list_sort_ord swo_int at1 hz (fun h2 => ints_sortable hi h2) fun out hs hb => ⟨_, rfl, ?_⟩) (args_list_sort _)
  refine wpAny_pure ⟨_, rfl, ?_⟩
  have := h out hs hb
  unfold sortedAll at this
  rw [hg] at this
  exact this
end
end SrtO

namespace Z
open PySem
open L2 hiding XE Takes CX passes_call takes_of passAt PMk MkP ps_raise mk_of ps_try_as ps_try_many pmk_own XE.of_call XE.new XE.leave Takes.imp Sky.land
open L2N (Takes CX takes_of passAt PMk MkP ps_raise)
variable {X : Cx}

/-! ### chains of comparisons -/
/-- y against what comes: each link a plain function and its right side -/
def chT : List ((D → D → Option D) × M D) → D → M Bool
  | [], _ => M.ret true
  | (f, m) :: r, y => m.bind fun z => (M.of fun _ => (f y z).bind blOf).bind fun b => if b then chT r z else M.ret false
structure SCh (X : Cx) (pos : Pos) (ops : List CmpOp) (rs : List (Sem Value)) (fs : List ((D → D → Option D) × M D)) : Prop where
  run : ∀ (W : WX), Takes X W → ∀ (pins : List (Addr × Obj)) (s : Shared) (σ : St) (env : Env) (S H : Hp) (v : V) (u : Value) (y : D) (Q : Bool → Hp → Prop), Inv X pins σ H s → RelV v u → Rel X.K X.mg env σ S H → Rp X.K X.mg S v y → Go X.K X.mg W RB (chT fs y) env σ S H Q →
    wpAny (model X.prog X.w) X.A (testChain pos u ops rs) (TP X pins σ Q) X.xe s
/-- a link's own facts -/
theorem link_ok {W : WX} {op : CmpOp} {r2 : R2} {f : D → D → Option D} {c : Expr} {m : M D} {k : D → M Bool} (ho : OpR X (compareOp op) r2) (hr : Says X.K X.mg r2 f) (hc : SV X c m) (tk : Takes X W) {pins : List (Addr × Obj)} {s : Shared} {σ : St} {env : Env} {S H : Hp} {v : V} {u : Value} {y : D} {Q : Bool → Hp → Prop} {P2 : Value → Bool → Shared → Prop}
    (I : Inv X pins σ H s) (rv : RelV v u) (rel : Rel X.K X.mg env σ S H) (ry : Rp X.K X.mg S v y) (g : Go X.K X.mg W RB (m.bind fun z => (M.of fun _ => (f y z).bind blOf).bind fun b => if b then k z else M.ret false) env σ S H Q)
    (hk : ∀ s3 H3 env3 S3 w uw z, Inv X pins σ H3 s3 → RelV w uw → Rel X.K X.mg env3 σ S3 H3 → Rp X.K X.mg S3 w z → Go X.K X.mg W RB (k z) env3 σ S3 H3 Q → P2 uw true s3) (hn : ∀ s3 H3 uw, Inv X pins σ H3 s3 → Q false H3 → P2 uw false s3) :
    wpAny (model X.prog X.w) X.A (eval c X.env) (fun b s₁ => wpAny (model X.prog X.w) X.A (compareOp op u b) (fun t s₂ => wpAny (model X.prog X.w) X.A (truthy t) (fun t s₃ => P2 b t s₃) X.xe s₂) X.xe s₁) X.xe s := by
  have q := g.part (R := RD X.K X.mg) (Q1 := fun w H1 => ∃ env1 S1 z, Rel X.K X.mg env1 σ S1 H1 ∧ Rp X.K X.mg S1 w z ∧ Rp X.K X.mg S1 v y ∧ Go X.K X.mg W RB ((M.of fun _ => (f y z).bind blOf).bind fun b => if b then k z else M.ret false) env1 σ S1 H1 Q) nmB rel fun w H1 env1 S1 z st rz g1 => ⟨env1, S1, z, st.rel, rz, ry.mono st.ext, g1⟩
  refine thn ((hc W tk).run pins s σ H _ I q) ?_
  rintro uw s1 ⟨w, H1, I1, rw', env1, S1, z, rel1, rz, ry1, g1⟩
  have g2 := g1.bind (R := RB) nmB
  obtain ⟨b, e, q2⟩ := g2.of
  cases ef : f y z with
  | none => simp [ef] at e
  | some d =>
    simp only [ef, Option.bind_some] at e
    cases d with
    | bl b' =>
      cases e
      refine thn (ho pins s1 σ H1 v w u uw (fun x H2 => H2 = H1 ∧ x = .bl b) I1 rv rw' (hr rel1.sub ry1 rz ef fun x hx => ⟨rfl, by cases hx S1; rfl⟩)) ?_
      rintro ut s2 ⟨x, H2, I2, r2, rfl, rfl⟩
      cases r2
      refine wpAny_truthy_bool ?_
      obtain ⟨env2, S2, b2, st2, eb, g3⟩ := q2 b S1 H2 (Step.refl rel1) rfl
      have eb' : b = b2 := eb
      subst eb'
      cases b with
      | true => exact hk s2 H2 env2 S2 w uw z I2 rw' st2.rel (rz.mono st2.ext) g3
      | false => exact hn s2 H2 uw I2 (g3.ret (R := RB) st2.rel rfl)
    | _ => cases e
theorem sch_last {pos : Pos} {op : CmpOp} {c : Expr} {r2 : R2} {f : D → D → Option D} {m : M D} (ho : OpR X (compareOp op) r2) (hr : Says X.K X.mg r2 f) (hc : SV X c m) : SCh X pos [op] [eval c X.env] [(f, m)] where
  run := by
    intro W tk pins s σ env S H v u y Q I rv rel ry g
    refine PyProof.Rows.test_last (link_ok (k := chT []) (P2 := fun _ t s₃ => TP X pins σ Q t s₃) ho hr hc tk I rv rel ry g (fun s3 H3 env3 S3 w uw z I3 _ rel3 _ g3 => ⟨H3, I3, g3.ret (R := RB) rel3 rfl⟩) fun s3 H3 uw I3 q => ⟨H3, I3, q⟩)
theorem sch_cons {pos : Pos} {op op' : CmpOp} {ops : List CmpOp} {c : Expr} {r' : Sem Value} {rs : List (Sem Value)} {r2 : R2} {f : D → D → Option D} {m : M D} {fs : List ((D → D → Option D) × M D)} (ho : OpR X (compareOp op) r2) (hr : Says X.K X.mg r2 f) (hc : SV X c m) (h : SCh X pos (op' :: ops) (r' :: rs) fs) : SCh X pos (op :: op' :: ops) (eval c X.env :: r' :: rs) ((f, m) :: fs) where
  run := by
    intro W tk pins s σ env S H v u y Q I rv rel ry g
    refine PyProof.Rows.test_link (link_ok (k := chT fs) (P2 := fun b t s₃ => if t then wpAny (model X.prog X.w) X.A (testChain pos b (op' :: ops) (r' :: rs)) (TP X pins σ Q) X.xe s₃ else TP X pins σ Q false s₃) ho hr hc tk I rv rel ry g (fun s3 H3 env3 S3 w uw z I3 rw3 rel3 rz g3 => ?_) fun s3 H3 uw I3 q => ?_)
    · rw [if_pos rfl]
      exact h.run W tk pins s3 σ env3 S3 H3 w uw z Q I3 rw3 rel3 rz g3
    · rw [if_neg Bool.false_ne_true]
      exact ⟨H3, I3, q⟩
def mChain (m : M D) (fs : List ((D → D → Option D) × M D)) : M Bool := m.bind fun y => chT fs y
theorem st_chain {a b c : Expr} {rs : List Expr} {op op' : CmpOp} {ops : List CmpOp} {m : M D} {fs : List ((D → D → Option D) × M D)} {pos : Pos} (ha : SV X a m) (h : SCh X pos (op :: op' :: ops) (eval b X.env :: eval c X.env :: evalEach rs X.env) fs) (hm : lastMarks (op :: op' :: ops) (b :: c :: rs) = false := by with_unfolding_all rfl) :
    ST X (.Compare a (op :: op' :: ops) (b :: c :: rs) pos) (mChain m fs) := fun W tk => ⟨fun pins s σ H Q I ⟨env, S, rel, g⟩ => by
  refine PyProof.Rows.isTrue_chain ?_ hm
  have q := g.part (R := RD X.K X.mg) (Q1 := fun w H1 => ∃ env1 S1 z, Rel X.K X.mg env1 σ S1 H1 ∧ Rp X.K X.mg S1 w z ∧ Go X.K X.mg W RB (chT fs z) env1 σ S1 H1 Q) nmB rel fun w H1 env1 S1 z st rz g1 => ⟨env1, S1, z, st.rel, rz, g1⟩
  refine thn ((ha W tk).run pins s σ H _ I q) ?_
  rintro u s1 ⟨v, H1, I1, rv, env1, S1, z, rel1, rz, g1⟩
  exact h.run W tk pins s1 σ env1 S1 H1 v u z Q I1 rv rel1 rz g1⟩

/-! ### isinstance with built-in types -/
def tyN : D → Option String
  | .non => some "NoneType"
  | .bl _ => some "bool"
  | .int _ => some "int"
  | .str _ => some "str"
  | .lst _ => some "list"
  | .tup _ => some "tuple"
  | .dct _ _ => some "dict"
  | _ => none
def fIsi (T : String) (d : D) : Option D := (tyN d).bind fun n => (kitB n T).bind fun b => some (.bl b)
def kitB2 (n : String) : List String → Option Bool
  | [] => some false
  | T :: Ts => (kitB n T).bind fun b => (kitB2 n Ts).bind fun r => some (b || r)
def fIsiT (Ts : List String) (d : D) : Option D := (tyN d).bind fun n => (kitB2 n Ts).bind fun b => some (.bl b)
section
variable {K : PySem.W.Frag} {mg : Str → Option Value}
theorem Tp.ty {S H : Hp} {v : V} {d : D} {n : String} (sub : Same S H) (h : Tp K mg S H v d) (e : tyN d = some n) : TyX K H v (.type n) := by
  cases d with
  | lst ds =>
    obtain ⟨p, vs, rfl, h2, _⟩ := h.lst sub
    cases e
    exact .base (.lst h2)
  | tup ds =>
    obtain ⟨p, vs, rfl, h2, _⟩ := h.tup sub
    cases e
    rcases h2 with (h2 | ⟨o, h2⟩) | ⟨o, its, k, h2, h3, _⟩
    · exact .base (.tup h2)
    · exact .fTuple h2
    · exact .kTuple h2 h3
  | dct ks ds =>
    cases e
    rcases h with h | ⟨a, ho, rfl, h2, h3⟩
    · cases h with | dct a b c r => exact .base (.dK (sub _ _ a))
    · cases h3; exact .base (.dK h2)
  | ins _ _ _ => cases e
  | exc _ _ _ => cases e
  | scr _ => cases e
  | _ =>
    cases e
    rcases h with h | ⟨a, ho, rfl, h2, h3⟩
    · cases h
      constructor
      constructor
    · cases h3
theorem kitAny_of {n : String} : ∀ {Ts : List String} {b : Bool}, kitB2 n Ts = some b → PySem.W.kitAny K (.type n) (Ts.map Value.type) = some b
  | [], _, h => by cases h; exact kitAny_nil
  | T :: Ts, b, h => by
    unfold kitB2 at h
    cases e1 : kitB n T with
    | none => simp [e1] at h
    | some c =>
      cases e2 : kitB2 n Ts with
      | none => simp [e1, e2] at h
      | some r =>
        simp only [e1, e2, Option.bind_some] at h
        cases h
        refine kitAny_cons (kit_ty e1) (fun z => ?_) (fun z => by rw [z]; rfl)
        subst z
        exact kitAny_of e2
end
section
variable {a : Expr} {m : M Rs} {p q pos : Pos} {T T2 : Str} {t t2 : String}
theorem sv_isi (ha : SR X a m) (hm : X.mg "isinstance" = none) (hT : X.mg T = none) (hv : bootBuiltins T = some (.type t)) (hg : Gl X "isinstance" := by rfl) (hgT : Gl X T := by rfl) (hn : T ≠ "__name__" := by decide) (hd : (T == ("__debug__" : Str)) = false := by decide)
    (h1 : starEach [a, .Name T q] X.env = (false, eval a X.env) :: starEach [.Name T q] X.env := by rfl) (h2 : starEach [.Name T q] X.env = (false, eval (.Name T q) X.env) :: starEach [] X.env := by rfl) (h3 : (backTo pos (starEach [.Name T q] X.env)).any (·.1) = false := by rfl) :
    SV X (.Call (.Name "isinstance" p) [a, .Name T q] [] pos) (mG (fIsi t) m) := fun W tk =>
  pe_imp (pe_callB call_isi hg hm (by decide +kernel) (pa_cons (ha W tk) (pa_cons (pe_bltn (v := .ty t) hgT hT hv rfl hn hd) pa_nil h2) h1) (by decide) (by decide) h1 h3) fun σ H Q ⟨env, S, rl, g⟩ =>
  g.part nmD rl fun x H1 env1 S1 a st ra g1 => by
    obtain ⟨d, o, tp, e, k⟩ := g1.get st.rel ra
    unfold fIsi at e
    cases e1 : tyN d with
    | none => simp [e1] at e
    | some n =>
      cases e2 : kitB n t with
      | none => simp [e1, e2] at e
      | some b =>
        simp only [e1, e2, Option.bind_some] at e
        cases e
        exact ⟨x, .ty t, _, _, b, rfl, .ty t, tp.ty st.rel.sub e1, kit_ty e2, k _ S1 H1 (Step.refl st.rel) (.bl b)⟩
theorem sv_isi2 {q2 qt : Pos} {kt : Nat} (ha : SR X a m) (hm : X.mg "isinstance" = none) (hT : X.mg T = none) (hv : bootBuiltins T = some (.type t)) (hT2 : X.mg T2 = none) (hv2 : bootBuiltins T2 = some (.type t2)) (hg : Gl X "isinstance" := by rfl) (hgT : Gl X T := by rfl) (hgT2 : Gl X T2 := by rfl) (hn : T ≠ "__name__" := by decide) (hd : (T == ("__debug__" : Str)) = false := by decide)
    (hn2 : T2 ≠ "__name__" := by decide) (hd2 : (T2 == ("__debug__" : Str)) = false := by decide)
    (h1 : starEach [a, .Tuple [.Name T q, .Name T2 q2] kt qt] X.env = (false, eval a X.env) :: starEach [.Tuple [.Name T q, .Name T2 q2] kt qt] X.env := by rfl) (h2 : starEach [.Tuple [.Name T q, .Name T2 q2] kt qt] X.env = (false, eval (.Tuple [.Name T q, .Name T2 q2] kt qt) X.env) :: starEach [] X.env := by rfl)
    (h3 : (backTo pos (starEach [.Tuple [.Name T q, .Name T2 q2] kt qt] X.env)).any (·.1) = false := by rfl) (h4 : starEach [.Name T q, .Name T2 q2] X.env = (false, eval (.Name T q) X.env) :: starEach [.Name T2 q2] X.env := by rfl) (h5 : starEach [.Name T2 q2] X.env = (false, eval (.Name T2 q2) X.env) :: starEach [] X.env := by rfl) :
    SV X (.Call (.Name "isinstance" p) [a, .Tuple [.Name T q, .Name T2 q2] kt qt] [] pos) (mG (fIsiT [t, t2]) m) := fun W tk =>
  pe_imp (pe_callB call_isiT hg hm (by decide +kernel) (pa_cons (ha W tk) (pa_cons (pe_tup (pa_cons (pe_bltn (v := .ty t) hgT hT hv rfl hn hd) (pa_cons (pe_bltn (v := .ty t2) hgT2 hT2 hv2 rfl hn2 hd2) pa_nil h5) h4)) pa_nil h2) h1) (by decide) (by decide) h1 h3) fun σ H Q ⟨env, S, rl, g⟩ =>
  g.part nmD rl fun x H1 env1 S1 a st ra g1 => by
    obtain ⟨d, o, tp, e, k⟩ := g1.get st.rel ra
    unfold fIsiT at e
    cases e1 : tyN d with
    | none => simp [e1] at e
    | some n =>
      cases e2 : kitB2 n [t, t2] with
      | none => simp [e1, e2] at e
      | some b =>
        simp only [e1, e2, Option.bind_some] at e
        cases e
        refine ⟨by show 2 ≤ sizeLine; decide, fun pt hp => ?_⟩
        have st2 := st.rel.laid (u := .tup [.ty t, .ty t2]) hp false
        have tp2 : Tp X.K X.mg S1 (upd H1 pt (.tup [.ty t, .ty t2])) x d := by
          rcases tp with tp | ⟨b, ho, rfl, h2, h3⟩
          · exact .inl tp
          · exact .inr ⟨b, ho, rfl, by rw [upd_ne (ne_of_none h2 hp)]; exact h2, h3⟩
        exact ⟨x, pt, [.ty t, .ty t2], _, [.type t, .type t2], b, rfl, upd_same, .cons (.ty t) (.cons (.ty t2) .nil), tp2.ty st2.rel.sub e1, kitAny_of e2, k _ S1 _ st2 (.bl b)⟩
end

/-! ### sorted -/
def ins1 (i : Int) : List Int → List Int
  | [] => [i]
  | j :: r => if i ≤ j then i :: j :: r else j :: ins1 i r
def isort : List Int → List Int
  | [] => []
  | i :: r => ins1 i (isort r)
theorem ins1_perm (i : Int) : ∀ r : List Int, (ins1 i r).Perm (i :: r)
  | [] => List.Perm.refl _
  | j :: r => by
    unfold ins1
    split
    · exact List.Perm.refl _
    · exact ((ins1_perm i r).cons j).trans (List.Perm.swap i j r)
theorem ins1_sorted {i : Int} : ∀ {r : List Int}, r.Pairwise (· ≤ ·) → (ins1 i r).Pairwise (· ≤ ·)
  | [], _ => List.pairwise_singleton _ _
  | j :: r, h => by
    obtain ⟨h1, h2⟩ := List.pairwise_cons.mp h
    unfold ins1
    split
    · rename_i hij
      refine List.pairwise_cons.mpr ⟨fun k hk => ?_, h⟩
      rcases List.mem_cons.mp hk with e | hk
      · rw [e]; exact hij
      · exact Int.le_trans hij (h1 k hk)
    · rename_i hij
      refine List.pairwise_cons.mpr ⟨fun k hk => ?_, ins1_sorted h2⟩
      rcases List.mem_cons.mp ((ins1_perm i r).mem_iff.mp hk) with e | hk
      · omega
      · exact h1 k hk
theorem isort_perm : ∀ r : List Int, (isort r).Perm r
  | [] => List.Perm.refl _
  | i :: r => (ins1_perm i (isort r)).trans ((isort_perm r).cons i)
theorem isort_sorted : ∀ r : List Int, (isort r).Pairwise (· ≤ ·)
  | [] => List.Pairwise.nil
  | i :: r => ins1_sorted (isort_sorted r)
theorem isort_eq {r r' : List Int} (h : r'.Perm r) (hs : r'.Pairwise (· ≤ ·)) : r' = isort r := PySem.W.ksm_same (h.trans (isort_perm r).symm) hs (isort_sorted r)
/-- sorted of a tuple of ints -/
theorem cr_sortedTI : CallR X (.builtin "sorted") (fun vs H Q => ∃ (a : Addr) (ns : List Int), vs = [V.ref a] ∧ SqT X.K H a (ns.map V.int) ∧ ∀ p, H p = none → Q (.ref p) (upd H p (.lst ((isort ns).map V.int)))) := by
  rintro pins s σ H vs us Q I r ⟨a, ns, rfl, hs, q⟩
  obtain ⟨its, rv, ht, hz⟩ := I.tuple hs
  rw [Vals.ref1 r]
  have hi := rv.ints
  refine SrtO.sorted_tupI ht hi (by rw [← rv.length]; exact hz) fun out h1 h2 => ?_
  obtain ⟨k1, k2, k3⟩ := SrtO.ints_out hi h1 h2
  obtain ⟨ep, he'⟩ := PyProof.Rows.sortedAll_at s.heap its out.toArray
  have hm := isort_eq k2 k3
  have hlen : ((isort ns).map V.int).length ≤ sizeLine := by
    rw [List.length_map, (isort_perm ns).length_eq]
    rw [List.length_map] at hz
    exact hz
  have hv : Vals ((isort ns).map V.int) out := by
    rw [← hm]
    exact vals_of_ints k1
  exact ⟨.ref _, upd H (s.heap.objs.size + 1) (.lst ((isort ns).map V.int)), I.laid (t' := s.toks) (fun _ _ => PyProof.Rows.sortedAll_old) (Nat.le_succ _) ⟨hlen, out, ep, hv, he'⟩, rfl, q _ (I.hok.fresh (Nat.le_succ _))⟩
theorem callR_or {f : Value} {r r' : List V → Hp → VK → Prop} (h : CallR X f r) (h' : CallR X f r') : CallR X f (fun vs H Q => r vs H Q ∨ r' vs H Q) := fun pins s σ H xs us Q I rv q => q.elim (h pins s σ H xs us Q I rv) (h' pins s σ H xs us Q I rv)
def fSorted : D → Option D
  | .lst ds => (allOf inOf ds).bind fun ns => some (.lst ((isort ns).map .int))
  | .tup ds => (allOf inOf ds).bind fun ns => some (.lst ((isort ns).map .int))
  | _ => none
theorem sr_sorted {a : Expr} {m : M Rs} {p pos : Pos} (ha : SR X a m) (hm : X.mg "sorted" = none) (hg : Gl X "sorted" := by rfl) (he : starEach [a] X.env = (false, eval a X.env) :: starEach [] X.env := by rfl) : SR X (.Call (.Name "sorted" p) [a] [] pos) (mN fSorted m) := fun W tk =>
  pe_imp (pe_callB (callR_or cr_sortedI cr_sortedTI) hg hm (by decide +kernel) (pa_cons (ha W tk) pa_nil he) (by decide) (by decide) he) (tm_n fun {S H x a d Q} sub t e q => by
    cases a with
    | lst ds =>
      obtain ⟨p, vs, rfl, h2, h3⟩ := t.lst sub
      cases er : allOf inOf ds with
      | none => simp [fSorted, er] at e
      | some ns =>
        simp only [fSorted, er, Option.bind_some] at e
        cases e
        rw [h3.ints er] at h2
        exact .inl ⟨p, ns, rfl, .of h2, fun ns' p hp hs hn => by
          rw [isort_eq hp hs]
          exact q p _ hn (.lst (RpA.of_ints _))⟩
    | tup ds =>
      obtain ⟨p, vs, rfl, h2, h3⟩ := t.tup sub
      cases er : allOf inOf ds with
      | none => simp [fSorted, er] at e
      | some ns =>
        simp only [fSorted, er, Option.bind_some] at e
        cases e
        rw [h3.ints er] at h2
        exact .inr ⟨p, ns, rfl, h2, fun p hn => q p _ hn (.lst (RpA.of_ints _))⟩
    | _ => cases e)

/-! ### ranges as lists and tuples -/
def okRg (i : Int) : Bool := decide (i ≤ 1000000) && decide (-1000000 ≤ i)
theorem okRg_of {i : Int} (h : okRg i = true) : RgOk 0 i := by
  unfold okRg at h
  simp only [Bool.and_eq_true, decide_eq_true_eq] at h
  exact ⟨by omega, by omega, by omega, by omega, by omega⟩
def fRg : D → Option (List D)
  | .int i => if okRg i then some (rng i.toNat) else none
  | _ => none
def mListRg (m : M D) : M Rs := m.bind fun d => M.of fun _ => (fRg d).bind fun ds => some (.fr (.lst ds))
def mTupRg (m : M D) : M D := m.bind fun d => M.of fun _ => (fRg d).bind fun ds => some (.tup ds)
theorem rgV_rp {K : PySem.W.Frag} {mg : Str → Option Value} {S : Hp} {i : Int} : RpA K mg S (rgV 0 i) (rng i.toNat) := by
  unfold rgV rng
  rw [show (i - 0).toNat = i.toNat by simp]
  generalize i.toNat = n
  have h : ∀ l : List Nat, RpA K mg S (l.map fun i => V.int (0 + (i : Nat))) (l.map fun i => D.int (i : Nat)) := fun l => by
    induction l with
    | nil => exact .nil
    | cons a l ih => exact .cons (by show Rp K mg S (.int (0 + (a : Int))) (.int (a : Int)); rw [Int.zero_add]; exact .int _) ih
  exact h _
section
variable {a : Expr} {m : M D} {p q pos qp : Pos}
theorem sr_listRg (hc : X.calm = true) (ha : SV X a m) (hm : X.mg "list" = none) (hm2 : X.mg "range" = none) (hg : Gl X "list" := by rfl) (hg2 : Gl X "range" := by rfl) (h1 : starEach [a] X.env = (false, eval a X.env) :: starEach [] X.env := by rfl)
    (h2 : starEach [.Call (.Name "range" q) [a] [] qp] X.env = (false, eval (.Call (.Name "range" q) [a] [] qp) X.env) :: starEach [] X.env := by rfl) : SR X (.Call (.Name "list" p) [.Call (.Name "range" q) [a] [] qp] [] pos) (mListRg m) := fun W tk =>
  pe_imp (pe_listRg hc hg hm (prg_1 hg2 hm2 (ha W tk) h1) h2) fun σ H Q ⟨env, S, rl, g⟩ => g.part nmR rl fun x H1 env1 S1 d st ra g1 => by
    obtain ⟨o, e, k⟩ := g1.of
    cases d with
    | int i =>
      by_cases hz : okRg i = true
      · simp only [fRg, hz, if_true, Option.bind_some] at e
        cases e
        cases ra
        refine ⟨i, rfl, okRg_of hz, fun pt hp => ?_⟩
        obtain ⟨s1, s2⟩ := new_apart st.rel (u := .lst (rgV 0 i)) (d := .lst (rng i.toNat)) hp (.lst rgV_rp)
        exact k _ _ _ s1 s2
      · simp [fRg, hz] at e
    | _ => cases e
theorem sv_tupRg (hc : X.calm = true) (ha : SV X a m) (hm : X.mg "tuple" = none) (hm2 : X.mg "range" = none) (hg : Gl X "tuple" := by rfl) (hg2 : Gl X "range" := by rfl) (h1 : starEach [a] X.env = (false, eval a X.env) :: starEach [] X.env := by rfl)
    (h2 : starEach [.Call (.Name "range" q) [a] [] qp] X.env = (false, eval (.Call (.Name "range" q) [a] [] qp) X.env) :: starEach [] X.env := by rfl) : SV X (.Call (.Name "tuple" p) [.Call (.Name "range" q) [a] [] qp] [] pos) (mTupRg m) := fun W tk =>
  pe_imp (pe_tupRg hc hg hm (prg_1 hg2 hm2 (ha W tk) h1) h2) fun σ H Q ⟨env, S, rl, g⟩ => g.part nmD rl fun x H1 env1 S1 d st ra g1 => by
    obtain ⟨o, e, k⟩ := g1.of
    cases d with
    | int i =>
      by_cases hz : okRg i = true
      · simp only [fRg, hz, if_true, Option.bind_some] at e
        cases e
        cases ra
        refine ⟨i, rfl, okRg_of hz, fun pt hp => k _ _ _ (new_stay st.rel hp) (.tup (.of upd_same) rgV_rp)⟩
      · simp [fRg, hz] at e
    | _ => cases e
end

/-! ### [x] * n, xs + ys -/
def mOpN (f : D → D → Option D) (ma mb : M Rs) : M Rs := ma.bind fun a => mb.bind fun b => M.of fun env => (a.get env).bind fun x => (b.get env).bind fun y => (f x y).bind fun o => some (.fr o)
theorem tm_opN {W : WX} {r : R2} {f : D → D → Option D} {ma mb : M Rs} (hr : ∀ {S H : Hp} {x y : V} {a b d : D} {Q : VK}, Same S H → Tp X.K X.mg S H x a → Tp X.K X.mg S H y b → f a b = some d → (∀ p u, H p = none → HoR X.K X.mg S u d → Q (.ref p) (upd H p u)) → r x y H Q) :
    ∀ σ H Q, tM X.K X.mg W (RR X.K X.mg) (mOpN f ma mb) σ H Q → tOp r (tM X.K X.mg W (RR X.K X.mg) ma) (tM X.K X.mg W (RR X.K X.mg) mb) σ H Q := fun σ H Q ⟨env, S, rl, g⟩ =>
  g.part nmR rl fun x H1 env1 S1 a st ra g1 => g1.part nmR st.rel fun y H2 env2 S2 b st2 rb g2 => by
    obtain ⟨d, e, q⟩ := g2.of
    cases ea : a.get env2 with
    | none => simp [ea] at e
    | some a' =>
      cases eb : b.get env2 with
      | none => simp [ea, eb] at e
      | some b' =>
        cases ef : f a' b' with
        | none => simp [ea, eb, ef] at e
        | some o =>
          simp only [ea, eb, ef, Option.bind_some] at e
          cases e
          exact hr st2.rel.sub (RsR.tp st2.rel (RsR.mono st2 ra) ea) (RsR.tp st2.rel rb eb) ef fun p u hp hu => by
            obtain ⟨s1, s2⟩ := new_apart st2.rel hp hu
            exact q _ _ _ s1 s2
theorem RpA.rep {K : PySem.W.Frag} {mg : Str → Option Value} {S : Hp} {vs : List V} {ds : List D} (h : RpA K mg S vs ds) : ∀ n : Nat, RpA K mg S (List.replicate n vs).flatten (List.replicate n ds).flatten
  | 0 => .nil
  | n + 1 => h.app (h.rep n)
def fRep : D → D → Option D
  | .lst ds, .int k => if decide (-1000000 ≤ k) && decide (k ≤ 1000000) && szOk (ds.length * k.toNat) then some (.lst (List.replicate k.toNat ds).flatten) else none
  | _, _ => none
def fCat : D → D → Option D
  | .lst ds, .lst es => if szOk (ds.length + es.length) then some (.lst (ds ++ es)) else none
  | _, _ => none
section
variable {a b : Expr} {ma mb : M Rs} {na nb : M D} {pos : Pos}
theorem sr_rep (ha : SR X a ma) (hb : SV X b nb) : SR X (.BinOp a .Mult b pos) (mOpN fRep ma (mR nb)) := fun W tk => pe_imp (pe_op op_rep (ha W tk) (sr_v hb W tk)) (tm_opN fun {S H x y a b d Q} sub ta tb e q => by
  cases a with
  | lst ds =>
    cases b with
    | int k =>
      have e' : (if (decide (-1000000 ≤ k) && decide (k ≤ 1000000) && szOk (ds.length * k.toNat)) = true then some (D.lst (List.replicate k.toNat ds).flatten) else none) = some d := e
      split at e'
      · rename_i hz
        simp only [Bool.and_eq_true, decide_eq_true_eq] at hz
        cases e'
        obtain ⟨p, vs, rfl, h2, h3⟩ := ta.lst sub
        have hy : y = .int k := by
          rcases tb with tb | ⟨_, _, _, _, tb⟩
          · cases tb; rfl
          · cases tb
        exact ⟨p, k, vs, rfl, hy, h2, by omega, by omega, by rw [h3.len]; exact szOk_of hz.2, fun p hp => q p _ hp (.lst (h3.rep _))⟩
      · cases e'
    | _ => cases e
  | _ => cases e)
theorem sr_cat (ha : SR X a ma) (hb : SR X b mb) : SR X (.BinOp a .Add b pos) (mOpN fCat ma mb) := fun W tk => pe_imp (pe_op op_cat (ha W tk) (hb W tk)) (tm_opN fun {S H x y a b d Q} sub ta tb e q => by
  cases a with
  | lst ds =>
    cases b with
    | lst es =>
      have e' : (if szOk (ds.length + es.length) = true then some (D.lst (ds ++ es)) else none) = some d := e
      split at e'
      · rename_i hz
        cases e'
        obtain ⟨p, vs, rfl, h2, h3⟩ := ta.lst sub
        obtain ⟨p2, vs2, rfl, k2, k3⟩ := tb.lst sub
        exact ⟨p, p2, vs, vs2, rfl, rfl, h2, k2, by rw [h3.len, k3.len]; exact szOk_of hz, fun p hp => q p _ hp (.lst (h3.app k3))⟩
      · cases e'
    | _ => cases e
  | _ => cases e)
/-- of tuples: what comes stays -/
def fCatT : D → D → Option D
  | .tup ds, .tup es => if szOk (ds.length + es.length) then some (.tup (ds ++ es)) else none
  | _, _ => none
theorem sv_catT (ha : SV X a na) (hb : SV X b nb) : SV X (.BinOp a .Add b pos) (mOp fCatT na nb) := fun W tk => pe_imp (pe_op op_catA (ha W tk) (hb W tk)) fun σ H Q ⟨env, S, rl, g⟩ =>
  g.part nmD rl fun x H1 env1 S1 a st ra g1 => g1.part nmD st.rel fun y H2 env2 S2 b st2 rb g2 => by
    obtain ⟨d, e, q⟩ := g2.of
    cases a with
    | tup ds =>
      cases b with
      | tup es =>
        have e' : (if szOk (ds.length + es.length) = true then some (D.tup (ds ++ es)) else none) = some d := e
        split at e'
        · rename_i hz
          cases e'
          have ra' : Rp X.K X.mg S2 x (.tup ds) := Rp.mono st2.ext ra
          have rb' : Rp X.K X.mg S2 y (.tup es) := rb
          cases ra' with
          | tup a1 a2 =>
            cases rb' with
            | tup b1 b2 =>
              refine ⟨_, _, _, _, rfl, rfl, same_tup st2.rel.sub a1, same_tup st2.rel.sub b1, by rw [a2.len, b2.len]; exact szOk_of hz, fun z => ?_, fun _ z => ?_, fun _ _ p hp => ?_⟩
              · subst z
                cases a2
                exact q _ S2 H2 (Step.refl st2.rel) (.tup b1 b2)
              · subst z
                cases b2
                rw [List.append_nil] at q
                exact q _ S2 H2 (Step.refl st2.rel) (.tup a1 a2)
              · exact q _ _ _ (new_stay st2.rel hp) (.tup (.of upd_same) ((a2.app b2).mono (same_upd (st2.rel.sub.free hp))))
        · cases e'
      | _ => cases e
    | _ => cases e
end
end Z
end

section
set_option Elab.async false
set_option linter.all false
set_option maxRecDepth 100000
set_option autoImplicit false
/-! Slices, min, max, lcm, repr, stores into what a slot owns as a target, name op= e. -/
namespace Z
open PySem
open L2 hiding XE Takes CX passes_call takes_of passAt PMk MkP ps_raise mk_of ps_try_as ps_try_many pmk_own XE.of_call XE.new XE.leave Takes.imp Sky.land
open L2N (Takes CX takes_of passAt PMk MkP ps_raise)
variable {X : Cx}

/-! ### slices -/
def ROI : RL (Option Int) (Option Int) := fun _ _ _ _ _ a b => a = b
theorem nmO : RNm ROI := fun _ _ _ _ _ _ _ h => h
def SP1 (X : Cx) (e : Option Expr) (m : M (Option Int)) : Prop := ∀ W, Takes X W → PO X e (tM X.K X.mg W ROI m)
theorem po_imp {e : Option Expr} {t t' : TO} (h : PO X e t) (i : ∀ σ H Q, t' σ H Q → t σ H Q) : PO X e t' := ⟨fun pins s σ H Q I q => h.run pins s σ H Q I (i σ H Q q)⟩
theorem sp_none : SP1 X none (M.ret none) := fun W tk => po_imp po_none fun σ H Q ⟨env, S, r, g⟩ => g.ret (R := ROI) r rfl
def mPart (m : M D) : M (Option Int) := m.bind fun d => M.of fun _ => (inOf d).bind fun i => some (some i)
theorem sp_some {e : Expr} {m : M D} (h : SV X e m) : SP1 X (some e) (mPart m) := fun W tk => po_imp (po_some (h W tk)) fun σ H Q ⟨env, S, r, g⟩ => g.part nmO r fun x H1 env1 S1 d st ra g1 => by
  obtain ⟨o, e, k⟩ := g1.of
  cases d with
  | int i =>
    cases e
    cases ra
    exact ⟨i, rfl, k _ S1 H1 (Step.refl st.rel) rfl⟩
  | _ => cases e
def cut {α : Type} (xs : List α) (lo hi : Option Int) : List α := (xs.drop (HT.sIx xs.length 0 lo)).take (HT.sIx xs.length xs.length hi - HT.sIx xs.length 0 lo)
theorem RpA.cut {K : PySem.W.Frag} {mg : Str → Option Value} {S : Hp} {vs : List V} {ds : List D} (h : RpA K mg S vs ds) (lo hi : Option Int) : RpA K mg S (cutV vs lo hi) (Z.cut ds lo hi) := by
  unfold cutV Z.cut
  rw [h.len]
  exact (h.drop _).take _
theorem cut_map {α β : Type} (f : α → β) (xs : List α) (lo hi : Option Int) : cut (xs.map f) lo hi = (cut xs lo hi).map f := by
  unfold cut
  rw [List.length_map, List.map_take, List.map_drop]
def fSl (lo hi : Option Int) : D → Option Rs
  | .lst ds => some (.fr (.lst (cut ds lo hi)))
  | .scr ns => some (.fr (.lst ((cut ns lo hi).map .int)))
  | .tup ds => some (.v (.tup (cut ds lo hi)))
  | .str s => if szOk s.length then some (.v (.str (cutS s lo hi))) else none
  | _ => none
def mSl (m : M Rs) (lo hi : M (Option Int)) : M Rs := m.bind fun r => lo.bind fun l => hi.bind fun h => M.of fun env => (r.get env).bind fun d => fSl l h d
theorem whole_cut {α : Type} {xs : List α} {lo hi : Option Int} (h : HT.sIx xs.length 0 lo = 0 ∧ HT.sIx xs.length xs.length hi = xs.length) : cut xs lo hi = xs := by
  unfold cut
  rw [h.1, h.2, List.drop_zero, Nat.sub_zero, List.take_length]
theorem sr_slice {e : Expr} {lo hi : Option Expr} {m : M Rs} {ml mh : M (Option Int)} {p2 pos : Pos} (he : SR X e m) (hl : SP1 X lo ml) (hu : SP1 X hi mh) : SR X (.Subscript e (.Slice lo hi none p2) pos) (mSl m ml mh) := fun W tk =>
  pe_imp (pe_slice (L2.SlR.or sl_list (L2.SlR.or sl_tupA sl_str)) (he W tk) (hl W tk) (hu W tk)) fun σ H Q ⟨env, S, r, g⟩ =>
  g.part nmR r fun x H1 env1 S1 rs st ra g1 => g1.part (R := ROI) nmR st.rel fun l H2 env2 S2 l' st2 el g2 => g2.part (R := ROI) nmR st2.rel fun u H3 env3 S3 u' st3 eu g3 => by
    have el' : l = l' := el
    have eu' : u = u' := eu
    subst el'
    subst eu'
    obtain ⟨o, e, k⟩ := g3.of
    have ra3 := RsR.mono st3 (RsR.mono st2 ra)
    cases er : rs.get env3 with
    | none => simp [er] at e
    | some d =>
      simp only [er, Option.bind_some] at e
      have t := RsR.tp st3.rel ra3 er
      cases d with
      | lst ds =>
        obtain ⟨p, vs, rfl, h2, h3⟩ := t.lst st3.rel.sub
        cases e
        refine .inl ⟨p, vs, rfl, .of h2, fun q hq => ?_⟩
        obtain ⟨s1, s2⟩ := new_apart st3.rel (d := .lst (cut ds l u)) hq (.lst (h3.cut l u))
        exact k _ _ _ s1 s2
      | scr ns =>
        rcases t with t | ⟨_, _, _, _, t⟩
        · cases t with
          | scr h2 =>
            cases e
            refine .inl ⟨_, _, rfl, st3.rel.sub.seq h2, fun q hq => ?_⟩
            have hr : RpA X.K X.mg S3 (cutV (ns.map V.int) l u) ((cut ns l u).map D.int) := by
              have h := RpA.of_ints (K := X.K) (mg := X.mg) (S := S3) (cut ns l u)
              rw [← cut_map] at h
              exact h
            obtain ⟨s1, s2⟩ := new_apart st3.rel (d := .lst ((cut ns l u).map D.int)) hq (.lst hr)
            exact k _ _ _ s1 s2
        · cases t
      | tup ds =>
        cases e
        have h := t
        rcases t with t | ⟨_, _, _, _, t⟩
        · obtain ⟨p, vs, rfl, h2, h3⟩ := h.tup st3.rel.sub
          refine .inr (.inl ⟨p, vs, rfl, h2, fun z => ?_, fun _ q hq => ?_⟩)
          · have z' : HT.sIx ds.length 0 l = 0 ∧ HT.sIx ds.length ds.length u = ds.length := by rw [← h3.len]; exact z
            rw [whole_cut z'] at k
            exact k _ S3 H3 (Step.refl st3.rel) t
          · exact k _ _ _ (new_stay st3.rel hq) (.tup (.of upd_same) ((h3.cut l u).mono (same_upd (st3.rel.sub.free hq))))
        · cases t
      | str s =>
        have e' : (if szOk s.length = true then some (Rs.v (.str (cutS s l u))) else none) = some o := e
        split at e'
        · rename_i hz
          cases e'
          rcases t with t | ⟨_, _, _, _, t⟩
          · cases t
            exact .inr (.inr ⟨s, rfl, szOk_of hz, k _ S3 H3 (Step.refl st3.rel) (.str _)⟩)
          · cases t
        · cases e'
      | _ => cases e

/-! ### min, max of ints in a list; of two ints -/
def minL : List Int → Option Int
  | [] => none
  | i :: r => some (r.foldl (fun a b => if b < a then b else a) i)
def maxL : List Int → Option Int
  | [] => none
  | i :: r => some (r.foldl (fun a b => if a < b then b else a) i)
theorem foldl_min : ∀ (r : List Int) (i : Int), (∀ m, m ∈ i :: r → (∀ y ∈ i :: r, m ≤ y) → r.foldl (fun a b => if b < a then b else a) i = m)
  | [], i, m, h, _ => (List.mem_singleton.mp h).symm
  | j :: r, i, m, h, hm => by
    rw [List.foldl_cons]
    refine foldl_min r _ m ?_ ?_
    · have h1 := hm i List.mem_cons_self
      have h2 := hm j (List.mem_cons_of_mem _ List.mem_cons_self)
      split
      · rcases List.mem_cons.mp h with e | h
        · subst e; omega
        · exact h
      · rcases List.mem_cons.mp h with e | h
        · subst e; exact List.mem_cons_self
        · rcases List.mem_cons.mp h with e | h
          · subst e
            have : m = i := by omega
            rw [this]
            exact List.mem_cons_self
          · exact List.mem_cons_of_mem _ h
    · intro y hy
      rcases List.mem_cons.mp hy with e | hy
      · subst e
        split
        · exact hm j (List.mem_cons_of_mem _ List.mem_cons_self)
        · exact hm i List.mem_cons_self
      · exact hm y (List.mem_cons_of_mem _ (List.mem_cons_of_mem _ hy))
theorem foldl_max : ∀ (r : List Int) (i : Int), (∀ m, m ∈ i :: r → (∀ y ∈ i :: r, y ≤ m) → r.foldl (fun a b => if a < b then b else a) i = m)
  | [], i, m, h, _ => (List.mem_singleton.mp h).symm
  | j :: r, i, m, h, hm => by
    rw [List.foldl_cons]
    refine foldl_max r _ m ?_ ?_
    · have h1 := hm i List.mem_cons_self
      have h2 := hm j (List.mem_cons_of_mem _ List.mem_cons_self)
      split
      · rcases List.mem_cons.mp h with e | h
        · subst e; omega
        · exact h
      · rcases List.mem_cons.mp h with e | h
        · subst e; exact List.mem_cons_self
        · rcases List.mem_cons.mp h with e | h
          · subst e
            have : m = i := by omega
            rw [this]
            exact List.mem_cons_self
          · exact List.mem_cons_of_mem _ h
    · intro y hy
      rcases List.mem_cons.mp hy with e | hy
      · subst e
        split
        · exact hm j (List.mem_cons_of_mem _ List.mem_cons_self)
        · exact hm i List.mem_cons_self
      · exact hm y (List.mem_cons_of_mem _ (List.mem_cons_of_mem _ hy))
def fMinL : D → Option D
  | .lst ds => (allOf inOf ds).bind fun ns => (minL ns).bind fun i => some (.int i)
  | _ => none
def fMaxL : D → Option D
  | .lst ds => (allOf inOf ds).bind fun ns => (maxL ns).bind fun i => some (.int i)
  | _ => none
section
variable {a b : Expr} {m : M Rs} {n n2 : M D} {p pos : Pos}
theorem sv_minL (hc : X.calm = true) (ha : SR X a m) (hm : X.mg "min" = none) (hg : Gl X "min" := by rfl) (he : starEach [a] X.env = (false, eval a X.env) :: starEach [] X.env := by rfl) : SV X (.Call (.Name "min" p) [a] [] pos) (mG fMinL m) := fun W tk =>
  pe_imp (pe_callB (cr_min hc) hg hm (by decide +kernel) (pa_cons (ha W tk) pa_nil he) (by decide) (by decide) he) (tm_g fun {S H x a d Q} sub t e q => by
    cases a <;> first | (cases e; done) | skip
    rename_i ds
    obtain ⟨p, vs, rfl, h2, h3⟩ := t.lst sub
    cases er : allOf inOf ds with
    | none => simp [fMinL, er] at e
    | some ns =>
      cases ns with
      | nil => simp [fMinL, er, minL] at e
      | cons i r =>
        simp only [fMinL, er, minL, Option.bind_some] at e
        cases e
        rw [h3.ints er] at h2
        exact ⟨p, i :: r, rfl, .of h2, Nat.succ_pos _, fun k hk hm => by
          rw [foldl_min r i k hk hm] at q
          exact q _ fun _ _ => .int _⟩)
theorem sv_maxL (hc : X.calm = true) (ha : SR X a m) (hm : X.mg "max" = none) (hg : Gl X "max" := by rfl) (he : starEach [a] X.env = (false, eval a X.env) :: starEach [] X.env := by rfl) : SV X (.Call (.Name "max" p) [a] [] pos) (mG fMaxL m) := fun W tk =>
  pe_imp (pe_callB (cr_max hc) hg hm (by decide +kernel) (pa_cons (ha W tk) pa_nil he) (by decide) (by decide) he) (tm_g fun {S H x a d Q} sub t e q => by
    cases a <;> first | (cases e; done) | skip
    rename_i ds
    obtain ⟨p, vs, rfl, h2, h3⟩ := t.lst sub
    cases er : allOf inOf ds with
    | none => simp [fMaxL, er] at e
    | some ns =>
      cases ns with
      | nil => simp [fMaxL, er, maxL] at e
      | cons i r =>
        simp only [fMaxL, er, maxL, Option.bind_some] at e
        cases e
        rw [h3.ints er] at h2
        exact ⟨p, i :: r, rfl, .of h2, Nat.succ_pos _, fun k hk hm => by
          rw [foldl_max r i k hk hm] at q
          exact q _ fun _ _ => .int _⟩)
/-- a call of a built-in with two arguments, whose answer makes nothing -/
theorem tm_2 {W : WX} {rd : List V → Hp → VK → Prop} {f : D → D → Option D} {ma mb : M D} (hr : ∀ {S H : Hp} {x y : V} {a b d : D} {Q : VK}, Rp X.K X.mg S x a → Rp X.K X.mg S y b → f a b = some d → (∀ v, (∀ S', Rp X.K X.mg S' v d) → Q v H) → rd [x, y] H Q) :
    ∀ σ H Q, tM X.K X.mg W (RD X.K X.mg) (mOp f ma mb) σ H Q → tCB rd (tCons (tM X.K X.mg W (RD X.K X.mg) ma) (tCons (tM X.K X.mg W (RD X.K X.mg) mb) tNil)) σ H Q := fun σ H Q ⟨env, S, rl, g⟩ =>
  g.part nmD rl fun x H1 env1 S1 a st ra g1 => g1.part nmD st.rel fun y H2 env2 S2 b st2 rb g2 => by
    obtain ⟨d, e, q⟩ := g2.of
    exact hr (Rp.mono st2.ext ra) rb e fun v hv => q v S2 H2 (Step.refl st2.rel) (hv S2)
abbrev fMin2 := fI0 fun i j => .int (if j < i then j else i)
abbrev fMax2 := fI0 fun i j => .int (if j > i then j else i)
theorem sv_min2 (hc : X.calm = true) (ha : SV X a n) (hb : SV X b n2) (hm : X.mg "min" = none) (hg : Gl X "min" := by rfl) (he : starEach [a, b] X.env = (false, eval a X.env) :: starEach [b] X.env := by rfl) (he2 : starEach [b] X.env = (false, eval b X.env) :: starEach [] X.env := by rfl) (h3 : (backTo pos (starEach [b] X.env)).any (·.1) = false := by rfl) :
    SV X (.Call (.Name "min" p) [a, b] [] pos) (mOp fMin2 n n2) := fun W tk => pe_imp (pe_callB (call_min2 hc) hg hm (by decide +kernel) (pa_cons (ha W tk) (pa_cons (hb W tk) pa_nil he2) he) (by decide) (by decide) he h3) (tm_2 fun {S H x y a b d Q} ra rb e q => by
    cases a <;> first | (cases e; done) | skip
    cases b <;> first | (cases e; done) | skip
    cases ra; cases rb; cases e
    exact ⟨_, _, rfl, q _ fun _ => .int _⟩)
theorem sv_max2 (hc : X.calm = true) (ha : SV X a n) (hb : SV X b n2) (hm : X.mg "max" = none) (hg : Gl X "max" := by rfl) (he : starEach [a, b] X.env = (false, eval a X.env) :: starEach [b] X.env := by rfl) (he2 : starEach [b] X.env = (false, eval b X.env) :: starEach [] X.env := by rfl) (h3 : (backTo pos (starEach [b] X.env)).any (·.1) = false := by rfl) :
    SV X (.Call (.Name "max" p) [a, b] [] pos) (mOp fMax2 n n2) := fun W tk => pe_imp (pe_callB (call_max2 hc) hg hm (by decide +kernel) (pa_cons (ha W tk) (pa_cons (hb W tk) pa_nil he2) he) (by decide) (by decide) he h3) (tm_2 fun {S H x y a b d Q} ra rb e q => by
    cases a <;> first | (cases e; done) | skip
    cases b <;> first | (cases e; done) | skip
    cases ra; cases rb; cases e
    exact ⟨_, _, rfl, q _ fun _ => .int _⟩)
/-- math's lcm -/
def okLcm (i j : Int) : Bool := decide (0 ≤ i) && decide (0 ≤ j) && decide (i < 2 ^ 60) && decide (j < 2 ^ 60)
abbrev fLcm := fI okLcm fun i j => .int ((Nat.lcm i.natAbs j.natAbs : Nat) : Int)
end

/-! ### repr -/
theorem depth_le {d : D} (h : gd d = true) : d.pure = true ∧ SeqAt.shaped d.py = true := by
  unfold gd at h
  exact Bool.and_eq_true_iff.mp h
def szRp (n : Nat) : Bool := decide (n ≤ 1000000)
def fRepr (d : D) : Option D := if gd d && d.py.showable && szRp d.py.shown.length then some (.str d.py.shown) else none
theorem Rm.un {k : Nat} {A : Around} (r : Rm k A) : A.units + 200 < cLine := by have := r.1.un; omega
def rRepr (K : PySem.W.Frag) : List V → Hp → VK → Prop := fun xs H Q => ∃ v d, xs = [v] ∧ Dp K H v d ∧ SeqAt.shaped d = true ∧ d.showable = true ∧ d.shown.length ≤ sizeLine ∧ Q (.str d.shown) H
theorem cr_repr (hg : X.A.guards = some []) (hu : X.A.units + 200 < cLine) : CallR X (.builtin "repr") (rRepr X.K) := by
  rintro pins s σ H vs us Q I r ⟨v, d, rfl, hd, hs, hw, hz, q⟩
  obtain ⟨u, rfl, rv⟩ := vals1 r
  have fin : ∀ {t : Str} (e : d.shown = t) (tk : Nat) (u : Tok), EP X pins σ Q (.str t u) { s with toks := tk } := fun e tk u => ⟨.str d.shown, H, I.tok _, ⟨u, by rw [e]⟩, q⟩
  have hdep : d.depth ≤ 64 := SeqAt.depth_of_shaped hs
  have byRef : ∀ {a : Addr} {as : List Addr}, Reads s.heap (.ref a) d as → wpAny (model X.prog X.w) X.A (call (.builtin "repr") [.ref a]) (EP X pins σ Q) X.xe s := fun {a as} rd =>
    repr_of_reads' rd hw (PyData.noDict_hsm (PyData.hasDict_of_canLay d (SeqAt.canLay_of_shaped hs))) hg (by omega) (fun _ _ e => e) (fun h' w' tk hk => ⟨.str d.shown, H, I.kept hk, ⟨w', rfl⟩, q⟩) hz
  obtain ⟨as, rd⟩ := Dp.reads I d v u hd rv
  cases rd with
  | none => exact PySem.P.repr_of_none (fin (by simp only [PyData.shown]) _ _)
  | bool b => exact PySem.P.repr_of_bool (fin (by simp only [PyData.shown]) _ _)
  | int i t => exact PySem.P.repr_of_int (by simpa [PyData.showable] using hw) (fin (by simp only [PyData.shown]) _ _)
  | str x t => exact PySem.P.repr_of_str (fin (by simp only [PyData.shown]) _ _) (by simpa only [PyData.shown] using hz)
  | list h1 h2 h3 h4 => exact byRef (.list h1 h2 h3 h4)
  | tuple h1 h2 h3 h4 => exact byRef (.tuple h1 h2 h3 h4)
  | dict h1 h2 h3 h4 h5 => exact byRef (.dict h1 h2 h3 h4 h5)
theorem sv_repr {k : Nat} {a : Expr} {m : M Rs} {p pos : Pos} (hr : Rm k X.A) (ha : SR X a m) (hm : X.mg "repr" = none) (hg : Gl X "repr" := by rfl) (he : starEach [a] X.env = (false, eval a X.env) :: starEach [] X.env := by rfl) : SV X (.Call (.Name "repr" p) [a] [] pos) (mG fRepr m) := fun W tk =>
  pe_imp (pe_callB (cr_repr hr.2 hr.un) hg hm (by decide +kernel) (pa_cons (ha W tk) pa_nil he) (by decide) (by decide) he) (tm_g fun {S H x a d Q} sub t e q => by
    unfold fRepr at e
    split at e
    · rename_i hc
      simp only [Bool.and_eq_true] at hc
      cases e
      obtain ⟨p1, p2⟩ := depth_le hc.1.1
      exact ⟨x, _, rfl, t.dp sub p1, p2, hc.1.2, Nat.le_trans (of_decide_eq_true hc.2) (by decide), q _ fun _ _ => .str _⟩
    · cases e)
/-- math.lcm -/
theorem cr_lcm : CallR X (.builtin "math.lcm") (fun vs H Q => ∃ a b : Int, vs = [.int a, .int b] ∧ (a.natAbs < 2 ^ 64 ∧ b.natAbs < 2 ^ 64) ∧ Q (.int ((Nat.lcm a.natAbs b.natAbs : Nat) : Int)) H) := by
  rintro pins s σ H vs us Q I r ⟨a, b, rfl, ⟨h1, h2⟩, q⟩
  obtain ⟨t, u, rfl⟩ := Vals.int2 r
  exact PySem.W.mc_lcm h1 h2 fun _ => ⟨.int _, H, I.tok _, ⟨_, rfl⟩, q⟩
theorem sv_lcm {a b : Expr} {n n2 : M D} {p pos : Pos} {x : Str} (ha : SV X a n) (hb : SV X b n2) (hm : X.mg x = some (.builtin "math.lcm")) (hg : Gl X x := by rfl) (hx : (x == ("__debug__" : Str)) = false := by decide) (he : starEach [a, b] X.env = (false, eval a X.env) :: starEach [b] X.env := by rfl) (he2 : starEach [b] X.env = (false, eval b X.env) :: starEach [] X.env := by rfl) (h3 : (backTo pos (starEach [b] X.env)).any (·.1) = false := by rfl) :
    SV X (.Call (.Name x p) [a, b] [] pos) (mOp fLcm n n2) := fun W tk => pe_imp (pe_callBfun cr_lcm hg hm (pa_cons (ha W tk) (pa_cons (hb W tk) pa_nil he2) he) hx he h3) (tm_2 fun {S H x y a b d Q} ra rb e q => by
    cases a <;> first | (cases e; done) | skip
    cases b <;> first | (cases e; done) | skip
    rename_i i j
    have e' : (if okLcm i j = true then some (D.int ((Nat.lcm i.natAbs j.natAbs : Nat) : Int)) else none) = some d := e
    split at e'
    · rename_i hc
      unfold okLcm at hc
      simp only [Bool.and_eq_true, decide_eq_true_eq] at hc
      cases ra; cases rb; cases e'
      exact ⟨i, j, rfl, ⟨by omega, by omega⟩, q _ fun _ => .int _⟩
    · cases e')

/-! ### what a slot owns, as a target -/
def gSt (j : Nat) (mi : M D) : TgM := fun d env => if isL env[j]? then (match mi env with
  | some (.ok i env1) => (chg j (onL (fSetIx i d)) env1).bind fun p => some p.2
  | _ => none) else none
theorem takes_no {X : Cx} : Takes X noW := fun u s' ⟨_, _, _, _, _, _, _, _, _, _, _, _, _, _, _, _, w⟩ => w.elim
theorem sg_sub {j : Nat} {x : Str} {i : Expr} {mi : M D} {p1 p2 : Pos} (hv : PE X (.Name x p1) (tVar j)) (hi : SV X i mi)
    (ha : ∀ v, assign (.Subscript (.Name x p1) i p2) X.env v = (do
      let ov ← holding [v] (eval (.Name x p1) X.env)
      let iv ← holding [v, ov] (eval i X.env)
      standAt p2
      holding [v, ov, iv] (setItem ov iv v)
      release [v, ov, iv] []) := by intro _; rfl) : SG X (.Subscript (.Name x p1) i p2) (gSt j mi) [] :=
  pg_imp (pg_sub hv (hi noW takes_no) set_list ha) fun v σ H Q ⟨env, S, d, env', r, rv, e, q⟩ => by
    unfold gSt at e
    split at e
    · rename_i hl
      obtain ⟨a, vs, e1, e2⟩ := isL_some r hl
      refine ⟨.ref a, e1, env, S, r, ?_⟩
      unfold Go
      cases hm : mi env with
      | none => simp [hm] at e
      | some z =>
        cases z with
        | ex _ _ _ _ => simp [hm] at e
        | ok iv env1 =>
          simp only [hm] at e ⊢
          intro w S1 H1 st ri
          cases hc : chg j (onL (fSetIx iv d)) env1 with
          | none => simp [hc] at e
          | some p =>
            obtain ⟨o, env2⟩ := p
            simp only [hc, Option.bind_some] at e
            cases e
            obtain ⟨s, d0, d', k1, k2, k3, rfl⟩ := chg_some hc
            obtain ⟨ds, ds', rfl, k4, rfl⟩ := onL_some k3
            obtain ⟨a', ho, q1, q2, q3, q4⟩ := (st.rel.sl j s k1).mut k2
            rw [e1] at q1
            cases q1
            cases q4 with
            | lst r1 =>
              cases iv with
              | int k =>
                cases ri
                cases en : ixN ds.length k with
                | none => simp [fSetIx, en] at k4
                | some n =>
                  simp only [fSetIx, en, Option.bind_some] at k4
                  cases k4
                  exact ⟨a, _, k, n, rfl, rfl, q3, by rw [r1.len]; exact en, q σ S1 _ (st.change k1 k2 e1 (.lst (r1.set (rv.mono st.ext) n))) ⟨rfl, fun _ _ => rfl⟩⟩
              | _ => cases k4
    · cases e

/-! ### name op= e, ints -/
def mAug (j : Nat) (f : Int → Int → Int) (m : M D) : MS := fun env => match env[j]? with
  | some (.v (.int i)) => mThen m (fun d env1 => (inOf d).bind fun k => (setSl j (.v (.int (f i k))) env1).bind fun env' => some (.nx env')) env
  | _ => none
theorem ss_aug {j : Nat} {x : Str} {e : Expr} {m : M D} {op : Operator} {f : Int → Int → Int} {pos pos' : Pos} (he : SV X e m) (ho : PIp X op (ipI f)) (hN : X.N.Nodup) (hi : X.N[j]? = some x) (hx : Loc X.env.scope x) (hf : X.fn x = true ∨ X.env.scope.names.lookup x = some .local) : SS X (.AugAssign (.Name x pos') op e pos) (mAug j f m) := fun W tk =>
  ps_imp (ps_aug hN hi hx (he W tk) ho hf) fun E σ H ⟨env, S, r, g⟩ => by
    dsimp only [GoS] at g
    unfold mAug at g
    cases hj : env[j]? with
    | none => simp only [hj] at g; exact g.elim
    | some s =>
      cases s with
      | v d =>
        cases d with
        | int i =>
          simp only [hj] at g
          obtain ⟨v, e1, rv⟩ := r.sl j _ hj
          cases rv
          refine ⟨_, e1, GoS.part (E := E) r g fun w H1 env1 S1 d st rd g1 g2 => ?_⟩
          cases d with
          | int k =>
            cases rd
            refine ⟨i, k, rfl, rfl, ?_⟩
            cases ee : setSl j (.v (.int (f i k))) env1 with
            | none => exact (show False by simpa [inOf, ee, PostS] using g2).elim
            | some env2 =>
              simp only [inOf, ee, Option.bind_some] at g2
              obtain ⟨c1, c2, rfl⟩ := setSl_some ee
              exact g2 _ S1 H1 (st.assign c1 c2 ⟨_, rfl, .int _⟩ fun _ z => by cases z)
          | _ => exact (show False by simpa [inOf, PostS] using g2).elim
        | _ => simp only [hj] at g; exact g.elim
      | _ => simp only [hj] at g; exact g.elim
end Z
end

section
set_option Elab.async false
set_option linter.all false
set_option maxRecDepth 100000
set_option autoImplicit false
/-! Short forms for printed derivations; the walk's end. -/
namespace Z
open PySem
open L2 hiding XE Takes CX passes_call takes_of passAt PMk MkP ps_raise mk_of ps_try_as ps_try_many pmk_own XE.of_call XE.new XE.leave Takes.imp Sky.land
open L2N (Takes CX takes_of passAt PMk MkP ps_raise)
variable {X : Cx}
def mkF (n N : Nat) (m : MS) : DF := fun as => if as.length = n then runF N m as else none
theorem mkF_ok {n N : Nat} {m : MS} {as : List Ar} {o : CO} (h : mkF n N m as = some o) : as.length = n ∧ runF N m as = some o := by
  unfold mkF at h
  split at h
  · rename_i e
    exact ⟨e, h⟩
  · cases h
/-- what a caller knows of a def -/
structure Cal (P : Program) (w : World) (K : PySem.W.Frag) (mg : Str → Option Value) (base : Heap) (x : Str) (k : Nat) (f : Addr) (fd : FuncData) (ps : List Str) (F : DF) : Prop where
  g : mg x = some (.ref f)
  kp : PySem.W.keepIn K (.ref f) = true
  b : Binds K fd ps []
  ok : FnG P w K mg base (L2N.CX P w) k f fd ps (spM K mg F)
/-- .. the last defaults: dflt -/
structure CalD (P : Program) (w : World) (K : PySem.W.Frag) (mg : Str → Option Value) (base : Heap) (x : Str) (k : Nat) (f : Addr) (fd : FuncData) (ps : List Str) (F : DF) (dvs : List V) (dflt : List D) : Prop where
  g : mg x = some (.ref f)
  kp : PySem.W.keepIn K (.ref f) = true
  b : ∃ ds, Vals dvs ds ∧ Binds K fd ps ds
  d : ∀ S, RpA K mg S dvs dflt
  ok : FnG P w K mg base (L2N.CX P w) k f fd ps (spM K mg F)
section
variable {k j : Nat} {f : Addr} {fd : FuncData} {ps : List Str} {F : DF} {x : Str} {p pos : Pos} {e : Expr} {es : List Expr} {m : M (List Ax)} {dvs : List V} {dflt : List D}
theorem sr_cal (C : Cal X.prog X.w X.K X.mg X.base x j f fd ps F) (hr : Rm k X.A) (ha : SX X (e :: es) m) (hj : j ≤ k := by decide) (hg : Gl X x := by rfl) (hx : (x == ("__debug__" : Str)) = false := by decide)
    (h1 : starEach (e :: es) X.env = (false, eval e X.env) :: starEach es X.env := by rfl) (h2 : (backTo pos (starEach es X.env)).any (·.1) = false := by rfl) : SR X (.Call (.Name x p) (e :: es) [] pos) (mCall F [] m) :=
  sr_call (dvs := []) C.ok (hr.mono hj) C.g C.kp C.b .nil (fun _ => .nil) ha hg hx h1 h2
theorem sr_cal0 (C : Cal X.prog X.w X.K X.mg X.base x j f fd ps F) (hr : Rm k X.A) (hj : j ≤ k := by decide) (hg : Gl X x := by rfl) (hx : (x == ("__debug__" : Str)) = false := by decide) : SR X (.Call (.Name x p) [] [] pos) (mCall F [] xNil) :=
  sr_call0 (dvs := []) C.ok (hr.mono hj) C.g C.kp C.b .nil (fun _ => .nil) hg hx
theorem sr_calD (C : CalD X.prog X.w X.K X.mg X.base x j f fd ps F dvs dflt) (hr : Rm k X.A) (ha : SX X (e :: es) m) (hj : j ≤ k := by decide) (hg : Gl X x := by rfl) (hx : (x == ("__debug__" : Str)) = false := by decide)
    (h1 : starEach (e :: es) X.env = (false, eval e X.env) :: starEach es X.env := by rfl) (h2 : (backTo pos (starEach es X.env)).any (·.1) = false := by rfl) : SR X (.Call (.Name x p) (e :: es) [] pos) (mCall F dflt m) := by
  obtain ⟨ds, h3, h4⟩ := C.b
  exact sr_call C.ok (hr.mono hj) C.g C.kp h4 h3 C.d ha hg hx h1 h2
/-! keywords, every parameter given: perm puts the values in the parameters' order -/
def KwB (K : PySem.W.Frag) (fd : FuncData) (ps : List Str) (n : Nat) (ks : List Str) (g : {α : Type} → List α → List α → List α) : Prop := ∀ (s : Shared) (us ws : List Value), K.In s.heap → us.length = n → ws.length = ks.length → BindsTo s fd ⟨us, ks.zip ws⟩ (ps.zip (g us ws))
end
/-- the walk of a law, from its plain function -/
theorem walkZ {l : PySem.W.OpenLaw} {n k : Nat} {q : Program} {loose : List Str} {XP : (Str → Option Value) → Heap → Prop} {YP : World → Heap → Prop} {d : DefRec} {K : Params → PySem.W.Frag} {x : Str} {F : DF}
    (hn : l.most = some n) (hn2 : n ≤ sizeLine) (hdf : d.params.defaults = []) (hr : Rm k callerA) (hY : ∀ (w : World) (h : Heap), YP w h → (K w.params).In h)
    (G : ∀ (w : World) (mg : Str → Option Value) (fa : Addr) (h : Heap), (K w.params).In h → h.Ns mainGlobals mg → mg d.name = some (.ref fa) →
      ∃ fd : FuncData, (∀ (s : Shared) (u : Value), BindsTo s fd ⟨[u], []⟩ [(x, u)]) ∧ ∀ base : Heap, (K w.params).In base → base.Ns mainGlobals mg → FnG l.prog w (K w.params) mg base (L2N.CX l.prog w) k fa fd [x] (spM (K w.params) mg F))
    (hF : ∀ ns : List Int, ns.length ≤ n → (∀ z ∈ ns, Builtin.Int.intBits z ≤ 1048576) → F [.v (.scr ns)] = some (.rt (.v (.bl true)) none)) : PySem.W.WalkO q loose XP YP l.row.toRowW d [] (fun f vs => PySem.call f vs) := by
  apply Att.attach_callB hn hdf
  intro w t0 t1 mg mb fa o pm cd doc a vs ns Gd Y ho hd hcd hmg hobj hints hlen hbits hg
  obtain ⟨fd, hb, hG⟩ := G w mg fa _ (hY w _ Y) Gd.T.g hmg
  exact law_go (hY w _ Y) Gd.T.g Gd.T.b Gd.T.builtins Gd.T.nolimit hg hr hG hb (hF ns hlen hbits) hobj hints (Nat.le_trans hlen hn2)
end Z
end

section
set_option Elab.async false
set_option linter.all false
set_option maxRecDepth 100000
set_option autoImplicit false
/-! Calls with keywords; short names of the printed texts. -/
namespace Z
open PySem
open L2 hiding XE Takes CX passes_call takes_of passAt PMk MkP ps_raise mk_of ps_try_as ps_try_many pmk_own XE.of_call XE.new XE.leave Takes.imp Sky.land
open L2N (Takes CX takes_of passAt PMk MkP ps_raise)
variable {X : Cx}
abbrev mNext : MS := fun env => some (.nx env)
abbrev mBrk : MS := fun env => some (.bk env)
abbrev mCnt : MS := fun env => some (.ct env)
abbrev mNo : MS := fun _ => none
abbrev mRetN : MS := fun env => some (.rt (.v .non) env)
def fNeg : D → Option D
  | .int i => some (.int (-i))
  | _ => none
theorem sv_negF {a : Expr} {pos : Pos} {n : M D} (h : SV X a n) : SV X (.UnaryOp .USub a pos) (mU fNeg n) := by
  have e : fNeg = fun d => match d with | .int i => some (.int (-i)) | _ => none := by
    funext d
    cases d <;> rfl
  rw [e]
  exact sv_neg h
theorem gs3_len {t u w : TgM} {ds : List D} {env env' : Env} (h : gsCons t (gsCons u (gsCons w gsNil)) ds env = some env') : ds.length = 3 := by
  cases ds with
  | nil => cases h
  | cons a ds =>
    unfold gsCons at h
    cases e1 : t a env with
    | none => simp [e1] at h
    | some env1 =>
      simp only [e1, Option.bind_some] at h
      exact congrArg (· + 1) (gs2_len h)
/-! ### keywords -/
def pick {α : Type} (pm : List Nat) (l : List α) : List α := pm.filterMap fun i => l[i]?
theorem pick_vals {vs : List V} {us : List Value} (h : Vals vs us) : ∀ pm : List Nat, Vals (pick pm vs) (pick pm us)
  | [] => .nil
  | i :: pm => by
    unfold pick
    have ih := pick_vals h pm
    unfold pick at ih
    cases e : vs[i]? with
    | none =>
      have e2 : us[i]? = none := by
        rw [List.getElem?_eq_none_iff] at e ⊢
        rw [← h.length]
        exact e
      rw [List.filterMap_cons_none e, List.filterMap_cons_none e2]
      exact ih
    | some v =>
      obtain ⟨u, e2, r⟩ : ∃ u, us[i]? = some u ∧ RelV v u := by
        exact h.get e
      rw [List.filterMap_cons_some e, List.filterMap_cons_some e2]
      exact .cons r ih
theorem pick_rp {K : PySem.W.Frag} {mg : Str → Option Value} {S : Hp} {vs : List V} {ds : List D} (h : RpA K mg S vs ds) : ∀ pm : List Nat, RpA K mg S (pick pm vs) (pick pm ds)
  | [] => .nil
  | i :: pm => by
    unfold pick
    have ih := pick_rp h pm
    unfold pick at ih
    cases e : ds[i]? with
    | none =>
      have e2 : vs[i]? = none := by
        rw [List.getElem?_eq_none_iff] at e ⊢
        rw [h.len]
        exact e
      rw [List.filterMap_cons_none e, List.filterMap_cons_none e2]
      exact ih
    | some d =>
      obtain ⟨v, e2, r⟩ := h.get e
      rw [List.filterMap_cons_some e, List.filterMap_cons_some e2]
      exact .cons r ih
def SK (X : Cx) (kws : List Keyword) (m : M (List D)) : Prop := ∀ W, Takes X W → PK X kws (tM X.K X.mg W (RA X.K X.mg) m)
theorem pk_imp {kws : List Keyword} {t t' : TA} (h : PK X kws t) (i : ∀ σ H Q, t' σ H Q → t σ H Q) : PK X kws t' := ⟨fun pos pins s σ H Q I q => h.run pos pins s σ H Q I (i σ H Q q)⟩
theorem sk_nil : SK X [] mNil := fun W tk => pk_imp pk_nil fun σ H Q ⟨env, S, r, g⟩ => g.ret (R := RA X.K X.mg) r .nil
theorem sk_cons {nm : Option Str} {e : Expr} {kpos : Pos} {kws : List Keyword} {m : M D} {n : M (List D)} (h : SV X e m) (hr : SK X kws n) : SK X (⟨nm, e, kpos⟩ :: kws) (mCons m n) := fun W tk => pk_imp (pk_cons (h W tk) (hr W tk)) fun σ H Q ⟨env, S, r, g⟩ =>
  g.part nmA r fun x H1 env1 S1 a st ra g1 => g1.part nmA st.rel fun xs H2 env2 S2 ds st2 rb g2 => g2.ret (R := RA X.K X.mg) st2.rel (.cons (Rp.mono st2.ext ra) rb)
/-- what a caller knows of a def that it calls with n values and the keywords ks; pm puts values, keywords' values and defaults in the parameters' order -/
structure CalK (P : Program) (w : World) (K : PySem.W.Frag) (mg : Str → Option Value) (base : Heap) (x : Str) (k : Nat) (f : Addr) (fd : FuncData) (ps : List Str) (F : DF) (n : Nat) (ks : List Str) (pm : List Nat) (dvs : List V) (dflt : List D) : Prop where
  g : mg x = some (.ref f)
  kp : PySem.W.keepIn K (.ref f) = true
  b : ∃ ds, Vals dvs ds ∧ ∀ (s : Shared) (us ws : List Value), K.In s.heap → us.length = n → ws.length = ks.length → BindsTo s fd ⟨us, ks.zip ws⟩ (ps.zip (pick pm (us ++ ws ++ ds)))
  d : ∀ S, RpA K mg S dvs dflt
  ok : FnG P w K mg base (L2N.CX P w) k f fd ps (spM K mg F)
def tKwW (W : WX) (n m : Nat) (pm : List Nat) (dvs : List V) (sp : Sp) (t tk : TA) : TE := fun σ H Q => t σ H fun vs H1 => tk σ H1 fun zs H2 => vs.length = n ∧ zs.length = m ∧ sp (pick pm (vs ++ zs ++ dvs)) H2 Q (WE W σ)
section
variable {k j n : Nat} {f : Addr} {fd : FuncData} {ps ks : List Str} {pm : List Nat} {F : DF} {sp : Sp} {W : WX} {x : Str} {p pos : Pos} {e : Expr} {es : List Expr} {kws : List Keyword} {t tk' : TA} {m m' : M (List D)} {dvs : List V} {ds : List Value} {dflt : List D}
theorem go_kw {pins : List (Addr × Obj)} {σ : St} {H : Hp} {s : Shared} {Q : VK} {us ws : List Value} {vs zs : List V} (F : FnG X.prog X.w X.K X.mg X.base (L2N.CX X.prog X.w) k f fd ps sp) (hr : Rm k X.A) (tk : Takes X W) (I : Inv X pins σ H s)
    (hb : ∀ (s : Shared) (us ws : List Value), X.K.In s.heap → us.length = n → ws.length = ks.length → BindsTo s fd ⟨us, ks.zip ws⟩ (ps.zip (pick pm (us ++ ws ++ ds)))) (hd : Vals dvs ds) (r : Vals vs us) (rz : Vals zs ws) (l1 : vs.length = n) (l2 : zs.length = ks.length)
    (h : sp (pick pm (vs ++ zs ++ dvs)) H Q (WE W σ)) : wpAny (model X.prog X.w) X.A (call (.ref f) us (ks.zip ws)) (EP X pins σ Q) X.xe s :=
  go_fg F hr tk I (hb s us ws I.kIn (r.length.symm.trans l1) (rz.length.symm.trans l2)) (pick_vals ((r.append rz).append hd) pm) h
theorem pe_kw0 (F : FnG X.prog X.w X.K X.mg X.base (L2N.CX X.prog X.w) k f fd ps sp) (hr : Rm k X.A) (tk : Takes X W) (hm : X.mg x = some (.ref f)) (hk : PySem.W.keepIn X.K (.ref f) = true)
    (hb : ∀ (s : Shared) (us ws : List Value), X.K.In s.heap → us.length = 0 → ws.length = ks.length → BindsTo s fd ⟨us, ks.zip ws⟩ (ps.zip (pick pm (us ++ ws ++ ds)))) (hd : Vals dvs ds) (hw : PK X kws tk') (hg : Gl X x) (hx : (x == ("__debug__" : Str)) = false)
    (h2 : ((backTo pos (starEach [] X.env)).any (·.1) || (backToKw pos (keywordEach kws X.env)).any (·.1.isNone)) = false) (h3 : (backToKw pos (keywordEach kws X.env)).all (·.1.isSome) = true) (h4 : (backToKw pos (keywordEach kws X.env)).filterMap (·.1) = ks) :
    PE X (.Call (.Name x p) [] kws pos) (tKwW W 0 ks.length pm dvs sp tNil tk') where
  run := by
    intro pins s σ H Q I h
    apply wpAny_Call_Name_kw
    apply ld_glob I hg hm _ hx
    refine PySem.W.callWith_KW0 (h₀ := X.base) I.ok.mod.kin hk h3 ?_ h2
    refine thn (hw.run pos pins s σ H _ I h) ?_
    rintro ws s2 ⟨zs, H2, I2, rz, l1, l2, q2⟩
    refine ⟨I2.kIn, ?_⟩
    rw [h4]
    exact go_kw (us := []) (vs := []) F hr tk I2 hb hd .nil rz rfl l2 q2
theorem pe_kw (F : FnG X.prog X.w X.K X.mg X.base (L2N.CX X.prog X.w) k f fd ps sp) (hr : Rm k X.A) (tk : Takes X W) (hm : X.mg x = some (.ref f)) (hk : PySem.W.keepIn X.K (.ref f) = true)
    (hb : ∀ (s : Shared) (us ws : List Value), X.K.In s.heap → us.length = n → ws.length = ks.length → BindsTo s fd ⟨us, ks.zip ws⟩ (ps.zip (pick pm (us ++ ws ++ ds)))) (hd : Vals dvs ds) (ha : PA X (e :: es) t) (hw : PK X kws tk') (hg : Gl X x) (hx : (x == ("__debug__" : Str)) = false) (h1 : starEach (e :: es) X.env = (false, eval e X.env) :: starEach es X.env)
    (h2 : ((backTo pos (starEach (e :: es) X.env)).any (·.1) || (backToKw pos (keywordEach kws X.env)).any (·.1.isNone)) = false) (h3 : (backToKw pos (keywordEach kws X.env)).all (·.1.isSome) = true) (h4 : (backToKw pos (keywordEach kws X.env)).filterMap (·.1) = ks) :
    PE X (.Call (.Name x p) (e :: es) kws pos) (tKwW W n ks.length pm dvs sp t tk') where
  run := by
    intro pins s σ H Q I h
    apply wpAny_Call_Name_kw
    apply ld_glob I hg hm _ hx
    refine PySem.W.callWith_KW (h₀ := X.base) I.ok.mod.kin hk h3 (thn (ha.run pos pins s σ H _ I h) ?_) h2 h1
    rintro us s1 ⟨vs, H1, I1, r, q⟩
    refine thn (hw.run pos pins s1 σ H1 _ I1 q) ?_
    rintro ws s2 ⟨zs, H2, I2, rz, l1, l2, q2⟩
    refine ⟨I2.kIn, ?_⟩
    rw [h4]
    exact go_kw F hr tk I2 hb hd r rz l1 l2 q2
/-- the arguments in the parameters' order -/
def mKw (n l : Nat) (pm : List Nat) (dflt : List D) (a b : M (List D)) : M (List Ax) := a.bind fun us => b.bind fun ws => M.of fun _ => if us.length = n ∧ ws.length = l then some ((pick pm (us ++ ws ++ dflt)).map .v) else none
theorem bind_assoc {α β γ : Type} (m : M α) (f : α → M β) (g : β → M γ) : M.bind (M.bind m f) g = M.bind m fun a => M.bind (f a) g := by
  funext env
  unfold M.bind
  cases m env with
  | none => rfl
  | some r => cases r <;> rfl
theorem axr_v {K : PySem.W.Frag} {mg : Str → Option Value} {σ : St} {S : Hp} : ∀ {vs : List V} {ds : List D}, RpA K mg S vs ds → AxR K mg σ S vs (ds.map .v)
  | _, [], h => by cases h; exact .nil
  | _, d :: ds, h => by cases h with | cons r t => exact .v r (axr_v t)
theorem kw_ok {σ : St} {H : Hp} {Q : VK} {env : Env} {S : Hp} {a b : M (List D)} (hd : ∀ S, RpA X.K X.mg S dvs dflt) (r : Rel X.K X.mg env σ S H)
    (g : Go X.K X.mg W (RR X.K X.mg) (mCall F [] (mKw n ks.length pm dflt a b)) env σ S H Q) :
    tM X.K X.mg W (RA X.K X.mg) a σ H fun vs H1 => tM X.K X.mg W (RA X.K X.mg) b σ H1 fun zs H2 => vs.length = n ∧ zs.length = ks.length ∧ spM X.K X.mg F (pick pm (vs ++ zs ++ dvs)) H2 Q (WE W σ) := by
  unfold mCall mKw at g
  rw [bind_assoc] at g
  refine g.part (R := RA X.K X.mg) nmR r fun vs H1 env1 S1 us st ra g1 => ?_
  rw [bind_assoc] at g1
  refine g1.part (R := RA X.K X.mg) nmR st.rel fun zs H2 env2 S2 ws st2 rb g2 => ?_
  by_cases hl : us.length = n ∧ ws.length = ks.length
  · rw [show (M.of fun _ => if us.length = n ∧ ws.length = ks.length then some ((pick pm (us ++ ws ++ dflt)).map Ax.v) else none) = M.ret ((pick pm (us ++ ws ++ dflt)).map Ax.v) by
      funext e
      unfold M.of M.ret
      rw [if_pos hl]] at g2
    have rp := pick_rp (((RpA.mono st2.ext ra).app rb).app (hd S2)) pm
    refine ⟨ra.len.trans hl.1, rb.len.trans hl.2, ?_⟩
    have := call_ok (dvs := []) (dflt := []) st2.rel (axr_v (σ := σ) rp) .nil g2
    rwa [List.append_nil] at this
  · exfalso
    rw [show (M.of fun _ => if us.length = n ∧ ws.length = ks.length then some ((pick pm (us ++ ws ++ dflt)).map Ax.v) else none) = fun _ => none by
      funext e
      unfold M.of
      rw [if_neg hl]] at g2
    exact g2
theorem sr_kw {l : Nat} (C : CalK X.prog X.w X.K X.mg X.base x j f fd ps F n ks pm dvs dflt) (hr : Rm k X.A) (ha : SA X (e :: es) m) (hw : SK X kws m') (hl : ks.length = l := by rfl) (hj : j ≤ k := by decide) (hg : Gl X x := by rfl) (hx : (x == ("__debug__" : Str)) = false := by decide) (h1 : starEach (e :: es) X.env = (false, eval e X.env) :: starEach es X.env := by rfl)
    (h2 : ((backTo pos (starEach (e :: es) X.env)).any (·.1) || (backToKw pos (keywordEach kws X.env)).any (·.1.isNone)) = false := by rfl) (h3 : (backToKw pos (keywordEach kws X.env)).all (·.1.isSome) = true := by rfl) (h4 : (backToKw pos (keywordEach kws X.env)).filterMap (·.1) = ks := by rfl) :
    SR X (.Call (.Name x p) (e :: es) kws pos) (mCall F [] (mKw n l pm dflt m m')) := fun W tk => by
  subst hl
  obtain ⟨ds, h5, h6⟩ := C.b
  exact pe_imp (pe_kw C.ok (hr.mono hj) tk C.g C.kp h6 h5 (ha W tk) (hw W tk) hg hx h1 h2 h3 h4) fun σ H Q ⟨env, S, r, g⟩ => kw_ok C.d r g
theorem sr_kw0 {l : Nat} (C : CalK X.prog X.w X.K X.mg X.base x j f fd ps F 0 ks pm dvs dflt) (hr : Rm k X.A) (hw : SK X kws m') (hl : ks.length = l := by rfl) (hj : j ≤ k := by decide) (hg : Gl X x := by rfl) (hx : (x == ("__debug__" : Str)) = false := by decide)
    (h2 : ((backTo pos (starEach [] X.env)).any (·.1) || (backToKw pos (keywordEach kws X.env)).any (·.1.isNone)) = false := by rfl) (h3 : (backToKw pos (keywordEach kws X.env)).all (·.1.isSome) = true := by rfl) (h4 : (backToKw pos (keywordEach kws X.env)).filterMap (·.1) = ks := by rfl) :
    SR X (.Call (.Name x p) [] kws pos) (mCall F [] (mKw 0 l pm dflt mNil m')) := fun W tk => by
  subst hl
  obtain ⟨ds, h5, h6⟩ := C.b
  refine pe_imp (pe_kw0 C.ok (hr.mono hj) tk C.g C.kp h6 h5 (hw W tk) hg hx h2 h3 h4) fun σ H Q ⟨env, S, r, g⟩ => ?_
  obtain ⟨env', S', r', g'⟩ := kw_ok C.d r g
  exact g'.ret (R := RA X.K X.mg) r' .nil
end
end Z
end

section
set_option Elab.async false
set_option linter.all false
set_option maxRecDepth 100000
set_option autoImplicit false
/-! Defs whose body is walked at its own code. -/
namespace Z
open PySem
open L2 hiding XE Takes CX passes_call takes_of passAt PMk MkP ps_raise mk_of ps_try_as ps_try_many pmk_own XE.of_call XE.new XE.leave Takes.imp Sky.land
open L2N (Takes CX takes_of passAt PMk MkP ps_raise)
open PyProof.Rows (envOfC)
open NdefX (NF NScope CellsAt envF ncx startF inv_startN)
/-- statements, run as the code of a def -/
structure PSsAt (X : Cx) (st : List Stmt) (t : TS) : Prop where
  run : ∀ (pins : List (Addr × Obj)) (s : Shared) (σ : St) (H : Hp) (D : Ends), Inv X pins σ H s → t D σ H → wpAt (model X.prog X.w) X.A (.func st X.env) (execs st X.env) (SP X pins D) X.xe s
section
variable {P : Program} {w : World} {K : PySem.W.Frag} {mg : Str → Option Value} {base : Heap}
/-- by the body at its own code (super() asks for it) -/
theorem fg_ofAt {C : CXT} {k : Nat} {f : Addr} {nm qual : Str} {pa : Arguments} {bd : List Stmt} {sc : Scope} {v1 v2 v3 v4 v5 v6 oc : Value} {an od : Option Addr} {sl : Array (Option Value)} {N ps : List Str} {sp : Sp}
    (lk : K.lookup f = some ⟨oc, od, .func (PySem.W.fnOf nm qual pa bd sc v1 v2 v3 v4 an v5 v6), sl⟩) (hcd : PySem.W.codeIn K v5 qual = true) (Sc : FnScope N ps sc) (len : ∀ vs H Q E, sp vs H Q E → vs.length = ps.length)
    (hb : ∀ (A : Around) (fr : List PySem.Env) (s : Shared) (H : Hp) (vs : List V) (Q : VK) (E : XK), Rm k (A.deeper (envOfC qual sc s.heap.objs.size f v5)) → sp vs H Q E →
      ∃ t, PSsAt (cxOf C P w K mg base N qual sc f v5 A fr s H E) bd t ∧ t { nx := fun _ H' => Q .non H', rt := Q } (start N vs) H) :
    FnG P w K mg base C (k + 1) f (PySem.W.fnOf nm qual pa bd sc v1 v2 v3 v4 an v5 v6) ps sp where
  len := len
  run := by
    intro A fr s H as us vs Q E hr e0 bt rv hsp
    have hlen := len _ _ _ _ hsp
    have inK : K.In s.heap := e0.mod.kin.keeps fun b o e => (e0.bs b o e).1
    have noLim : s.heap.NoLimit := e0.mod.nolimit.keeps fun b o e => (e0.bs b o e).1
    have kinds : ∀ y ∈ ps.zip us, sc.names.lookup y.1 = some .local ∨ (sc.names.lookup y.1 = some .cell ∧ ((cellsFrom (s.heap.objs.size + 1) sc.names []).lookup y.1).isSome = true) := by
      intro y hy
      have hm : y.1 ∈ ps := (List.of_mem_zip (a := y.1) (b := y.2) hy).1
      exact (Sc.par _ hm).imp id fun q => ⟨q, PySem.W.cellsFrom_some _ _ _ (.inl q)⟩
    have room : Rm k (A.deeper (envOfC qual sc s.heap.objs.size f v5)) := ⟨hr.1.deeper _, hr.2⟩
    refine codeAny_call_function hr.1.depth (inK _ _ lk) rfl Sc.co Sc.gen rfl (PySem.W.codeRec_of inK hcd) (bt _ _ _ _ ?_)
    apply wpAny_newFunctionEnv_cells Sc.kind kinds
    intro env he s1 lay
    subst he
    refine ⟨noLim.keeps lay.toInCall.keep, PySem.ks_codeAny_funcAt ?_⟩
    obtain ⟨t, body, hq⟩ := hb A fr s H vs Q E room hsp
    have J := inv_start (CX := C) (E := E) Sc hr.1.hd e0 hlen rv lay
    refine wpAt_mono (body.run [] s1 (start N vs) H _ J hq) ?_ (fun e s' z => z)
    intro fl s' hs
    have out : ∀ {σ' : St} {H' : Hp} {v : V} {u : Value}, Inv (cxOf C P w K mg base N qual sc f v5 A fr s H E) [] σ' H' s' → RelV v u → Q v H' → CE fr P w H s Q u s' := by
      intro σ' H' v u I r q
      exact ⟨v, H', I.os, I.bare, I.base, I.hok, r, q⟩
    cases fl with
    | next =>
      obtain ⟨_, _, I, q⟩ := hs
      exact out (v := V.non) (u := Value.none) I rfl q
    | ret u => obtain ⟨_, _, _, I, r, q⟩ := hs; exact out I r q
    | brk => obtain ⟨_, _, _, z⟩ := hs; exact z.elim
    | cont => obtain ⟨_, _, _, z⟩ := hs; exact z.elim
end

section
variable {X : Cx} {st : Stmt} {rest : List Stmt} {t u : TS}
/-- the first statement at the def's own code -/
def PSAt (X : Cx) (c : Code) (st : Stmt) (t : TS) : Prop := ∀ (pins : List (Addr × Obj)) (s : Shared) (σ : St) (H : Hp) (D : Ends), Inv X pins σ H s → t D σ H → wpAt (model X.prog X.w) X.A c (exec st X.env) (SP X pins D) X.xe s
theorem PSAt.of {c : Code} (h : PS X st t) : PSAt X c st t := fun pins s σ H D I q => wpAt_of_wpAny (h.run pins s σ H D I q)
theorem at_cons (h1 : PSAt X (.func (st :: rest) X.env) st t) (h2 : PSs X rest u) : PSsAt X (st :: rest) (tSeq t u) where
  run := by
    intro pins s σ H D I h
    rw [execs_cons]
    refine wpAt_bind (wpAt_mono (h1 pins s σ H { D with nx := u D } I h) (fun f s1 q => ?_) fun _ _ z => z)
    cases f with
    | next =>
      obtain ⟨σ', H', I', q⟩ := q
      exact wpAt_of_wpAny (h2.run pins s1 σ' H' D I' q)
    | ret v => exact wpAt_of_wpAny (wpAny_pure q)
    | brk => exact wpAt_of_wpAny (wpAny_pure q)
    | cont => exact wpAt_of_wpAny (wpAny_pure q)
end
/-! ### a def with captured cells (an __init__ that says super()) -/
section
variable {P : Program} {w : World} {K : PySem.W.Frag} {mg : Str → Option Value} {base : Heap}
theorem fg_ofC {C : CXT} {k : Nat} {f : Addr} {F : NF} {doc pm ctv oc : Value} {od : Option Addr} {sl : Array (Option Value)} {N ps fr : List Str} {ws : List (Option V)} {sp : Sp}
    (lk : K.lookup f = some ⟨oc, od, .func (F.fd doc pm ctv), sl⟩) (hcd : PySem.W.codeIn K (.ref F.c) F.qual = true) (S : NScope N ps fr F.scope) (hce : ∀ (s : Shared) (H : Hp), K.In s.heap → (∀ b o, base.get? b = some o → H b = none) → CellsAt F.cl fr ws s.heap H)
    (len : ∀ vs H Q E, sp vs H Q E → vs.length = ps.length)
    (hb : ∀ (A : Around) (fr' : List PySem.Env) (s : Shared) (H : Hp) (vs : List V) (Q : VK) (E : XK), Rm k (A.deeper (envF F f s.heap.objs.size)) → sp vs H Q E →
      ∃ t, PSsAt (ncx C P w K mg base N F f A fr' s H E) F.body t ∧ t { nx := fun _ H' => Q .non H', rt := Q } (startF N vs ws) H) :
    FnG P w K mg base C (k + 1) f (F.fd doc pm ctv) ps sp where
  len := len
  run := by
    intro A fr' s H as us vs Q E hr e0 bt rv hsp
    have hl := len _ _ _ _ hsp
    have inK : K.In s.heap := e0.mod.kin.keeps fun b o e => (e0.bs b o e).1
    have lim : s.heap.NoLimit := e0.mod.nolimit.keeps fun b o e => (e0.bs b o e).1
    have Ce := hce s H inK fun b o e => (e0.bs b o e).2
    refine codeAny_call_function hr.1.depth (inK _ _ lk) rfl S.co S.gen rfl (PySem.W.codeRec_of inK hcd) (bt _ _ _ _ ?_)
    refine wpAny_newFunctionEnv S.nocell (fun ⟨n, _⟩ hy => S.par n (List.of_mem_zip hy).1) (fun h₁ hns hsb => ⟨lim.fresh _ hsb, ?_⟩) S.kind
    show codeAny _ _ (.func F.body (envF F f s.heap.objs.size)) _ _
    refine PySem.ks_codeAny_funcAt ?_
    have kp : ∀ b o, s.heap.get? b = some o → h₁.get? b = some o := fun b o e => hsb.extBut b o (Nat.ne_of_lt (Heap.lt_size e)) (Heap.get?_push_of_some _ e)
    obtain ⟨t, ht, hq⟩ := hb A fr' s H vs Q E ⟨hr.1.deeper _, hr.2⟩ hsp
    have J : Inv (ncx C P w K mg base N F f A fr' s H E) [] (startF N vs ws) H { s with heap := h₁, toks := s.toks + (ps.zip us).length } := inv_startN S hr.1.hd e0 hl rv Ce hns kp
    refine wpAt_mono (ht.run [] _ (startF N vs ws) H _ J hq) (fun fl s' hs => ?_) fun e s' z => z
    have out : ∀ {σ' : L2.St} {H' : Hp} {v : V} {u : Value}, Inv (ncx C P w K mg base N F f A fr' s H E) [] σ' H' s' → RelV v u → Q v H' → CE fr' P w H s Q u s' :=
      fun {σ' H' v u} Y r q => ⟨v, H', Y.os, Y.bare, Y.base, Y.hok, r, q⟩
    cases fl with
    | next => obtain ⟨_, _, Y, q⟩ := hs; exact out (v := V.non) (u := Value.none) Y rfl q
    | ret u => obtain ⟨_, _, _, Y, r, q⟩ := hs; exact out Y r q
    | brk => obtain ⟨_, _, _, z⟩ := hs; exact z.elim
    | cont => obtain ⟨_, _, _, z⟩ := hs; exact z.elim
end
end Z
end

section
set_option Elab.async false
set_option linter.all false
set_option maxRecDepth 100000
set_option autoImplicit false
/-! Own errors, whose __init__ says super().__init__(..) and stores its parameters: made, raised. -/
namespace Z
open PySem
open L2 hiding XE Takes CX passes_call takes_of passAt PMk MkP ps_raise mk_of ps_try_as ps_try_many pmk_own XE.of_call XE.new XE.leave Takes.imp Sky.land
open L2N (Takes CX takes_of passAt PMk MkP ps_raise)
open PyProof.Rows (envOfC)
open NdefX (NF NScope CellsAt envF ncx startF inv_startN)

section
variable {prog : Program} {w : World} {A : Around} {E : Value → Shared → Prop} {h : Heap} {g : Array GenState} {d : Drawn} {t : Nat} {os : OsState}
variable {nm q : Str} {C N : Addr} {bs bm : List Value} {hdct : Bool} {sn : List Str} {sub : List Value} {ab : Bool} {col : Option Bool} {dd : Option Addr} {k0 k1 k2 k3 k5 : Option Value}
/-- the bound built-in __init__ is called: the exception's args are laid anew -/
theorem call_mw {u e t0 : Addr} {rest : List Value} {Q : Value → Shared → Prop}
    (hC : h.get? C = some (excClassObj nm q C N bs bm hdct sn sub ab col dd k0 k1 k2 k3 k5 "ValueError.__new__")) (he : h.get? e = some (HandSPX.excO C t0)) (hu : h.get? u = some (PySem.W.kxs_mw "ValueError.__init__" e)) (hl : rest.length ≤ sizeLine)
    (hq : ∀ h' t1, (∀ b o, b ≠ e → h.get? b = some o → h'.get? b = some o) → h'.get? e = some (HandSPX.excO C t1) → Q .none ⟨h', g, d, t, os⟩) : wpAny (model prog w) A (call (.ref u) rest) Q E ⟨h, g, d, t, os⟩ := by
  have FB := PySem.F.excBase_ValueError
  refine wpAny_call (codeAny_of_tree ?_)
  show wpAny _ A.in1 (callAny (.ref u) ⟨rest, []⟩) _ _ _
  simp only [callAny]
  refine wpAny_bind (wpAny_load hu ?_)
  simp only [PySem.W.kxs_mw, show (Value.type "method-wrapper" == Value.type "method" || Value.type "method-wrapper" == Value.type "builtin_function_or_method" || Value.type "method-wrapper" == Value.type "method-wrapper") = true by decide, if_true]
  refine PySem.W.KFB.if_so (by decide) ?_
  refine wpAny_bind (PySem.W.check_bound_init FB.toExcCallFacts hC he rfl ?_)
  refine wpAny_bind (wpAny_pure (wpAny_pure ?_))
  refine ⟨plainId_quiet FB.init.plain _, codeAny_builtin FB.initEntry ?_⟩
  exact PySem.W.exc_init_tree (cls := .ref C) (t0 := t0) (dv := none) (c2 := .none) (c3 := .none) (b4 := .bool false) he hl fun h' k e' _ => hq h' _ k e'
end
section
variable {P : Program} {w : World} {K : PySem.W.Frag} {mg : Str → Option Value} {base : Heap}
/-- what the written part says of such a class -/
structure ErrC (P : Program) (K : PySem.W.Frag) (mg : Str → Option Value) (C fI cc : Addr) (F : NF) : Prop where
  T : OexC K C
  gs : mg "super" = none
  fn : ∃ (oc : Value) (od : Option Addr) (doc pm ctv : Value) (sl : Array (Option Value)), K.lookup fI = some ⟨oc, od, .func (F.fd doc pm ctv), sl⟩
  cl : F.cl = [(("__class__" : Str), cc)]
  code : ∃ (o : Obj) (vs : Array Value) (file : Str) (tf : Tok), K.lookup F.c = some o ∧ o.data = .fields vs ∧ vs[2]? = some (.str file tf) ∧ ((P.main.file : Str) == file) = true
  cell : ∃ o : Obj, K.lookup cc = some o ∧ o.data = .cell (some (.ref C))
  ho : PySem.W.nsIn K cStatics "thirdparty.any" = some none
  hm : PySem.W.ks_superIn K C C "__init__" = some (some (.builtin "ValueError.__init__"))
  hB : PySem.W.subIn K (.ref C) (.type "ValueError") = some true
  hsub : PySem.W.mroIn K C (.ref C) = some true
  htop : (P.main.scope.names.lookup ("super" : Str)).isSome = false
theorem psat_super {N : List Str} {F : NF} {f C cc : Addr} {A : Around} {fr : List PySem.Env} {s0 : Shared} {H0 : Hp} {E : XK} {lit : Str} {j : Nat} {p0 p1 p2 p3 p4 p5 : Pos} {ar : Arg}
    (T : ErrC P K mg C f cc F) (hN : N[0]? = some ("self" : Str)) (hk : F.scope.kind = .function) (hks : F.scope.names.lookup ("super" : Str) = some .globalImplicit) (hkc : F.scope.names.lookup ("__class__" : Str) = some .free)
    (hka : F.scope.names.lookup ("self" : Str) = some .local) (hp : (F.params.posonlyargs ++ F.params.args).head? = some ar) (har : ar.arg = "self") {pl : Sem Bool}
    (hev : eval (.Call (.Attribute (.Call (.Name "super" p0) [] [] p1) "__init__" p2) [.Constant (.str lit) j p3] [] p4) (envF F f s0.heap.objs.size) = (do
      let ov ← attributeBase (.Call (.Name "super" p0) [] [] p1) "__init__" (envF F f s0.heap.objs.size) (eval (.Call (.Name "super" p0) [] [] p1) (envF F f s0.heap.objs.size))
      standAt p2.atName
      let (f1, first) ← holding [ov] (getMethod ov "__init__" pl)
      callWith p4 f1 first (backTo p4 (starEach [.Constant (.str lit) j p3] (envF F f s0.heap.objs.size))) [])) :
    PSAt (ncx (CX P w) P w K mg base N F f A fr s0 H0 E) (.func F.body (envF F f s0.heap.objs.size)) (.Expr (.Call (.Attribute (.Call (.Name "super" p0) [] [] p1) "__init__" p2) [.Constant (.str lit) j p3] [] p4) p5)
      (fun D σ H => ∃ a, σ[0]? = some (some (.ref a)) ∧ H a = some (exo a C none) ∧ D.nx σ H) := by
  intro pins s σ H D I ⟨a, e0, ea, hq⟩
  have XI : K.In s.heap := I.kIn
  obtain ⟨m, hn, hlk⟩ := I.loc
  obtain ⟨u0, ru, lk⟩ := hlk 0 "self" (.ref a) hN e0 (.inl hka)
  have hv : m "self" = some (.ref a) := by
    obtain rfl : u0 = .ref a := ru
    rcases lk with ⟨_, z⟩ | ⟨z | z, _⟩
    · exact z
    · have z' : F.scope.names.lookup ("self" : Str) = some .cell := z
      rw [hka] at z'
      cases z'
    · have z' : F.scope.names.lookup ("self" : Str) = some .free := z
      rw [hka] at z'
      cases z'
  obtain ⟨nm, q, N', bs, bm, sn, sub, ab, col, dd, k0, k1, k2, k3, k5, hC, hbm⟩ := T.T.cls
  have hcl : PySem.W.clsIn K C = some { name := nm, bases := bs, mro := .ref C :: bm, ns := N', qualname := q, hasDict := true, slotNames := sn, subclasses := sub, abstract := ab, collection := col, hasDel := false } := by unfold PySem.W.clsIn; rw [hC] <;> rfl
  obtain ⟨oc, od, doc, pm, ctv, sl, hf⟩ := T.fn
  obtain ⟨oq, vs, file, tf, hcode, hcd, hvs, hfile⟩ := T.code
  obtain ⟨ol, hcell, hcl2⟩ := T.cell
  obtain ⟨t1, ho⟩ := exo_at I.hok ea
  obtain ⟨mb, hb1, hb2⟩ := I.mod.blt
  have hgl := I.mod.glob
  have hqt := I.quiet
  obtain ⟨hh, g, d, t, os⟩ := s
  refine ks_wpAt_Expr_any (env := envF F f s0.heap.objs.size) ?_ hqt
  refine ks_wpAt_MethodCall (pl := pl) ?_ hev
  refine ks_wpAt_super_base (env := envF F f s0.heap.objs.size) hks hkc (by decide) rfl (XI _ _ hf) rfl hp rfl (XI _ _ hcode) hcd hvs hfile T.htop ?_
  refine PySem.W.ks_loadName_global hk hks (PySem.Calls.loadGlobal_builtin (hgl.keeps I.bk) T.gs (hb1.keeps I.bk) ((hb2 _ (by decide)).trans (by decide +kernel)) ⟨rfl, ?_⟩)
  refine wpAny_loadName_free hk hkc (c := cc) (by show F.cl.lookup _ = _; rw [T.cl]; rfl) ⟨_, XI _ _ hcell, hcl2⟩ ?_
  rw [har]
  refine wpAny_loadName_local hk hka hn hv ?_
  refine ks_wpAny_isType_cls (XI _ _ hC) rfl ⟨rfl, ?_⟩
  refine ks_wpAny_call_super (XI _ _ hC) rfl ho rfl (fun c e => by cases e) (PySem.W.looks_mroIn XI T.hsub) (fun h1 e1 kp1 => ?_)
  have I1 : Inv (ncx (CX P w) P w K mg base N F f A fr s0 H0 E) pins σ H ⟨h1, g, d, t, os⟩ := I.kept (t' := t) kp1
  have X1 : K.In h1 := I1.kIn
  have hxC : a ≠ C := fun z => by
    subst z
    rw [XI _ _ hC] at ho
    cases ho
  have LT : PySem.W.Looks (model P w) h1 (typeOf (.ref a)) (.ref C) := fun A Q E s k q => wpAny_typeOf_ref (k _ _ (kp1 _ _ ho)) q
  refine PySem.W.kxs_getMethod PySem.W.kxs_ValueError e1 (PySem.W.looks_opaque X1 T.ho) (l₀ := .ref C :: bm) (fun A Q E s k q => wpAny_bind ((PySem.W.looks_clsIn X1 hcl) A _ E s k (wpAny_pure q))) rfl X1 ?_ (LT.andThen (PySem.W.looks_subIn X1 T.hB)) hxC (by decide) ?_
  · have z := T.hm
    unfold PySem.W.ks_superIn at z
    rw [hcl] at z
    exact z
  have hu : (h1.push (PySem.W.kxs_mw "ValueError.__init__" a)).get? h1.objs.size = some (PySem.W.kxs_mw "ValueError.__init__" a) := Heap.get?_push_at rfl rfl
  have kp2 : ∀ b o, hh.get? b = some o → (h1.push (PySem.W.kxs_mw "ValueError.__init__" a)).get? b = some o := fun b o e => Heap.get?_push_of_some _ (kp1 b o e)
  refine PySem.W.kxs_callWith (i := "ValueError.__init__") (x := a) rfl ?_
  refine Calls.evalArgs_plain (x := eval (.Constant (.str lit) j p3) (envF F f s0.heap.objs.size)) (rest := []) ?_
  refine Calls.spliced_cons (PySem.wpAny_Constant_str (Calls.spliced_nil ⟨hu, ?_⟩))
  refine call_mw (X1.keeps (fun b o e => Heap.get?_push_of_some _ e) _ _ hC) (kp2 _ _ ho) hu (by show 1 ≤ sizeLine; decide) fun h2 t2 kp3 hx2 => ?_
  have J := I.write (t' := t + 1 + 1) (x := a) (e := a) (o := exo a C none) (by rw [ea]; exact True.intro) (.inl rfl) (fun b o hb e => kp3 b o hb (kp2 b o e)) ⟨_, hx2⟩ (exo_ok hx2)
  have eu : upd H a (exo a C none) = H := by
    funext b
    by_cases hb : b = a
    · rw [hb, upd_same, ea]
    · rw [upd_ne hb]
  rw [eu] at J
  exact ⟨σ, H, J, hq⟩
end
end Z
end

section
set_option Elab.async false
set_option linter.all false
set_option maxRecDepth 100000
set_option autoImplicit false
/-! Own errors: their __init__ as a promise; X(..) made; raise. -/
namespace Z
open PySem
open L2 hiding XE Takes CX passes_call takes_of passAt PMk MkP ps_raise mk_of ps_try_as ps_try_many pmk_own XE.of_call XE.new XE.leave Takes.imp Sky.land
open L2N (Takes CX takes_of passAt PMk MkP ps_raise)
open PyProof.Rows (envOfC)
open NdefX (NF NScope CellsAt envF ncx startF inv_startN)
section
variable {P : Program} {w : World} {K : PySem.W.Frag} {mg : Str → Option Value} {base : Heap}
theorem fn_ofC {C : CXT} {k : Nat} {f : Addr} {F : NF} {doc pm ctv oc : Value} {od : Option Addr} {sl : Array (Option Value)} {N ps fr : List Str} {ws : List (Option V)} {sp : Sp}
    (lk : K.lookup f = some ⟨oc, od, .func (F.fd doc pm ctv), sl⟩) (hcd : PySem.W.codeIn K (.ref F.c) F.qual = true) (S : NScope N ps fr F.scope) (hce : ∀ (s : Shared) (H : Hp), K.In base → K.In s.heap → (∀ b o, base.get? b = some o → H b = none) → CellsAt F.cl fr ws s.heap H)
    (len : ∀ vs H Q E, sp vs H Q E → vs.length = ps.length)
    (hb : ∀ (A : Around) (fr' : List PySem.Env) (s : Shared) (H : Hp) (vs : List V) (Q : VK) (E : XK), sp vs H Q E →
      ∃ t, PSsAt (ncx C P w K mg base N F f A fr' s H E) F.body t ∧ t { nx := fun _ H' => Q .non H', rt := Q } (startF N vs ws) H) :
    FnOk P w K mg base C (k + 1) f (F.fd doc pm ctv) ps sp where
  len := len
  run := by
    intro A fr' s H as us vs Q E hr e0 bt rv hsp
    have hl := len _ _ _ _ hsp
    have inK : K.In s.heap := e0.mod.kin.keeps fun b o e => (e0.bs b o e).1
    have lim : s.heap.NoLimit := e0.mod.nolimit.keeps fun b o e => (e0.bs b o e).1
    have Ce := hce s H e0.mod.kin inK fun b o e => (e0.bs b o e).2
    refine codeAny_call_function hr.depth (inK _ _ lk) rfl S.co S.gen rfl (PySem.W.codeRec_of inK hcd) (bt _ _ _ _ ?_)
    refine wpAny_newFunctionEnv S.nocell (fun ⟨n, _⟩ hy => S.par n (List.of_mem_zip hy).1) (fun h₁ hns hsb => ⟨lim.fresh _ hsb, ?_⟩) S.kind
    show codeAny _ _ (.func F.body (envF F f s.heap.objs.size)) _ _
    refine PySem.ks_codeAny_funcAt ?_
    have kp : ∀ b o, s.heap.get? b = some o → h₁.get? b = some o := fun b o e => hsb.extBut b o (Nat.ne_of_lt (Heap.lt_size e)) (Heap.get?_push_of_some _ e)
    obtain ⟨t, ht, hq⟩ := hb A fr' s H vs Q E hsp
    have J : Inv (ncx C P w K mg base N F f A fr' s H E) [] (startF N vs ws) H { s with heap := h₁, toks := s.toks + (ps.zip us).length } := inv_startN S hr.hd e0 hl rv Ce hns kp
    refine wpAt_mono (ht.run [] _ (startF N vs ws) H _ J hq) (fun fl s' hs => ?_) fun e s' z => z
    have out : ∀ {σ' : L2.St} {H' : Hp} {v : V} {u : Value}, Inv (ncx C P w K mg base N F f A fr' s H E) [] σ' H' s' → RelV v u → Q v H' → CE fr' P w H s Q u s' :=
      fun {σ' H' v u} Y r q => ⟨v, H', Y.os, Y.bare, Y.base, Y.hok, r, q⟩
    cases fl with
    | next => obtain ⟨_, _, Y, q⟩ := hs; exact out (v := V.non) (u := Value.none) Y rfl q
    | ret u => obtain ⟨_, _, _, Y, r, q⟩ := hs; exact out Y r q
    | brk => obtain ⟨_, _, _, z⟩ := hs; exact z.elim
    | cont => obtain ⟨_, _, _, z⟩ := hs; exact z.elim
/-- the cell of __class__, written -/
theorem cells_err {C fI cc : Addr} {F : NF} (T : ErrC P K mg C fI cc F) (s : Shared) (H : Hp) (kb : K.In base) (ks : K.In s.heap) (fr : ∀ b o, base.get? b = some o → H b = none) : CellsAt F.cl [("__class__" : Str)] [some (.ref C)] s.heap H := by
  obtain ⟨o, h1, h2⟩ := T.cell
  have key : ∀ {y c}, F.cl.lookup y = some c → y = ("__class__" : Str) ∧ c = cc := fun {y c} e => by
    rw [T.cl] at e
    by_cases h : y = ("__class__" : Str)
    · subst h
      rw [show List.lookup ("__class__" : Str) [(("__class__" : Str), cc)] = some cc from by simp [List.lookup]] at e
      exact ⟨rfl, (Option.some.inj e).symm⟩
    · have hb : (y == ("__class__" : Str)) = false := by simpa using h
      simp [List.lookup, hb] at e
  refine ⟨rfl, fun y c e => ?_, fun x y c e1 e2 => (key e1).1.trans (key e2).1.symm, fun i y e => ?_⟩
  · obtain ⟨_, rfl⟩ := key e
    exact ⟨fr _ _ (kb _ _ h1), _, _, ks _ _ h1, h2⟩
  · cases i with
    | zero =>
      cases e
      refine ⟨cc, by rw [T.cl]; simp [List.lookup], fun v e => ?_⟩
      cases e
      exact ⟨.ref C, rfl, _, ks _ _ h1, h2⟩
    | succ i => simp at e
end
/-- what such an __init__ promises: the names ns are set, the last one stands first -/
def spInit (C : Addr) (ns : List Str) : Sp := fun vs H Q _ => ∃ (a : Addr) (ys : List V), vs = .ref a :: ys ∧ ys.length = ns.length ∧ H a = some (exo a C none) ∧ ∀ dx, H dx = none → dx ≠ a → Q .non (upd (upd H dx (exd dx (ns.zip ys).reverse)) a (exo a C (some dx)))
section
variable {X : Cx} {x : Str} {C fI : Addr} {k : Nat} {fd : FuncData} {ps ns : List Str} {e : Expr} {es : List Expr} {ta : TA} {p pos : Pos}
/-- X(e, ..) made -/
theorem pmk_err (T : OexC X.K C) (iC : PySem.W.findIn X.K (.ref C) "__init__" = some (some (.ref fI))) (tI : PySem.W.typeIn X.K (.ref fI) = some (.type "function"))
    (F1 : FnOk X.prog X.w X.K X.mg X.base (CX X.prog X.w) k fI fd ps (spInit C ns)) (hr : Room (k + 1) X.A) (hb : Binds X.K fd ps []) (hg : Gl X x) (hm : X.mg x = some (.ref C)) (ha : PA X (e :: es) ta)
    (hdb : (x == ("__debug__" : Str)) = false := by decide) (he : starEach (e :: es) X.env = (false, eval e X.env) :: starEach es X.env := by rfl) (hpl : (backTo pos (starEach es X.env)).any (·.1) = false := by rfl) :
    PMk X (.Call (.Name x p) (e :: es) [] pos) (fun σ H Q => ta σ H fun vs H1 => vs.length = ns.length ∧ vs.length ≤ 1000 ∧ ∀ d, H1 d = none → Q (.ref C) (some d) (upd H1 d (.xd (ns.zip vs).reverse))) := by
  intro pins s σ H Q I h
  obtain ⟨nm, q, N, bs, bm, sn, sub, ab, col, dd, k0, k1, k2, k3, k5, hC, hbm⟩ := T.cls
  refine wpAny_Call_Name_kw (ld_glob I hg hm ?_ hdb)
  refine PySem.W.callWith_K (h₀ := X.base) I.ok.mod.kin T.kC (thn (ha.run pos pins s σ H _ I h) fun us s1 ⟨vs, H1, I1, r1, hln, hz, q1⟩ => ⟨I1.kIn, ?_⟩) he hpl
  show wpAny _ _ (call (.ref C) us) _ _ _
  obtain ⟨hp, g, dr, tk, os⟩ := s1
  generalize hA : hp.objs.size + 1 = a
  have hsz : hp.objs.size ≤ a := by omega
  have hn : H1 a = none := I1.hok.fresh hsz
  have kk : ∀ b o, hp.get? b = some o → ((hp.push (PySem.W.kdv_tup us)).push (PySem.HandSPX.excO C hp.objs.size)).get? b = some o := fun b o e => Heap.get?_push_of_some _ (Heap.get?_push_of_some _ e)
  have hget : ((hp.push (PySem.W.kdv_tup us)).push (PySem.HandSPX.excO C hp.objs.size)).get? a = some (PySem.HandSPX.excO C hp.objs.size) := by
    rw [← hA]
    heap_get
  have I2 : Inv X pins σ (upd H1 a (exo a C none)) ⟨(hp.push (PySem.W.kdv_tup us)).push (PySem.HandSPX.excO C hp.objs.size), g, dr, tk, os⟩ :=
    I1.laid (t' := tk) (a := a) (o := exo a C none) (h' := (hp.push (PySem.W.kdv_tup us)).push (PySem.HandSPX.excO C hp.objs.size)) kk hsz (exo_ok hget)
  have r2 : Vals (V.ref a :: (vs ++ [])) (Value.ref a :: (us ++ [])) := .cons rfl (r1.append .nil)
  have hq : spInit C ns (.ref a :: (vs ++ [])) (upd H1 a (exo a C none)) (fun v H2 => v = .non ∧ ∃ d : Addr, H1 d = none ∧ H2 a = some (exo a C (some d)) ∧ H2 d = some (exd d (ns.zip vs).reverse) ∧ upd (del H2 a) d (.xd (ns.zip vs).reverse) = upd H1 d (.xd (ns.zip vs).reverse)) (fun _ _ _ => False) := by
    refine ⟨a, vs, by rw [List.append_nil], hln, upd_same, fun d hd hda => ⟨rfl, d, ?_, upd_same, by rw [upd_ne hda, upd_same], ?_⟩⟩
    · rw [upd_ne hda] at hd
      exact hd
    · funext b
      by_cases hb : b = d
      · subst hb
        rw [upd_same, upd_same]
      · rw [upd_ne hb, upd_ne hb]
        by_cases hba : b = a
        · subst hba
          rw [del_same, hn]
        · rw [del_ne hba, upd_ne hba, upd_ne hb, upd_ne hba]
  have hl : (Value.ref a :: us ++ []).length = ps.length := by
    have e := r2.length
    rw [F1.len _ _ _ _ hq] at e
    exact e.symm
  have hus : us.length ≤ sizeLine := by
    rw [← Paired.length r1, sizeLine_eq]
    omega
  refine wpAny_call (PySem.HandSPX.call_own F.excBase_ValueError (fun Y => PySem.HandSPX.refsVE_contains Y bm hbm) (I1.kIn _ _ hC) (PySem.W.looks_findIn I1.kIn iC) (fun self => PySem.W.bind_fn I1.kIn self tI) hus ?_)
  rw [show (hp : Heap).objs.size + 1 = a from hA]
  refine codeAny_mono (F1.run _ X.stack _ _ ⟨Value.ref a :: us, []⟩ (Value.ref a :: us ++ []) _ _ (fun _ _ _ => False) (hr.make C us []) (I2.env0.make C us []) (hb _ (Value.ref a :: us) I2.kIn hl) r2 hq) fun r s' hq' => ?_
  cases r with
  | error er =>
    obtain ⟨_, _, _, _, _, _, _, _, _, _, _, _, z⟩ := hq'
    exact z.elim
  | ok fl =>
    cases fl with
    | ret u =>
      obtain ⟨v, H2, os2, bare2, un2, hok2, rv, ev, d, hd1, ea, ed, eH⟩ := hq'
      subst ev
      obtain ⟨h2, g2, d2, t2, os'⟩ := s'
      obtain ⟨t0, G, J, kG, ge, hoe, na⟩ := mk_end0 (d2 := d2) (t2 := t2) I1 hsz kk un2 hok2 os2 bare2 ea ed hd1
      rw [eH] at J na
      exact ⟨rv, a, _, _, ⟨G, g2, d2, t2, os'⟩, _, .ref C, some d, rfl, J, kG, ge, hoe, ⟨rfl, rfl, fun vs e => by cases e; rfl⟩, rfl, rfl, na, rfl, bare2, raises_own T.exC T.tyC, q1 d hd1⟩
    | next => exact False.elim hq'
    | brk => exact False.elim hq'
    | cont => exact False.elim hq'
end

/-! the statements of such an __init__ -/
abbrev superCall (lit : Str) (j : Nat) (p0 p1 p2 p3 p4 : Pos) : Expr := .Call (.Attribute (.Call (.Name "super" p0) [] [] p1) "__init__" p2) [.Constant (.str lit) j p3] [] p4
abbrev storeSt (f p : Str) (q1 q2 q3 q4 : Pos) : Stmt := .Assign [.Attribute (.Name "self" q1) f q2] (.Name p q3) q4
/-- what its text says -/
structure ErrT (F : NF) (lit : Str) (j : Nat) (p0 p1 p2 p3 p4 p5 : Pos) : Prop where
  hks : F.scope.names.lookup ("super" : Str) = some .globalImplicit
  hp : ∃ ar : Arg, (F.params.posonlyargs ++ F.params.args).head? = some ar ∧ ar.arg = "self"
  hev : ∃ pl : Sem Bool, ∀ f L : Addr, eval (superCall lit j p0 p1 p2 p3 p4) (envF F f L) = (do
      let ov ← attributeBase (.Call (.Name "super" p0) [] [] p1) "__init__" (envF F f L) (eval (.Call (.Name "super" p0) [] [] p1) (envF F f L))
      standAt p2.atName
      let (f1, first) ← holding [ov] (getMethod ov "__init__" pl)
      callWith p4 f1 first (backTo p4 (starEach [.Constant (.str lit) j p3] (envF F f L))) [])
section
variable {P : Program} {w : World} {K : PySem.W.Frag} {mg : Str → Option Value} {base : Heap} {C fI cc : Addr} {F : NF} {lit : Str} {j k : Nat} {p0 p1 p2 p3 p4 p5 q1 q2 q3 q4 q5 q6 q7 q8 : Pos} {doc pm ctv oc : Value} {od : Option Addr} {sl : Array (Option Value)}
theorem super_at (T : ErrC P K mg C fI cc F) (Tx : ErrT F lit j p0 p1 p2 p3 p4 p5) {N ps : List Str} (S : NScope ("self" :: N) ("self" :: ps) ["__class__"] F.scope) {A : Around} {fr : List PySem.Env} {s0 : Shared} {H0 : Hp} {E : XK} :
    PSAt (ncx (CX P w) P w K mg base ("self" :: N) F fI A fr s0 H0 E) (.func F.body (envF F fI s0.heap.objs.size)) (.Expr (superCall lit j p0 p1 p2 p3 p4) p5) (fun D σ H => ∃ a, σ[0]? = some (some (.ref a)) ∧ H a = some (exo a C none) ∧ D.nx σ H) := by
  obtain ⟨ar, h1, h2⟩ := Tx.hp
  obtain ⟨pl, h3⟩ := Tx.hev
  exact psat_super T rfl S.kind Tx.hks (S.frk _ (List.mem_cons_self ..)) (S.par _ (List.mem_cons_self ..)) h1 h2 (h3 _ _)
theorem init1 {f1 v1 : Str} (T : ErrC P K mg C fI cc F) (Tx : ErrT F lit j p0 p1 p2 p3 p4 p5) (hno : PySem.W.findIn K (.ref C) f1 = some none) (lk : K.lookup fI = some ⟨oc, od, .func (F.fd doc pm ctv), sl⟩) (hcd : PySem.W.codeIn K (.ref F.c) F.qual = true)
    (hb : F.body = [.Expr (superCall lit j p0 p1 p2 p3 p4) p5, storeSt f1 v1 q1 q2 q3 q4]) (S : NScope ["self", v1, "__class__"] ["self", v1] ["__class__"] F.scope) (hd : (v1 == ("__debug__" : Str)) = false) (hcc : (v1 == ("__classdict__" : Str)) = false) :
    FnOk P w K mg base (CX P w) (k + 1) fI (F.fd doc pm ctv) ["self", v1] (spInit C [f1]) := by
  refine fn_ofC lk hcd S (cells_err T) (fun vs H Q E ⟨a, ys, e, hl, _⟩ => by rw [e, List.length_cons, hl]; rfl) fun A fr' s H vs Q E hsp => ?_
  rw [hb]
  refine ⟨_, at_cons (by have := super_at (w := w) (base := base) T Tx S (A := A) (fr := fr') (s0 := s) (H0 := H) (E := E); rw [hb] at this; exact this) (pss_one (ps_ost (pv 0 rfl (.inl (S.par _ (by simp)))) (pv 1 rfl (.inl (S.par _ (by simp))) hd hcc))), ?_⟩
  obtain ⟨a, ys, e, hl, ha, q⟩ := hsp
  obtain ⟨y, rfl⟩ : ∃ y, ys = [y] := by
    match ys, hl with
    | [y], _ => exact ⟨y, rfl⟩
  subst e
  exact ⟨a, rfl, ha, y, rfl, .ref a, rfl, a, C, rfl, T.T, hno, .inl ⟨ha, fun dx h1 h2 => q dx h1 h2⟩⟩
theorem init2 {f1 v1 f2 v2 : Str} (T : ErrC P K mg C fI cc F) (Tx : ErrT F lit j p0 p1 p2 p3 p4 p5) (hno : PySem.W.findIn K (.ref C) f1 = some none) (hno2 : PySem.W.findIn K (.ref C) f2 = some none) (lk : K.lookup fI = some ⟨oc, od, .func (F.fd doc pm ctv), sl⟩) (hcd : PySem.W.codeIn K (.ref F.c) F.qual = true)
    (hb : F.body = [.Expr (superCall lit j p0 p1 p2 p3 p4) p5, storeSt f1 v1 q1 q2 q3 q4, storeSt f2 v2 q5 q6 q7 q8]) (S : NScope ["self", v1, v2, "__class__"] ["self", v1, v2] ["__class__"] F.scope) (hd : (v1 == ("__debug__" : Str)) = false) (hcc : (v1 == ("__classdict__" : Str)) = false) (hd2 : (v2 == ("__debug__" : Str)) = false) (hcc2 : (v2 == ("__classdict__" : Str)) = false) :
    FnOk P w K mg base (CX P w) (k + 1) fI (F.fd doc pm ctv) ["self", v1, v2] (spInit C [f1, f2]) := by
  refine fn_ofC lk hcd S (cells_err T) (fun vs H Q E ⟨a, ys, e, hl, _⟩ => by rw [e, List.length_cons, hl]; rfl) fun A fr' s H vs Q E hsp => ?_
  rw [hb]
  refine ⟨_, at_cons (by have := super_at (w := w) (base := base) T Tx S (A := A) (fr := fr') (s0 := s) (H0 := H) (E := E); rw [hb] at this; exact this) (pss_cons (ps_ost (pv 0 rfl (.inl (S.par _ (by simp)))) (pv 1 rfl (.inl (S.par _ (by simp))) hd hcc)) (pss_one (ps_ost (pv 0 rfl (.inl (S.par _ (by simp)))) (pv 2 rfl (.inl (S.par _ (by simp))) hd2 hcc2)))), ?_⟩
  obtain ⟨a, ys, e, hl, ha, q⟩ := hsp
  obtain ⟨y, z, rfl⟩ : ∃ y z, ys = [y, z] := by
    match ys, hl with
    | [y, z], _ => exact ⟨y, z, rfl⟩
  subst e
  refine ⟨a, rfl, ha, y, rfl, .ref a, rfl, a, C, rfl, T.T, hno, .inl ⟨ha, fun dx h1 h2 => ⟨z, rfl, .ref a, rfl, a, C, rfl, T.T, hno2, .inr ⟨dx, _, upd_same, by rw [upd_ne h2, upd_same], by show 1 ≤ 900; decide, ?_⟩⟩⟩⟩
  have e : upd (upd (upd H dx (exd dx [(f1, y)])) a (exo a C (some dx))) dx (exd dx ((f2, z) :: [(f1, y)])) = upd (upd H dx (exd dx (([f1, f2] : List Str).zip [y, z]).reverse)) a (exo a C (some dx)) := by
    funext b
    by_cases hb : b = dx
    · subst hb
      rw [upd_same, upd_ne h2, upd_same]
      rfl
    · rw [upd_ne hb]
      by_cases hba : b = a
      · subst hba
        rw [upd_same, upd_same]
      · rw [upd_ne hba, upd_ne hba, upd_ne hb, upd_ne hb]
  rw [e]
  exact q dx h1 h2
end
end Z
end

section
set_option Elab.async false
set_option linter.all false
set_option maxRecDepth 100000
set_option autoImplicit false
/-! raise, try with several clauses. -/
namespace Z
open PySem
open L2 hiding XE Takes CX passes_call takes_of passAt PMk MkP ps_raise mk_of ps_try_as ps_try_many pmk_own XE.of_call XE.new XE.leave Takes.imp Sky.land
open L2N (Takes CX takes_of passAt PMk MkP ps_raise)
variable {X : Cx}
/-- what a caller knows of an own error class -/
structure ErrK (P : Program) (w : World) (K : PySem.W.Frag) (mg : Str → Option Value) (base : Heap) (x : Str) (C fI : Addr) (fd : FuncData) (ps ns : List Str) : Prop where
  g : mg x = some (.ref C)
  T : OexC K C
  iC : PySem.W.findIn K (.ref C) "__init__" = some (some (.ref fI))
  tI : PySem.W.typeIn K (.ref fI) = some (.type "function")
  b : Binds K fd ps []
  ok : FnOk P w K mg base (CX P w) 1 fI fd ps (spInit C ns)
def mRaise (c : Str) (ns : List Str) (m : M (List D)) : MS := mThen m fun ds env => if ds.length = ns.length then some (.ex c ns.reverse ds.reverse env) else none
theorem ss_raise {x : Str} {C fI : Addr} {fd : FuncData} {ps ns : List Str} {k : Nat} {e : Expr} {es : List Expr} {m : M (List D)} {p pos pos2 : Pos} (Er : ErrK X.prog X.w X.K X.mg X.base x C fI fd ps ns) (hr : Rm k X.A) (hc : X.calm = true) (ha : SA X (e :: es) m) (hk : 2 ≤ k := by decide)
    (hn : ns.length ≤ 1000 := by decide) (hg : Gl X x := by rfl) (hdb : (x == ("__debug__" : Str)) = false := by decide) (he : starEach (e :: es) X.env = (false, eval e X.env) :: starEach es X.env := by rfl) (hpl : (backTo pos (starEach es X.env)).any (·.1) = false := by rfl) :
    SS X (.Raise (some (.Call (.Name x p) (e :: es) [] pos)) none pos2) (mRaise x ns m) := fun W tk =>
  ps_imp (ps_raise hc tk (pmk_err Er.T Er.iC Er.tI Er.ok (hr.1.mono hk) Er.b hg Er.g (ha W tk) hdb he hpl)) fun E σ H ⟨env, S, r, g⟩ =>
  g.part r fun vs H1 env1 S1 ds st ra g1 _ => by
    dsimp only [GoS] at g1
    have hl : vs.length = ds.length := RpA.len ra
    split at g1
    · rename_i hd
      refine ⟨hl.trans hd, by rw [hl, hd]; exact hn, fun d hH => ?_⟩
      refine g1 C d _ σ _ _ Er.g (new_stay st.rel hH) upd_same ?_ ?_
      · rw [List.map_reverse, List.map_fst_zip]
        omega
      · rw [List.map_reverse, List.map_snd_zip]
        · exact RpA.rev (RpA.mono (same_upd (st.rel.sub.free hH)) ra)
        · omega
    · exact g1.elim

/-! ### an exception's object is tracked while its suite runs -/
section
variable {pins : List (Addr × Obj)} {σ : St} {H : Hp} {s : Shared} {a : Addr} {o : HO}
theorem inv_track (I : Inv X pins σ H s) (ha : H a = none) (h0 : X.s_0.heap.get? a = none) (new : ObjOk X.prog X.w (upd H a o) s.heap a o) (nL : a ≠ X.env.locals) (nc : ∀ x c, X.env.cells.lookup x = some c → c ≠ a) (np : ∀ p ∈ X.pn ++ pins, p.1 ≠ a) : Inv X pins σ (upd H a o) s := by
  have B := I.base
  refine ⟨I.ok, I.os, I.bare, ⟨B.keep, B.slot, fun b u e n hx => ?_, B.there, fun b xs e => ?_, fun b u v e => ?_, fun b ps e => ?_⟩, I.loc, I.cell, ?_, fun x c e => ?_, fun p hp => ?_, fun b u e => ?_, I.len⟩
  · have hb : b ≠ a := fun z => by
      rw [z, h0] at e
      cases e
    rw [upd_ne hb]
    exact B.free b u e n hx
  · have q := B.tups b xs e
    rw [upd_ne (ne_of_none q ha)]
    exact q
  · have q := B.frzs b u v e
    rw [upd_ne (ne_of_none q ha)]
    exact q
  · obtain ⟨m, q⟩ := B.tbls b ps e
    exact ⟨m, by rw [upd_ne (ne_of_none q ha)]; exact q⟩
  · rw [upd_ne nL.symm]
    exact I.free
  · rw [upd_ne (nc x c e)]
    exact I.freeC x c e
  · obtain ⟨e, n, ne, nf, d⟩ := I.pin p hp
    exact ⟨e, by rw [upd_ne (np p hp)]; exact n, ne, nf, d⟩
  · by_cases hb : b = a
    · subst hb
      rw [upd_same] at e
      cases e
      exact new
    · rw [upd_ne hb] at e
      exact (I.hok b u e).stay (fun c v _ q => q) (fun c q => by rw [upd_ne (ne_of_none q ha)]; exact q) fun c xs q => by rw [upd_ne (ne_of_none q ha)]; exact q
theorem inv_suite (I : Inv X pins σ H s) (a : Addr) : Inv (X.suite a (X.pn ++ pins)) [] σ H s :=
  ⟨I.ok.suite _ _, I.os, I.bare, I.base, I.loc, I.cell, I.free, I.freeC, fun p hp => I.pin p (by rw [List.append_nil] at hp; exact hp), I.hok, I.len⟩
theorem inv_unsuite {a : Addr} {pn' : List (Addr × Obj)} (I : Inv (X.suite a (X.pn ++ pins)) pn' σ H s) (ok : X.Ok) : Inv X pins σ H s :=
  ⟨ok, I.os, I.bare, I.base, I.loc, I.cell, I.free, I.freeC, fun p hp => I.pin p (List.mem_append_left _ hp), I.hok, I.len⟩
end
def setO : Option Nat → Addr → St → St
  | none, _, σ => σ
  | some i, a, σ => σ.set i (some (.ref a))
def offO : Option Nat → St → St
  | none, σ => σ
  | some i, σ => σ.set i none
def endO (oi : Option Nat) (D : Ends) : Ends := { nx := fun σ H => D.nx (offO oi σ) H, rt := D.rt, bk := fun σ H => D.bk (offO oi σ) H, ct := fun σ H => D.ct (offO oi σ) H }
/-- what the clauses wish of an exception of the body -/
def wMix (K : PySem.W.Frag) (Wout : WX) (D : Ends) : List (Value × Option Nat × (Addr → TS)) → WX
  | [] => Wout
  | (c, oi, ts) :: r => fun cls d σ H => ∃ b, PySem.W.exmOne K cls c = some b ∧ (b = true → ∃ C dd, cls = .ref C ∧ d = some dd ∧ ∀ a, H a = none → ts a (endO oi D) (setO oi a σ) (upd H a (ExV C dd a))) ∧ (b = false → wMix K Wout D r cls d σ H)
inductive HdsM (X : Cx) : List ExceptHandler → List (Value × Option Nat × (Addr → TS)) → Prop
  | nil : HdsM X [] []
  | only {x : Str} {c : Value} {ts : Addr → TS} {b₀ : Stmt} {su : List Stmt} {np pos' : Pos} {hds : List ExceptHandler} {l : List (Value × Option Nat × (Addr → TS))} (hc : Names X x c)
      (hsu : ∀ (a : Addr) (pn : List (Addr × Obj)), PSs (X.suite a pn) (b₀ :: su) (ts a)) (r : HdsM X hds l) : HdsM X (.ExceptHandler (some (.Name x np)) none (b₀ :: su) pos' :: hds) ((c, none, ts) :: l)
  | as_ {x n : Str} {i : Nat} {c : Value} {ts : Addr → TS} {b₀ : Stmt} {su : List Stmt} {np pos' : Pos} {hds : List ExceptHandler} {l : List (Value × Option Nat × (Addr → TS))} (hc : Names X x c) (hi : X.N[i]? = some n) (hln : X.env.kindOf n = some .local)
      (hsu : ∀ (a : Addr) (pn : List (Addr × Obj)), PSs (X.suite a pn) (b₀ :: su) (ts a)) (r : HdsM X hds l) : HdsM X (.ExceptHandler (some (.Name x np)) (some n) (b₀ :: su) pos' :: hds) ((c, some i, ts) :: l)
section
variable {body : List Stmt} {h₀ : ExceptHandler} {hds : List ExceptHandler} {l : List (Value × Option Nat × (Addr → TS))} {pos : Pos} {tb : WX → TS} {Wout : WX}
theorem ps_try_mix (hs : X.stack = X.env :: X.outer) (hf : X.env.frame = some X.env.locals) (hex : X.ex = []) (hN : X.N.Nodup) (tk : Takes X Wout)
    (hb : ∀ (W : WX) (pn : List (Addr × Obj)) (xe : Value → Shared → Prop), Takes (X.tr pn xe) W → PassesOwn (model X.prog X.w) X.A X.env xe → PSs (X.tr pn xe) body (tb W))
    (hh : HdsM X (h₀ :: hds) l) : PS X (.Try body (h₀ :: hds) [] [] pos) (fun D σ H => tb (wMix X.K Wout D l) D σ H) := by
  refine ⟨fun pins s σ H D I h => ?_⟩
  have ok := I.ok
  have fr1 : X.A.frames = some (X.env :: X.outer) := by rw [ok.frames, hs]
  refine wpAny_Try_except ?_
  let catch_ : Value → Shared → Prop := fun e s₁ => wpAny (model X.prog X.w) X.A (noteFrame e X.env) (fun _ s₂ => wpAny (model X.prog X.w) X.A (setFlight e none) (fun _ s₃ =>
    wpAny (model X.prog X.w) X.A (handleBy e X.env (h₀ :: hds)) (SP X pins D) X.xe s₃) X.xe s₂) X.xe s₁
  have body_ := (hb (wMix X.K Wout D l) (X.pn ++ pins) catch_ (fun u s' xx => ?_) PassesOwn.looking).run [] s σ H D (I.toTry _) h
  · refine wpAny_mono body_ (fun f s1 z => ?_) (fun e s1 z => z)
    cases f with
    | next => exact wpAny_execs_nil (let ⟨σ', H', Y, q⟩ := z; ⟨σ', H', Y.ofTry ok, q⟩)
    | brk => exact let ⟨σ', H', Y, q⟩ := z; ⟨σ', H', Y.ofTry ok, q⟩
    | cont => exact let ⟨σ', H', Y, q⟩ := z; ⟨σ', H', Y.ofTry ok, q⟩
    | ret u => exact let ⟨v, σ', H', Y, r, q⟩ := z; ⟨v, σ', H', Y.ofTry ok, r, q⟩
  · obtain ⟨a, B, sI, pins', σ1, H1, cls, d, rfl, J', nb, up, sky, na, os, ag, ww⟩ := xx
    have J : Inv X pins σ1 H1 sI := J'.ofTry ok
    have sky1 : Sky B (X.env :: X.outer) a (L2N.Zn cls d) X.env.locals s'.heap := by rw [← hs]; exact sky
    show wpAny (model X.prog X.w) X.A (noteFrame (.ref a) X.env) _ _ _
    refine L2N.Sky.land L2N.Zn.steady fr1 hf sky1 fun h3 fl3 up3 => ?_
    have J3 : Inv X pins σ1 H1 { s' with heap := h3 } := J.landed nb fl3.1 (up.trans up3) os ag
    obtain ⟨oe3, vs3, he3, hz3, hd3⟩ := fl3.there
    have nfr : a ∉ frs (X.env :: X.outer) := fun hm => by
      obtain ⟨_, o', e', hnf⟩ := fl3.2.2.1.mem hm
      rw [he3] at e'
      cases e'
      exact hnf _ hd3
    have nL : a ≠ X.env.locals := fun z => nfr (List.mem_filterMap.mpr ⟨X.env, List.mem_cons_self, by rw [hf, z]⟩)
    have nI : sI.heap.get? a = none := by
      cases e : sI.heap.get? a with
      | none => rfl
      | some o =>
        have q := nb a o e (by rw [hs]; exact nfr)
        rw [fl3.2.1] at q
        cases q
    have n0 : X.s_0.heap.get? a = none := by
      cases e : X.s_0.heap.get? a with
      | none => rfl
      | some o =>
        obtain ⟨o', q⟩ := J.base.there a o e (by rw [hex]; exact fun z => nomatch z)
        rw [nI] at q
        cases q
    have ncell : ∀ x c, X.env.cells.lookup x = some c → c ≠ a := fun x c e z => by
      obtain ⟨v, o, q, _⟩ := J.cell x c e
      rw [z, nI] at q
      cases q
    have npin : ∀ p ∈ X.pn ++ pins, p.1 ≠ a := fun p hp z => by
      have q := (J.pin p hp).1
      rw [z, nI] at q
      cases q
    have go : ∀ {hds' : List ExceptHandler} {l' : List (Value × Option Nat × (Addr → TS))}, HdsM X hds' l' → wMix X.K Wout D l' cls d σ1 H1 →
        wpAny (model X.prog X.w) X.A (handleBy (.ref a) X.env hds') (SP X pins D) X.xe { s' with heap := h3 } := by
      intro hds' l' hk
      have LT : PySem.W.Looks (model X.prog X.w) h3 (typeOf (.ref a)) cls := fun A Q E s k q => wpAny_typeOf_ref (k _ _ he3) (by rw [hz3.1]; exact q)
      have Sm : Inv (X.suite a (X.pn ++ pins)) [] σ1 H1 { s' with heap := h3 } := inv_suite J3 a
      have test : ∀ {x : Str} {c : Value} {np : Pos} {Q : Value → Shared → Prop} {E : Value → Shared → Prop}, Names X x c → Q c { s' with heap := h3 } → wpAny (model X.prog X.w) (X.A.mark (some (.ref a))) (eval (.Name x np) X.env) Q E { s' with heap := h3 } := fun {x c np Q E} hc q => by
        obtain ⟨hg, hdbg, hm | ⟨hm, hv, hnn⟩⟩ := hc
        · exact ld_glob (X := X.suite a (X.pn ++ pins)) Sm hg hm q hdbg
        · exact ld_blt (X := X.suite a (X.pn ++ pins)) Sm hg hm hv q hnn hdbg
      have track : ∀ {h4 : Heap} {C dd : Addr}, cls = .ref C → d = some dd → HandSPX.FlyingZ B (X.env :: X.outer) a (L2N.Zn cls d) h4 → h3.UpToSlots h4 → Inv (X.suite a (X.pn ++ pins)) [] σ1 (upd H1 a (ExV C dd a)) { s' with heap := h4 } := fun {h4 C dd} e1 e2 fl4 up4 => by
        have J4 : Inv X pins σ1 H1 { s' with heap := h4 } := J.landed nb fl4.1 ((up.trans up3).trans up4) os ag
        obtain ⟨oe4, vs4, he4, hz4, hd4⟩ := fl4.there
        rw [e1, e2] at hz4
        have hsz : 2 < vs4.size := (Array.getElem?_eq_some_iff.mp (hz4.2.2 vs4 hd4)).1
        exact inv_suite (inv_track (o := ExV C dd a) J4 na n0 ⟨⟨oe4, vs4, he4, hz4, hd4, hsz⟩, ⟨_, he4⟩, fun _ _ ⟨o, v, q, r⟩ k => ⟨o, v, k _ q, r⟩⟩ nL ncell npin) a
      induction hk with
      | nil =>
        intro w
        refine wpAny_handleBy_nil ?_
        obtain ⟨k1, k2, k3, oe, vs, T, oT, ts', he, hz, hd, h1, hr⟩ := id fl3
        unfold PySem.passOn
        refine wpAny_bind (wpAny_field he hd h1 ?_)
        rw [if_neg (show ¬ ((Value.ref T == Value.none) = true) from by simp)]
        have fin : wpAny (model X.prog X.w) X.A (setFlight (.ref a) X.env.frame) (fun _ s4 => wpAny (model X.prog X.w) X.A (throw (.ref a) : Sem Flow) (SP X pins D) X.xe s4) X.xe { s' with heap := h3 } := by
          rw [hf]
          refine HandSPX.setFlight_upZ fl3 fun h4 hh4 up4 => wpAny_throw (tk _ _ ?_)
          exact ⟨a, B, sI, pins, σ1, H1, cls, d, rfl, J, nb, (up.trans up3).trans up4, .inr (.inr (by rw [hs]; exact hh4)), na, os, ag, w⟩
        first
          | exact wpAny_bind (wpAny_pure (wpAny_bind fin))
          | exact wpAny_bind fin
      | @only x c ts b₀ su np pos' hds2 l2 hc hsu r ih =>
        intro w
        obtain ⟨b, hb1, hyes, hno⟩ := w
        refine wpAny_handleBy_cons (codeAny_handlers_test ?_) (by intro q; cases q)
        refine test hc ((PySem.W.exm_one (M := model X.prog X.w) J3.kIn LT hb1).here ?_)
        cases b with
        | false =>
          show wpAny _ X.A (handleBy (.ref a) X.env hds2) _ _ _
          exact ih (hno rfl)
        | true =>
          obtain ⟨C, dd, e1, e2, hy⟩ := hyes rfl
          refine codeAny_handlers_suite ?_
          refine HandSPX.lands_againZ fl3 fun h4 fl4 up4 => ?_
          refine wpAny_mono ((hsu a (X.pn ++ pins)).run [] _ _ _ _ (track e1 e2 fl4 up4) (hy a na)) (fun f s6 z => ?_) (fun _ _ z => False.elim z)
          cases f with
          | next => exact let ⟨σ6, H6, Y, q⟩ := z; ⟨_, _, inv_unsuite Y ok, q⟩
          | brk => exact let ⟨σ6, H6, Y, q⟩ := z; ⟨_, _, inv_unsuite Y ok, q⟩
          | cont => exact let ⟨σ6, H6, Y, q⟩ := z; ⟨_, _, inv_unsuite Y ok, q⟩
          | ret u => exact let ⟨v6, σ6, H6, Y, r6, q⟩ := z; ⟨_, _, _, inv_unsuite Y ok, r6, q⟩
      | @as_ x n i c ts b₀ su np pos' hds2 l2 hc hi hln hsu r ih =>
        intro w
        obtain ⟨b, hb1, hyes, hno⟩ := w
        refine wpAny_handleBy_cons (codeAny_handlers_test ?_) (by intro q; cases q)
        refine test hc ((PySem.W.exm_one (M := model X.prog X.w) J3.kIn LT hb1).here ?_)
        cases b with
        | false =>
          show wpAny _ X.A (handleBy (.ref a) X.env hds2) _ _ _
          exact ih (hno rfl)
        | true =>
          obtain ⟨C, dd, e1, e2, hy⟩ := hyes rfl
          refine codeAny_handlers_suite_as ?_
          refine HandSPX.lands_againZ fl3 fun h4 fl4 up4 => ?_
          refine store_ok (X := X.suite a (X.pn ++ pins)) (v := .ref a) (track e1 e2 fl4 up4) hN hi (.inl hln) rfl (fun s5 Y5 => ?_) (.inr hln)
          refine wpAny_mono ((hsu a (X.pn ++ pins)).run [] s5 _ _ _ Y5 (hy a na)) (fun f s6 z => ?_) (fun _ _ z => False.elim z)
          have end_ : ∀ {σ6 : St} {H6 : Hp} {Q : Shared → Prop}, Inv (X.suite a (X.pn ++ pins)) [] σ6 H6 s6 → (∀ s7, Inv X pins (σ6.set i none) H6 s7 → Q s7) →
              wpAny (model X.prog X.w) X.A (do bindName X.env n .none; unbindBehindTheSuite X.env n pos') (fun _ s7 => Q s7) X.xe s6 := fun {σ6 H6 Q} Y hq => gone_ok (inv_unsuite Y ok) hN hi hln hq
          cases f with
          | next =>
            obtain ⟨σ6, H6, Y, q6⟩ := z
            exact end_ Y fun s7 J7 => ⟨_, _, J7, q6⟩
          | brk =>
            obtain ⟨σ6, H6, Y, q6⟩ := z
            exact end_ Y fun s7 J7 => ⟨_, _, J7, q6⟩
          | cont =>
            obtain ⟨σ6, H6, Y, q6⟩ := z
            exact end_ Y fun s7 J7 => ⟨_, _, J7, q6⟩
          | ret u =>
            obtain ⟨v6, σ6, H6, Y, r6, q6⟩ := z
            exact end_ Y fun s7 J7 => ⟨_, _, _, J7, r6, q6⟩
    exact go hh ww
end
end Z
end

section
set_option Elab.async false
set_option linter.all false
set_option maxRecDepth 100000
set_option autoImplicit false
/-! try as a plain function of slots. -/
namespace Z
open PySem
open L2 hiding XE Takes CX passes_call takes_of passAt PMk MkP ps_raise mk_of ps_try_as ps_try_many pmk_own XE.of_call XE.new XE.leave Takes.imp Sky.land
open L2N (Takes CX takes_of passAt PMk MkP ps_raise)
variable {X : Cx}
abbrev Hd := (Str → Option Bool) × Option Nat × MS
def inO (x : D) (env : Env) : Option Nat → Option Env
  | none => some env
  | some i => setSl i (.v x) env
def outO (env : Env) : Option Nat → Option Env
  | none => some env
  | some i => match env[i]? with
    | some (.v _) => some (env.set i .no)
    | _ => none
def suEnd (oi : Option Nat) : Option SO → Option SO
  | some (.nx e) => (outO e oi).bind fun e' => some (.nx e')
  | some (.bk e) => (outO e oi).bind fun e' => some (.bk e')
  | some (.ct e) => (outO e oi).bind fun e' => some (.ct e')
  | some (.rt r e) => some (.rt r e)
  | _ => none
def mHds (c : Str) (ns : List Str) (ds : List D) (env : Env) : List Hd → Option SO
  | [] => some (.ex c ns ds env)
  | (p, oi, m) :: r => match p c with
    | none => none
    | some true => suEnd oi ((inO (.exc c ns ds) env oi).bind m)
    | some false => mHds c ns ds env r
def mTry (m : MS) (hs : List Hd) : MS := fun env => match m env with
  | some (.ex c ns ds env1) => mHds c ns ds env1 hs
  | o => o
/-- a suite's state: the exception is tracked -/
def tSx (K : PySem.W.Frag) (mg : Str → Option Value) (a : Addr) (m : MS) : TS := fun E σ H => ∃ env S, Rel K mg env σ S H ∧ (∃ C dd, S a = some (ExV C dd a)) ∧ PostS K mg noW (m env) env σ S H E
theorem takes_suite {a : Addr} {pn : List (Addr × Obj)} : Takes (X.suite a pn) noW := fun u s' ⟨_, _, _, _, _, _, _, _, _, _, _, _, _, _, _, _, w⟩ => w.elim
theorem sus_of {a : Addr} {pn : List (Addr × Obj)} {st : List Stmt} {m : MS} (h : SSs (X.suite a pn) st m) : PSs (X.suite a pn) st (tSx X.K X.mg a m) := pss_imp (h noW takes_suite) fun E σ H ⟨env, S, r, _, g⟩ => ⟨env, S, r, g⟩
theorem off_step {K : PySem.W.Frag} {mg : Str → Option Value} {env : Env} {σ : St} {S H : Hp} {i : Nat} {d : D} (r : Rel K mg env σ S H) (h : env[i]? = some (.v d)) : Step K mg env σ S H (env.set i .no) (σ.set i none) S H := by
  have hi : i < env.length := (List.getElem?_eq_some_iff.mp h).1
  have hσ : i < σ.length := by rw [r.len]; exact hi
  have at_ : ∀ j q, OwnAt (env.set i .no) (σ.set i none) j q → OwnAt env σ j q := fun j q ⟨⟨s, d, e, m⟩, hq⟩ => by
    by_cases hj : i = j
    · subst hj
      rw [List.getElem?_set_self hi] at e
      cases e
      cases m
    · rw [List.getElem?_set_ne hj] at e hq
      exact ⟨⟨s, d, e, m⟩, hq⟩
  refine ⟨⟨by rw [List.length_set, List.length_set]; exact r.len, r.sub, fun j s e => ?_, fun j k q h1 h2 => r.inj j k q (at_ j q h1) (at_ k q h2)⟩, Same.refl S, fun q o e _ => e, fun q o e => .inl e, fun q ⟨j, h⟩ => .inl ⟨j, at_ j q h⟩, fun j d' e => ?_⟩
  · by_cases hj : i = j
    · subst hj
      rw [List.getElem?_set_self hi] at e
      cases e
      exact trivial
    · rw [List.getElem?_set_ne hj] at e ⊢
      exact r.sl j s e
  · have hj : i ≠ j := fun z => by
      subst z
      rw [h] at e
      cases e
    rw [List.getElem?_set_ne hj, List.getElem?_set_ne hj]
    exact ⟨rfl, d', e⟩
theorem out_step {K : PySem.W.Frag} {mg : Str → Option Value} {env env' : Env} {σ : St} {S H : Hp} {oi : Option Nat} (r : Rel K mg env σ S H) (h : outO env oi = some env') : Step K mg env σ S H env' (offO oi σ) S H := by
  cases oi with
  | none =>
    cases h
    exact Step.refl r
  | some i =>
    unfold outO at h
    cases e : env[i]? with
    | none => simp [e] at h
    | some s =>
      cases s with
      | v d =>
        simp only [e] at h
        cases h
        exact off_step r e
      | _ => simp [e] at h
theorem suEnd_post {K : PySem.W.Frag} {mg : Str → Option Value} {W : WX} {oi : Option Nat} {o : Option SO} {env : Env} {σ : St} {S H : Hp} {E : Ends} (h : PostS K mg W (suEnd oi o) env σ S H E) : PostS K mg noW o env σ S H (endO oi E) := by
  cases o with
  | none => exact h
  | some x =>
    cases x with
    | nx e =>
      unfold suEnd at h
      cases q : outO e oi with
      | none => simp [q, PostS] at h
      | some e' =>
        simp only [q, Option.bind_some] at h
        exact fun σ' S' H' st => h _ S' H' (st.trans (out_step st.rel q))
    | bk e =>
      unfold suEnd at h
      cases q : outO e oi with
      | none => simp [q, PostS] at h
      | some e' =>
        simp only [q, Option.bind_some] at h
        exact fun σ' S' H' st => h _ S' H' (st.trans (out_step st.rel q))
    | ct e =>
      unfold suEnd at h
      cases q : outO e oi with
      | none => simp [q, PostS] at h
      | some e' =>
        simp only [q, Option.bind_some] at h
        exact fun σ' S' H' st => h _ S' H' (st.trans (out_step st.rel q))
    | rt r e => exact h
    | ex c ns ds e => exact h.elim
/-- the clauses of a try -/
inductive SHds (X : Cx) : List ExceptHandler → List Hd → List (Value × Option Nat × (Addr → TS)) → Prop
  | nil : SHds X [] [] []
  | only {x : Str} {c : Value} {p : Str → Option Bool} {m : MS} {b₀ : Stmt} {su : List Stmt} {np pos' : Pos} {hds : List ExceptHandler} {hs : List Hd} {l : List (Value × Option Nat × (Addr → TS))} (hc : Names X x c) (hp : ∀ y b C, p y = some b → X.mg y = some (.ref C) → PySem.W.exmOne X.K (.ref C) c = some b)
      (hsu : ∀ (a : Addr) (pn : List (Addr × Obj)), PSs (X.suite a pn) (b₀ :: su) (tSx X.K X.mg a m)) (r : SHds X hds hs l) : SHds X (.ExceptHandler (some (.Name x np)) none (b₀ :: su) pos' :: hds) ((p, none, m) :: hs) ((c, none, fun a => tSx X.K X.mg a m) :: l)
  | as_ {x n : Str} {i : Nat} {c : Value} {p : Str → Option Bool} {m : MS} {b₀ : Stmt} {su : List Stmt} {np pos' : Pos} {hds : List ExceptHandler} {hs : List Hd} {l : List (Value × Option Nat × (Addr → TS))} (hc : Names X x c) (hp : ∀ y b C, p y = some b → X.mg y = some (.ref C) → PySem.W.exmOne X.K (.ref C) c = some b)
      (hi : X.N[i]? = some n) (hln : X.env.kindOf n = some .local) (hsu : ∀ (a : Addr) (pn : List (Addr × Obj)), PSs (X.suite a pn) (b₀ :: su) (tSx X.K X.mg a m)) (r : SHds X hds hs l) : SHds X (.ExceptHandler (some (.Name x np)) (some n) (b₀ :: su) pos' :: hds) ((p, some i, m) :: hs) ((c, some i, fun a => tSx X.K X.mg a m) :: l)
theorem SHds.hdsM {hds : List ExceptHandler} {hs : List Hd} {l : List (Value × Option Nat × (Addr → TS))} (h : SHds X hds hs l) : HdsM X hds l := by
  induction h with
  | nil => exact .nil
  | only hc hp hsu r ih => exact .only hc hsu ih
  | as_ hc hp hi hln hsu r ih => exact .as_ hc hi hln hsu ih
theorem enter {W : WX} {oi : Option Nat} {m : MS} {c : Str} {ns : List Str} {ds : List D} {env env1 : Env} {σ σ1 : St} {S S1 H H1 : Hp} {E : Ends} {C d a : Addr} {fv : List (Str × V)} (st : Step X.K X.mg env σ S H env1 σ1 S1 H1) (hc : X.mg c = some (.ref C)) (e1 : S1 d = some (.xd fv)) (e2 : fv.map (·.1) = ns) (e3 : RpA X.K X.mg S1 (fv.map (·.2)) ds) (na : H1 a = none)
    (g : PostS X.K X.mg W (suEnd oi ((inO (.exc c ns ds) env1 oi).bind m)) env σ S H E) : tSx X.K X.mg a m (endO oi E) (setO oi a σ1) (upd H1 a (ExV C d a)) := by
  have nS : S1 a = none := st.rel.sub.free na
  have st2 := st.trans (new_stay (u := ExV C d a) st.rel na)
  have rx : Rp X.K X.mg (upd S1 a (ExV C d a)) (.ref a) (.exc c ns ds) := .exc upd_same hc ((upd_ne (ne_of_none e1 nS)).trans e1) e2 rfl (e3.mono (same_upd nS))
  cases oi with
  | none => exact ⟨env1, _, st2.rel, ⟨C, d, upd_same⟩, (suEnd_post g).from st2⟩
  | some i =>
    cases q : setSl i (.v (.exc c ns ds)) env1 with
    | none => simp [inO, q, suEnd, PostS] at g
    | some env2 =>
      simp only [inO, q, Option.bind_some] at g
      obtain ⟨c1, c2, rfl⟩ := setSl_some q
      have st3 := st2.assign (v := .ref a) (s := .v (.exc c ns ds)) c1 c2 ⟨_, rfl, rx⟩ fun _ z => by cases z
      exact ⟨_, _, st3.rel, ⟨C, d, upd_same⟩, (suEnd_post g).from st3⟩
theorem hds_ok {W : WX} {c : Str} {ns : List Str} {ds : List D} {env env1 : Env} {σ σ1 : St} {S S1 H H1 : Hp} {E : Ends} {C d : Addr} {fv : List (Str × V)} (st : Step X.K X.mg env σ S H env1 σ1 S1 H1) (hc : X.mg c = some (.ref C)) (e1 : S1 d = some (.xd fv)) (e2 : fv.map (·.1) = ns) (e3 : RpA X.K X.mg S1 (fv.map (·.2)) ds)
    {hds : List ExceptHandler} {hs : List Hd} {l : List (Value × Option Nat × (Addr → TS))} (h : SHds X hds hs l) : PostS X.K X.mg W (mHds c ns ds env1 hs) env σ S H E → wMix X.K W E l (.ref C) (some d) σ1 H1 := by
  induction h with
  | nil => exact fun g => g C d fv σ1 S1 H1 hc st e1 e2 e3
  | @only x c' p m b₀ su np pos' hds hs l hn hp hsu r ih =>
    intro g
    unfold mHds at g
    cases hb : p c with
    | none => simp only [hb] at g; exact g.elim
    | some b =>
      refine ⟨b, hp c b C hb hc, fun e => ?_, fun e => ?_⟩
      · subst e
        simp only [hb] at g
        exact ⟨C, d, rfl, rfl, fun a na => enter st hc e1 e2 e3 na g⟩
      · subst e
        simp only [hb] at g
        exact ih g
  | @as_ x n i c' p m b₀ su np pos' hds hs l hn hp hi hln hsu r ih =>
    intro g
    unfold mHds at g
    cases hb : p c with
    | none => simp only [hb] at g; exact g.elim
    | some b =>
      refine ⟨b, hp c b C hb hc, fun e => ?_, fun e => ?_⟩
      · subst e
        simp only [hb] at g
        exact ⟨C, d, rfl, rfl, fun a na => enter st hc e1 e2 e3 na g⟩
      · subst e
        simp only [hb] at g
        exact ih g
theorem ss_try {body : List Stmt} {h₀ : ExceptHandler} {hds : List ExceptHandler} {m : MS} {hs : List Hd} {l : List (Value × Option Nat × (Addr → TS))} {pos : Pos} (hN : X.N.Nodup) (hb : ∀ (pn : List (Addr × Obj)) (xe : Value → Shared → Prop), PassesOwn (model X.prog X.w) X.A X.env xe → SSs (X.tr pn xe) body m) (hh : SHds X (h₀ :: hds) hs l)
    (hst : X.stack = X.env :: X.outer := by rfl) (hf : X.env.frame = some X.env.locals := by rfl) (hex : X.ex = [] := by rfl) : SS X (.Try body (h₀ :: hds) [] [] pos) (mTry m hs) := fun W tk =>
  ps_imp (ps_try_mix (tb := fun W => tS X.K X.mg W m) hst hf hex hN tk (fun W pn xe tk po => hb pn xe po W tk) hh.hdsM) fun E σ H ⟨env, S, r, g⟩ => by
    refine ⟨env, S, r, ?_⟩
    dsimp only [GoS] at g ⊢
    unfold mTry at g
    cases hm : m env with
    | none => simp only [hm] at g; exact g
    | some x =>
      cases x with
      | nx e => simp only [hm] at g; exact g
      | bk e => simp only [hm] at g; exact g
      | ct e => simp only [hm] at g; exact g
      | rt q e => simp only [hm] at g; exact g
      | ex c ns ds e =>
        simp only [hm] at g
        exact fun C d fv σ1 S1 H1 hc st e1 e2 e3 => hds_ok st hc e1 e2 e3 hh g
end Z
end

section
set_option Elab.async false
set_option linter.all false
set_option maxRecDepth 100000
set_option autoImplicit false
/-! Fields read; the facts of classes, gathered. -/
namespace Z
open PySem
open L2 hiding XE Takes CX passes_call takes_of passAt PMk MkP ps_raise mk_of ps_try_as ps_try_many pmk_own XE.of_call XE.new XE.leave Takes.imp Sky.land
open L2N (Takes CX takes_of passAt PMk MkP ps_raise)
open NdefX (NF NScope)
variable {X : Cx}
/-- e.n, e an exception that is tracked -/
def tXv (K : PySem.W.Frag) (n : Str) (te : TE) : TE := fun σ H Q => te σ H fun x H1 => ∃ (a C dd : Addr) (fs : List (Str × V)) (v : V), x = .ref a ∧ XfC K C ∧ PySem.W.findIn K (.ref C) n = some none ∧ H1 a = some (ExV C dd a) ∧ H1 dd = some (.xd fs) ∧ fs.lookup n = some v ∧ Q v H1
theorem pe_xv {e : Expr} {n : Str} {te : TE} {pos : Pos} (he : PE X e te) (hb : attributeBase e n X.env (eval e X.env) = eval e X.env) : PE X (.Attribute e n pos) (tXv X.K n te) := by
  refine ⟨fun pins s σ H Q I h => ?_⟩
  refine attr_of hb (thn (he.run pins s σ H _ I h) fun u s1 hh => ?_)
  obtain ⟨x, H1, I1, rx, a, C, dd, fs, v, ex, T, hno, ea, ed, l, q⟩ := hh
  subst ex
  obtain rfl : u = Value.ref a := rx
  obtain ⟨⟨oe, us, ha, hz, hd, _⟩, _, _⟩ := I1.hok a _ ea
  obtain ⟨mA, hns, hr⟩ := (show ObjOk X.prog X.w H1 s1.heap dd (.xd fs) from I1.hok dd _ ed)
  obtain ⟨od, ho, hl⟩ := lookIn_ns hns
  obtain ⟨u, hu, ru⟩ := RelO.some_of (v := v) (o := mA n) (by rw [← l]; exact hr n)
  have J : PySem.W.InstAt s1.heap a oe C (some od) := ⟨ha, hz.1, by unfold PySem.W.notCls; rw [hd] <;> rfl, by rw [hz.2.1]; exact ho⟩
  exact PySem.HandSPX.exc_get I1.kIn J T.ga T.gg T.exC (PySem.W.findObj_own T.hdC hno rfl (by rw [hl, hu])) (handed_of ru) ⟨v, H1, I1.tok _, ru, q⟩
theorem pe_or {e : Expr} {t t' : TE} (h : PE X e t) (h' : PE X e t') : PE X e (fun σ H Q => t σ H Q ∨ t' σ H Q) := ⟨fun pins s σ H Q I q => q.elim (h.run pins s σ H Q I) (h'.run pins s σ H Q I)⟩
/-- the classes whose fields may be read by this name: errors, others -/
structure Fl where
  ex : List Str
  ins : List Str
inductive XOk (K : PySem.W.Frag) (mg : Str → Option Value) (f : Str) : List Str → Prop
  | nil : XOk K mg f []
  | cons {c : Str} {C : Addr} {l : List Str} (h : mg c = some (.ref C)) (x : XfC K C) (n : PySem.W.findIn K (.ref C) f = some none) (r : XOk K mg f l) : XOk K mg f (c :: l)
inductive IOk (K : PySem.W.Frag) (mg : Str → Option Value) (f : Str) : List Str → Prop
  | nil : IOk K mg f []
  | cons {c : Str} {C : Addr} {l : List Str} (h : mg c = some (.ref C)) (x : Cls K C) (n : NoAttr K C f) (r : IOk K mg f l) : IOk K mg f (c :: l)
theorem XOk.at {K : PySem.W.Frag} {mg : Str → Option Value} {f c : Str} {C : Addr} : ∀ {l : List Str}, XOk K mg f l → l.elem c = true → mg c = some (.ref C) → XfC K C ∧ PySem.W.findIn K (.ref C) f = some none
  | [], _, e, _ => by cases e
  | c' :: l, h, e, hc => by
    cases h with
    | cons h x n r =>
      by_cases q : c = c'
      · subst q
        rw [hc] at h
        cases h
        exact ⟨x, n⟩
      · have q' : (c == c') = false := by simpa using q
        exact r.at (by simpa only [List.elem, q'] using e) hc
theorem IOk.at {K : PySem.W.Frag} {mg : Str → Option Value} {f c : Str} {C : Addr} : ∀ {l : List Str}, IOk K mg f l → l.elem c = true → mg c = some (.ref C) → Cls K C ∧ NoAttr K C f
  | [], _, e, _ => by cases e
  | c' :: l, h, e, hc => by
    cases h with
    | cons h x n r =>
      by_cases q : c = c'
      · subst q
        rw [hc] at h
        cases h
        exact ⟨x, n⟩
      · have q' : (c == c') = false := by simpa using q
        exact r.at (by simpa only [List.elem, q'] using e) hc
/-- the field f -/
def fFld (l : Fl) (f : Str) : D → Option D
  | .exc c ns ds => if l.ex.elem c then (ns.zip ds).lookup f else none
  | .ins c ns ds => if l.ins.elem c then (ns.zip ds).lookup f else none
  | _ => none
theorem RpA.lookup {K : PySem.W.Frag} {mg : Str → Option Value} {S : Hp} {f : Str} {d : D} : ∀ {fs : List (Str × V)} {ds : List D}, RpA K mg S (fs.map (·.2)) ds → ((fs.map (·.1)).zip ds).lookup f = some d → ∃ v, fs.lookup f = some v ∧ Rp K mg S v d
  | [], _, _, e => by simp at e
  | (g, v) :: fs, [], h, _ => by cases h
  | (g, v) :: fs, d' :: ds, h, e => by
    cases h with
    | cons a b =>
      rw [List.map_cons, List.zip_cons_cons] at e
      by_cases q : f = g
      · subst q
        simp only [List.lookup, beq_self_eq_true] at e ⊢
        cases e
        exact ⟨v, rfl, a⟩
      · have q' : (f == g) = false := by simpa using q
        simp only [List.lookup, q'] at e ⊢
        exact RpA.lookup b e
def mFld (l : Fl) (f : Str) (m : M Rs) : M D := m.bind fun r => M.of fun env => (r.get env).bind (fFld l f)
theorem go_okR {W : WX} {m : M Rs} {env env1 : Env} {σ : St} {S H : Hp} {r : Rs} {Q : V → Hp → Prop} (rl : Rel X.K X.mg env σ S H) (hm : m env = some (.ok r env1)) (h : ∀ v S1 H1, Step X.K X.mg env σ S H env1 σ S1 H1 → RsR X.K X.mg (Mine env σ H) env1 σ S1 H1 v r → Q v H1) : tM X.K X.mg W (RR X.K X.mg) m σ H Q := by
  refine ⟨env, S, rl, ?_⟩
  unfold Go
  simp only [hm]
  exact h
theorem go_exR {W : WX} {m : M Rs} {env env1 : Env} {σ : St} {S H : Hp} {c : Str} {ns : List Str} {ds : List D} {Q : V → Hp → Prop} (rl : Rel X.K X.mg env σ S H) (hm : m env = some (.ex c ns ds env1))
    (h : ∀ C d fv S' H', X.mg c = some (.ref C) → Step X.K X.mg env σ S H env1 σ S' H' → S' d = some (.xd fv) → fv.map (·.1) = ns → RpA X.K X.mg S' (fv.map (·.2)) ds → W (.ref C) (some d) σ H') : tM X.K X.mg W (RR X.K X.mg) m σ H Q := by
  refine ⟨env, S, rl, ?_⟩
  unfold Go
  simp only [hm]
  exact h
theorem Tp.exc {K : PySem.W.Frag} {mg : Str → Option Value} {S H : Hp} {v : V} {c : Str} {ns : List Str} {ds : List D} (sub : Same S H) (h : Tp K mg S H v (.exc c ns ds)) : ∃ a C dd fs, v = .ref a ∧ mg c = some (.ref C) ∧ H a = some (ExV C dd a) ∧ H dd = some (.xd fs) ∧ fs.map (·.1) = ns ∧ RpA K mg S (fs.map (·.2)) ds := by
  rcases h with h | ⟨a, ho, h1, h2, h3⟩
  · cases h with
    | exc a b c d f r =>
      subst f
      exact ⟨_, _, _, _, rfl, b, sub _ _ a, sub _ _ c, d, r⟩
  · cases h3
theorem Tp.ins {K : PySem.W.Frag} {mg : Str → Option Value} {S H : Hp} {v : V} {c : Str} {ns : List Str} {ds : List D} (sub : Same S H) (h : Tp K mg S H v (.ins c ns ds)) : ∃ a C dx fs, v = .ref a ∧ mg c = some (.ref C) ∧ H a = some (.ins C dx fs) ∧ fs.map (·.1) = ns ∧ RpA K mg S (fs.map (·.2)) ds := by
  rcases h with h | ⟨a, ho, h1, h2, h3⟩
  · cases h with
    | ins a b c d r =>
      subst d
      exact ⟨_, _, _, _, rfl, b, sub _ _ a, c, r⟩
  · cases h3 with
    | ins b c d r =>
      subst d
      exact ⟨a, _, _, _, h1, b, h2, c, r⟩
theorem sv_fld {e : Expr} {l : Fl} {f : Str} {m : M Rs} {pos : Pos} (he : SR X e m) (hx : XOk X.K X.mg f l.ex) (hi : IOk X.K X.mg f l.ins) (hb : attributeBase e f X.env (eval e X.env) = eval e X.env := by rfl) : SV X (.Attribute e f pos) (mFld l f m) := fun W tk =>
  pe_imp (pe_or (pe_xv (he W tk) hb) (pe_fld (he W tk) hb)) fun σ H Q ⟨env, S, r, g⟩ => by
    unfold mFld Go M.bind M.of at g
    cases hm : m env with
    | none => simp only [hm] at g
    | some x =>
      cases x with
      | ex c ns ds env1 =>
        simp only [hm] at g
        exact .inl (go_exR r hm g)
      | ok r0 env1 =>
        simp only [hm] at g
        cases hd : r0.get env1 with
        | none => simp [hd] at g
        | some d =>
          cases d with
          | exc c ns ds =>
            refine .inl (go_okR r hm fun v S1 H1 st ra => ?_)
            obtain ⟨a, C, dd, fs, rfl, hc, e1, e2, e3, e4⟩ := (ra.tp st.rel hd).exc st.rel.sub
            cases hf : fFld l f (.exc c ns ds) with
            | none => simp [hd, hf] at g
            | some o =>
              simp only [hd, hf, Option.bind_some] at g
              have hf' : (if l.ex.elem c = true then (ns.zip ds).lookup f else none) = some o := hf
              split at hf'
              · rename_i hl
                obtain ⟨x1, x2⟩ := hx.at hl hc
                subst e3
                obtain ⟨v, l1, l2⟩ := RpA.lookup e4 hf'
                exact ⟨a, C, dd, fs, v, rfl, x1, x2, e1, e2, l1, g v S1 H1 st l2⟩
              · cases hf'
          | ins c ns ds =>
            refine .inr (go_okR r hm fun v S1 H1 st ra => ?_)
            obtain ⟨a, C, dx, fs, rfl, hc, e1, e3, e4⟩ := (ra.tp st.rel hd).ins st.rel.sub
            cases hf : fFld l f (.ins c ns ds) with
            | none => simp [hd, hf] at g
            | some o =>
              simp only [hd, hf, Option.bind_some] at g
              have hf' : (if l.ins.elem c = true then (ns.zip ds).lookup f else none) = some o := hf
              split at hf'
              · rename_i hl
                obtain ⟨x1, x2⟩ := hi.at hl hc
                subst e3
                obtain ⟨v, l1, l2⟩ := RpA.lookup e4 hf'
                exact ⟨a, C, dx, fs, v, rfl, e1, x1, x2, l1, g v S1 H1 st l2⟩
              · cases hf'
          | _ => simp [hd, fFld] at g
end Z
end

section
set_option Elab.async false
set_option linter.all false
set_option maxRecDepth 100000
set_option autoImplicit false
/-! a, b, c = x, y, z; a, b = x, y in an except suite; the facts of error classes, gathered. -/
namespace Z
open PySem
open L2 hiding XE Takes CX passes_call takes_of passAt PMk MkP ps_raise mk_of ps_try_as ps_try_many pmk_own XE.of_call XE.new XE.leave Takes.imp Sky.land
open L2N (Takes CX takes_of passAt PMk MkP ps_raise)
open NdefX (NF NScope)
variable {X : Cx}
def set3 (i j l : Nat) (ds : List D) (env : Env) : Option Env := match ds with
  | [x, y, z] => (setSl i (.v x) env).bind fun e1 => (setSl j (.v y) e1).bind fun e2 => setSl l (.v z) e2
  | _ => none
def mTri (i j l : Nat) (m : M (List D)) : MS := mThen m fun ds env => (set3 i j l ds env).bind fun e => some (.nx e)
theorem ss_par3 {i j l : Nat} {x y z : Str} {a b c : Expr} {m : M (List D)} {px py pz pt pos : Pos} {kt k2 pt2} (ha : SA X [a, b, c] m) (hc : X.calm = true) (hN : X.N.Nodup) (hi : X.N[i]? = some x) (hj : X.N[j]? = some y) (hl : X.N[l]? = some z) (hij : i ≠ j) (hil : i ≠ l) (hjl : j ≠ l)
    (hx : X.env.scope.names.lookup x = some .local) (hy : X.env.scope.names.lookup y = some .local) (hz : X.env.scope.names.lookup z = some .local)
    (hw : swappedStores [.Tuple [.Name x px, .Name y py, .Name z pz] kt pt] (.Tuple [a, b, c] k2 pt2) X.env = pure (some [x, y, z]))
    (hs : swapsWithSole [.Tuple [.Name x px, .Name y py, .Name z pz] kt pt] (.Tuple [a, b, c] k2 pt2) pos.line X.env = pure false := by rfl) :
    SS X (.Assign [.Tuple [.Name x px, .Name y py, .Name z pz] kt pt] (.Tuple [a, b, c] k2 pt2) pos) (mTri i j l m) := fun W tk =>
  ps_imp (ps_par3 hc hN hi hj hl hij hil hjl hx hy hz (ha W tk) hw hs) fun E σ H ⟨env, S, r, g⟩ =>
  g.part r fun vs H1 env1 S1 ds st ra g1 g3 => by
    cases e : set3 i j l ds env1 with
    | none => exact (show False by simpa [e, PostS] using g3).elim
    | some env2 =>
      simp only [e, Option.bind_some] at g3
      match ds, ra, e with
      | [d1, d2, d3], ra, e =>
        cases ra with
        | cons r1 ra =>
          cases ra with
          | cons r2 ra =>
            cases ra with
            | cons r3 ra =>
              cases ra
              have e' : ((setSl i (.v d1) env1).bind fun e1 => (setSl j (.v d2) e1).bind fun e2 => setSl l (.v d3) e2) = some env2 := e
              cases q1 : setSl i (.v d1) env1 with
              | none => simp [q1] at e'
              | some e1 =>
                cases q2 : setSl j (.v d2) e1 with
                | none => simp [q1, q2] at e'
                | some e2 =>
                  simp only [q1, q2, Option.bind_some] at e'
                  obtain ⟨a1, a2, rfl⟩ := setSl_some q1
                  obtain ⟨b1, b2, rfl⟩ := setSl_some q2
                  obtain ⟨c1, c2, rfl⟩ := setSl_some e'
                  refine ⟨_, _, _, rfl, g3 _ S1 H1 (((st.assign (s := .v d1) a1 a2 ⟨_, rfl, r1⟩ (fun _ z => by cases z)).assign (s := .v d2) b1 b2 ⟨_, rfl, r2⟩ (fun _ z => by cases z)).assign (s := .v d3) c1 c2 ⟨_, rfl, r3⟩ (fun _ z => by cases z))⟩

/-! ### in a suite -/
section
open HotX PySem.W PyProof.Rows
variable {prog : Program} {w : World} {A : Around} {E : Value → Shared → Prop} {s : Shared}
theorem tup_end_hot {it t x1 : Addr} {i : Nat} {items : Array Value} {Q : Option Value → Shared → Prop} (hot : HotAt A x1 s.heap) (hit : IsTupIter s.heap it t i) (ht : IsTup s.heap t items) (hx : items[i]? = none) (hne : x1 ≠ it)
    (hQ : ∀ h', Heap.ExtBut it s.heap h' → Q none { s with heap := h' }) : wpAny (model prog w) A (pyNext (.ref it)) Q E s := by
  obtain ⟨hh, o1, vs1, h1, d1, c1⟩ := hot
  obtain ⟨o, ho, hc, hd⟩ := id hit
  obtain ⟨ol, hol, _, nl, hdl⟩ := ht
  unfold pyNext
  refine wpAny_bind (wpAny_attempt (wpAny_callSpecial?_slot (name := Str.ofString "__next__") hit.typeIs slot_tupleiter_next (wpAny_call_entry slot_tupleiter_next hit.typeIs entry_tupleiter_next ?_ (args_tupleiter_next _))))
  show wpAny _ _ (field (.ref it) 0 >>= _) _ _ s
  refine wpAny_bind (wpAny_field ho hd (x := .ref t) rfl ?_)
  show wpAny _ _ (if (Value.ref t == Value.none) = true then _ else _) _ _ s
  rw [if_neg (show ¬ ((Value.ref t == Value.none) = true) from Bool.false_ne_true)]
  show wpAny _ _ (field (.ref it) 1 >>= _) _ _ s
  refine wpAny_bind (wpAny_field ho hd (x := .int i 0) rfl ?_)
  show wpAny _ _ (seqItems? (.ref t) >>= _) _ _ s
  refine wpAny_bind (wpAny_seqItems hol hdl ?_)
  simp only [Int.toNat_natCast, hx]
  refine wpAny_bind (wpAny_rule (wpAny_bind (wpAny_setField ho hd (by simp) ?_)))
  show wpAny _ _ (newExc (.type "StopIteration") [] >>= _) _ _ _
  refine wpAny_bind ?_
  simp only [newExc, newTuple]
  refine wpAny_bind (wpAny_newObj_type ?_ (by size_fits))
  refine wpAny_bind (m := firstArgMember _ _) (wpAny_of_eq (a := Value.none) (by first | rfl | (simp only [firstArgMember]; rfl)) ?_)
  refine wpAny_newObj_type ?_ (by size_fits)
  have h1' := (Heap.get?_update_other s.heap (Obj.mapFields (·.setIfInBounds 0 Value.none)) hne.symm).trans h1
  refine raiseNew_hot ⟨hh, o1, vs1, Heap.get?_push_of_some _ (Heap.get?_push_of_some _ h1'), d1, c1⟩ (Nat.ne_of_lt (Heap.lt_size (Heap.get?_push_of_some _ h1'))) (Heap.get?_push_size _ rfl) rfl (by first | (simp; done) | (simp; omega) | (simp only [Array.size_append]; simp; omega)) ?_
  refine wpAny_bind (wpAny_isInstance (T := "StopIteration") (b := true) ⟨_, Heap.get?_update_self _ (Heap.get?_push_size _ rfl) rfl, rfl⟩ isSubtype_stop ?_)
  refine wpAny_pure (hQ _ fun b o hb e => ?_)
  have e' := (Heap.get?_update_other s.heap (Obj.mapFields (·.setIfInBounds 0 Value.none)) hb.symm).trans e
  rw [Heap.get?_update_other _ _ (Nat.ne_of_gt (Heap.lt_size (Heap.get?_push_of_some _ e')))]
  exact Heap.get?_push_of_some _ (Heap.get?_push_of_some _ e')
theorem unpack_hot {t x1 : Addr} {items : Array Value} {Q : List Value → Shared → Prop} (hot : HotAt A x1 s.heap) (ht : IsTup s.heap t items)
    (hQ : ∀ h', Heap.ExtBut s.heap.objs.size s.heap h' → Q items.toList { s with heap := h' }) : wpAny (model prog w) A (unpackItems (.ref t) items.size none) Q E s := by
  have hlt : t ≠ s.heap.objs.size := by obtain ⟨o, ho, _⟩ := ht; exact Nat.ne_of_lt (Heap.lt_size ho)
  obtain ⟨hh, o1, vs1, h1, d1, c1⟩ := hot
  have hx1 : x1 ≠ s.heap.objs.size := Nat.ne_of_lt (Heap.lt_size h1)
  unfold unpackItems
  refine wpAny_bind ?_
  unfold notIterableAtAll
  refine wpAny_bind (wpAny_specialOf ht.typeIs slot_tuple_iter.lookup ?_)
  refine wpAny_pure ?_
  simp only [Bool.false_eq_true, if_false]
  refine wpAny_bind (wpAny_holding (iter_tuple ht ?_))
  refine wpAny_bind (wpAny_holding (draw_tuple hlt items.size 0 _ _ ⟨_, Heap.get?_push_size _ rfl, rfl, rfl⟩ (ht.push _) (by omega) fun h₁ hit₁ hs₁ => ?_))
  have hall : List.take items.size (List.drop 0 items.toList) = items.toList := by
    rw [List.drop_zero]; exact List.take_of_length_le (by simp)
  rw [hall, if_neg (by simp)]
  have ht₁ : IsTup h₁ t items := (ht.push _).extBut hs₁.extBut hlt
  have hx2 : h₁.get? x1 = some o1 := hs₁.extBut x1 o1 hx1 (Heap.get?_push_of_some _ h1)
  refine wpAny_bind (wpAny_holding (tup_end_hot ⟨hh, o1, vs1, hx2, d1, c1⟩ hit₁ ht₁ (by simp) hx1 fun h₂ he₂ => ?_))
  simp only [Option.isSome_none, Bool.false_eq_true, if_false]
  exact wpAny_pure (hQ h₂ fun b o hb e => he₂ b o hb (hs₁.extBut b o hb (Heap.get?_push_of_some _ e)))
end
theorem par_fin {K : PySem.W.Frag} {mg : Str → Option Value} {env env1 env3 env4 : Env} {σ : St} {S S1 H H1 : Hp} {p : Rs × Rs} {v w : V} {s t : Sl} {i j : Nat} (st : Step K mg env σ S H env1 σ S1 H1) (ra : RsR K mg (Mine env σ H) env1 σ S1 H1 v p.1) (rb : RsR K mg (Mine env σ H) env1 σ S1 H1 w p.2)
    (nvw : ∀ d d', p.1 = .fr d → p.2 = .fr d' → v ≠ w) (es : p.1.sl = some s) (et : p.2.sl = some t) (ee : setSl i s env1 = some env3) (ef : setSl j t env3 = some env4) : Step K mg env σ S H env4 ((σ.set i (some v)).set j (some w)) S1 H1 := by
  obtain ⟨c1, c2, rfl⟩ := setSl_some ee
  obtain ⟨c3, c4, rfl⟩ := setSl_some ef
  obtain ⟨d1, d2⟩ := slr_of ra es
  obtain ⟨d3, d4⟩ := slr_of rb et
  refine (st.assign c1 c2 d1 d2).assign c3 c4 d3 fun d hd => ?_
  obtain ⟨a', e1, n1, m1⟩ := d4 d hd
  refine ⟨a', e1, fun ⟨k, ⟨s', d', e', m'⟩, hq⟩ => ?_, m1⟩
  have hil : i < σ.length := by rw [st.rel.len]; exact c1
  by_cases h : i = k
  · subst h
    rw [List.getElem?_set_self c1] at e'
    rw [List.getElem?_set_self hil] at hq
    cases e'
    have hv : v = .ref a' := by simpa using hq
    cases e5 : p.1 with
    | v _ => rw [e5] at es; cases es; cases m'
    | bw _ => rw [e5] at es; cases es
    | fr da =>
      cases e6 : p.2 with
      | v _ => rw [e6] at et; cases et; cases hd
      | bw _ => rw [e6] at et; cases et
      | fr db => exact nvw da db e5 e6 (by rw [hv, e1])
  · rw [List.getElem?_set_ne h] at e' hq
    exact n1 ⟨k, ⟨s', d', e', m'⟩, hq⟩
section
variable {a : Addr} {pn : List (Addr × Obj)}
theorem hot_of {pins : List (Addr × Obj)} {σ : St} {H : Hp} {s : Shared} {C dd : Addr} (I : Inv (X.suite a pn) pins σ H s) (e : H a = some (ExV C dd a)) : HotX.HotAt (X.suite a pn).A a s.heap := by
  obtain ⟨⟨oe, us, ha, hz, hd, _⟩, _, _⟩ := I.hok a _ e
  exact ⟨rfl, oe, us, ha, hd, hz.2.2 us hd⟩
/-- x, y = .. in a suite -/
theorem sus_par {i j : Nat} {x y : Str} {e f : Expr} {m : M (Rs × Rs)} {px py pt : Pos} {kt k2 pt2} {pos : Pos} (ha : SP2 (X.suite a pn) [e, f] m) (hN : X.N.Nodup) (hi : X.N[i]? = some x) (hj : X.N[j]? = some y) (hij : i ≠ j)
    (hx : X.env.scope.names.lookup x = some .local) (hy : X.env.scope.names.lookup y = some .local)
    (hw : swappedStores [.Tuple [.Name x px, .Name y py] kt pt] (.Tuple [e, f] k2 pt2) X.env = pure (some [x, y]))
    (hs : swapsWithSole [.Tuple [.Name x px, .Name y py] kt pt] (.Tuple [e, f] k2 pt2) pos.line X.env = pure false := by rfl) :
    PSs (X.suite a pn) [.Assign [.Tuple [.Name x px, .Name y py] kt pt] (.Tuple [e, f] k2 pt2) pos] (tSx X.K X.mg a (mPar i j m)) := by
  refine pss_one ⟨fun pins s σ H D I ⟨env, S, r, ⟨C, dd, eS⟩, g⟩ => ?_⟩
  have h := GoS.part (R := RP X.K X.mg) (Q1 := fun vs H1 => ∃ env1 S1 p, Step X.K X.mg env σ S H env1 σ S1 H1 ∧ RP X.K X.mg (Mine env σ H) env1 σ S1 H1 vs p ∧ PostS X.K X.mg noW (p.1.sl.bind fun s => p.2.sl.bind fun t => (setSl i s env1).bind fun env' => (setSl j t env').bind fun env2 => some (.nx env2)) env σ S H D) r g fun vs H1 env1 S1 p st ra _ g2 => ⟨env1, S1, p, st, ra, g2⟩
  rw [exec_Assign_arm]
  refine wpAny_bind (wpAny_standAt ?_)
  rw [show swapsWithSole [.Tuple [.Name x px, .Name y py] kt pt] (.Tuple [e, f] k2 pt2) pos.line (X.suite a pn).env = pure false from hs]
  refine wpAny_bind (wpAny_pure ?_)
  rw [if_neg (by decide)]
  refine wpAny_bind (PyProof.Rows.Tuple_ (thn ((ha noW takes_suite).run _ pins s σ H _ I h) fun us s1 ⟨vs, H1, I1, r1, env1, S1, p, st, ⟨v, w, ev, ra, rb, nvw⟩, g3⟩ => ?_))
  subst ev
  obtain ⟨u1, u2, rfl, rv, rw'⟩ : ∃ u1 u2, us = [u1, u2] ∧ RelV v u1 ∧ RelV w u2 := by
    cases r1 with
    | cons p q =>
      cases q with
      | cons p' q' =>
        cases q'
        exact ⟨_, _, rfl, p, p'⟩
  refine wpAny_newObj_type ?_ (by show 2 ≤ sizeLine; decide)
  have I2 : Inv (X.suite a pn) pins σ H1 { s1 with heap := s1.heap.push { cls := .type "tuple", data := .seq [u1, u2].toArray } } := I1.kept (t' := s1.toks) fun b o e => Heap.get?_push_of_some _ e
  have eH : H1 a = some (ExV C dd a) := st.rel.sub _ _ (st.ext _ _ eS)
  rw [show swappedStores [.Tuple [.Name x px, .Name y py] kt pt] (.Tuple [e, f] k2 pt2) (X.suite a pn).env = pure (some [x, y]) from hw]
  refine wpAny_bind (wpAny_pure ?_)
  show wpAny (model X.prog X.w) (X.suite a pn).A (do rule "assign.swapped-stores"; let items ← unpackItems (.ref s1.heap.objs.size) 2 none; assignInOrder [fun v => bindName X.env y v, fun v => bindName X.env x v] items.reverse; pure Flow.next) _ _ _
  refine wpAny_bind (wpAny_rule (wpAny_bind (unpack_hot (items := #[u1, u2]) (hot_of I2 eH) (PyProof.Rows.IsTup.new s1.heap _) fun h' hx' => ?_)))
  have I3 := I2.kept (h' := h') (t' := s1.toks) fun b o e => hx' b o (Nat.ne_of_lt (Heap.lt_size e)) e
  show wpAny _ _ (assignInOrder [fun v => bindName X.env y v, fun v => bindName X.env x v] [u2, u1] >>= fun _ => pure Flow.next) _ _ _
  refine wpAny_bind (PyProof.Rows.assignInOrder_cons (wpAny_bindName (store_ok (X := X.suite a pn) I3 hN hj (.inl hy) rw' (fun s2 I4 => ?_) (.inr hy))))
  refine PyProof.Rows.assignInOrder_cons (wpAny_bindName (store_ok (X := X.suite a pn) I4 hN hi (.inl hx) rv (fun s3 I5 => PyProof.Rows.assignInOrder_nil (wpAny_pure ?_)) (.inr hx)))
  rw [List.set_comm _ _ (Ne.symm hij)] at I5
  refine ⟨_, H1, I5, ?_⟩
  cases es : p.1.sl with
  | none => exact (show False by simpa [es, PostS] using g3).elim
  | some s =>
    cases et : p.2.sl with
    | none => exact (show False by simpa [es, et, PostS] using g3).elim
    | some t =>
      cases ee : setSl i s env1 with
      | none => exact (show False by simpa [es, et, ee, PostS] using g3).elim
      | some env3 =>
        cases ef : setSl j t env3 with
        | none => exact (show False by simpa [es, et, ee, ef, PostS] using g3).elim
        | some env4 =>
          simp only [es, et, ee, ef, Option.bind_some] at g3
          exact g3 _ S1 H1 (par_fin st ra rb nvw es et ee ef)
end
end Z
end

section
set_option Elab.async false
set_option linter.all false
set_option maxRecDepth 100000
set_option autoImplicit false
/-! The facts of error classes, gathered from what the top has written. -/
namespace Z
open PySem
open L2 hiding XE Takes CX passes_call takes_of passAt PMk MkP ps_raise mk_of ps_try_as ps_try_many pmk_own XE.of_call XE.new XE.leave Takes.imp Sky.land
open L2N (Takes CX takes_of passAt PMk MkP ps_raise)
open NdefX (NF NScope envF)
/-- an except clause's class c, asked of the classes of l -/
inductive TabOk (K : PySem.W.Frag) (mg : Str → Option Value) (c : Value) : List (Str × Bool) → Prop
  | nil : TabOk K mg c []
  | cons {y : Str} {b : Bool} {C : Addr} {l : List (Str × Bool)} (h : mg y = some (.ref C)) (e : PySem.W.exmOne K (.ref C) c = some b) (r : TabOk K mg c l) : TabOk K mg c ((y, b) :: l)
def tabP (l : List (Str × Bool)) (y : Str) : Option Bool := l.lookup y
theorem TabOk.at {K : PySem.W.Frag} {mg : Str → Option Value} {c : Value} : ∀ {l : List (Str × Bool)}, TabOk K mg c l → ∀ y b C, tabP l y = some b → mg y = some (.ref C) → PySem.W.exmOne K (.ref C) c = some b
  | [], _, _, _, _, e, _ => by cases e
  | (z, b') :: l, h, y, b, C, e, hc => by
    cases h with
    | cons h x r =>
      unfold tabP at e
      by_cases q : y = z
      · subst q
        rw [hc] at h
        cases h
        simp only [List.lookup, beq_self_eq_true] at e
        cases e
        exact x
      · have q' : (y == z) = false := by simpa using q
        simp only [List.lookup, q'] at e
        exact r.at y b C e hc
/-- an own class, as an except clause names it -/
theorem names_own {X : Cx} {x : Str} {C : Addr} (h : X.mg x = some (.ref C)) (hg : Gl X x := by rfl) (hd : (x == ("__debug__" : Str)) = false := by decide) : Names X x (.ref C) := ⟨hg, hd, .inl h⟩
section
variable {P : Program} {w : World} {K : PySem.W.Frag} {mg : Str → Option Value} {base : Heap} {x nm q : Str} {C N fI cc cda : Addr} {bs bm : List Value} {sn : List Str} {sub : List Value} {ab : Bool} {col : Option Bool} {dd : Option Addr} {k0 k1 k2 k3 k5 : Option Value}
/-- an error class -/
structure ErrX (K : PySem.W.Frag) (mg : Str → Option Value) (x : Str) (C : Addr) : Prop where
  g : mg x = some (.ref C)
  T : OexC K C
  X : XfC K C
theorem errX (g : mg x = some (.ref C)) (cls : K.lookup C = some (excClassObj nm q C N bs bm true sn sub ab col dd k0 k1 k2 k3 k5 "ValueError.__new__")) (hbm : PySem.HandSPX.refsVE bm = true)
    (sa : PySem.W.findIn K (.ref C) "__setattr__" = some (some (.builtin "object.__setattr__"))) (exC : PySem.W.subIn K (.ref C) (.type "BaseException") = some true) (tyC : PySem.W.typeIn K (.ref C) = some (.type "type")) (kC : PySem.W.keepIn K (.ref C) = true)
    (ga : PySem.W.findIn K (.ref C) "__getattribute__" = some (some (.builtin "BaseException.__getattribute__"))) (gg : PySem.W.findIn K (.ref C) "__getattr__" = some none) (hd : PySem.W.hasDictIn K C = true) : ErrX K mg x C :=
  ⟨g, ⟨⟨_, _, _, _, _, _, _, _, _, _, _, _, _, _, _, cls, hbm⟩, sa, exC, tyC, kC⟩, ⟨ga, gg, exC, hd⟩⟩
variable {F : NF} {lit : Str} {j : Nat} {p0 p1 p2 p3 p4 p5 q1 q2 q3 q4 q5 q6 q7 q8 : Pos} {doc pm ctv oc cl1 cl2 : Value} {od cd1 cd2 : Option Addr} {sl sl1 sl2 : Array (Option Value)} {vs : Array Value} {file : Str} {tf : Tok} {f1 v1 f2 v2 : Str}
theorem errC (E : ErrX K mg x C) (gs : mg "super" = none) (lI : K.lookup fI = some ⟨oc, od, .func (F.fd doc pm ctv), sl⟩) (cl : F.cl = [(("__class__" : Str), cc)]) (lC : K.lookup F.c = some ⟨cl1, cd1, .fields vs, sl1⟩) (hvs : vs[2]? = some (.str file tf)) (hfile : ((P.main.file : Str) == file) = true)
    (cell : K.lookup cc = some ⟨cl2, cd2, .cell (some (.ref C)), sl2⟩) (ho : PySem.W.nsIn K cStatics "thirdparty.any" = some none) (hm : PySem.W.ks_superIn K C C "__init__" = some (some (.builtin "ValueError.__init__")))
    (hB : PySem.W.subIn K (.ref C) (.type "ValueError") = some true) (hsub : PySem.W.mroIn K C (.ref C) = some true) (htop : (P.main.scope.names.lookup ("super" : Str)).isSome = false) : ErrC P K mg C fI cc F :=
  ⟨E.T, gs, ⟨_, _, _, _, _, _, lI⟩, cl, ⟨_, vs, file, tf, lC, rfl, hvs, hfile⟩, ⟨_, cell, rfl⟩, ho, hm, hB, hsub, htop⟩
theorem errK1 (E : ErrX K mg x C) (T : ErrC P K mg C fI cc F) (iC : PySem.W.findIn K (.ref C) "__init__" = some (some (.ref fI))) (tI : PySem.W.typeIn K (.ref fI) = some (.type "function")) (no1 : PySem.W.findIn K (.ref C) f1 = some none)
    (lI : K.lookup fI = some ⟨oc, od, .func (F.fd doc pm ctv), sl⟩) (hcd : PySem.W.codeIn K (.ref F.c) F.qual = true) (Tx : ErrT F lit j p0 p1 p2 p3 p4 p5) (hb : F.body = [.Expr (superCall lit j p0 p1 p2 p3 p4) p5, storeSt f1 v1 q1 q2 q3 q4])
    (S : NScope ["self", v1, "__class__"] ["self", v1] ["__class__"] F.scope) (bi : Binds K (F.fd doc pm ctv) ["self", v1] []) (hd : (v1 == ("__debug__" : Str)) = false := by decide) (hcc : (v1 == ("__classdict__" : Str)) = false := by decide) : ErrK P w K mg base x C fI (F.fd doc pm ctv) ["self", v1] [f1] :=
  ⟨E.g, E.T, iC, tI, bi, init1 (k := 0) T Tx no1 lI hcd hb S hd hcc⟩
theorem errK2 (E : ErrX K mg x C) (T : ErrC P K mg C fI cc F) (iC : PySem.W.findIn K (.ref C) "__init__" = some (some (.ref fI))) (tI : PySem.W.typeIn K (.ref fI) = some (.type "function")) (no1 : PySem.W.findIn K (.ref C) f1 = some none) (no2 : PySem.W.findIn K (.ref C) f2 = some none)
    (lI : K.lookup fI = some ⟨oc, od, .func (F.fd doc pm ctv), sl⟩) (hcd : PySem.W.codeIn K (.ref F.c) F.qual = true) (Tx : ErrT F lit j p0 p1 p2 p3 p4 p5) (hb : F.body = [.Expr (superCall lit j p0 p1 p2 p3 p4) p5, storeSt f1 v1 q1 q2 q3 q4, storeSt f2 v2 q5 q6 q7 q8])
    (S : NScope ["self", v1, v2, "__class__"] ["self", v1, v2] ["__class__"] F.scope) (bi : Binds K (F.fd doc pm ctv) ["self", v1, v2] []) (hd : (v1 == ("__debug__" : Str)) = false := by decide) (hcc : (v1 == ("__classdict__" : Str)) = false := by decide) (hd2 : (v2 == ("__debug__" : Str)) = false := by decide) (hcc2 : (v2 == ("__classdict__" : Str)) = false := by decide) :
    ErrK P w K mg base x C fI (F.fd doc pm ctv) ["self", v1, v2] [f1, f2] :=
  ⟨E.g, E.T, iC, tI, bi, init2 (k := 0) T Tx no1 no2 lI hcd hb S hd hcc hd2 hcc2⟩
end
end Z
end

section
set_option Elab.async false
set_option linter.all false
set_option maxRecDepth 100000
set_option autoImplicit false
/-! enumerate over lists and tuples; zip; ranges of two and three; reversed. -/
namespace Z
open PySem
open L2 hiding XE Takes CX passes_call takes_of passAt PMk MkP ps_raise mk_of ps_try_as ps_try_many pmk_own XE.of_call XE.new XE.leave Takes.imp Sky.land
open L2N (Takes CX takes_of passAt PMk MkP ps_raise)
variable {X : Cx}
section
open PySem
set_option maxHeartbeats 1000000 in
theorem enum_new {v : Value} {o : Obj} {J : Heap → Prop} (B : Begins v o J) :
    Meets (Builtin.«enumerate.__new__» ⟨[.type "enumerate", v], []⟩) (fun _ R s => J s.heap ∧ R (.ok (.ret (.ref (s.heap.push o).objs.size))) { s with heap := (s.heap.push o).push { cls := .type "enumerate", data := .fields #[.none, .bool false, .ref s.heap.objs.size, rawInt 0, .none, .none] } }) :=
  .of_wp fun prog w A R s h => by
    obtain ⟨hp, g, d, tk, os⟩ := s; obtain ⟨h1, h⟩ := h
    have hsub := sub_enumerate
    have q1 : ∀ {A' : Around} {E : Value → Shared → Prop} {Q : Value → Shared → Prop}, Q (.ref hp.objs.size) ⟨hp.push o, g, d, tk, os⟩ → wpAny (model prog w) A' (pyIter v) Q E ⟨hp, g, d, tk, os⟩ :=
      fun q => B.iter prog w _ _ ⟨hp, g, d, tk, os⟩ _ h1 q
    wp_walk using q1
    refine wpAny_stack_any fun st => wpAny_pure ?_
    split
    · rename_i c _ _ _ _ _
      cases (c == Value.type "enumerate")
      · wp_walk using q1
        exact ⟨_, rfl, h⟩
      · wp_walk using q1
        exact ⟨_, rfl, h⟩
    · wp_walk using q1
      exact ⟨_, rfl, h⟩
variable {prog : Program} {w : World} {A : Around} {E : Value → Shared → Prop} {s : Shared}
theorem enum_call {v : Value} {o : Obj} {J : Heap → Prop} {Q : Value → Shared → Prop} (B : Begins v o J) (h1 : J s.heap)
    (h : ∀ h', IsEnum h' (s.heap.objs.size + 1) s.heap.objs.size 0 .none → h'.get? s.heap.objs.size = some o → (∀ b o, s.heap.get? b = some o → h'.get? b = some o) → Q (.ref (s.heap.objs.size + 1)) { s with heap := h' }) :
    wpAny (model prog w) A (call (.type "enumerate") [v]) Q E s := by
  refine callType_new F.called_enumerate (by decide) (F.typeCall_enumerate_1 _) (F.newCall_enumerate_1 _) (fun obj => F.args_object_init_2 obj _) F.entry_enumerate_new (enum_new B) ⟨h1, ?_⟩
  have hz : (s.heap.push o).objs.size = s.heap.objs.size + 1 := Heap.size_push ..
  show _ ∧ _
  rw [hz]
  have he : IsEnum ((s.heap.push o).push { cls := .type "enumerate", data := .fields #[.none, .bool false, .ref s.heap.objs.size, rawInt 0, .none, .none] }) (s.heap.objs.size + 1) s.heap.objs.size 0 .none := by
    have := Heap.get?_push_size (s.heap.push o) (o := { cls := .type "enumerate", data := .fields #[.none, .bool false, .ref s.heap.objs.size, rawInt 0, .none, .none] }) rfl
    rw [hz] at this; exact this
  exact ⟨⟨_, he, rfl⟩, h _ he (Heap.get?_push_of_some _ (Heap.get?_push_size _ B.free)) fun b o x => Heap.get?_push_of_some _ (Heap.get?_push_of_some _ x)⟩
end
/-- the tuple at a, each item in a new pair -/
def IteT (K : PySem.W.Frag) (a : Addr) : It :=
  ⟨fun i H => ∃ (xs : List V) (x : V), SqT K H a xs ∧ xs[i]? = some x, fun i H v H' => ∃ T x, v = .ref T ∧ H T = none ∧ H' = upd H T (.tup [.int (i : Nat), x]) ∧ ∀ xs, SqT K H a xs → xs[i]? = some x, fun i H => ∃ xs : List V, SqT K H a xs ∧ xs.length ≤ i⟩
theorem turn_enumT {P : Program} {w : World} {K : PySem.W.Frag} {elts : List Expr} {kk : Nat} {tpos : Pos} (a e it : Addr) :
    Turn P w K (.Tuple elts kk tpos) (IteT K a) [e, it] e (fun i h => (∃ old, IsEnum h e it ((i : Nat) : Int) old) ∧ h.IsTupleIter it a i ∧ e ≠ it ∧ a ≠ it ∧ e ≠ a) where
  mem := by simp
  obj := fun i h st b hb => by
    obtain ⟨⟨old, he⟩, ⟨o, ho, hc, hd⟩, _⟩ := st
    have e' : b = e ∨ b = it := by simpa using hb
    rcases e' with z | z
    · rw [z]; exact ⟨_, he, fun v q => nomatch q⟩
    · rw [z]; exact ⟨o, ho, fun v q => by rw [hd] at q; cases q⟩
  keep := fun i h h' st k => let ⟨⟨old, he⟩, hi, hne⟩ := st; ⟨⟨old, k e (by simp) _ he⟩, hi.at fun o q => k it (by simp) o q, hne⟩
  item := by
    intro Y hP hw hK hc i pins s σ H E I hf st hg
    subst hP hw hK
    obtain ⟨⟨old, he⟩, hit, hne, hai, hae⟩ := st
    obtain ⟨xs, x, hq, hx⟩ := hg
    obtain ⟨its, rv, p, hz⟩ := I.tuple hq
    obtain ⟨u, hu, ru⟩ := rv.get hx
    have hel : e < s.heap.objs.size := Heap.lt_size he
    have hil : it < s.heap.objs.size := by obtain ⟨_, q, _⟩ := hit; exact Heap.lt_size q
    have hlt : i < its.toArray.size := by
      have := (List.getElem?_eq_some_iff.mp hu).1
      simpa using this
    refine wpAny_pyNext_enum_itemD (Draws.tuple (A := Y.A.in1) (I.ok.hd hc) it a hai its.toArray) he ⟨hit, p⟩ hlt hne (by simp [hne, hae]) fun x' h' tk hPx ho hst hT hsz hk => ?_
    obtain rfl : u = x' := by
      have e1 : its.toArray[i]? = some u := by simpa using hu
      rw [e1] at hPx
      exact Option.some.inj hPx
    refine ⟨_, rfl, wpAny_letOwnedTupleGo_enum (s := { s with heap := h', toks := tk + 1 }) ho fun h'' he' sb => ?_⟩
    have hT2 : h''.get? s.heap.objs.size = some { cls := .type "tuple", data := .seq #[.int i tk, u] } := (sb.2 _ (Nat.ne_of_gt hel)).trans hT
    have new : ObjOk Y.prog Y.w (upd H s.heap.objs.size (.tup [.int (i : Nat), x])) h'' s.heap.objs.size (.tup [.int (i : Nat), x]) :=
      ⟨by show 2 ≤ sizeLine; decide, [.int i tk, u], .cons ⟨_, rfl⟩ (.cons ru .nil), ⟨_, hT2, rfl, _, rfl⟩⟩
    have I1 : Inv Y pins σ (upd H s.heap.objs.size (.tup [.int (i : Nat), x])) { s with heap := h'', toks := tk + 1 } :=
      I.turnedNew (ch := [e, it]) (fun b ob hb q => (sb.2 b (fun z => hb (by simp [z]))).trans (hk b ob (fun z => hb (by simp [z])) (fun z => hb (by simp [z])) q)) hf (Nat.le_refl _) new
    refine ⟨.ref s.heap.objs.size, _, I1, rfl, ⟨_, x, rfl, I.hok.fresh (Nat.le_refl _), rfl, fun ys hy => by rw [I.tuple_inj hy hq]; exact hx⟩, ⟨⟨u, ?_⟩, hst.1.at fun o q => (sb.2 it (Ne.symm hne)).trans q, hne, hai, hae⟩, fun b hb => ?_⟩
    · have e1 : ((i + 1 : Nat) : Int) = (i : Int) + 1 := by omega
      rw [e1]; exact he'
    · have hb' : b < s.heap.objs.size := by
        have e' : b = e ∨ b = it := by simpa using hb
        rcases e' with z | z
        · rw [z]; exact hel
        · rw [z]; exact hil
      rw [upd_ne (Nat.ne_of_lt hb')]
      exact (hf b hb).1
  done := by
    intro Y hP hw hK hc i pins s σ H E I hf st hg
    subst hP hw hK
    obtain ⟨⟨old, he⟩, hit, hne, hai, hae⟩ := st
    obtain ⟨xs, hq, hx⟩ := hg
    obtain ⟨its, rv, p, hz⟩ := I.tuple hq
    obtain ⟨f0, f1, f2, f3, f4, f5⟩ := hf it (by simp)
    have hl := rv.length
    have hT : s.TypeIs (.ref e) "enumerate" := ⟨_, he, rfl⟩
    unfold pyNext
    refine wpAny_bind (wpAny_attempt (wpAny_callSpecial?_slot (name := Str.ofString "__next__") hT F.slot_enumerate_next (wpAny_call_entry F.slot_enumerate_next hT F.entry_enumerate_next ?_ (F.args_enumerate_next_1 _))))
    show wpAny _ _ (field (.ref e) 2 >>= _) _ _ _
    refine wpAny_bind (wpAny_field he rfl (x := .ref it) rfl ?_)
    refine wpAny_bind (wpAny_nextOf_tuple_end (show Y.A.in1.handled = none from I.ok.hd hc) hit p (by simp; omega) fun h' x he' hx' => ?_)
    obtain ⟨o, ho, hc'⟩ := hx'
    refine wpAny_bind (wpAny_isInstance (T := "StopIteration") (b := true) ⟨o, ho, hc'⟩ isSubtype_stop ?_)
    exact wpAny_pure ⟨rfl, I.turned (t' := s.toks) (fun b o hb q => he' b o hb q) f0 f1 f3 f4 f5⟩
  self := fun A i s Q E st h => let ⟨⟨_, he⟩, _⟩ := st; wpAny_pyIter_enum he h
theorem walk_enumT {K : PySem.W.Frag} {a : Addr} {xs : List V} : Walk (IteT K a) xs.length (fun H => SqT K H a xs) (YPair (fun i => some (.int (i : Nat))) (fun i => xs[i]?)) := by
  refine ⟨fun i _ hi q => ⟨xs, xs[i], q, by simp [hi]⟩, fun _ q => ⟨xs, q, Nat.le_refl _⟩, fun i H v H' _ q y => ?_⟩
  obtain ⟨T, x, h1, h2, h3, h4⟩ := y
  exact ⟨T, .int (i : Nat), x, h1, h2, h3, rfl, h4 xs q⟩
def iEnumT (K : PySem.W.Frag) (ta : TA) : TI := fun σ H R => ta σ H fun vs H1 => ∃ a xs, vs = [.ref a] ∧ SqT K H1 a xs ∧ R (IteT K a) H1
theorem pi_enumT {e : Expr} {ta : TA} {p pos tpos : Pos} {elts : List Expr} {kk : Nat} (hg : Gl X "enumerate") (hm : X.mg "enumerate" = none) (ha : PA X [e] ta) (hs : starEach [e] X.env = [(false, eval e X.env)] := by rfl) :
    PI X (.Tuple elts kk tpos) (.Call (.Name "enumerate" p) [e] [] pos) (iEnumT X.K ta) := by
  refine ⟨fun pins s σ H R I h => ?_⟩
  refine PyProof.Rows.Call_ (ld_blt I hg hm PyProof.Rows.boot_enumerate (PyProof.Rows.callWith_type1 (thn (ha.run pos pins s σ H _ I h) fun us s1 ⟨vs, H1, I1, r1, q1⟩ => ?_) hs rfl))
  obtain ⟨a, xs, ex, hq, q⟩ := q1
  subst ex
  cases r1 with
  | cons r rr =>
    cases rr
    cases r
    obtain ⟨its, rv, p', hz⟩ := I1.tuple hq
    have hal : a < s1.heap.objs.size := by obtain ⟨o, ho, _⟩ := p'; exact Heap.lt_size ho
    refine enum_call (begins_tuple a its.toArray) p' fun h' he hit hk => wpAny_pyIter_enum he ?_
    have I2 : Inv X pins σ H1 { s1 with heap := h' } := I1.kept (t' := s1.toks) hk
    refine ⟨s1.heap.objs.size + 1, [s1.heap.objs.size + 1, s1.heap.objs.size], _, _, H1, rfl, I2, turn_enumT a (s1.heap.objs.size + 1) s1.heap.objs.size, ⟨⟨.none, he⟩, ⟨_, hit, rfl, rfl⟩, Nat.succ_ne_self _, Nat.ne_of_lt hal, Nat.ne_of_gt (Nat.lt_succ_of_lt hal)⟩, fun b hb => ?_, q⟩
    have e' : b = s1.heap.objs.size + 1 ∨ b = s1.heap.objs.size := by simpa using hb
    have hle : s1.heap.objs.size ≤ b := by
      rcases e' with z | z
      · rw [z]; exact Nat.le_add_right _ _
      · rw [z]; exact Nat.le_refl _
    exact I1.fpOk hle (I1.hok.fresh hle)
/-- the pairs (i, d) -/
def enumD (ds : List D) : List D := (List.range ds.length).zipWith (fun i d => D.tup [.int (i : Nat), d]) ds
def itEnum (d : D) : Option (List D) := (items d).bind fun ds => some (enumD ds)
theorem enumD_len (ds : List D) : (enumD ds).length = ds.length := by unfold enumD; simp
theorem enumD_at {ds : List D} {i : Nat} {d : D} (h : ds[i]? = some d) : (enumD ds)[i]? = some (.tup [.int (i : Nat), d]) := by
  obtain ⟨hi, e⟩ := List.getElem?_eq_some_iff.mp h
  unfold enumD
  rw [List.getElem?_zipWith]
  simp [hi, e]
/-- pairs, new at each turn -/
theorem yields_pair {S1 : Hp} {vs : List V} {ds : List D} (r : RpA X.K X.mg S1 vs ds) : Yields X.K X.mg S1 (enumD ds) (YPair (fun i => some (.int (i : Nat))) (fun i => vs[i]?)) := fun i H x H' hi ⟨T, u, v, e1, hT, e2, e3, e4⟩ env σ S' rl sm => by
  subst e1 e2
  cases e3
  obtain ⟨d, h1, h2⟩ := r.getV e4
  refine ⟨_, _, new_stay rl hT, enumD_at h1, .tup (.of upd_same) (.cons (.int _) (.cons ((h2.mono sm).mono (same_upd (rl.sub.free hT))) .nil))⟩
theorem si_enum {e : Expr} {m : M D} {p pos tpos : Pos} {elts : List Expr} {kk : Nat} (h : SV X e m) (hm : X.mg "enumerate" = none) (hg : Gl X "enumerate" := by rfl) (he : starEach [e] X.env = (false, eval e X.env) :: starEach [] X.env := by rfl) (hs : starEach [e] X.env = [(false, eval e X.env)] := by rfl) :
    SI X (.Tuple elts kk tpos) (.Call (.Name "enumerate" p) [e] [] pos) (mIt itEnum m) := fun W tk =>
  pi_imp (pi_or (pi_enum hg hm (pa_cons (h W tk) pa_nil he) hs) (pi_enumT hg hm (pa_cons (h W tk) pa_nil he) hs)) fun σ H R q => tI_of (te := fun σ H R => iEnum X.K (tCons (tM X.K X.mg W (RD X.K X.mg) m) tNil) σ H R ∨ iEnumT X.K (tCons (tM X.K X.mg W (RD X.K X.mg) m) tNil) σ H R) (fun env S d ds env1 rl hm hf g => by
    cases d with
    | lst es =>
      cases hf
      refine .inl (go_ok rl hm fun v S1 H1 st rv => ?_)
      cases rv with
      | lst a b =>
        exact ⟨_, _, rfl, .of (st.rel.sub _ _ a), g _ _ _ S1 H1 st (by rw [enumD_len, ← b.len]; exact walk_enum (K := X.K)) (fun S' H' s1 s2 => SqL.of (K := X.K) (s2 _ _ (s1 _ _ a))) (yields_pair b)⟩
    | tup es =>
      cases hf
      refine .inr (go_ok rl hm fun v S1 H1 st rv => ?_)
      cases rv with
      | tup a b =>
        exact ⟨_, _, rfl, same_tup st.rel.sub a, g _ _ _ S1 H1 st (by rw [enumD_len, ← b.len]; exact walk_enumT (K := X.K)) (fun S' H' s1 s2 => same_tup s2 (same_tup s1 a)) (yields_pair b)⟩
    | _ => cases hf) (fun env S c ns ds env1 rl hm g => .inl (go_ex rl hm g)) q
end Z
end

section
set_option Elab.async false
set_option linter.all false
set_option maxRecDepth 100000
set_option autoImplicit false
/-! Dict displays of constants; repr of them. -/
namespace Z
open PySem
open L2 hiding XE Takes CX passes_call takes_of passAt PMk MkP ps_raise mk_of ps_try_as ps_try_many pmk_own XE.of_call XE.new XE.leave Takes.imp Sky.land
open L2N (Takes CX takes_of passAt PMk MkP ps_raise)
variable {X : Cx}
def mDctC (ks : List Key) (ds : List D) : M Rs := M.ret (.fr (.dct ks ds))
theorem sr_dctC {keys : List (Option Expr)} {values : List Expr} {pos : Pos} {trs : List (TE × TE)} {kvs : List (Key × V)} {ks : List Key} {ds : List D}
    (h : PPs X pos keys values trs) (ht : ∀ σ H Q, Q (kvs.map fun kv => (kV kv.1, kv.2)) H → tPairs trs σ H Q) (hk : kvs.map (·.1) = ks) (hr : ∀ S, RpA X.K X.mg S (kvs.map (·.2)) ds) (hd : mergeK [] kvs = kvs) (lk : kvs.length ≤ 15)
    (hall : keys.all (·.isSome) = true) (hl : keys.length = values.length) (h0 : keys ≠ []) (h15 : keys.length ≤ 15) : SR X (.Dict keys values pos) (mDctC ks ds) := fun W tk =>
  pe_imp (pe_disp h hall hl h0 h15) fun σ H Q ⟨env, S, r, g⟩ p hp => ht σ _ _ ⟨upd_same, kvs, rfl, lk, by
    rw [hd, upd_upd]
    obtain ⟨st, ra⟩ := new_apart r hp (HoR.dct (S := S) hk rfl (hr S))
    exact g _ _ _ st ra⟩
def kP : Key → PyData
  | .inl i => .int i
  | .inr x => .str x
/-- data, a dict of flat values at the top let -/
def D.pyd : D → PyData
  | .dct ks ds => .dict ((ks.zip ds).map fun p => (kP p.1, p.2.py))
  | d => d.py
def D.puq : D → Bool
  | .dct ks ds => decide (ks.length = ds.length) && ds.all D.flat
  | d => gd d
inductive DpD (K : PySem.W.Frag) (H : Hp) : V → PyData → Prop
  | dp {v : V} {d : PyData} : Dp K H v d → SeqAt.shaped d = true → DpD K H v d
  | dct {a : Addr} {kvs : List (Key × V)} {ps : List PyData} : H a = some (.dK kvs) → DpAll K H (kvs.map (·.2)) ps → kvs.length = ps.length → (∀ v ∈ kvs.map (·.2), flatV v = true) → DpD K H (.ref a) (.dict ((kvs.map (·.1)).zip ps |>.map fun p => (kP p.1, p.2)))
theorem pure_flat : ∀ {d : D}, d.flat = true → d.pure = true := fun {d} h => by
  cases d <;> first | rfl | cases h
theorem pureA_flat : ∀ {ds : List D}, ds.all D.flat = true → D.pureA ds = true
  | [], _ => rfl
  | d :: ds, h => by
    rw [List.all_cons, Bool.and_eq_true] at h
    show (d.pure && D.pureA ds) = true
    rw [pure_flat h.1, pureA_flat h.2]
    rfl
theorem pyA_map : ∀ ds : List D, D.pyA ds = ds.map D.py
  | [] => rfl
  | d :: ds => by
    show d.py :: D.pyA ds = _
    rw [pyA_map ds]
    rfl
theorem flatV_of : ∀ {d : D}, d.flat = true → flatV d.v = true := fun {d} h => by
  cases d <;> first | rfl | cases h
theorem Tp.dpd {K : PySem.W.Frag} {mg : Str → Option Value} {S H : Hp} {d : D} {v : V} (sub : Same S H) (h : Tp K mg S H v d) (p : d.puq = true) : DpD K H v d.pyd := by
  have go : ∀ (e : d.pyd = d.py) (g : d.puq = gd d), DpD K H v d.pyd := fun e g => by
    rw [g] at p
    obtain ⟨p1, p2⟩ := depth_le p
    rw [e]
    exact .dp (h.dp sub p1) p2
  cases d with
  | dct ks ds =>
    have hf : ∃ a kvs, v = .ref a ∧ H a = some (.dK kvs) ∧ kvs.map (·.1) = ks ∧ RpA K mg H (kvs.map (·.2)) ds := by
      rcases h with h | ⟨a, ho, rfl, h2, h3⟩
      · cases h with | dct a b c r => exact ⟨_, _, rfl, sub _ _ a, b, by rw [c]; exact r.mono sub⟩
      · cases h3 with | dct b c r => exact ⟨_, _, rfl, h2, b, by rw [c]; exact r.mono sub⟩
    obtain ⟨a, kvs, rfl, h1, h2, h3⟩ := hf
    have p' : (decide (ks.length = ds.length) && ds.all D.flat) = true := p
    rw [Bool.and_eq_true] at p'
    have hl : ks.length = ds.length := of_decide_eq_true p'.1
    have hfl := h3.flat p'.2
    subst h2
    rw [List.length_map] at hl
    have := DpD.dct (K := K) h1 (RpA.dp h3 (pureA_flat p'.2)) (by rw [pyA_map, List.length_map]; exact hl) (by
      rw [hfl]
      intro v hv
      obtain ⟨d, hd, rfl⟩ := List.mem_map.mp hv
      exact flatV_of (List.all_eq_true.mp p'.2 d hd))
    rw [pyA_map, List.zip_map_right, List.map_map] at this
    exact this
  | _ => exact go rfl rfl
theorem readsAll_keys {P : Program} {w : World} {h : Heap} : ∀ {es : List DictEntry} {vs : List (Key × Value)}, PySem.Pairs (mixKind P w) es vs → ReadsAll h (es.map (·.key)) (vs.map fun p => kP p.1) []
  | [], vs, x => by cases x; exact .nil
  | e :: es, vs, x => by
    cases x with
    | @cons _ kv _ kvs hk hv t =>
      have e1 : Reads h e.key (kP kv.1) [] := by
        rcases keyIs_shape hk with ⟨i, u, e1, e2⟩ | ⟨x, u, e1, e2⟩
        · rw [e1, e2]; exact .int _ _
        · rw [e1, e2]; exact .str _ _
      exact .cons (as := []) (bs := []) e1 (readsAll_keys t)
theorem pairs_vals {P : Program} {w : World} : ∀ {es : List DictEntry} {vs : List (Key × Value)}, PySem.Pairs (mixKind P w) es vs → es.map (·.val) = vs.map (·.2)
  | [], vs, x => by cases x; rfl
  | e :: es, vs, x => by
    cases x with
    | @cons _ kv _ kvs hk hv t =>
      rw [List.map_cons, List.map_cons, pairs_vals t, hv]
theorem kv_split : ∀ {kvs : List (Key × V)} {vs : List (Key × Value)}, KV kvs vs → kvs.map (·.1) = vs.map (·.1) ∧ Vals (kvs.map (·.2)) (vs.map (·.2))
  | [], vs, x => by cases x; exact ⟨rfl, .nil⟩
  | p :: kvs, vs, x => by
    cases x with
    | cons h t =>
      obtain ⟨h1, h2⟩ := kv_split t
      exact ⟨by rw [List.map_cons, List.map_cons, h1, h.1], .cons h.2 h2⟩
theorem reads_flat {K : PySem.W.Frag} {H : Hp} {h : Heap} : ∀ {vs : List V} {ps : List PyData} {us : List Value}, DpAll K H vs ps → (∀ v ∈ vs, flatV v = true) → Vals vs us → ReadsAll h us ps []
  | [], _, _, x, _, r => by
    cases x
    cases r
    exact .nil
  | v :: vs, _, _, x, f, r => by
    cases x with
    | cons h1 h2 =>
      cases r with
      | @cons _ u _ us r1 r2 =>
        have f1 := f v List.mem_cons_self
        refine .cons (as := []) (bs := []) ?_ (reads_flat h2 (fun v hv => f v (List.mem_cons_of_mem _ hv)) r2)
        cases h1 with
        | non => cases r1; exact .none
        | bl b => cases r1; exact .bool b
        | int i => obtain ⟨t, rfl⟩ := r1; exact .int i t
        | str x => obtain ⟨t, rfl⟩ := r1; exact .str x t
        | lst _ _ => cases f1
        | tup _ _ => cases f1
theorem DpD.reads {pins : List (Addr × Obj)} {σ : L2.St} {H : Hp} {s : Shared} (I : Inv X pins σ H s) {v : V} {d : PyData} {u : Value} (h : DpD X.K H v d) (r : RelV v u) : ∃ as, Reads s.heap u d as ∧ (d.hasDict = true → sysModules ∉ as) := by
  cases h with
  | dp h1 h2 =>
    obtain ⟨as, hr⟩ := Dp.reads I _ _ _ h1 r
    refine ⟨as, hr, fun e => ?_⟩
    rw [PyData.hasDict_of_canLay d (SeqAt.canLay_of_shaped h2)] at e
    cases e
  | @dct a kvs ps h1 h2 h3 h4 =>
    cases r
    obtain ⟨_, hs, vs, kv, o, es, ep, ho, ⟨hc, _⟩, hd, _, hp, _⟩ := dk_of I.hok h1
    obtain ⟨k1, k2⟩ := kv_split kv
    have e1 := readsAll_keys (h := s.heap) hp
    have e2 := reads_flat (h := s.heap) h2 h4 k2
    rw [← pairs_vals hp] at e2
    have z1 : (((kvs.map (·.1)).zip ps).map fun p => (kP p.1, p.2)).map (·.1) = vs.map fun p => kP p.1 := by
      rw [List.map_map, show (vs.map fun p => kP p.1) = (vs.map (·.1)).map kP by rw [List.map_map]; rfl, ← k1]
      rw [show ((kvs.map (·.1)).zip ps).map ((fun x : PyData × PyData => x.1) ∘ fun p => (kP p.1, p.2)) = (((kvs.map (·.1)).zip ps).map Prod.fst).map kP by rw [List.map_map]; rfl]
      rw [List.map_fst_zip (by rw [List.length_map]; omega)]
    have z2 : (((kvs.map (·.1)).zip ps).map fun p => (kP p.1, p.2)).map (·.2) = ps := by
      rw [List.map_map]
      show ((kvs.map (·.1)).zip ps).map Prod.snd = ps
      rw [List.map_snd_zip (by rw [List.length_map]; omega)]
    rw [← z1] at e1
    refine ⟨_, .dict ho hc hd e1 (z2.symm ▸ e2), fun _ hm => ?_⟩
    have : sysModules = a := by simpa using hm
    subst this
    simp at hs
def fReprD (d : D) : Option D := if d.puq && d.pyd.showable && szRp d.pyd.shown.length && decide (d.pyd.depth ≤ 64) then some (.str d.pyd.shown) else none
def rReprD (K : PySem.W.Frag) : List V → Hp → VK → Prop := fun xs H Q => ∃ v d, xs = [v] ∧ DpD K H v d ∧ d.showable = true ∧ d.shown.length ≤ sizeLine ∧ d.depth ≤ 64 ∧ Q (.str d.shown) H
theorem cr_reprD (hg : X.A.guards = some []) (hu : X.A.units + 200 < cLine) : CallR X (.builtin "repr") (rReprD X.K) := by
  rintro pins s σ H vs us Q I r ⟨v, d, rfl, hd, hw, hz, hdep, q⟩
  obtain ⟨u, rfl, rv⟩ := vals1 r
  have fin : ∀ {t : Str} (e : d.shown = t) (tk : Nat) (u : Tok), EP X pins σ Q (.str t u) { s with toks := tk } := fun e tk u => ⟨.str d.shown, H, I.tok _, ⟨u, by rw [e]⟩, q⟩
  obtain ⟨as, rd, hsm⟩ := DpD.reads I hd rv
  have byRef : ∀ {a : Addr} {as : List Addr}, Reads s.heap (.ref a) d as → (d.hasDict = true → sysModules ∉ as) → wpAny (model X.prog X.w) X.A (call (.builtin "repr") [.ref a]) (EP X pins σ Q) X.xe s := fun {a as} rd hsm =>
    repr_of_reads' rd hw hsm hg (by omega) (fun _ _ e => e) (fun h' w' tk hk => ⟨.str d.shown, H, I.kept hk, ⟨w', rfl⟩, q⟩) hz
  cases rd with
  | none => exact PySem.P.repr_of_none (fin (by simp only [PyData.shown]) _ _)
  | bool b => exact PySem.P.repr_of_bool (fin (by simp only [PyData.shown]) _ _)
  | int i t => exact PySem.P.repr_of_int (by simpa [PyData.showable] using hw) (fin (by simp only [PyData.shown]) _ _)
  | str x t => exact PySem.P.repr_of_str (fin (by simp only [PyData.shown]) _ _) (by simpa only [PyData.shown] using hz)
  | list h1 h2 h3 h4 => exact byRef (.list h1 h2 h3 h4) hsm
  | tuple h1 h2 h3 h4 => exact byRef (.tuple h1 h2 h3 h4) hsm
  | dict h1 h2 h3 h4 h5 => exact byRef (.dict h1 h2 h3 h4 h5) hsm
theorem sv_reprD {k : Nat} {a : Expr} {m : M Rs} {p pos : Pos} (hr : Rm k X.A) (ha : SR X a m) (hm : X.mg "repr" = none) (hg : Gl X "repr" := by rfl) (he : starEach [a] X.env = (false, eval a X.env) :: starEach [] X.env := by rfl) : SV X (.Call (.Name "repr" p) [a] [] pos) (mG fReprD m) := fun W tk =>
  pe_imp (pe_callB (cr_reprD hr.2 hr.un) hg hm (by decide +kernel) (pa_cons (ha W tk) pa_nil he) (by decide) (by decide) he) (tm_g fun {S H x a d Q} sub t e q => by
    unfold fReprD at e
    split at e
    · rename_i hc
      simp only [Bool.and_eq_true, decide_eq_true_eq] at hc
      cases e
      exact ⟨x, _, rfl, t.dpd sub hc.1.1.1, hc.1.1.2, Nat.le_trans (of_decide_eq_true hc.1.2) (by decide), hc.2, q _ fun _ _ => .str _⟩
    · cases e)
end Z
end

section
set_option Elab.async false
set_option linter.all false
set_option maxRecDepth 100000
set_option autoImplicit false
/-! More methods of lists. -/
namespace Z
open PySem
open L2 hiding XE Takes CX passes_call takes_of passAt PMk MkP ps_raise mk_of ps_try_as ps_try_many pmk_own XE.of_call XE.new XE.leave Takes.imp Sky.land
open L2N (Takes CX takes_of passAt PMk MkP ps_raise)
variable {X : Cx}
def fIndex (y : D) (ds : List D) : Option (D × List D) := if y.flat && ds.all D.flat && flatV y.v && (ds.map D.v).all flatV then ((ds.map D.v).findIdx? fun z => eqV z y.v).bind fun k => some (.int (k : Nat), ds) else none
theorem upd_same_self {H : Hp} {a : Addr} {o : HO} (h : H a = some o) : upd H a o = H := by
  funext b
  by_cases e : b = a
  · subst e
    rw [h]
    exact upd_same
  · exact upd_ne e
section
variable {e : Expr} {x : Str} {p1 p2 pos : Pos} {j : Nat} {m : M D}
theorem sv_index (hv : PE X (.Name x p1) (tVar j)) (he : SV X e m) (hbase : attributeBase (.Name x p1) "index" X.env (eval (.Name x p1) X.env) = eval (.Name x p1) X.env := by rfl)
    (hfew : ((backTo pos (starEach (e :: []) X.env)).all (fun x => !x.1) && (backToKw pos (keywordEach [] X.env)).all (fun x => x.1.isSome) && decide ((e :: []).length + ([] : List Keyword).length + (if ([] : List Keyword).isEmpty then 0 else 1) < 30)) = true := by rfl)
    (hline : (p2.endLine == pos.line) = true := by rfl) (hs : starEach (e :: []) X.env = (false, eval e X.env) :: starEach [] X.env := by rfl) : SV X (.Call (.Attribute (.Name x p1) "index" p2) [e] [] pos) (mM1 j fIndex m) := fun W tk =>
  pe_imp (pe_bm PySem.F.plainAttrs_list PySem.F.slot_list_index PySem.F.type_list_index mt_index hv (pa_cons (he W tk) pa_nil hs) hbase hfew hline hs) (tm_m1 fun {S H a vs ds ds' x y o Q} h1 h2 h3 h4 q => by
    unfold fIndex at h4
    split at h4
    · rename_i hc
      simp only [Bool.and_eq_true] at hc
      cases hf : (ds.map D.v).findIdx? fun z => eqV z y.v with
      | none => rw [hf] at h4; cases h4
      | some k =>
        rw [hf] at h4
        cases h4
        have e1 := h2.flat hc.1.1.2
        have e2 := h3.flat hc.1.1.1
        subst e1 e2
        obtain ⟨hk, h5, h6⟩ := List.findIdx?_eq_some_iff_getElem.mp hf
        have q2 := q _ h2 _ (.int (k : Nat))
        rw [upd_same_self h1] at q2
        refine ⟨a, _, _, k, (ds.map D.v)[k], rfl, rfl, .of h1, hc.1.2, hc.2, List.getElem?_eq_getElem hk, h5, fun m z hm hz => ?_, q2⟩
        obtain ⟨hm2, rfl⟩ := List.getElem?_eq_some_iff.mp hz
        simpa using h6 m hm
    · cases h4)
end
end Z
end

section
set_option Elab.async false
set_option linter.all false
set_option maxRecDepth 100000
set_option autoImplicit false
/-! Data: what may be compared and shown; == of equal things; loops as folds. -/
namespace Zb
open PySem L2 Z
/-! ### depth -/
def Gk (k : Nat) (d : D) : Prop := d.pure = true ∧ d.py.canLay0 = true ∧ d.py.depth ≤ k
theorem Gk.mono {k l : Nat} {d : D} (h : Gk k d) (hl : k ≤ l) : Gk l d := ⟨h.1, h.2.1, Nat.le_trans h.2.2 hl⟩
theorem Gk.gd {k : Nat} {d : D} (h : Gk k d) (hk : k ≤ 64) : gd d = true := by
  unfold Z.gd SeqAt.shaped
  rw [h.1, h.2.1, decide_eq_true (Nat.le_trans h.2.2 hk)]
  rfl
theorem gk_int (i : Int) : Gk 0 (.int i) := ⟨rfl, by simp only [D.py, PyData.canLay0], Nat.le_of_eq (by simp only [D.py, PyData.depth])⟩
theorem gk_bl (b : Bool) : Gk 0 (.bl b) := ⟨rfl, by simp only [D.py, PyData.canLay0], Nat.le_of_eq (by simp only [D.py, PyData.depth])⟩
theorem gk_non : Gk 0 .non := ⟨rfl, by simp only [D.py, PyData.canLay0], Nat.le_of_eq (by simp only [D.py, PyData.depth])⟩
theorem gk_str {s : Str} (h : PyData.strOk s = true) : Gk 0 (.str s) := ⟨rfl, by simp only [D.py, PyData.canLay0]; exact h, Nat.le_of_eq (by simp only [D.py, PyData.depth])⟩
theorem gk_all {k : Nat} : ∀ {ds : List D}, (∀ d ∈ ds, Gk k d) → D.pureA ds = true ∧ PyData.canLayAll0 (D.pyA ds) = true ∧ PyData.depthAll (D.pyA ds) ≤ k
  | [], _ => ⟨rfl, by simp only [D.pyA, PyData.canLayAll0], by simp only [D.pyA, PyData.depthAll]; exact Nat.zero_le _⟩
  | d :: ds, h => by
    obtain ⟨h1, h2, h3⟩ := gk_all (ds := ds) fun x hx => h x (List.mem_cons_of_mem _ hx)
    obtain ⟨k1, k2, k3⟩ := h d List.mem_cons_self
    refine ⟨?_, ?_, ?_⟩
    · simp only [D.pureA, k1, h1, Bool.and_self]
    · simp only [D.pyA, PyData.canLayAll0, k2, h2, Bool.and_self]
    · simp only [D.pyA, PyData.depthAll]
      omega
theorem gk_lst {k : Nat} {ds : List D} (h : ∀ d ∈ ds, Gk k d) : Gk (k + 1) (.lst ds) := by
  obtain ⟨h1, h2, h3⟩ := gk_all h
  exact ⟨by simp only [D.pure, h1], by simp only [D.py, PyData.canLay0, h2], by simp only [D.py, PyData.depth]; omega⟩
theorem gk_tup {k : Nat} {ds : List D} (h : ∀ d ∈ ds, Gk k d) : Gk (k + 1) (.tup ds) := by
  obtain ⟨h1, h2, h3⟩ := gk_all h
  exact ⟨by simp only [D.pure, h1], by simp only [D.py, PyData.canLay0, h2], by simp only [D.py, PyData.depth]; omega⟩
theorem gk_mapI {α : Type} {k : Nat} (f : α → D) (l : List α) (h : ∀ x ∈ l, Gk k (f x)) : ∀ d ∈ l.map f, Gk k d := fun d hd => by
  obtain ⟨x, hx, rfl⟩ := List.mem_map.mp hd
  exact h x hx
/-! ### == -/
theorem fEq_gk {k l : Nat} {a b : D} (ha : Gk k a) (hb : Gk l b) (hk : k ≤ 64) (hl : l ≤ 64) : fEq a b = some (.bl (PyData.eqv a.py b.py)) := by
  unfold fEq
  rw [ha.gd hk, hb.gd hl]
  rfl
theorem fNe_gk {k l : Nat} {a b : D} (ha : Gk k a) (hb : Gk l b) (hk : k ≤ 64) (hl : l ≤ 64) : fNe a b = some (.bl (!PyData.eqv a.py b.py)) := by
  unfold fNe
  rw [ha.gd hk, hb.gd hl]
  rfl
theorem fEq_self {k : Nat} {a : D} (ha : Gk k a) (hk : k ≤ 64) : fEq a a = some (.bl true) := by
  rw [fEq_gk ha ha hk hk, SeqAt.eqv_refl _ ha.2.1]
theorem fNe_self {k : Nat} {a : D} (ha : Gk k a) (hk : k ≤ 64) : fNe a a = some (.bl false) := by
  rw [fNe_gk ha ha hk hk, SeqAt.eqv_refl _ ha.2.1]
  rfl
theorem fEq_int (i j : Int) : fEq (.int i) (.int j) = some (.bl (decide (i = j))) := by
  rw [fEq_gk (gk_int i) (gk_int j) (by decide) (by decide)]
  simp only [D.py, PyData.eqv]
  congr 2
theorem fNe_int (i j : Int) : fNe (.int i) (.int j) = some (.bl (!decide (i = j))) := by
  rw [fNe_gk (gk_int i) (gk_int j) (by decide) (by decide)]
  simp only [D.py, PyData.eqv]
  congr 2
theorem eqv_ints : ∀ a b : List Int, PyData.eqvAll (D.pyA (a.map .int)) (D.pyA (b.map .int)) = decide (a = b)
  | [], [] => by simp [D.pyA, PyData.eqvAll]
  | [], y :: b => by simp [D.pyA, PyData.eqvAll]
  | x :: a, [] => by simp [D.pyA, PyData.eqvAll]
  | x :: a, y :: b => by
    simp only [List.map_cons, D.pyA, D.py, PyData.eqvAll, PyData.eqv, eqv_ints a b, List.cons.injEq, Bool.decide_and]
    congr 1
theorem gk_ints (a : List Int) : ∀ d ∈ a.map D.int, Gk 0 d := gk_mapI _ _ fun x _ => gk_int x
theorem fEq_lints (a b : List Int) : fEq (.lst (a.map .int)) (.lst (b.map .int)) = some (.bl (decide (a = b))) := by
  rw [fEq_gk (gk_lst (gk_ints a)) (gk_lst (gk_ints b)) (by decide) (by decide)]
  simp only [D.py, PyData.eqv, eqv_ints]
theorem fNe_lints (a b : List Int) : fNe (.lst (a.map .int)) (.lst (b.map .int)) = some (.bl (!decide (a = b))) := by
  rw [fNe_gk (gk_lst (gk_ints a)) (gk_lst (gk_ints b)) (by decide) (by decide)]
  simp only [D.py, PyData.eqv, eqv_ints]
/-! ### texts that repr makes -/
def Sm (n : Nat) (s : Str) : Prop := s.length ≤ n ∧ PyData.strOk s = true
theorem Sm.mono {n m : Nat} {s : Str} (h : Sm n s) (hm : n ≤ m) : Sm m s := ⟨Nat.le_trans h.1 hm, h.2⟩
theorem sm_app {n m : Nat} {s t : Str} (hs : Sm n s) (ht : Sm m t) : Sm (n + m) (s ++ t) := by
  refine ⟨?_, ?_⟩
  · rw [show (s ++ t).length = s.length + t.length from PySem.Str.length_append s t]
    exact Nat.add_le_add hs.1 ht.1
  · have h1 := hs.2
    have h2 := ht.2
    unfold PyData.strOk at *
    rw [show (s ++ t).cps = s.cps ++ t.cps from rfl, Array.all_append, h1, h2]
    rfl
theorem sm_lit {s : Str} {n : Nat} (h : (decide (s.length ≤ n) && PyData.strOk s) = true) : Sm n s := by
  simp only [Bool.and_eq_true, decide_eq_true_eq] at h
  exact h
theorem sm_join {n : Nat} : ∀ ts : List Str, (∀ t ∈ ts, Sm n t) → Sm ((n + 2) * ts.length) (Str.join ", " ts)
  | [], _ => (sm_lit (n := 0) (s := Str.join ", " []) (by decide +kernel)).mono (Nat.zero_le _)
  | [x], h => (h x List.mem_cons_self).mono (by show n ≤ (n + 2) * 1; omega)
  | x :: y :: r, h => by
    have ih := sm_join (y :: r) fun t ht => h t (List.mem_cons_of_mem _ ht)
    show Sm _ (x ++ ", " ++ Str.join ", " (y :: r))
    refine (sm_app (sm_app (h x List.mem_cons_self) (sm_lit (n := 2) (by decide +kernel))) ih).mono ?_
    simp only [List.length_cons, Nat.mul_add, Nat.add_mul]
    omega
theorem sm_tuple {n : Nat} {ts : List Str} (h : ∀ t ∈ ts, Sm n t) : Sm ((n + 2) * ts.length + 3) (tupleText ts) := by
  unfold tupleText
  refine (sm_app (sm_app (sm_lit (n := 1) (by decide +kernel)) (sm_join ts h)) (?_ : Sm 2 _)).mono (by omega)
  by_cases e : (ts.length == 1) = true
  · rw [if_pos e]
    exact sm_lit (by decide +kernel)
  · rw [if_neg e]
    exact sm_lit (by decide +kernel)
def Sh (n : Nat) (d : D) : Prop := Sm n d.py.shown ∧ d.py.showable = true
theorem Sh.mono {n m : Nat} {d : D} (h : Sh n d) (hm : n ≤ m) : Sh m d := ⟨h.1.mono hm, h.2⟩
theorem sh_all {n : Nat} : ∀ {ds : List D}, (∀ d ∈ ds, Sh n d) → (∀ t ∈ PyData.shownAll (D.pyA ds), Sm n t) ∧ PyData.showableAll (D.pyA ds) = true ∧ (PyData.shownAll (D.pyA ds)).length = ds.length
  | [], _ => by
    simp only [D.pyA, PyData.shownAll, PyData.showableAll]
    exact ⟨fun _ h => (nomatch h), trivial, rfl⟩
  | d :: ds, h => by
    obtain ⟨h1, h2, h3⟩ := sh_all (ds := ds) fun x hx => h x (List.mem_cons_of_mem _ hx)
    obtain ⟨k1, k2⟩ := h d List.mem_cons_self
    simp only [D.pyA, PyData.shownAll, PyData.showableAll, k2, h2, Bool.and_self, List.length_cons, h3, true_and, and_true]
    intro t ht
    rcases List.mem_cons.mp ht with rfl | ht
    · exact k1
    · exact h1 t ht
theorem sh_tup {n : Nat} {ds : List D} (h : ∀ d ∈ ds, Sh n d) : Sh ((n + 2) * ds.length + 3) (.tup ds) := by
  obtain ⟨h1, h2, h3⟩ := sh_all h
  refine ⟨?_, ?_⟩
  · simp only [D.py, PyData.shown]
    rw [← h3]
    exact sm_tuple h1
  · simp only [D.py, PyData.showable, h2]
theorem sh_nat : ∀ i : Nat, i < 1000 → Sh 3 (.int (i : Nat)) := by
  have key : ((List.range 1000).all fun i => decide ((PyData.int (i : Nat)).shown.length ≤ 3) && PyData.strOk (PyData.int (i : Nat)).shown && (PyData.int (i : Nat)).showable) = true := by decide +kernel
  intro i hi
  have := List.all_eq_true.mp key i (List.mem_range.mpr hi)
  simp only [Bool.and_eq_true, decide_eq_true_eq] at this
  exact ⟨⟨this.1.1, this.1.2⟩, this.2⟩
theorem fRepr_of {n k : Nat} {d : D} (h : Sh n d) (hn : n ≤ 1000000) (hg : Gk k d) (hk : k ≤ 64) : fRepr d = some (.str d.py.shown) ∧ Gk 0 (.str d.py.shown) := by
  refine ⟨?_, gk_str h.1.2⟩
  unfold fRepr szRp
  rw [hg.gd hk, h.2, decide_eq_true (Nat.le_trans h.1.1 hn)]
  rfl
theorem sz0 : szOk 0 = true := rfl
theorem sz1 : szOk 1 = true := rfl
theorem sz2 : szOk 2 = true := rfl
theorem sz3 : szOk 3 = true := rfl
theorem sz4 : szOk 4 = true := rfl
theorem sz5 : szOk 5 = true := rfl
theorem sz6 : szOk 6 = true := rfl
theorem sz7 : szOk 7 = true := rfl
theorem sz8 : szOk 8 = true := rfl
theorem sz9 : szOk 9 = true := rfl
theorem sz_of {n : Nat} (h : n ≤ 1000000) : szOk n = true := decide_eq_true h
end Zb
end

section
set_option Elab.async false
set_option linter.all false
set_option maxRecDepth 100000
set_option maxHeartbeats 4000000
namespace Za
open PySem L2 Z Zb
/-! The law's own draws (the same in all laws). -/
def m__law_draw : MS := (mSeq (mIfS (mTst (mOp fGt (mIx (mPeek 0) (M.ret (.int 2))) (M.ret (.int 0)))) (mSeq (mSet 5 (mR (mOp fMod (mU fInt (mIx (mPeek 0) (M.ret (.int 2)))) (mVar 1))))
    (mSeq (mSetIx 0 (mOp fDiv (mU fInt (mIx (mPeek 0) (M.ret (.int 2)))) (mVar 1)) (M.ret (.int 2)))
    (mRet (mTake 5)))) mNext)
    (mSeq (mSet 2 (mR (mIx (mPeek 0) (M.ret (.int 1)))))
    (mSeq (mSetIx 0 (mOp fAdd (mVar 2) (M.ret (.int 1))) (M.ret (.int 1)))
    (mSeq (mSet 3 (mR (mOp fAdd (mOp fMul (M.ret (.int 61403)) (mVar 2)) (M.ret (.int 5011)))))
    (mSeq (mIfS (mTst (mRd2 fNe (mR (mIx (mPeek 0) (M.ret (.int 0)))) (mLst mNil))) (mSet 3 (mR (mIx (mR (mIx (mPeek 0) (M.ret (.int 0)))) (mOp fMod (mU fInt (mVar 2)) (mG fLen (mR (mIx (mPeek 0) (M.ret (.int 0))))))))) mNext)
    (mSeq (mIfS (mAnd (mTst (mOp fLt (mVar 2) (mG fLen (mR (mIx (mPeek 0) (M.ret (.int 0))))))) (mTst (mOp fGe (mU fAbs (mVar 3)) (mOp fPow (M.ret (.int 10)) (M.ret (.int 18)))))) (mSeq (mSet 6 (mR (mOp fAdd (mOp fMul (M.ret (.int 2)) (mOp fSub (mU fAbs (mVar 3)) (mOp fPow (M.ret (.int 10)) (M.ret (.int 18))))) (mU fInt (mOp fLt (mVar 3) (M.ret (.int 0)))))))
    (mSeq (mSetIx 0 (mOp fDiv (mU fInt (mVar 6)) (mVar 1)) (M.ret (.int 2)))
    (mRet (mR (mOp fMod (mU fInt (mVar 6)) (mVar 1)))))) mNext)
    (mSeq (mSet 4 (mR (mOp fMod (mU fInt (mOp fPow (mOp fAdd (mOp fAdd (mOp fMod (mU fInt (mVar 3)) (M.ret (.int 2147483563))) (mOp fMul (M.ret (.int 61403)) (mVar 2))) (M.ret (.int 5011))) (M.ret (.int 5)))) (M.ret (.int 2147483629)))))
    (mSeq (mSet 4 (mR (mOp fMod (mU fInt (mOp fPow (mOp fAdd (mOp fAdd (mOp fMul (mVar 4) (mOp fAdd (mOp fMul (M.ret (.int 2)) (mVar 2)) (M.ret (.int 857)))) (mOp fMul (mOp fMul (M.ret (.int 51001)) (mVar 2)) (mVar 2))) (M.ret (.int 5011))) (M.ret (.int 3)))) (M.ret (.int 2147483587)))))
    (mRet (mR (mOp fMod (mU fInt (mOp fDiv (mVar 4) (M.ret (.int 32)))) (mVar 1))))))))))))
def F__law_draw : DF := mkF 2 7 m__law_draw
/-- a pen: the script's numbers, how many draws, what is left of a great one -/
def pen (ns : List Int) (t g : Int) : D := .lst [.lst (ns.map .int), .int t, .int g]
theorem at3_0 {a b c : D} : L2.atI [a, b, c] 0 = some a := rfl
theorem at3_1 {a b c : D} : L2.atI [a, b, c] 1 = some b := rfl
theorem at3_2 {a b c : D} : L2.atI [a, b, c] 2 = some c := rfl
theorem ix3_1 : ixN 3 1 = some 1 := rfl
theorem ix3_2 : ixN 3 2 = some 2 := rfl
theorem draw_great {ns : List Int} {t g m : Int} (hg : 0 < g) (hm : 0 < m) (hm2 : m < 1000) : F__law_draw [.io (pen ns t g), .v (.int m)] = some (.rt (.v (.int (g.fmod m))) (some (pen ns t (g.fdiv m)))) := by
  have h1 : decide (0 < g) = true := decide_eq_true hg
  have h2 : cMod g m = true := decide_eq_true (by omega)
  have h3 : cDiv g m = true := by
    unfold cDiv
    simp only [Bool.and_eq_true, decide_eq_true_eq]
    omega
  simp only [F__law_draw, mkF, m__law_draw, pen, mSeq, mIfS, mThen, mTst, mOp, mIx, mPeek, mVar, mTake, mSet, mSetIx, mRet, mR, mV, mU, mG, mN, mRd2, mOpN, mAnd, mOr, mNot, mAndV, mOrV, mNotV, mIf, mNil, mCons, mTup, mLst, mPart, mSl, mPar, mPair, mDrop, mM1, mM0, mHere, M.chg, M.bind, M.ret, M.of, Ar.sl, Rs.get, Rs.sl, fIx, fI, fI0, fInt, fLen, setSl, isIo, isL, chg, onL, fSetIx, fApp, Sl.mut, Sl.upd, ioC, ioIx, env0, runF, mCall, rsv, wb, axIx, noIoA, xNil, xV, xSl, mIt, mListRg, mTupRg, fRg, List.length_cons, List.length_nil, List.map_cons, List.map_nil, List.cons_append, List.nil_append, List.replicate_succ, List.replicate_zero, List.append_nil, Nat.reduceAdd, Nat.reduceSub, List.getElem?_cons_zero, List.getElem?_cons_succ, List.getElem?_nil, List.set_cons_zero, List.set_cons_succ, Option.bind_some, Option.bind_none, Option.map_some, Option.map_none, Nat.reduceLT, Nat.reduceEqDiff, Nat.reduceLeDiff, decide_true, decide_false, Bool.and_true, Bool.true_and, Bool.and_false, Bool.false_and, Bool.not_true, Bool.not_false, ↓reduceIte, reduceCtorEq, Bool.false_eq_true, List.length_map, Nat.lt_add_left_iff_pos, Nat.zero_lt_succ, Nat.add_eq, Nat.zero_add, Nat.add_zero, Nat.zero_le, sz0, sz1, sz2, sz3, sz4, sz5, sz6, sz7, sz8, sz9, h1, h2, h3, at3_0, at3_1, at3_2, ix3_1, ix3_2]
theorem mod_lt {a m : Int} (hm : 0 < m) : 0 ≤ a.fmod m ∧ a.fmod m < m := by
  rw [Int.fmod_eq_emod_of_nonneg _ (Int.le_of_lt hm)]
  exact ⟨Int.emod_nonneg _ (by omega), Int.emod_lt_of_pos _ hm⟩
theorem div_nn {a m : Int} (ha : 0 ≤ a) (hm : 0 < m) : 0 ≤ a.fdiv m := by
  rw [Int.fdiv_eq_ediv_of_nonneg _ (Int.le_of_lt hm)]
  exact Int.ediv_nonneg ha (Int.le_of_lt hm)
/-- the end of a draw, where the cell is c -/
theorem draw_rest {ns : List Int} {t m c : Int} (h0 : 0 ≤ t) (ht : t ≤ 1000000) (hm : 0 < m) (hm2 : m < 1000)
    (hc : (ns = [] ∧ c = 61403 * t + 5011) ∨ (ns ≠ [] ∧ L2.atI (ns.map D.int) (t.fmod (ns.length : Int)) = some (.int c))) :
    ∃ r t' g', 0 ≤ r ∧ r < m ∧ t ≤ t' ∧ t' ≤ t + 1 ∧ 0 ≤ g' ∧ F__law_draw [.io (pen ns t 0), .v (.int m)] = some (.rt (.v (.int r)) (some (pen ns t' g'))) := by
  have h2 : ∀ x, cMod x m = true := fun x => decide_eq_true (by omega)
  have h3 : ∀ x, cDiv x m = true := fun x => by
    unfold cDiv
    simp only [Bool.and_eq_true, decide_eq_true_eq]
    omega
  have h4 : ∀ x, cMul 61403 x = true := fun x => by
    unfold cMul
    rw [show decide ((61403 : Int).natAbs < 2 ^ 64) = true by decide]
    rfl
  have h4b : ∀ x, cMul 2 x = true := fun x => by
    unfold cMul
    rw [show decide ((2 : Int).natAbs < 2 ^ 64) = true by decide]
    rfl
  have h4c : ∀ x, cMul 51001 x = true := fun x => by
    unfold cMul
    rw [show decide ((51001 : Int).natAbs < 2 ^ 64) = true by decide]
    rfl
  have h5 : cPow 10 18 = true := by decide
  have hz : decide ((0 : Int) < 0) = false := rfl
  have e1 : fNe (.lst (ns.map .int)) (.lst []) = some (.bl (!decide (ns = []))) := fNe_lints ns []
  by_cases hb : t < (ns.length : Int) ∧ 10 ^ 18 ≤ (if c < 0 then -c else c)
  · obtain ⟨hb1, hb2⟩ := hb
    have hn : ns ≠ [] := fun e => by
      subst e
      simp at hb1
      omega
    have ha : L2.atI (ns.map D.int) (t.fmod (ns.length : Int)) = some (.int c) := by
      rcases hc with ⟨e, _⟩ | ⟨_, e⟩
      · exact absurd e hn
      · exact e
    have h6 : cMod t (ns.length : Int) = true := decide_eq_true (by
      have := List.length_pos_iff.mpr hn
      omega)
    have d1 : decide (t < (ns.length : Int)) = true := decide_eq_true hb1
    have d2 : decide ((10 : Int) ^ 18 ≤ (if c < 0 then -c else c)) = true := decide_eq_true hb2
    have d3 : decide (ns = []) = false := decide_eq_false hn
    have gn : 0 ≤ 2 * ((if c < 0 then -c else c) - 10 ^ 18) + (if decide (c < 0) = true then 1 else 0) := by
      split <;> split <;> omega
    have e18 : (10 : Int) ^ (18 : Int).toNat = 10 ^ 18 := rfl
    refine ⟨(2 * ((if c < 0 then -c else c) - 10 ^ 18) + (if decide (c < 0) = true then 1 else 0)).fmod m, t + 1, (2 * ((if c < 0 then -c else c) - 10 ^ 18) + (if decide (c < 0) = true then 1 else 0)).fdiv m, (mod_lt hm).1, (mod_lt hm).2, by omega, by omega, div_nn gn hm, ?_⟩
    simp only [F__law_draw, mkF, m__law_draw, pen, mSeq, mIfS, mThen, mTst, mOp, mIx, mPeek, mVar, mTake, mSet, mSetIx, mRet, mR, mV, mU, mG, mN, mRd2, mOpN, mAnd, mOr, mNot, mAndV, mOrV, mNotV, mIf, mNil, mCons, mTup, mLst, mPart, mSl, mPar, mPair, mDrop, mM1, mM0, mHere, M.chg, M.bind, M.ret, M.of, Ar.sl, Rs.get, Rs.sl, fIx, fI, fI0, fInt, fLen, setSl, isIo, isL, chg, onL, fSetIx, fApp, Sl.mut, Sl.upd, ioC, ioIx, env0, runF, mCall, rsv, wb, axIx, noIoA, xNil, xV, xSl, mIt, mListRg, mTupRg, fRg, List.length_cons, List.length_nil, List.map_cons, List.map_nil, List.cons_append, List.nil_append, List.replicate_succ, List.replicate_zero, List.append_nil, Nat.reduceAdd, Nat.reduceSub, List.getElem?_cons_zero, List.getElem?_cons_succ, List.getElem?_nil, List.set_cons_zero, List.set_cons_succ, Option.bind_some, Option.bind_none, Option.map_some, Option.map_none, Nat.reduceLT, Nat.reduceEqDiff, Nat.reduceLeDiff, decide_true, decide_false, Bool.and_true, Bool.true_and, Bool.and_false, Bool.false_and, Bool.not_true, Bool.not_false, ↓reduceIte, reduceCtorEq, Bool.false_eq_true, List.length_map, Nat.lt_add_left_iff_pos, Nat.zero_lt_succ, Nat.add_eq, Nat.zero_add, Nat.add_zero, Nat.zero_le, sz0, sz1, sz2, sz3, sz4, sz5, sz6, sz7, sz8, sz9, fAbs, hz, h2, h3, h4, h4b, h5, h6, e1, ha, d1, d2, d3, e18, at3_0, at3_1, at3_2, ix3_1, ix3_2]
  · have hx : 0 ≤ c.fmod 2147483563 ∧ c.fmod 2147483563 < 2147483563 := mod_lt (by omega)
    have h7 : cPow (c.fmod 2147483563 + 61403 * t + 5011) 5 = true := by
      unfold cPow
      simp only [Bool.and_eq_true, decide_eq_true_eq]
      omega
    have hM := mod_lt (a := (c.fmod 2147483563 + 61403 * t + 5011) ^ (5 : Int).toNat) (m := 2147483629) (by omega)
    generalize hM1 : ((c.fmod 2147483563 + 61403 * t + 5011) ^ (5 : Int).toNat).fmod 2147483629 = M1 at hM
    have h8 : cMul M1 (2 * t + 857) = true := by
      unfold cMul
      rw [decide_eq_true (show M1.natAbs < 2 ^ 64 by omega)]
      rfl
    have h9 : cMul (51001 * t) t = true := by
      unfold cMul
      rw [decide_eq_true (show t.natAbs < 2 ^ 64 by omega), Bool.or_true]
    have q1 : 0 ≤ M1 * (2 * t + 857) ∧ M1 * (2 * t + 857) ≤ 2147483629 * (2 * 1000000 + 857) := ⟨Int.mul_nonneg hM.1 (by omega), Int.mul_le_mul (by omega) (by omega) (by omega) (by omega)⟩
    have q2 : 0 ≤ 51001 * t * t ∧ 51001 * t * t ≤ 51001 * 1000000 * 1000000 := ⟨Int.mul_nonneg (by omega) h0, Int.mul_le_mul (by omega) ht h0 (by omega)⟩
    have h10 : cPow (M1 * (2 * t + 857) + 51001 * t * t + 5011) 3 = true := by
      unfold cPow
      simp only [Bool.and_eq_true, decide_eq_true_eq]
      generalize M1 * (2 * t + 857) = u at q1
      generalize 51001 * t * t = v at q2
      omega
    refine ⟨((((M1 * (2 * t + 857) + 51001 * t * t + 5011) ^ (3 : Int).toNat).fmod 2147483587).fdiv 32).fmod m, t + 1, 0, (mod_lt hm).1, (mod_lt hm).2, by omega, by omega, by omega, ?_⟩
    have h11 : ∀ x, cMod x 2147483563 = true := fun x => rfl
    have h12 : ∀ x, cMod x 2147483629 = true := fun x => rfl
    have h13 : ∀ x, cMod x 2147483587 = true := fun x => rfl
    have h14 : ∀ x, cDiv x 32 = true := fun x => rfl
    have hb' : (decide (t < (ns.length : Int)) && decide ((10 : Int) ^ (18 : Int).toNat ≤ (if c < 0 then -c else c))) = false := by
      rw [← Bool.decide_and]
      exact decide_eq_false hb
    by_cases hn : ns = []
    · have ec : c = 61403 * t + 5011 := by
        rcases hc with ⟨_, e⟩ | ⟨e, _⟩
        · exact e
        · exact absurd hn e
      have d1 : decide (t < (ns.length : Int)) = false := decide_eq_false (by
        subst hn
        simp
        exact h0)
      have d3 : decide (ns = []) = true := decide_eq_true hn
      subst ec
      simp only [F__law_draw, mkF, m__law_draw, pen, mSeq, mIfS, mThen, mTst, mOp, mIx, mPeek, mVar, mTake, mSet, mSetIx, mRet, mR, mV, mU, mG, mN, mRd2, mOpN, mAnd, mOr, mNot, mAndV, mOrV, mNotV, mIf, mNil, mCons, mTup, mLst, mPart, mSl, mPar, mPair, mDrop, mM1, mM0, mHere, M.chg, M.bind, M.ret, M.of, Ar.sl, Rs.get, Rs.sl, fIx, fI, fI0, fInt, fLen, setSl, isIo, isL, chg, onL, fSetIx, fApp, Sl.mut, Sl.upd, ioC, ioIx, env0, runF, mCall, rsv, wb, axIx, noIoA, xNil, xV, xSl, mIt, mListRg, mTupRg, fRg, List.length_cons, List.length_nil, List.map_cons, List.map_nil, List.cons_append, List.nil_append, List.replicate_succ, List.replicate_zero, List.append_nil, Nat.reduceAdd, Nat.reduceSub, List.getElem?_cons_zero, List.getElem?_cons_succ, List.getElem?_nil, List.set_cons_zero, List.set_cons_succ, Option.bind_some, Option.bind_none, Option.map_some, Option.map_none, Nat.reduceLT, Nat.reduceEqDiff, Nat.reduceLeDiff, decide_true, decide_false, Bool.and_true, Bool.true_and, Bool.and_false, Bool.false_and, Bool.not_true, Bool.not_false, ↓reduceIte, reduceCtorEq, Bool.false_eq_true, List.length_map, Nat.lt_add_left_iff_pos, Nat.zero_lt_succ, Nat.add_eq, Nat.zero_add, Nat.add_zero, Nat.zero_le, sz0, sz1, sz2, sz3, sz4, sz5, sz6, sz7, sz8, sz9, fAbs, hz, h2, h3, h4, h4b, h4c, h5, e1, d1, d3, hM1, h7, h8, h9, h10, h11, h12, h13, h14, at3_0, at3_1, at3_2, ix3_1, ix3_2]
    · have ha : L2.atI (ns.map D.int) (t.fmod (ns.length : Int)) = some (.int c) := by
        rcases hc with ⟨e, _⟩ | ⟨_, e⟩
        · exact absurd e hn
        · exact e
      have h6 : cMod t (ns.length : Int) = true := decide_eq_true (by
        have := List.length_pos_iff.mpr hn
        omega)
      have d3 : decide (ns = []) = false := decide_eq_false hn
      cases d1 : decide (t < (ns.length : Int)) with
      | false =>
        simp only [F__law_draw, mkF, m__law_draw, pen, mSeq, mIfS, mThen, mTst, mOp, mIx, mPeek, mVar, mTake, mSet, mSetIx, mRet, mR, mV, mU, mG, mN, mRd2, mOpN, mAnd, mOr, mNot, mAndV, mOrV, mNotV, mIf, mNil, mCons, mTup, mLst, mPart, mSl, mPar, mPair, mDrop, mM1, mM0, mHere, M.chg, M.bind, M.ret, M.of, Ar.sl, Rs.get, Rs.sl, fIx, fI, fI0, fInt, fLen, setSl, isIo, isL, chg, onL, fSetIx, fApp, Sl.mut, Sl.upd, ioC, ioIx, env0, runF, mCall, rsv, wb, axIx, noIoA, xNil, xV, xSl, mIt, mListRg, mTupRg, fRg, List.length_cons, List.length_nil, List.map_cons, List.map_nil, List.cons_append, List.nil_append, List.replicate_succ, List.replicate_zero, List.append_nil, Nat.reduceAdd, Nat.reduceSub, List.getElem?_cons_zero, List.getElem?_cons_succ, List.getElem?_nil, List.set_cons_zero, List.set_cons_succ, Option.bind_some, Option.bind_none, Option.map_some, Option.map_none, Nat.reduceLT, Nat.reduceEqDiff, Nat.reduceLeDiff, decide_true, decide_false, Bool.and_true, Bool.true_and, Bool.and_false, Bool.false_and, Bool.not_true, Bool.not_false, ↓reduceIte, reduceCtorEq, Bool.false_eq_true, List.length_map, Nat.lt_add_left_iff_pos, Nat.zero_lt_succ, Nat.add_eq, Nat.zero_add, Nat.add_zero, Nat.zero_le, sz0, sz1, sz2, sz3, sz4, sz5, sz6, sz7, sz8, sz9, fAbs, hz, h2, h3, h4, h4b, h4c, h5, h6, ha, e1, d1, d3, hM1, h7, h8, h9, h10, h11, h12, h13, h14, at3_0, at3_1, at3_2, ix3_1, ix3_2]
      | true =>
        rw [d1, Bool.true_and] at hb'
        simp only [F__law_draw, mkF, m__law_draw, pen, mSeq, mIfS, mThen, mTst, mOp, mIx, mPeek, mVar, mTake, mSet, mSetIx, mRet, mR, mV, mU, mG, mN, mRd2, mOpN, mAnd, mOr, mNot, mAndV, mOrV, mNotV, mIf, mNil, mCons, mTup, mLst, mPart, mSl, mPar, mPair, mDrop, mM1, mM0, mHere, M.chg, M.bind, M.ret, M.of, Ar.sl, Rs.get, Rs.sl, fIx, fI, fI0, fInt, fLen, setSl, isIo, isL, chg, onL, fSetIx, fApp, Sl.mut, Sl.upd, ioC, ioIx, env0, runF, mCall, rsv, wb, axIx, noIoA, xNil, xV, xSl, mIt, mListRg, mTupRg, fRg, List.length_cons, List.length_nil, List.map_cons, List.map_nil, List.cons_append, List.nil_append, List.replicate_succ, List.replicate_zero, List.append_nil, Nat.reduceAdd, Nat.reduceSub, List.getElem?_cons_zero, List.getElem?_cons_succ, List.getElem?_nil, List.set_cons_zero, List.set_cons_succ, Option.bind_some, Option.bind_none, Option.map_some, Option.map_none, Nat.reduceLT, Nat.reduceEqDiff, Nat.reduceLeDiff, decide_true, decide_false, Bool.and_true, Bool.true_and, Bool.and_false, Bool.false_and, Bool.not_true, Bool.not_false, ↓reduceIte, reduceCtorEq, Bool.false_eq_true, List.length_map, Nat.lt_add_left_iff_pos, Nat.zero_lt_succ, Nat.add_eq, Nat.zero_add, Nat.add_zero, Nat.zero_le, sz0, sz1, sz2, sz3, sz4, sz5, sz6, sz7, sz8, sz9, fAbs, hz, h2, h3, h4, h4b, h4c, h5, h6, ha, e1, d1, hb', d3, hM1, h7, h8, h9, h10, h11, h12, h13, h14, at3_0, at3_1, at3_2, ix3_1, ix3_2]
/-- a draw -/
theorem draw {ns : List Int} {t g m : Int} (h0 : 0 ≤ t) (ht : t ≤ 1000000) (hg : 0 ≤ g) (hm : 0 < m) (hm2 : m < 1000) :
    ∃ r t' g', 0 ≤ r ∧ r < m ∧ t ≤ t' ∧ t' ≤ t + 1 ∧ 0 ≤ g' ∧ F__law_draw [.io (pen ns t g), .v (.int m)] = some (.rt (.v (.int r)) (some (pen ns t' g'))) := by
  by_cases hz : 0 < g
  · exact ⟨_, _, _, (mod_lt hm).1, (mod_lt hm).2, by omega, by omega, div_nn hg hm, draw_great hz hm hm2⟩
  · have e : g = 0 := by omega
    subst e
    by_cases hn : ns = []
    · exact draw_rest h0 ht hm hm2 (.inl ⟨hn, rfl⟩)
    · have hl : (0 : Int) < ns.length := by
        have := List.length_pos_iff.mpr hn
        omega
      obtain ⟨k1, k2⟩ := mod_lt (a := t) hl
      obtain ⟨j, hj⟩ := Int.eq_ofNat_of_zero_le k1
      have hj2 : j < ns.length := by omega
      refine draw_rest (c := ns[j]) h0 ht hm hm2 (.inr ⟨hn, ?_⟩)
      rw [hj]
      refine L2.atI_nat ?_
      rw [List.getElem?_map, List.getElem?_eq_getElem hj2]
      rfl
end Za
end

section
set_option Elab.async false
set_option linter.all false
set_option maxRecDepth 100000
set_option maxHeartbeats 4000000
/-! Loops by invariants; the pen; drawn figures. -/
namespace Za
open PySem L2 Z Zb
def fuel : Nat := 1000
def t1__law_figure : M Bool := (mTst (mOp fLt (mG fLen (mPeek 3)) (mOp fMul (M.ret (.int 2)) (mVar 1))))
def b2__law_figure : MS := (mDrop (mM1 3 fApp (mM1 2 fPopAt (mV (mCall F__law_draw [] (xSl 0 (xV (mG fLen (mPeek 2)) xNil)))))))
def m__law_figure : MS := (mSeq (mPar 2 3 (mPair (mListRg (mOp fMul (M.ret (.int 2)) (mVar 1))) (mLst mNil)))
    (mSeq (whL t1__law_figure b2__law_figure fuel)
    (mRet (mTake 3))))
def F__law_figure : DF := mkF 2 4 m__law_figure
def m__law_pen : MS := (mRet (mLst (mCons (mV (mN fList (mSl (mPeek 0) (M.ret none) (mPart (M.ret (.int 63)))))) (mCons (M.ret (.int 0)) (mCons (M.ret (.int 0)) mNil)))))
def F__law_pen : DF := mkF 1 1 m__law_pen
theorem forL_inv {t : TgM} {b : MS} {I : Nat → Z.Env → Prop} : ∀ {ds : List D} {k : Nat}, (∀ i d env, ds[i]? = some d → I (k + i) env → ∃ env1 env2, t d env = some env1 ∧ (b env1 = some (.nx env2) ∨ b env1 = some (.ct env2)) ∧ I (k + i + 1) env2) → ∀ env, I k env → ∃ env', forL t b ds env = some (.nx env') ∧ I (k + ds.length) env'
  | [], k, _, env, h0 => ⟨env, rfl, h0⟩
  | d :: ds, k, h, env, h0 => by
    obtain ⟨env1, env2, e1, e2, h1⟩ := h 0 d env rfl h0
    obtain ⟨env', e3, h3⟩ := forL_inv (ds := ds) (k := k + 1) (fun i d' env hd hi => by
      have := h (i + 1) d' env (by rw [List.getElem?_cons_succ]; exact hd) (by rw [← Nat.add_assoc, Nat.add_right_comm]; exact hi)
      rw [show k + 1 + i = k + (i + 1) by omega]
      exact this) env2 h1
    refine ⟨env', ?_, by rw [List.length_cons, show k + (ds.length + 1) = k + 1 + ds.length by omega]; exact h3⟩
    simp only [forL, e1]
    rcases e2 with e2 | e2
    · simp only [e2]
      exact e3
    · simp only [e2]
      exact e3
theorem whL_inv {t : M Bool} {b : MS} {I : Nat → Z.Env → Prop} {J : Z.Env → Prop} {n : Nat} (h : ∀ i env, i < n → I i env → ∃ env1 env2, t env = some (.ok true env1) ∧ (b env1 = some (.nx env2) ∨ b env1 = some (.ct env2)) ∧ I (i + 1) env2)
    (hend : ∀ env, I n env → ∃ env', t env = some (.ok false env') ∧ J env') : ∀ (k f : Nat), k ≤ n → n - k < f → ∀ env, I k env → ∃ env', whL t b f env = some (.nx env') ∧ J env'
  | k, 0, _, hf, _, _ => absurd hf (Nat.not_lt_zero _)
  | k, f + 1, hk, hf, env, h0 => by
    by_cases e : k = n
    · subst e
      obtain ⟨env', e1, e2⟩ := hend env h0
      exact ⟨env', by simp only [whL, e1], e2⟩
    · obtain ⟨env1, env2, e1, e2, h1⟩ := h k env (by omega) h0
      obtain ⟨env', e3, h3⟩ := whL_inv h hend (k + 1) f (by omega) (by omega) env2 h1
      refine ⟨env', ?_, h3⟩
      simp only [whL, e1]
      rcases e2 with e2 | e2
      · simp only [e2]
        exact e3
      · simp only [e2]
        exact e3
abbrev I (x : Nat) : D := .int (x : Nat)
theorem rng_eq (n : Nat) : rng n = (List.range n).map I := rfl
theorem fPopAt_nat {ds : List D} {j : Nat} (h : j < ds.length) (hz : j < 1000000) : fPopAt (.int (j : Nat)) ds = some (ds[j], ds.eraseIdx j) := by
  unfold fPopAt
  have e : seqIndex? ((j : Nat) : Int) ds.length = some j := (ixN_seq (by
    unfold ixN
    rw [if_pos (by omega), if_pos (by omega)]
    rfl)).1
  have e2 : (decide (-(2 ^ 62) ≤ ((j : Nat) : Int)) && decide (((j : Nat) : Int) < 2 ^ 62)) = true := by
    simp only [Bool.and_eq_true, decide_eq_true_eq]
    omega
  simp only [e2, if_true, e, Option.bind_some, List.getElem?_eq_getElem h]
theorem erase_map {α β : Type} (f : α → β) : ∀ (l : List α) (j : Nat), (l.map f).eraseIdx j = (l.eraseIdx j).map f
  | [], _ => rfl
  | _ :: _, 0 => rfl
  | x :: l, j + 1 => congrArg (f x :: ·) (erase_map f l j)
theorem erase_perm {α : Type} : ∀ {l : List α} {j : Nat} (h : j < l.length), (l[j] :: l.eraseIdx j).Perm l
  | x :: l, 0, _ => List.Perm.refl _
  | x :: l, j + 1, h => ((List.Perm.swap _ _ _)).trans ((erase_perm (l := l) (j := j) (Nat.lt_of_succ_lt_succ h)).cons x)
theorem fig_body {F : D → List D → Option (D × List D)} {G : DF} {P P2 y z c : D} {left2 found : List D} {left : List Nat} (h : G [.io P, .v (.int (left.length : Int))] = some (.rt (.v y) (some P2))) (hp : F y (left.map I) = some (z, left2)) (hs : szOk found.length = true) :
    mDrop (mM1 3 fApp (mM1 2 F (mV (mCall G [] (xSl 0 (xV (mG fLen (mPeek 2)) xNil)))))) [.io P, .v c, .own (.lst (left.map I)), .own (.lst found)] = some (.nx [.io P2, .v c, .own (.lst left2), .own (.lst (found ++ [z]))]) := by
  simp only [mSeq, mIfS, mThen, mTst, mOp, mIx, mPeek, mVar, mTake, mSet, mSetIx, mRet, mR, mV, mU, mG, mN, mRd2, mOpN, mAnd, mOr, mNot, mAndV, mOrV, mNotV, mIf, mNil, mCons, mTup, mLst, mPart, mSl, mPar, mPair, mDrop, mM1, mM0, mHere, M.chg, M.bind, M.ret, M.of, Ar.sl, Rs.get, Rs.sl, fIx, fI, fI0, fInt, fLen, setSl, isIo, isL, chg, onL, fSetIx, fApp, Sl.mut, Sl.upd, ioC, ioIx, env0, runF, mCall, rsv, wb, axIx, noIoA, xNil, xV, xSl, mIt, mListRg, mTupRg, fRg, List.length_cons, List.length_nil, List.map_cons, List.map_nil, List.cons_append, List.nil_append, List.replicate_succ, List.replicate_zero, List.append_nil, Nat.reduceAdd, Nat.reduceSub, List.getElem?_cons_zero, List.getElem?_cons_succ, List.getElem?_nil, List.set_cons_zero, List.set_cons_succ, Option.bind_some, Option.bind_none, Option.map_some, Option.map_none, Nat.reduceLT, Nat.reduceEqDiff, Nat.reduceLeDiff, decide_true, decide_false, Bool.and_true, Bool.true_and, Bool.and_false, Bool.false_and, Bool.not_true, Bool.not_false, ↓reduceIte, reduceCtorEq, Bool.false_eq_true, List.length_map, Nat.lt_add_left_iff_pos, Nat.zero_lt_succ, Nat.add_eq, Nat.zero_add, Nat.add_zero, Nat.zero_le, sz0, sz1, sz2, sz3, sz4, sz5, sz6, sz7, sz8, sz9, h, hp, hs]
theorem figure {ns : List Int} {t g : Int} {c : Nat} (h0 : 0 ≤ t) (ht : t ≤ 900000) (hg : 0 ≤ g) (hc : c ≤ 100) :
    ∃ (fig : List Nat) (t' g' : Int), fig.Perm (List.range (2 * c)) ∧ t ≤ t' ∧ t' ≤ t + 2 * c ∧ 0 ≤ g' ∧ F__law_figure [.io (pen ns t g), .v (I c)] = some (.rt (.fr (.lst (fig.map I))) (some (pen ns t' g'))) := by
  have h4b : ∀ x, cMul 2 x = true := fun x => by
    unfold cMul
    rw [show decide ((2 : Int).natAbs < 2 ^ 64) = true by decide]
    rfl
  have hok : okRg (2 * (c : Int)) = true := by
    unfold okRg
    simp only [Bool.and_eq_true, decide_eq_true_eq]
    omega
  have e2 : (2 * (c : Int)).toNat = 2 * c := by omega
  have W := whL_inv (t := t1__law_figure) (b := b2__law_figure)
    (I := fun i env => ∃ (left found : List Nat) (t' g' : Int), (left ++ found).Perm (List.range (2 * c)) ∧ found.length = i ∧ t ≤ t' ∧ t' ≤ t + i ∧ 0 ≤ g' ∧ env = [.io (pen ns t' g'), .v (I c), .own (.lst (left.map I)), .own (.lst (found.map I))])
    (J := fun env => ∃ (found : List Nat) (t' g' : Int) (s : Sl), found.Perm (List.range (2 * c)) ∧ t ≤ t' ∧ t' ≤ t + 2 * c ∧ 0 ≤ g' ∧ env = [.io (pen ns t' g'), .v (I c), s, .own (.lst (found.map I))])
    (n := 2 * c) (fun i env hi ⟨left, found, t', g', hp, hl, k1, k2, k3, e⟩ => by
      subst e
      have hll := hp.length_eq
      rw [List.length_append, List.length_range] at hll
      have d1 : decide ((found.length : Int) < 2 * (c : Int)) = true := decide_eq_true (by omega)
      obtain ⟨r, t2, g2, r1, r2, r3, r4, r5, r6⟩ := draw (ns := ns) (t := t') (g := g') (m := (left.length : Int)) (by omega) (by omega) k3 (by omega) (by omega)
      obtain ⟨j, rfl⟩ := Int.eq_ofNat_of_zero_le r1
      have hj : j < (left.map I).length := by
        rw [List.length_map]
        omega
      have hj2 : j < left.length := by omega
      have hsz : szOk found.length = true := sz_of (by omega)
      refine ⟨[.io (pen ns t' g'), .v (I c), .own (.lst (left.map I)), .own (.lst (found.map I))], [.io (pen ns t2 g2), .v (I c), .own (.lst ((left.eraseIdx j).map I)), .own (.lst ((found ++ [left[j]]).map I))], ?_, .inl ?_, left.eraseIdx j, found ++ [left[j]], t2, g2, ?_, ?_, ?_, ?_, ?_, rfl⟩
      · simp only [t1__law_figure, mSeq, mIfS, mThen, mTst, mOp, mIx, mPeek, mVar, mTake, mSet, mSetIx, mRet, mR, mV, mU, mG, mN, mRd2, mOpN, mAnd, mOr, mNot, mAndV, mOrV, mNotV, mIf, mNil, mCons, mTup, mLst, mPart, mSl, mPar, mPair, mDrop, mM1, mM0, mHere, M.chg, M.bind, M.ret, M.of, Ar.sl, Rs.get, Rs.sl, fIx, fI, fI0, fInt, fLen, setSl, isIo, isL, chg, onL, fSetIx, fApp, Sl.mut, Sl.upd, ioC, ioIx, env0, runF, mCall, rsv, wb, axIx, noIoA, xNil, xV, xSl, mIt, mListRg, mTupRg, fRg, List.length_cons, List.length_nil, List.map_cons, List.map_nil, List.cons_append, List.nil_append, List.replicate_succ, List.replicate_zero, List.append_nil, Nat.reduceAdd, Nat.reduceSub, List.getElem?_cons_zero, List.getElem?_cons_succ, List.getElem?_nil, List.set_cons_zero, List.set_cons_succ, Option.bind_some, Option.bind_none, Option.map_some, Option.map_none, Nat.reduceLT, Nat.reduceEqDiff, Nat.reduceLeDiff, decide_true, decide_false, Bool.and_true, Bool.true_and, Bool.and_false, Bool.false_and, Bool.not_true, Bool.not_false, ↓reduceIte, reduceCtorEq, Bool.false_eq_true, List.length_map, Nat.lt_add_left_iff_pos, Nat.zero_lt_succ, Nat.add_eq, Nat.zero_add, Nat.add_zero, Nat.zero_le, sz0, sz1, sz2, sz3, sz4, sz5, sz6, sz7, sz8, sz9, h4b, d1]
      · have hp := fPopAt_nat hj (by omega)
        rw [erase_map, List.getElem_map] at hp
        rw [List.map_append]
        exact fig_body r6 hp (by rw [List.length_map]; exact hsz)
      · refine List.Perm.trans ?_ hp
        rw [← List.append_assoc]
        refine (List.perm_append_comm).trans ?_
        rw [← List.append_assoc]
        exact (erase_perm hj2).append_right _
      · rw [List.length_append, hl]; rfl
      · omega
      · omega
      · exact r5) (fun env ⟨left, found, t', g', hp, hl, k1, k2, k3, e⟩ => by
      subst e
      have hll := hp.length_eq
      rw [List.length_append, List.length_range] at hll
      have d1 : decide ((found.length : Int) < 2 * (c : Int)) = false := decide_eq_false (by omega)
      refine ⟨[.io (pen ns t' g'), .v (I c), .own (.lst (left.map I)), .own (.lst (found.map I))], ?_, found, t', g', _, ?_, k1, by omega, k3, rfl⟩
      · simp only [t1__law_figure, mSeq, mIfS, mThen, mTst, mOp, mIx, mPeek, mVar, mTake, mSet, mSetIx, mRet, mR, mV, mU, mG, mN, mRd2, mOpN, mAnd, mOr, mNot, mAndV, mOrV, mNotV, mIf, mNil, mCons, mTup, mLst, mPart, mSl, mPar, mPair, mDrop, mM1, mM0, mHere, M.chg, M.bind, M.ret, M.of, Ar.sl, Rs.get, Rs.sl, fIx, fI, fI0, fInt, fLen, setSl, isIo, isL, chg, onL, fSetIx, fApp, Sl.mut, Sl.upd, ioC, ioIx, env0, runF, mCall, rsv, wb, axIx, noIoA, xNil, xV, xSl, mIt, mListRg, mTupRg, fRg, List.length_cons, List.length_nil, List.map_cons, List.map_nil, List.cons_append, List.nil_append, List.replicate_succ, List.replicate_zero, List.append_nil, Nat.reduceAdd, Nat.reduceSub, List.getElem?_cons_zero, List.getElem?_cons_succ, List.getElem?_nil, List.set_cons_zero, List.set_cons_succ, Option.bind_some, Option.bind_none, Option.map_some, Option.map_none, Nat.reduceLT, Nat.reduceEqDiff, Nat.reduceLeDiff, decide_true, decide_false, Bool.and_true, Bool.true_and, Bool.and_false, Bool.false_and, Bool.not_true, Bool.not_false, ↓reduceIte, reduceCtorEq, Bool.false_eq_true, List.length_map, Nat.lt_add_left_iff_pos, Nat.zero_lt_succ, Nat.add_eq, Nat.zero_add, Nat.add_zero, Nat.zero_le, sz0, sz1, sz2, sz3, sz4, sz5, sz6, sz7, sz8, sz9, h4b, d1]
      · have : left = [] := List.eq_nil_of_length_eq_zero (by omega)
        subst this
        exact hp)
  obtain ⟨env', w1, found, t', g', s, w2, w3, w4, w5, rfl⟩ := W 0 fuel (by omega) (by show 2 * c - 0 < 1000; omega) [.io (pen ns t g), .v (I c), .own (.lst ((List.range (2 * c)).map I)), .own (.lst [])] ⟨List.range (2 * c), [], t, g, by rw [List.append_nil], rfl, by omega, by omega, hg, rfl⟩
  refine ⟨found, t', g', w2, w3, w4, w5, ?_⟩
  simp only [F__law_figure, mkF, m__law_figure, mSeq, mIfS, mThen, mTst, mOp, mIx, mPeek, mVar, mTake, mSet, mSetIx, mRet, mR, mV, mU, mG, mN, mRd2, mOpN, mAnd, mOr, mNot, mAndV, mOrV, mNotV, mIf, mNil, mCons, mTup, mLst, mPart, mSl, mPar, mPair, mDrop, mM1, mM0, mHere, M.chg, M.bind, M.ret, M.of, Ar.sl, Rs.get, Rs.sl, fIx, fI, fI0, fInt, fLen, setSl, isIo, isL, chg, onL, fSetIx, fApp, Sl.mut, Sl.upd, ioC, ioIx, env0, runF, mCall, rsv, wb, axIx, noIoA, xNil, xV, xSl, mIt, mListRg, mTupRg, fRg, List.length_cons, List.length_nil, List.map_cons, List.map_nil, List.cons_append, List.nil_append, List.replicate_succ, List.replicate_zero, List.append_nil, Nat.reduceAdd, Nat.reduceSub, List.getElem?_cons_zero, List.getElem?_cons_succ, List.getElem?_nil, List.set_cons_zero, List.set_cons_succ, Option.bind_some, Option.bind_none, Option.map_some, Option.map_none, Nat.reduceLT, Nat.reduceEqDiff, Nat.reduceLeDiff, decide_true, decide_false, Bool.and_true, Bool.true_and, Bool.and_false, Bool.false_and, Bool.not_true, Bool.not_false, ↓reduceIte, reduceCtorEq, Bool.false_eq_true, List.length_map, Nat.lt_add_left_iff_pos, Nat.zero_lt_succ, Nat.add_eq, Nat.zero_add, Nat.add_zero, Nat.zero_le, sz0, sz1, sz2, sz3, sz4, sz5, sz6, sz7, sz8, sz9, h4b, hok, e2, rng_eq, w1]
theorem the_pen {ns : List Int} (h : ns.length ≤ 63) : F__law_pen [.v (.scr ns)] = some (.rt (.fr (pen ns 0 0)) none) := by
  have e : cut ns none (some 63) = ns := whole_cut ⟨rfl, by
    rw [show (63 : Int) = ((63 : Nat) : Int) from rfl, HT.sIx_nat]
    omega⟩
  simp only [F__law_pen, mkF, m__law_pen, mSeq, mIfS, mThen, mTst, mOp, mIx, mPeek, mVar, mTake, mSet, mSetIx, mRet, mR, mV, mU, mG, mN, mRd2, mOpN, mAnd, mOr, mNot, mAndV, mOrV, mNotV, mIf, mNil, mCons, mTup, mLst, mPart, mSl, mPar, mPair, mDrop, mM1, mM0, mHere, M.chg, M.bind, M.ret, M.of, Ar.sl, Rs.get, Rs.sl, fIx, fI, fI0, fInt, fLen, setSl, isIo, isL, chg, onL, fSetIx, fApp, Sl.mut, Sl.upd, ioC, ioIx, env0, runF, mCall, rsv, wb, axIx, noIoA, xNil, xV, xSl, mIt, mListRg, mTupRg, fRg, List.length_cons, List.length_nil, List.map_cons, List.map_nil, List.cons_append, List.nil_append, List.replicate_succ, List.replicate_zero, List.append_nil, Nat.reduceAdd, Nat.reduceSub, List.getElem?_cons_zero, List.getElem?_cons_succ, List.getElem?_nil, List.set_cons_zero, List.set_cons_succ, Option.bind_some, Option.bind_none, Option.map_some, Option.map_none, Nat.reduceLT, Nat.reduceEqDiff, Nat.reduceLeDiff, decide_true, decide_false, Bool.and_true, Bool.true_and, Bool.and_false, Bool.false_and, Bool.not_true, Bool.not_false, ↓reduceIte, reduceCtorEq, Bool.false_eq_true, List.length_map, Nat.lt_add_left_iff_pos, Nat.zero_lt_succ, Nat.add_eq, Nat.zero_add, Nat.add_zero, Nat.zero_le, sz0, sz1, sz2, sz3, sz4, sz5, sz6, sz7, sz8, sz9, fSl, inOf, e, fList, pen]
end Za
end

section
set_option Elab.async false
set_option linter.all false
set_option maxRecDepth 100000
set_option maxHeartbeats 4000000
namespace Zd
open PySem L2 Z Zb
/-! The laws' own draws, kind 1: k1 .. k7 are the numbers that differ from law to law. -/
def mDraw1 (k1 k2 k3 k4 k5 k6 k7 : Int) : MS := (mSeq (mIfS (mTst (mOp fGt (mIx (mPeek 0) (M.ret (.int 2))) (M.ret (.int 0)))) (mSeq (mSet 5 (mR (mOp fMod (mU fInt (mIx (mPeek 0) (M.ret (.int 2)))) (mVar 1))))
    (mSeq (mSetIx 0 (mOp fDiv (mU fInt (mIx (mPeek 0) (M.ret (.int 2)))) (mVar 1)) (M.ret (.int 2)))
    (mRet (mTake 5)))) mNext)
    (mSeq (mSet 2 (mR (mIx (mPeek 0) (M.ret (.int 1)))))
    (mSeq (mSetIx 0 (mOp fAdd (mVar 2) (M.ret (.int 1))) (M.ret (.int 1)))
    (mSeq (mSet 3 (mR (mOp fAdd (mOp fMul (M.ret (.int k1)) (mVar 2)) (M.ret (.int k2)))))
    (mSeq (mIfS (mTst (mRd2 fNe (mR (mIx (mPeek 0) (M.ret (.int 0)))) (mLst mNil))) (mSet 3 (mR (mIx (mR (mIx (mPeek 0) (M.ret (.int 0)))) (mOp fMod (mU fInt (mVar 2)) (mG fLen (mR (mIx (mPeek 0) (M.ret (.int 0))))))))) mNext)
    (mSeq (mIfS (mAnd (mTst (mOp fLt (mVar 2) (mG fLen (mR (mIx (mPeek 0) (M.ret (.int 0))))))) (mTst (mOp fGe (mU fAbs (mVar 3)) (mOp fPow (M.ret (.int 10)) (M.ret (.int 18)))))) (mSeq (mSet 6 (mR (mOp fAdd (mOp fMul (M.ret (.int 2)) (mOp fSub (mU fAbs (mVar 3)) (mOp fPow (M.ret (.int 10)) (M.ret (.int 18))))) (mU fInt (mOp fLt (mVar 3) (M.ret (.int 0)))))))
    (mSeq (mSetIx 0 (mOp fDiv (mU fInt (mVar 6)) (mVar 1)) (M.ret (.int 2)))
    (mRet (mR (mOp fMod (mU fInt (mVar 6)) (mVar 1)))))) mNext)
    (mSeq (mSet 4 (mR (mOp fMod (mU fInt (mOp fPow (mOp fAdd (mOp fAdd (mOp fMod (mU fInt (mVar 3)) (M.ret (.int k3))) (mOp fMul (M.ret (.int k1)) (mVar 2))) (M.ret (.int k2))) (M.ret (.int 5)))) (M.ret (.int k4)))))
    (mSeq (mSet 4 (mR (mOp fMod (mU fInt (mOp fPow (mOp fAdd (mOp fAdd (mOp fMul (mVar 4) (mOp fAdd (mOp fMul (M.ret (.int 2)) (mVar 2)) (M.ret (.int k5)))) (mOp fMul (mOp fMul (M.ret (.int k6)) (mVar 2)) (mVar 2))) (M.ret (.int k2))) (M.ret (.int 3)))) (M.ret (.int k7)))))
    (mRet (mR (mOp fMod (mU fInt (mOp fDiv (mVar 4) (M.ret (.int 32)))) (mVar 1))))))))))))
def fDraw1 (k1 k2 k3 k4 k5 k6 k7 : Int) : DF := mkF 2 7 (mDraw1 k1 k2 k3 k4 k5 k6 k7)
/-- a pen: the script's numbers, how many draws, what is left of a great one -/
def pen (ns : List Int) (t g : Int) : D := .lst [.lst (ns.map .int), .int t, .int g]
theorem at3_0 {a b c : D} : L2.atI [a, b, c] 0 = some a := rfl
theorem at3_1 {a b c : D} : L2.atI [a, b, c] 1 = some b := rfl
theorem at3_2 {a b c : D} : L2.atI [a, b, c] 2 = some c := rfl
theorem ix3_1 : ixN 3 1 = some 1 := rfl
theorem ix3_2 : ixN 3 2 = some 2 := rfl
/-- the numbers' bounds -/
structure Kn (k1 k2 k3 k4 k5 k6 k7 : Int) : Prop where
  b : 0 < k1 ∧ k1 < 1000000 ∧ 0 ≤ k2 ∧ k2 < 1000000 ∧ 0 < k3 ∧ k3 < 2147483648 ∧ 0 < k4 ∧ k4 < 2147483648 ∧ 0 < k5 ∧ k5 < 1000000 ∧ 0 < k6 ∧ k6 < 1000000 ∧ 0 < k7 ∧ k7 < 2147483648
section
variable {k1 k2 k3 k4 k5 k6 k7 : Int}
theorem draw_great {ns : List Int} {t g m : Int} (hg : 0 < g) (hm : 0 < m) (hm2 : m < 4611686018427387904) : fDraw1 k1 k2 k3 k4 k5 k6 k7 [.io (pen ns t g), .v (.int m)] = some (.rt (.v (.int (g.fmod m))) (some (pen ns t (g.fdiv m)))) := by
  have h1 : decide (0 < g) = true := decide_eq_true hg
  have h2 : cMod g m = true := decide_eq_true (by omega)
  have h3 : cDiv g m = true := by
    unfold cDiv
    simp only [Bool.and_eq_true, decide_eq_true_eq]
    omega
  simp only [fDraw1, mkF, mDraw1, pen, mSeq, mIfS, mThen, mTst, mOp, mIx, mPeek, mVar, mTake, mSet, mSetIx, mRet, mR, mV, mU, mG, mN, mRd2, mOpN, mAnd, mOr, mNot, mAndV, mOrV, mNotV, mIf, mNil, mCons, mTup, mLst, mPart, mSl, mPar, mPair, mDrop, mM1, mM0, mHere, M.chg, M.bind, M.ret, M.of, Ar.sl, Rs.get, Rs.sl, fIx, fI, fI0, fInt, fLen, setSl, isIo, isL, chg, onL, fSetIx, fApp, Sl.mut, Sl.upd, ioC, ioIx, env0, runF, mCall, rsv, wb, axIx, noIoA, xNil, xV, xSl, mIt, mListRg, mTupRg, fRg, List.length_cons, List.length_nil, List.map_cons, List.map_nil, List.cons_append, List.nil_append, List.replicate_succ, List.replicate_zero, List.append_nil, Nat.reduceAdd, Nat.reduceSub, List.getElem?_cons_zero, List.getElem?_cons_succ, List.getElem?_nil, List.set_cons_zero, List.set_cons_succ, Option.bind_some, Option.bind_none, Option.map_some, Option.map_none, Nat.reduceLT, Nat.reduceEqDiff, Nat.reduceLeDiff, decide_true, decide_false, Bool.and_true, Bool.true_and, Bool.and_false, Bool.false_and, Bool.not_true, Bool.not_false, ↓reduceIte, reduceCtorEq, Bool.false_eq_true, List.length_map, Nat.lt_add_left_iff_pos, Nat.zero_lt_succ, Nat.add_eq, Nat.zero_add, Nat.add_zero, Nat.zero_le, sz0, sz1, sz2, sz3, sz4, sz5, sz6, sz7, sz8, sz9, h1, h2, h3, at3_0, at3_1, at3_2, ix3_1, ix3_2]
theorem mod_lt {a m : Int} (hm : 0 < m) : 0 ≤ a.fmod m ∧ a.fmod m < m := by
  rw [Int.fmod_eq_emod_of_nonneg _ (Int.le_of_lt hm)]
  exact ⟨Int.emod_nonneg _ (by omega), Int.emod_lt_of_pos _ hm⟩
theorem div_nn {a m : Int} (ha : 0 ≤ a) (hm : 0 < m) : 0 ≤ a.fdiv m := by
  rw [Int.fdiv_eq_ediv_of_nonneg _ (Int.le_of_lt hm)]
  exact Int.ediv_nonneg ha (Int.le_of_lt hm)
/-- the end of a draw, where the cell is c -/
theorem draw_rest {ns : List Int} {t m c : Int} (kn : Kn k1 k2 k3 k4 k5 k6 k7) (h0 : 0 ≤ t) (ht : t ≤ 1000000) (hm : 0 < m) (hm2 : m < 4611686018427387904)
    (hc : (ns = [] ∧ c = k1 * t + k2) ∨ (ns ≠ [] ∧ L2.atI (ns.map D.int) (t.fmod (ns.length : Int)) = some (.int c))) :
    ∃ r t' g', 0 ≤ r ∧ r < m ∧ t ≤ t' ∧ t' ≤ t + 1 ∧ 0 ≤ g' ∧ fDraw1 k1 k2 k3 k4 k5 k6 k7 [.io (pen ns t 0), .v (.int m)] = some (.rt (.v (.int r)) (some (pen ns t' g'))) := by
  have h2 : ∀ x, cMod x m = true := fun x => decide_eq_true (by omega)
  have h3 : ∀ x, cDiv x m = true := fun x => by
    unfold cDiv
    simp only [Bool.and_eq_true, decide_eq_true_eq]
    omega
  obtain ⟨kb1, kb2, kb3, kb4, kb5, kb6, kb7, kb8, kb9, kb10, kb11, kb12, kb13, kb14⟩ := kn.b
  have h4 : ∀ x, cMul k1 x = true := fun x => by
    unfold cMul
    rw [decide_eq_true (show (k1 : Int).natAbs < 2 ^ 64 by omega)]
    rfl
  have h4b : ∀ x, cMul 2 x = true := fun x => by
    unfold cMul
    rw [show decide ((2 : Int).natAbs < 2 ^ 64) = true by decide]
    rfl
  have h4c : ∀ x, cMul k6 x = true := fun x => by
    unfold cMul
    rw [decide_eq_true (show (k6 : Int).natAbs < 2 ^ 64 by omega)]
    rfl
  have h5 : cPow 10 18 = true := by decide
  have hz : decide ((0 : Int) < 0) = false := rfl
  have e1 : fNe (.lst (ns.map .int)) (.lst []) = some (.bl (!decide (ns = []))) := fNe_lints ns []
  by_cases hb : t < (ns.length : Int) ∧ 10 ^ 18 ≤ (if c < 0 then -c else c)
  · obtain ⟨hb1, hb2⟩ := hb
    have hn : ns ≠ [] := fun e => by
      subst e
      simp at hb1
      omega
    have ha : L2.atI (ns.map D.int) (t.fmod (ns.length : Int)) = some (.int c) := by
      rcases hc with ⟨e, _⟩ | ⟨_, e⟩
      · exact absurd e hn
      · exact e
    have h6 : cMod t (ns.length : Int) = true := decide_eq_true (by
      have := List.length_pos_iff.mpr hn
      omega)
    have d1 : decide (t < (ns.length : Int)) = true := decide_eq_true hb1
    have d2 : decide ((10 : Int) ^ 18 ≤ (if c < 0 then -c else c)) = true := decide_eq_true hb2
    have d3 : decide (ns = []) = false := decide_eq_false hn
    have gn : 0 ≤ 2 * ((if c < 0 then -c else c) - 10 ^ 18) + (if decide (c < 0) = true then 1 else 0) := by
      split <;> split <;> omega
    have e18 : (10 : Int) ^ (18 : Int).toNat = 10 ^ 18 := rfl
    refine ⟨(2 * ((if c < 0 then -c else c) - 10 ^ 18) + (if decide (c < 0) = true then 1 else 0)).fmod m, t + 1, (2 * ((if c < 0 then -c else c) - 10 ^ 18) + (if decide (c < 0) = true then 1 else 0)).fdiv m, (mod_lt hm).1, (mod_lt hm).2, by omega, by omega, div_nn gn hm, ?_⟩
    simp only [fDraw1, mkF, mDraw1, pen, mSeq, mIfS, mThen, mTst, mOp, mIx, mPeek, mVar, mTake, mSet, mSetIx, mRet, mR, mV, mU, mG, mN, mRd2, mOpN, mAnd, mOr, mNot, mAndV, mOrV, mNotV, mIf, mNil, mCons, mTup, mLst, mPart, mSl, mPar, mPair, mDrop, mM1, mM0, mHere, M.chg, M.bind, M.ret, M.of, Ar.sl, Rs.get, Rs.sl, fIx, fI, fI0, fInt, fLen, setSl, isIo, isL, chg, onL, fSetIx, fApp, Sl.mut, Sl.upd, ioC, ioIx, env0, runF, mCall, rsv, wb, axIx, noIoA, xNil, xV, xSl, mIt, mListRg, mTupRg, fRg, List.length_cons, List.length_nil, List.map_cons, List.map_nil, List.cons_append, List.nil_append, List.replicate_succ, List.replicate_zero, List.append_nil, Nat.reduceAdd, Nat.reduceSub, List.getElem?_cons_zero, List.getElem?_cons_succ, List.getElem?_nil, List.set_cons_zero, List.set_cons_succ, Option.bind_some, Option.bind_none, Option.map_some, Option.map_none, Nat.reduceLT, Nat.reduceEqDiff, Nat.reduceLeDiff, decide_true, decide_false, Bool.and_true, Bool.true_and, Bool.and_false, Bool.false_and, Bool.not_true, Bool.not_false, ↓reduceIte, reduceCtorEq, Bool.false_eq_true, List.length_map, Nat.lt_add_left_iff_pos, Nat.zero_lt_succ, Nat.add_eq, Nat.zero_add, Nat.add_zero, Nat.zero_le, sz0, sz1, sz2, sz3, sz4, sz5, sz6, sz7, sz8, sz9, fAbs, hz, h2, h3, h4, h4b, h5, h6, e1, ha, d1, d2, d3, e18, at3_0, at3_1, at3_2, ix3_1, ix3_2]
  · have hx : 0 ≤ c.fmod k3 ∧ c.fmod k3 < k3 := mod_lt (by omega)
    have q01 : 0 ≤ k1 * t ∧ k1 * t ≤ 1000000 * 1000000 := ⟨Int.mul_nonneg (by omega) h0, Int.mul_le_mul (by omega) ht h0 (by omega)⟩
    have h7 : cPow (c.fmod k3 + k1 * t + k2) 5 = true := by
      unfold cPow
      simp only [Bool.and_eq_true, decide_eq_true_eq]
      generalize k1 * t = w at q01
      generalize c.fmod k3 = v at hx
      omega
    have hM := mod_lt (a := (c.fmod k3 + k1 * t + k2) ^ (5 : Int).toNat) (m := k4) (by omega)
    generalize hM1 : ((c.fmod k3 + k1 * t + k2) ^ (5 : Int).toNat).fmod k4 = M1 at hM
    have h8 : cMul M1 (2 * t + k5) = true := by
      unfold cMul
      rw [decide_eq_true (show M1.natAbs < 2 ^ 64 by omega)]
      rfl
    have h9 : cMul (k6 * t) t = true := by
      unfold cMul
      rw [decide_eq_true (show t.natAbs < 2 ^ 64 by omega), Bool.or_true]
    have q1 : 0 ≤ M1 * (2 * t + k5) ∧ M1 * (2 * t + k5) ≤ 2147483648 * 3000000 := ⟨Int.mul_nonneg hM.1 (by omega), Int.mul_le_mul (by omega) (by omega) (by omega) (by omega)⟩
    have q0 : 0 ≤ k6 * t ∧ k6 * t ≤ 1000000 * 1000000 := ⟨Int.mul_nonneg (by omega) h0, Int.mul_le_mul (by omega) ht h0 (by omega)⟩
    have q00 : 0 ≤ k1 * t ∧ k1 * t ≤ 1000000 * 1000000 := ⟨Int.mul_nonneg (by omega) h0, Int.mul_le_mul (by omega) ht h0 (by omega)⟩
    have q2 : 0 ≤ k6 * t * t ∧ k6 * t * t ≤ 1000000 * 1000000 * 1000000 := ⟨Int.mul_nonneg q0.1 h0, Int.mul_le_mul q0.2 ht h0 (by omega)⟩
    have h10 : cPow (M1 * (2 * t + k5) + k6 * t * t + k2) 3 = true := by
      unfold cPow
      simp only [Bool.and_eq_true, decide_eq_true_eq]
      generalize M1 * (2 * t + k5) = u at q1
      generalize k6 * t * t = v at q2
      omega
    refine ⟨((((M1 * (2 * t + k5) + k6 * t * t + k2) ^ (3 : Int).toNat).fmod k7).fdiv 32).fmod m, t + 1, 0, (mod_lt hm).1, (mod_lt hm).2, by omega, by omega, by omega, ?_⟩
    have h11 : ∀ x, cMod x k3 = true := fun x => decide_eq_true (by omega)
    have h12 : ∀ x, cMod x k4 = true := fun x => decide_eq_true (by omega)
    have h13 : ∀ x, cMod x k7 = true := fun x => decide_eq_true (by omega)
    have h14 : ∀ x, cDiv x 32 = true := fun x => rfl
    have hb' : (decide (t < (ns.length : Int)) && decide ((10 : Int) ^ (18 : Int).toNat ≤ (if c < 0 then -c else c))) = false := by
      rw [← Bool.decide_and]
      exact decide_eq_false hb
    by_cases hn : ns = []
    · have ec : c = k1 * t + k2 := by
        rcases hc with ⟨_, e⟩ | ⟨e, _⟩
        · exact e
        · exact absurd hn e
      have d1 : decide (t < (ns.length : Int)) = false := decide_eq_false (by
        subst hn
        simp
        exact h0)
      have d3 : decide (ns = []) = true := decide_eq_true hn
      subst ec
      simp only [fDraw1, mkF, mDraw1, pen, mSeq, mIfS, mThen, mTst, mOp, mIx, mPeek, mVar, mTake, mSet, mSetIx, mRet, mR, mV, mU, mG, mN, mRd2, mOpN, mAnd, mOr, mNot, mAndV, mOrV, mNotV, mIf, mNil, mCons, mTup, mLst, mPart, mSl, mPar, mPair, mDrop, mM1, mM0, mHere, M.chg, M.bind, M.ret, M.of, Ar.sl, Rs.get, Rs.sl, fIx, fI, fI0, fInt, fLen, setSl, isIo, isL, chg, onL, fSetIx, fApp, Sl.mut, Sl.upd, ioC, ioIx, env0, runF, mCall, rsv, wb, axIx, noIoA, xNil, xV, xSl, mIt, mListRg, mTupRg, fRg, List.length_cons, List.length_nil, List.map_cons, List.map_nil, List.cons_append, List.nil_append, List.replicate_succ, List.replicate_zero, List.append_nil, Nat.reduceAdd, Nat.reduceSub, List.getElem?_cons_zero, List.getElem?_cons_succ, List.getElem?_nil, List.set_cons_zero, List.set_cons_succ, Option.bind_some, Option.bind_none, Option.map_some, Option.map_none, Nat.reduceLT, Nat.reduceEqDiff, Nat.reduceLeDiff, decide_true, decide_false, Bool.and_true, Bool.true_and, Bool.and_false, Bool.false_and, Bool.not_true, Bool.not_false, ↓reduceIte, reduceCtorEq, Bool.false_eq_true, List.length_map, Nat.lt_add_left_iff_pos, Nat.zero_lt_succ, Nat.add_eq, Nat.zero_add, Nat.add_zero, Nat.zero_le, sz0, sz1, sz2, sz3, sz4, sz5, sz6, sz7, sz8, sz9, fAbs, hz, h2, h3, h4, h4b, h4c, h5, e1, d1, d3, hM1, h7, h8, h9, h10, h11, h12, h13, h14, at3_0, at3_1, at3_2, ix3_1, ix3_2]
    · have ha : L2.atI (ns.map D.int) (t.fmod (ns.length : Int)) = some (.int c) := by
        rcases hc with ⟨e, _⟩ | ⟨_, e⟩
        · exact absurd e hn
        · exact e
      have h6 : cMod t (ns.length : Int) = true := decide_eq_true (by
        have := List.length_pos_iff.mpr hn
        omega)
      have d3 : decide (ns = []) = false := decide_eq_false hn
      cases d1 : decide (t < (ns.length : Int)) with
      | false =>
        simp only [fDraw1, mkF, mDraw1, pen, mSeq, mIfS, mThen, mTst, mOp, mIx, mPeek, mVar, mTake, mSet, mSetIx, mRet, mR, mV, mU, mG, mN, mRd2, mOpN, mAnd, mOr, mNot, mAndV, mOrV, mNotV, mIf, mNil, mCons, mTup, mLst, mPart, mSl, mPar, mPair, mDrop, mM1, mM0, mHere, M.chg, M.bind, M.ret, M.of, Ar.sl, Rs.get, Rs.sl, fIx, fI, fI0, fInt, fLen, setSl, isIo, isL, chg, onL, fSetIx, fApp, Sl.mut, Sl.upd, ioC, ioIx, env0, runF, mCall, rsv, wb, axIx, noIoA, xNil, xV, xSl, mIt, mListRg, mTupRg, fRg, List.length_cons, List.length_nil, List.map_cons, List.map_nil, List.cons_append, List.nil_append, List.replicate_succ, List.replicate_zero, List.append_nil, Nat.reduceAdd, Nat.reduceSub, List.getElem?_cons_zero, List.getElem?_cons_succ, List.getElem?_nil, List.set_cons_zero, List.set_cons_succ, Option.bind_some, Option.bind_none, Option.map_some, Option.map_none, Nat.reduceLT, Nat.reduceEqDiff, Nat.reduceLeDiff, decide_true, decide_false, Bool.and_true, Bool.true_and, Bool.and_false, Bool.false_and, Bool.not_true, Bool.not_false, ↓reduceIte, reduceCtorEq, Bool.false_eq_true, List.length_map, Nat.lt_add_left_iff_pos, Nat.zero_lt_succ, Nat.add_eq, Nat.zero_add, Nat.add_zero, Nat.zero_le, sz0, sz1, sz2, sz3, sz4, sz5, sz6, sz7, sz8, sz9, fAbs, hz, h2, h3, h4, h4b, h4c, h5, h6, ha, e1, d1, d3, hM1, h7, h8, h9, h10, h11, h12, h13, h14, at3_0, at3_1, at3_2, ix3_1, ix3_2]
      | true =>
        rw [d1, Bool.true_and] at hb'
        simp only [fDraw1, mkF, mDraw1, pen, mSeq, mIfS, mThen, mTst, mOp, mIx, mPeek, mVar, mTake, mSet, mSetIx, mRet, mR, mV, mU, mG, mN, mRd2, mOpN, mAnd, mOr, mNot, mAndV, mOrV, mNotV, mIf, mNil, mCons, mTup, mLst, mPart, mSl, mPar, mPair, mDrop, mM1, mM0, mHere, M.chg, M.bind, M.ret, M.of, Ar.sl, Rs.get, Rs.sl, fIx, fI, fI0, fInt, fLen, setSl, isIo, isL, chg, onL, fSetIx, fApp, Sl.mut, Sl.upd, ioC, ioIx, env0, runF, mCall, rsv, wb, axIx, noIoA, xNil, xV, xSl, mIt, mListRg, mTupRg, fRg, List.length_cons, List.length_nil, List.map_cons, List.map_nil, List.cons_append, List.nil_append, List.replicate_succ, List.replicate_zero, List.append_nil, Nat.reduceAdd, Nat.reduceSub, List.getElem?_cons_zero, List.getElem?_cons_succ, List.getElem?_nil, List.set_cons_zero, List.set_cons_succ, Option.bind_some, Option.bind_none, Option.map_some, Option.map_none, Nat.reduceLT, Nat.reduceEqDiff, Nat.reduceLeDiff, decide_true, decide_false, Bool.and_true, Bool.true_and, Bool.and_false, Bool.false_and, Bool.not_true, Bool.not_false, ↓reduceIte, reduceCtorEq, Bool.false_eq_true, List.length_map, Nat.lt_add_left_iff_pos, Nat.zero_lt_succ, Nat.add_eq, Nat.zero_add, Nat.add_zero, Nat.zero_le, sz0, sz1, sz2, sz3, sz4, sz5, sz6, sz7, sz8, sz9, fAbs, hz, h2, h3, h4, h4b, h4c, h5, h6, ha, e1, d1, hb', d3, hM1, h7, h8, h9, h10, h11, h12, h13, h14, at3_0, at3_1, at3_2, ix3_1, ix3_2]
/-- a draw -/
theorem draw {ns : List Int} {t g m : Int} (kn : Kn k1 k2 k3 k4 k5 k6 k7) (h0 : 0 ≤ t) (ht : t ≤ 1000000) (hg : 0 ≤ g) (hm : 0 < m) (hm2 : m < 4611686018427387904) :
    ∃ r t' g', 0 ≤ r ∧ r < m ∧ t ≤ t' ∧ t' ≤ t + 1 ∧ 0 ≤ g' ∧ fDraw1 k1 k2 k3 k4 k5 k6 k7 [.io (pen ns t g), .v (.int m)] = some (.rt (.v (.int r)) (some (pen ns t' g'))) := by
  by_cases hz : 0 < g
  · exact ⟨_, _, _, (mod_lt hm).1, (mod_lt hm).2, by omega, by omega, div_nn hg hm, draw_great hz hm hm2⟩
  · have e : g = 0 := by omega
    subst e
    by_cases hn : ns = []
    · exact draw_rest kn h0 ht hm hm2 (.inl ⟨hn, rfl⟩)
    · have hl : (0 : Int) < ns.length := by
        have := List.length_pos_iff.mpr hn
        omega
      obtain ⟨k1, k2⟩ := mod_lt (a := t) hl
      obtain ⟨j, hj⟩ := Int.eq_ofNat_of_zero_le k1
      have hj2 : j < ns.length := by omega
      refine draw_rest (c := ns[j]) kn h0 ht hm hm2 (.inr ⟨hn, ?_⟩)
      rw [hj]
      refine L2.atI_nat ?_
      rw [List.getElem?_map, List.getElem?_eq_getElem hj2]
      rfl
end
end Zd
end

section
set_option Elab.async false
set_option linter.all false
set_option maxRecDepth 100000
set_option maxHeartbeats 4000000
/-! Drawn figures over any draw. -/
namespace Ze
open PySem L2 Z Zb Za
def tFig : M Bool := (mTst (mOp fLt (mG fLen (mPeek 3)) (mOp fMul (M.ret (.int 2)) (mVar 1))))
def bFig (G : DF) : MS := (mDrop (mM1 3 fApp (mM1 2 fPopAt (mV (mCall G [] (xSl 0 (xV (mG fLen (mPeek 2)) xNil)))))))
def mFig (G : DF) : MS := (mSeq (mPar 2 3 (mPair (mListRg (mOp fMul (M.ret (.int 2)) (mVar 1))) (mLst mNil)))
    (mSeq (whL tFig (bFig G) fuel)
    (mRet (mTake 3))))
def fFig (G : DF) : DF := mkF 2 4 (mFig G)
/-- what a draw keeps -/
def Dr (G : DF) : Prop := ∀ (ns : List Int) (t g m : Int), 0 ≤ t → t ≤ 1000000 → 0 ≤ g → 0 < m → m < 4611686018427387904 → ∃ r t' g', 0 ≤ r ∧ r < m ∧ t ≤ t' ∧ t' ≤ t + 1 ∧ 0 ≤ g' ∧ G [.io (Zd.pen ns t g), .v (.int m)] = some (.rt (.v (.int r)) (some (Zd.pen ns t' g')))
theorem dr1 {k1 k2 k3 k4 k5 k6 k7 : Int} (kn : Zd.Kn k1 k2 k3 k4 k5 k6 k7) : Dr (Zd.fDraw1 k1 k2 k3 k4 k5 k6 k7) := fun ns t g m h0 ht hg hm hm2 => Zd.draw kn h0 ht hg hm hm2
section
variable {G : DF}
theorem figure_of {ns : List Int} {t g : Int} {c : Nat} (hdr : Dr G) (h0 : 0 ≤ t) (ht : t ≤ 900000) (hg : 0 ≤ g) (hc : c ≤ 100) :
    ∃ (fig : List Nat) (t' g' : Int), fig.Perm (List.range (2 * c)) ∧ t ≤ t' ∧ t' ≤ t + 2 * c ∧ 0 ≤ g' ∧ fFig G [.io (Zd.pen ns t g), .v (I c)] = some (.rt (.fr (.lst (fig.map I))) (some (Zd.pen ns t' g'))) := by
  have h4b : ∀ x, cMul 2 x = true := fun x => by
    unfold cMul
    rw [show decide ((2 : Int).natAbs < 2 ^ 64) = true by decide]
    rfl
  have hok : okRg (2 * (c : Int)) = true := by
    unfold okRg
    simp only [Bool.and_eq_true, decide_eq_true_eq]
    omega
  have e2 : (2 * (c : Int)).toNat = 2 * c := by omega
  have W := whL_inv (t := tFig) (b := (bFig G))
    (I := fun i env => ∃ (left found : List Nat) (t' g' : Int), (left ++ found).Perm (List.range (2 * c)) ∧ found.length = i ∧ t ≤ t' ∧ t' ≤ t + i ∧ 0 ≤ g' ∧ env = [.io (Zd.pen ns t' g'), .v (I c), .own (.lst (left.map I)), .own (.lst (found.map I))])
    (J := fun env => ∃ (found : List Nat) (t' g' : Int) (s : Sl), found.Perm (List.range (2 * c)) ∧ t ≤ t' ∧ t' ≤ t + 2 * c ∧ 0 ≤ g' ∧ env = [.io (Zd.pen ns t' g'), .v (I c), s, .own (.lst (found.map I))])
    (n := 2 * c) (fun i env hi ⟨left, found, t', g', hp, hl, k1, k2, k3, e⟩ => by
      subst e
      have hll := hp.length_eq
      rw [List.length_append, List.length_range] at hll
      have d1 : decide ((found.length : Int) < 2 * (c : Int)) = true := decide_eq_true (by omega)
      obtain ⟨r, t2, g2, r1, r2, r3, r4, r5, r6⟩ := hdr ns t' g' (left.length : Int) (by omega) (by omega) k3 (by omega) (by omega)
      obtain ⟨j, rfl⟩ := Int.eq_ofNat_of_zero_le r1
      have hj : j < (left.map I).length := by
        rw [List.length_map]
        omega
      have hj2 : j < left.length := by omega
      have hsz : szOk found.length = true := sz_of (by omega)
      refine ⟨[.io (Zd.pen ns t' g'), .v (I c), .own (.lst (left.map I)), .own (.lst (found.map I))], [.io (Zd.pen ns t2 g2), .v (I c), .own (.lst ((left.eraseIdx j).map I)), .own (.lst ((found ++ [left[j]]).map I))], ?_, .inl ?_, left.eraseIdx j, found ++ [left[j]], t2, g2, ?_, ?_, ?_, ?_, ?_, rfl⟩
      · simp only [tFig, mSeq, mIfS, mThen, mTst, mOp, mIx, mPeek, mVar, mTake, mSet, mSetIx, mRet, mR, mV, mU, mG, mN, mRd2, mOpN, mAnd, mOr, mNot, mAndV, mOrV, mNotV, mIf, mNil, mCons, mTup, mLst, mPart, mSl, mPar, mPair, mDrop, mM1, mM0, mHere, M.chg, M.bind, M.ret, M.of, Ar.sl, Rs.get, Rs.sl, fIx, fI, fI0, fInt, fLen, setSl, isIo, isL, chg, onL, fSetIx, fApp, Sl.mut, Sl.upd, ioC, ioIx, env0, runF, mCall, rsv, wb, axIx, noIoA, xNil, xV, xSl, mIt, mListRg, mTupRg, fRg, List.length_cons, List.length_nil, List.map_cons, List.map_nil, List.cons_append, List.nil_append, List.replicate_succ, List.replicate_zero, List.append_nil, Nat.reduceAdd, Nat.reduceSub, List.getElem?_cons_zero, List.getElem?_cons_succ, List.getElem?_nil, List.set_cons_zero, List.set_cons_succ, Option.bind_some, Option.bind_none, Option.map_some, Option.map_none, Nat.reduceLT, Nat.reduceEqDiff, Nat.reduceLeDiff, decide_true, decide_false, Bool.and_true, Bool.true_and, Bool.and_false, Bool.false_and, Bool.not_true, Bool.not_false, ↓reduceIte, reduceCtorEq, Bool.false_eq_true, List.length_map, Nat.lt_add_left_iff_pos, Nat.zero_lt_succ, Nat.add_eq, Nat.zero_add, Nat.add_zero, Nat.zero_le, sz0, sz1, sz2, sz3, sz4, sz5, sz6, sz7, sz8, sz9, h4b, d1]
      · have hp := fPopAt_nat hj (by omega)
        rw [erase_map, List.getElem_map] at hp
        rw [List.map_append]
        exact fig_body r6 hp (by rw [List.length_map]; exact hsz)
      · refine List.Perm.trans ?_ hp
        rw [← List.append_assoc]
        refine (List.perm_append_comm).trans ?_
        rw [← List.append_assoc]
        exact (erase_perm hj2).append_right _
      · rw [List.length_append, hl]; rfl
      · omega
      · omega
      · exact r5) (fun env ⟨left, found, t', g', hp, hl, k1, k2, k3, e⟩ => by
      subst e
      have hll := hp.length_eq
      rw [List.length_append, List.length_range] at hll
      have d1 : decide ((found.length : Int) < 2 * (c : Int)) = false := decide_eq_false (by omega)
      refine ⟨[.io (Zd.pen ns t' g'), .v (I c), .own (.lst (left.map I)), .own (.lst (found.map I))], ?_, found, t', g', _, ?_, k1, by omega, k3, rfl⟩
      · simp only [tFig, mSeq, mIfS, mThen, mTst, mOp, mIx, mPeek, mVar, mTake, mSet, mSetIx, mRet, mR, mV, mU, mG, mN, mRd2, mOpN, mAnd, mOr, mNot, mAndV, mOrV, mNotV, mIf, mNil, mCons, mTup, mLst, mPart, mSl, mPar, mPair, mDrop, mM1, mM0, mHere, M.chg, M.bind, M.ret, M.of, Ar.sl, Rs.get, Rs.sl, fIx, fI, fI0, fInt, fLen, setSl, isIo, isL, chg, onL, fSetIx, fApp, Sl.mut, Sl.upd, ioC, ioIx, env0, runF, mCall, rsv, wb, axIx, noIoA, xNil, xV, xSl, mIt, mListRg, mTupRg, fRg, List.length_cons, List.length_nil, List.map_cons, List.map_nil, List.cons_append, List.nil_append, List.replicate_succ, List.replicate_zero, List.append_nil, Nat.reduceAdd, Nat.reduceSub, List.getElem?_cons_zero, List.getElem?_cons_succ, List.getElem?_nil, List.set_cons_zero, List.set_cons_succ, Option.bind_some, Option.bind_none, Option.map_some, Option.map_none, Nat.reduceLT, Nat.reduceEqDiff, Nat.reduceLeDiff, decide_true, decide_false, Bool.and_true, Bool.true_and, Bool.and_false, Bool.false_and, Bool.not_true, Bool.not_false, ↓reduceIte, reduceCtorEq, Bool.false_eq_true, List.length_map, Nat.lt_add_left_iff_pos, Nat.zero_lt_succ, Nat.add_eq, Nat.zero_add, Nat.add_zero, Nat.zero_le, sz0, sz1, sz2, sz3, sz4, sz5, sz6, sz7, sz8, sz9, h4b, d1]
      · have : left = [] := List.eq_nil_of_length_eq_zero (by omega)
        subst this
        exact hp)
  obtain ⟨env', w1, found, t', g', s, w2, w3, w4, w5, rfl⟩ := W 0 fuel (by omega) (by show 2 * c - 0 < 1000; omega) [.io (Zd.pen ns t g), .v (I c), .own (.lst ((List.range (2 * c)).map I)), .own (.lst [])] ⟨List.range (2 * c), [], t, g, by rw [List.append_nil], rfl, by omega, by omega, hg, rfl⟩
  refine ⟨found, t', g', w2, w3, w4, w5, ?_⟩
  simp only [fFig, mkF, mFig, mSeq, mIfS, mThen, mTst, mOp, mIx, mPeek, mVar, mTake, mSet, mSetIx, mRet, mR, mV, mU, mG, mN, mRd2, mOpN, mAnd, mOr, mNot, mAndV, mOrV, mNotV, mIf, mNil, mCons, mTup, mLst, mPart, mSl, mPar, mPair, mDrop, mM1, mM0, mHere, M.chg, M.bind, M.ret, M.of, Ar.sl, Rs.get, Rs.sl, fIx, fI, fI0, fInt, fLen, setSl, isIo, isL, chg, onL, fSetIx, fApp, Sl.mut, Sl.upd, ioC, ioIx, env0, runF, mCall, rsv, wb, axIx, noIoA, xNil, xV, xSl, mIt, mListRg, mTupRg, fRg, List.length_cons, List.length_nil, List.map_cons, List.map_nil, List.cons_append, List.nil_append, List.replicate_succ, List.replicate_zero, List.append_nil, Nat.reduceAdd, Nat.reduceSub, List.getElem?_cons_zero, List.getElem?_cons_succ, List.getElem?_nil, List.set_cons_zero, List.set_cons_succ, Option.bind_some, Option.bind_none, Option.map_some, Option.map_none, Nat.reduceLT, Nat.reduceEqDiff, Nat.reduceLeDiff, decide_true, decide_false, Bool.and_true, Bool.true_and, Bool.and_false, Bool.false_and, Bool.not_true, Bool.not_false, ↓reduceIte, reduceCtorEq, Bool.false_eq_true, List.length_map, Nat.lt_add_left_iff_pos, Nat.zero_lt_succ, Nat.add_eq, Nat.zero_add, Nat.add_zero, Nat.zero_le, sz0, sz1, sz2, sz3, sz4, sz5, sz6, sz7, sz8, sz9, h4b, hok, e2, rng_eq, w1]
end
end Ze
end

section
set_option Elab.async false
set_option linter.all false
set_option autoImplicit false
/-! Permutations of the numbers below n: iterates, periods, orbits, least members. -/
namespace Zp
def it (f : Nat → Nat) : Nat → Nat → Nat
  | 0, x => x
  | k + 1, x => f (it f k x)
theorem it_add (f : Nat → Nat) (x : Nat) : ∀ a b, it f (a + b) x = it f a (it f b x)
  | 0, b => by rw [Nat.zero_add]; rfl
  | a + 1, b => by
    rw [show a + 1 + b = (a + b) + 1 by omega]
    exact congrArg f (it_add f x a b)
theorem sub_len {α : Type} [DecidableEq α] : ∀ {l m : List α}, l.Nodup → (∀ x ∈ l, x ∈ m) → l.length ≤ m.length
  | [], m, _, _ => Nat.zero_le _
  | x :: l, m, hn, hs => by
    obtain ⟨h1, h2⟩ := List.nodup_cons.mp hn
    have hx := hs x List.mem_cons_self
    have ih := sub_len (l := l) (m := m.erase x) h2 fun y hy => by
      have hy2 := hs y (List.mem_cons_of_mem _ hy)
      exact (List.mem_erase_of_ne (fun e => h1 (by rw [← e]; exact hy))).mpr hy2
    rw [List.length_erase_of_mem hx] at ih
    have := List.length_pos_of_mem hx
    rw [List.length_cons]
    omega
structure Pm (f : Nat → Nat) (n : Nat) : Prop where
  lt : ∀ i, i < n → f i < n
  inj : ∀ i j, i < n → j < n → f i = f j → i = j
section
variable {f : Nat → Nat} {n : Nat}
theorem Pm.it_lt (P : Pm f n) {x : Nat} (hx : x < n) : ∀ k, it f k x < n
  | 0 => hx
  | k + 1 => P.lt _ (P.it_lt hx k)
theorem Pm.it_inj (P : Pm f n) : ∀ (k : Nat) {x y : Nat}, x < n → y < n → it f k x = it f k y → x = y
  | 0, _, _, _, _, e => e
  | k + 1, _, _, hx, hy, e => P.it_inj k hx hy (P.inj _ _ (P.it_lt hx k) (P.it_lt hy k) e)
theorem Pm.per0 (P : Pm f n) {x : Nat} (hx : x < n) : ∃ k, 1 ≤ k ∧ k ≤ n ∧ it f k x = x := by
  apply Classical.byContradiction
  intro hc
  have hnd : ((List.range (n + 1)).map fun k => it f k x).Nodup := by
    unfold List.Nodup
    rw [List.pairwise_map]
    refine List.Pairwise.imp_of_mem ?_ (List.pairwise_lt_range (n := n + 1))
    intro i j hi hj hij e
    have hj2 := List.mem_range.mp hj
    refine hc ⟨j - i, by omega, by omega, ?_⟩
    rw [show j = i + (j - i) by omega, it_add] at e
    exact (P.it_inj i hx (P.it_lt hx _) e).symm
  have := sub_len (m := List.range n) hnd fun y hy => by
    obtain ⟨k, _, rfl⟩ := List.mem_map.mp hy
    exact List.mem_range.mpr (P.it_lt hx k)
  rw [List.length_map, List.length_range, List.length_range] at this
  omega
/-- L is the least period -/
structure Per (f : Nat → Nat) (x L : Nat) : Prop where
  pos : 1 ≤ L
  back : it f L x = x
  least : ∀ j, 1 ≤ j → j < L → it f j x ≠ x
theorem per_of {f : Nat → Nat} {x : Nat} : ∀ (k : Nat), 1 ≤ k → it f k x = x → ∃ L, L ≤ k ∧ Per f x L := fun k => by
  induction k using Nat.strongRecOn with
  | ind k ih =>
    intro h1 h2
    by_cases h : ∃ j, 1 ≤ j ∧ j < k ∧ it f j x = x
    · obtain ⟨j, a, b, c⟩ := h
      obtain ⟨L, l1, l2⟩ := ih j b a c
      exact ⟨L, by omega, l2⟩
    · exact ⟨k, Nat.le_refl _, h1, h2, fun j a b c => h ⟨j, a, b, c⟩⟩
theorem Pm.per (P : Pm f n) {x : Nat} (hx : x < n) : ∃ L, L ≤ n ∧ Per f x L := by
  obtain ⟨k, h1, h2, h3⟩ := P.per0 hx
  obtain ⟨L, h4, h5⟩ := per_of k h1 h3
  exact ⟨L, by omega, h5⟩
theorem Per.mul {x L : Nat} (h : Per f x L) : ∀ q, it f (L * q) x = x
  | 0 => rfl
  | q + 1 => by rw [Nat.mul_succ, it_add, h.back, h.mul q]
theorem Per.mod {x L : Nat} (h : Per f x L) (k : Nat) : it f k x = it f (k % L) x := by
  conv => lhs; rw [← Nat.mod_add_div k L, it_add, h.mul]
theorem Per.dvd {x L : Nat} (h : Per f x L) (k : Nat) : it f k x = x ↔ L ∣ k := by
  constructor
  · intro e
    rw [h.mod] at e
    refine Nat.dvd_of_mod_eq_zero (Classical.byContradiction fun hz => ?_)
    exact h.least (k % L) (by omega) (Nat.mod_lt _ h.pos) e
  · rintro ⟨q, rfl⟩
    exact h.mul q
/-! ### orbits -/
def walk (f : Nat → Nat) (s : Nat) : Nat → Nat → List Nat
  | 0, _ => []
  | m + 1, a => if a = s then [] else a :: walk f s m (f a)
def orb (f : Nat → Nat) (n x : Nat) : List Nat := x :: walk f x n (f x)
theorem walk_spec {s L : Nat} (h : Per f s L) : ∀ m j, 1 ≤ j → j ≤ L → L - j ≤ m → walk f s m (it f j s) = (List.range (L - j)).map fun i => it f (j + i) s
  | 0, j, h1, h2, h3 => by
    rw [show L - j = 0 by omega]
    rfl
  | m + 1, j, h1, h2, h3 => by
    rw [walk]
    by_cases e : j = L
    · subst e
      rw [if_pos h.back, Nat.sub_self]
      rfl
    · rw [if_neg (h.least j h1 (by omega)), show L - j = (L - (j + 1)) + 1 by omega, List.range_succ_eq_map, List.map_cons, List.map_map]
      have ih := walk_spec h m (j + 1) (by omega) (by omega) (by omega)
      show it f j s :: walk f s m (it f (j + 1) s) = _
      rw [ih]
      refine List.cons_eq_cons.mpr ⟨rfl, List.map_congr_left fun i _ => ?_⟩
      show it f (j + 1 + i) s = it f (j + (i + 1)) s
      rw [show j + 1 + i = j + (i + 1) by omega]
theorem orb_eq {x L : Nat} (h : Per f x L) (hL : L ≤ n + 1) : orb f n x = (List.range L).map fun i => it f i x := by
  unfold orb
  rw [show f x = it f 1 x from rfl, walk_spec h n 1 (Nat.le_refl _) h.pos (by omega), show L = (L - 1) + 1 by have := h.pos; omega, List.range_succ_eq_map, List.map_cons, List.map_map]
  refine List.cons_eq_cons.mpr ⟨rfl, List.map_congr_left fun i _ => ?_⟩
  show it f (1 + i) x = it f (i + 1) x
  rw [Nat.add_comm]
def Rel (f : Nat → Nat) (x y : Nat) : Prop := ∃ k, it f k x = y
theorem Rel.refl (x : Nat) : Rel f x x := ⟨0, rfl⟩
theorem Rel.trans {x y z : Nat} : Rel f x y → Rel f y z → Rel f x z := fun ⟨a, h⟩ ⟨b, k⟩ => ⟨b + a, by rw [it_add, h, k]⟩
theorem Rel.symm (P : Pm f n) {x y : Nat} (hx : x < n) : Rel f x y → Rel f y x := fun ⟨k, h⟩ => by
  obtain ⟨L, _, hL⟩ := P.per hx
  refine ⟨L * k - k, ?_⟩
  have : k ≤ L * k := Nat.le_mul_of_pos_left k hL.pos
  rw [← h, ← it_add, show L * k - k + k = L * k by omega, hL.mul]
theorem Pm.mem_orb (P : Pm f n) {x y : Nat} (hx : x < n) : y ∈ orb f n x ↔ Rel f x y := by
  obtain ⟨L, h1, h2⟩ := P.per hx
  rw [orb_eq h2 (by omega)]
  constructor
  · intro h
    obtain ⟨i, _, e⟩ := List.mem_map.mp h
    exact ⟨i, e⟩
  · rintro ⟨k, e⟩
    rw [h2.mod] at e
    exact List.mem_map.mpr ⟨k % L, List.mem_range.mpr (Nat.mod_lt _ h2.pos), e⟩
theorem Pm.rel_lt (P : Pm f n) {x y : Nat} (hx : x < n) (h : Rel f x y) : y < n := by
  obtain ⟨k, rfl⟩ := h
  exact P.it_lt hx k
theorem Pm.orb_nodup (P : Pm f n) {x : Nat} (hx : x < n) : (orb f n x).Nodup := by
  obtain ⟨L, h1, h2⟩ := P.per hx
  rw [orb_eq h2 (by omega)]
  unfold List.Nodup
  rw [List.pairwise_map]
  refine List.Pairwise.imp_of_mem ?_ (List.pairwise_lt_range (n := L))
  intro i j hi hj hij e
  have hj2 := List.mem_range.mp hj
  rw [show j = i + (j - i) by omega, it_add] at e
  exact h2.least (j - i) (by omega) (by omega) (P.it_inj i hx (P.it_lt hx _) e).symm
/-! ### least members -/
def isMin (f : Nat → Nat) (n x : Nat) : Bool := (orb f n x).all fun y => decide (x ≤ y)
theorem Pm.isMin_iff (P : Pm f n) {x : Nat} (hx : x < n) : isMin f n x = true ↔ ∀ y, Rel f x y → x ≤ y := by
  unfold isMin
  rw [List.all_eq_true]
  constructor
  · intro h y hy
    exact of_decide_eq_true (h y ((P.mem_orb hx).mpr hy))
  · intro h y hy
    exact decide_eq_true (h y ((P.mem_orb hx).mp hy))
theorem Pm.min_ex (P : Pm f n) : ∀ x, x < n → ∃ m, m < n ∧ m ≤ x ∧ isMin f n m = true ∧ Rel f m x := fun x => by
  induction x using Nat.strongRecOn with
  | ind x ih =>
    intro hx
    by_cases h : ∃ y, Rel f x y ∧ y < x
    · obtain ⟨y, h1, h2⟩ := h
      obtain ⟨m, m1, m2, m3, m4⟩ := ih y h2 (by omega)
      exact ⟨m, m1, by omega, m3, m4.trans (h1.symm P hx)⟩
    · exact ⟨x, hx, Nat.le_refl _, (P.isMin_iff hx).mpr fun y hy => Classical.byContradiction fun hc => h ⟨y, hy, by omega⟩, .refl x⟩
theorem Pm.min_uniq (P : Pm f n) {a b x : Nat} (ha : a < n) (hb : b < n) (ma : isMin f n a = true) (mb : isMin f n b = true) (ra : Rel f a x) (rb : Rel f b x) : a = b := by
  have h1 := (P.isMin_iff ha).mp ma b (ra.trans (rb.symm P hb))
  have h2 := (P.isMin_iff hb).mp mb a (rb.trans (ra.symm P ha))
  omega
def mins (f : Nat → Nat) (n : Nat) : List Nat := (List.range n).filter (isMin f n)
def cycs (f : Nat → Nat) (n : Nat) : List (List Nat) := (mins f n).map (orb f n)
theorem mem_mins {x : Nat} : x ∈ mins f n ↔ x < n ∧ isMin f n x = true := by
  unfold mins
  rw [List.mem_filter, List.mem_range]
theorem Pm.flat_nodup (P : Pm f n) : (cycs f n).flatten.Nodup := by
  unfold List.Nodup cycs
  rw [List.pairwise_flatten]
  refine ⟨fun l hl => ?_, ?_⟩
  · obtain ⟨x, hx, rfl⟩ := List.mem_map.mp hl
    exact P.orb_nodup (mem_mins.mp hx).1
  · rw [List.pairwise_map]
    have : (mins f n).Pairwise (· ≠ ·) := List.Pairwise.filter _ (List.nodup_range (n := n))
    refine List.Pairwise.imp_of_mem ?_ this
    intro a b ha hb hab u hu v hv e
    subst e
    obtain ⟨a1, a2⟩ := mem_mins.mp ha
    obtain ⟨b1, b2⟩ := mem_mins.mp hb
    exact hab (P.min_uniq a1 b1 a2 b2 ((P.mem_orb a1).mp hu) ((P.mem_orb b1).mp hv))
theorem Pm.flat_mem (P : Pm f n) (x : Nat) : x ∈ (cycs f n).flatten ↔ x < n := by
  rw [List.mem_flatten]
  constructor
  · rintro ⟨l, hl, hx⟩
    obtain ⟨m, hm, rfl⟩ := List.mem_map.mp hl
    have hm := (mem_mins.mp hm).1
    exact P.rel_lt hm ((P.mem_orb hm).mp hx)
  · intro hx
    obtain ⟨m, m1, _, m3, m4⟩ := P.min_ex x hx
    exact ⟨_, List.mem_map.mpr ⟨m, mem_mins.mpr ⟨m1, m3⟩, rfl⟩, (P.mem_orb m1).mpr m4⟩
theorem Pm.flat_len (P : Pm f n) : (cycs f n).flatten.length = n := by
  have h1 := sub_len (m := List.range n) P.flat_nodup fun x hx => List.mem_range.mpr ((P.flat_mem x).mp hx)
  have h2 := sub_len (l := List.range n) (m := (cycs f n).flatten) List.nodup_range fun x hx => (P.flat_mem x).mpr (List.mem_range.mp hx)
  rw [List.length_range] at h1 h2
  omega
/-! ### the order -/
def lcmL (ls : List Nat) : Nat := ls.foldl Nat.lcm 1
theorem lcm_fold (k : Nat) : ∀ (ls : List Nat) (a : Nat), ls.foldl Nat.lcm a ∣ k ↔ a ∣ k ∧ ∀ l ∈ ls, l ∣ k
  | [], a => by simp
  | l :: ls, a => by
    rw [List.foldl_cons, lcm_fold k ls, Nat.lcm_dvd_iff]
    simp only [List.mem_cons, forall_eq_or_imp, and_assoc]
theorem Pm.order (P : Pm f n) (k : Nat) : (∀ x, x < n → it f k x = x) ↔ lcmL ((cycs f n).map List.length) ∣ k := by
  unfold lcmL
  rw [lcm_fold]
  constructor
  · intro h
    refine ⟨Nat.one_dvd _, fun l hl => ?_⟩
    obtain ⟨c, hc, rfl⟩ := List.mem_map.mp hl
    obtain ⟨m, hm, rfl⟩ := List.mem_map.mp hc
    have hm := (mem_mins.mp hm).1
    obtain ⟨L, h1, h2⟩ := P.per hm
    rw [orb_eq h2 (by omega), List.length_map, List.length_range]
    exact (h2.dvd k).mp (h m hm)
  · rintro ⟨_, h⟩ x hx
    obtain ⟨m, m1, _, m3, ⟨j, m4⟩⟩ := P.min_ex x hx
    have h1 := h _ (List.mem_map.mpr ⟨_, List.mem_map.mpr ⟨m, mem_mins.mpr ⟨m1, m3⟩, rfl⟩, rfl⟩)
    obtain ⟨L, h3, h4⟩ := P.per m1
    rw [orb_eq h4 (by omega), List.length_map, List.length_range] at h1
    rw [← m4, ← it_add, Nat.add_comm, it_add, (h4.dvd k).mpr h1]
end
end Zp
end

section
set_option Elab.async false
set_option linter.all false
set_option maxRecDepth 100000
/-! Plain functions, step by step: one lemma a construct. -/
namespace Zv
open PySem L2 Z Zb Za
section
variable {e e1 e2 e3 e4 : Z.Env} {o : Option SO}
section
variable {t s : Sl} {l : Z.Env}
theorem set_g {j : Nat} {env : Z.Env} (h : env[j]? = some s) (hi : isIo (some s) = false) : setSl j t env = some (env.set j t) := by
  unfold setSl
  rw [h, hi, if_pos]
  rw [decide_eq_true (List.getElem?_eq_some_iff.mp h).1]
  rfl
theorem set0 (h : isIo (some s) = false) : setSl 0 t (s :: l) = some (t :: l) := set_g rfl h
theorem set1 {a0 : Sl} (h : isIo (some s) = false) : setSl 1 t (a0 :: s :: l) = some (a0 :: t :: l) := set_g rfl h
theorem set2 {a0 a1 : Sl} (h : isIo (some s) = false) : setSl 2 t (a0 :: a1 :: s :: l) = some (a0 :: a1 :: t :: l) := set_g rfl h
theorem set3 {a0 a1 a2 : Sl} (h : isIo (some s) = false) : setSl 3 t (a0 :: a1 :: a2 :: s :: l) = some (a0 :: a1 :: a2 :: t :: l) := set_g rfl h
theorem set4 {a0 a1 a2 a3 : Sl} (h : isIo (some s) = false) : setSl 4 t (a0 :: a1 :: a2 :: a3 :: s :: l) = some (a0 :: a1 :: a2 :: a3 :: t :: l) := set_g rfl h
theorem set5 {a0 a1 a2 a3 a4 : Sl} (h : isIo (some s) = false) : setSl 5 t (a0 :: a1 :: a2 :: a3 :: a4 :: s :: l) = some (a0 :: a1 :: a2 :: a3 :: a4 :: t :: l) := set_g rfl h
theorem set6 {a0 a1 a2 a3 a4 a5 : Sl} (h : isIo (some s) = false) : setSl 6 t (a0 :: a1 :: a2 :: a3 :: a4 :: a5 :: s :: l) = some (a0 :: a1 :: a2 :: a3 :: a4 :: a5 :: t :: l) := set_g rfl h
theorem set7 {a0 a1 a2 a3 a4 a5 a6 : Sl} (h : isIo (some s) = false) : setSl 7 t (a0 :: a1 :: a2 :: a3 :: a4 :: a5 :: a6 :: s :: l) = some (a0 :: a1 :: a2 :: a3 :: a4 :: a5 :: a6 :: t :: l) := set_g rfl h
theorem set8 {a0 a1 a2 a3 a4 a5 a6 a7 : Sl} (h : isIo (some s) = false) : setSl 8 t (a0 :: a1 :: a2 :: a3 :: a4 :: a5 :: a6 :: a7 :: s :: l) = some (a0 :: a1 :: a2 :: a3 :: a4 :: a5 :: a6 :: a7 :: t :: l) := set_g rfl h
theorem set9 {a0 a1 a2 a3 a4 a5 a6 a7 a8 : Sl} (h : isIo (some s) = false) : setSl 9 t (a0 :: a1 :: a2 :: a3 :: a4 :: a5 :: a6 :: a7 :: a8 :: s :: l) = some (a0 :: a1 :: a2 :: a3 :: a4 :: a5 :: a6 :: a7 :: a8 :: t :: l) := set_g rfl h
theorem set10 {a0 a1 a2 a3 a4 a5 a6 a7 a8 a9 : Sl} (h : isIo (some s) = false) : setSl 10 t (a0 :: a1 :: a2 :: a3 :: a4 :: a5 :: a6 :: a7 :: a8 :: a9 :: s :: l) = some (a0 :: a1 :: a2 :: a3 :: a4 :: a5 :: a6 :: a7 :: a8 :: a9 :: t :: l) := set_g rfl h
theorem set11 {a0 a1 a2 a3 a4 a5 a6 a7 a8 a9 a10 : Sl} (h : isIo (some s) = false) : setSl 11 t (a0 :: a1 :: a2 :: a3 :: a4 :: a5 :: a6 :: a7 :: a8 :: a9 :: a10 :: s :: l) = some (a0 :: a1 :: a2 :: a3 :: a4 :: a5 :: a6 :: a7 :: a8 :: a9 :: a10 :: t :: l) := set_g rfl h
theorem set12 {a0 a1 a2 a3 a4 a5 a6 a7 a8 a9 a10 a11 : Sl} (h : isIo (some s) = false) : setSl 12 t (a0 :: a1 :: a2 :: a3 :: a4 :: a5 :: a6 :: a7 :: a8 :: a9 :: a10 :: a11 :: s :: l) = some (a0 :: a1 :: a2 :: a3 :: a4 :: a5 :: a6 :: a7 :: a8 :: a9 :: a10 :: a11 :: t :: l) := set_g rfl h
theorem set13 {a0 a1 a2 a3 a4 a5 a6 a7 a8 a9 a10 a11 a12 : Sl} (h : isIo (some s) = false) : setSl 13 t (a0 :: a1 :: a2 :: a3 :: a4 :: a5 :: a6 :: a7 :: a8 :: a9 :: a10 :: a11 :: a12 :: s :: l) = some (a0 :: a1 :: a2 :: a3 :: a4 :: a5 :: a6 :: a7 :: a8 :: a9 :: a10 :: a11 :: a12 :: t :: l) := set_g rfl h
theorem set14 {a0 a1 a2 a3 a4 a5 a6 a7 a8 a9 a10 a11 a12 a13 : Sl} (h : isIo (some s) = false) : setSl 14 t (a0 :: a1 :: a2 :: a3 :: a4 :: a5 :: a6 :: a7 :: a8 :: a9 :: a10 :: a11 :: a12 :: a13 :: s :: l) = some (a0 :: a1 :: a2 :: a3 :: a4 :: a5 :: a6 :: a7 :: a8 :: a9 :: a10 :: a11 :: a12 :: a13 :: t :: l) := set_g rfl h
theorem set15 {a0 a1 a2 a3 a4 a5 a6 a7 a8 a9 a10 a11 a12 a13 a14 : Sl} (h : isIo (some s) = false) : setSl 15 t (a0 :: a1 :: a2 :: a3 :: a4 :: a5 :: a6 :: a7 :: a8 :: a9 :: a10 :: a11 :: a12 :: a13 :: a14 :: s :: l) = some (a0 :: a1 :: a2 :: a3 :: a4 :: a5 :: a6 :: a7 :: a8 :: a9 :: a10 :: a11 :: a12 :: a13 :: a14 :: t :: l) := set_g rfl h
theorem set16 {a0 a1 a2 a3 a4 a5 a6 a7 a8 a9 a10 a11 a12 a13 a14 a15 : Sl} (h : isIo (some s) = false) : setSl 16 t (a0 :: a1 :: a2 :: a3 :: a4 :: a5 :: a6 :: a7 :: a8 :: a9 :: a10 :: a11 :: a12 :: a13 :: a14 :: a15 :: s :: l) = some (a0 :: a1 :: a2 :: a3 :: a4 :: a5 :: a6 :: a7 :: a8 :: a9 :: a10 :: a11 :: a12 :: a13 :: a14 :: a15 :: t :: l) := set_g rfl h
theorem set17 {a0 a1 a2 a3 a4 a5 a6 a7 a8 a9 a10 a11 a12 a13 a14 a15 a16 : Sl} (h : isIo (some s) = false) : setSl 17 t (a0 :: a1 :: a2 :: a3 :: a4 :: a5 :: a6 :: a7 :: a8 :: a9 :: a10 :: a11 :: a12 :: a13 :: a14 :: a15 :: a16 :: s :: l) = some (a0 :: a1 :: a2 :: a3 :: a4 :: a5 :: a6 :: a7 :: a8 :: a9 :: a10 :: a11 :: a12 :: a13 :: a14 :: a15 :: a16 :: t :: l) := set_g rfl h
theorem set18 {a0 a1 a2 a3 a4 a5 a6 a7 a8 a9 a10 a11 a12 a13 a14 a15 a16 a17 : Sl} (h : isIo (some s) = false) : setSl 18 t (a0 :: a1 :: a2 :: a3 :: a4 :: a5 :: a6 :: a7 :: a8 :: a9 :: a10 :: a11 :: a12 :: a13 :: a14 :: a15 :: a16 :: a17 :: s :: l) = some (a0 :: a1 :: a2 :: a3 :: a4 :: a5 :: a6 :: a7 :: a8 :: a9 :: a10 :: a11 :: a12 :: a13 :: a14 :: a15 :: a16 :: a17 :: t :: l) := set_g rfl h
theorem set19 {a0 a1 a2 a3 a4 a5 a6 a7 a8 a9 a10 a11 a12 a13 a14 a15 a16 a17 a18 : Sl} (h : isIo (some s) = false) : setSl 19 t (a0 :: a1 :: a2 :: a3 :: a4 :: a5 :: a6 :: a7 :: a8 :: a9 :: a10 :: a11 :: a12 :: a13 :: a14 :: a15 :: a16 :: a17 :: a18 :: s :: l) = some (a0 :: a1 :: a2 :: a3 :: a4 :: a5 :: a6 :: a7 :: a8 :: a9 :: a10 :: a11 :: a12 :: a13 :: a14 :: a15 :: a16 :: a17 :: a18 :: t :: l) := set_g rfl h
theorem set20 {a0 a1 a2 a3 a4 a5 a6 a7 a8 a9 a10 a11 a12 a13 a14 a15 a16 a17 a18 a19 : Sl} (h : isIo (some s) = false) : setSl 20 t (a0 :: a1 :: a2 :: a3 :: a4 :: a5 :: a6 :: a7 :: a8 :: a9 :: a10 :: a11 :: a12 :: a13 :: a14 :: a15 :: a16 :: a17 :: a18 :: a19 :: s :: l) = some (a0 :: a1 :: a2 :: a3 :: a4 :: a5 :: a6 :: a7 :: a8 :: a9 :: a10 :: a11 :: a12 :: a13 :: a14 :: a15 :: a16 :: a17 :: a18 :: a19 :: t :: l) := set_g rfl h
theorem set21 {a0 a1 a2 a3 a4 a5 a6 a7 a8 a9 a10 a11 a12 a13 a14 a15 a16 a17 a18 a19 a20 : Sl} (h : isIo (some s) = false) : setSl 21 t (a0 :: a1 :: a2 :: a3 :: a4 :: a5 :: a6 :: a7 :: a8 :: a9 :: a10 :: a11 :: a12 :: a13 :: a14 :: a15 :: a16 :: a17 :: a18 :: a19 :: a20 :: s :: l) = some (a0 :: a1 :: a2 :: a3 :: a4 :: a5 :: a6 :: a7 :: a8 :: a9 :: a10 :: a11 :: a12 :: a13 :: a14 :: a15 :: a16 :: a17 :: a18 :: a19 :: a20 :: t :: l) := set_g rfl h
theorem set22 {a0 a1 a2 a3 a4 a5 a6 a7 a8 a9 a10 a11 a12 a13 a14 a15 a16 a17 a18 a19 a20 a21 : Sl} (h : isIo (some s) = false) : setSl 22 t (a0 :: a1 :: a2 :: a3 :: a4 :: a5 :: a6 :: a7 :: a8 :: a9 :: a10 :: a11 :: a12 :: a13 :: a14 :: a15 :: a16 :: a17 :: a18 :: a19 :: a20 :: a21 :: s :: l) = some (a0 :: a1 :: a2 :: a3 :: a4 :: a5 :: a6 :: a7 :: a8 :: a9 :: a10 :: a11 :: a12 :: a13 :: a14 :: a15 :: a16 :: a17 :: a18 :: a19 :: a20 :: a21 :: t :: l) := set_g rfl h
theorem set23 {a0 a1 a2 a3 a4 a5 a6 a7 a8 a9 a10 a11 a12 a13 a14 a15 a16 a17 a18 a19 a20 a21 a22 : Sl} (h : isIo (some s) = false) : setSl 23 t (a0 :: a1 :: a2 :: a3 :: a4 :: a5 :: a6 :: a7 :: a8 :: a9 :: a10 :: a11 :: a12 :: a13 :: a14 :: a15 :: a16 :: a17 :: a18 :: a19 :: a20 :: a21 :: a22 :: s :: l) = some (a0 :: a1 :: a2 :: a3 :: a4 :: a5 :: a6 :: a7 :: a8 :: a9 :: a10 :: a11 :: a12 :: a13 :: a14 :: a15 :: a16 :: a17 :: a18 :: a19 :: a20 :: a21 :: a22 :: t :: l) := set_g rfl h
theorem var0 {d : D} : mVar 0 (.v d :: l) = some (.ok d (.v d :: l)) := rfl
theorem varO0 {d : D} : mVar 0 (.own d :: l) = some (.ok d (.v d :: l)) := rfl
theorem takeO0 {d : D} : mTake 0 (.own d :: l) = some (.ok (.fr d) (.no :: l)) := rfl
theorem var1 {d : D} {a0 : Sl} : mVar 1 (a0 :: .v d :: l) = some (.ok d (a0 :: .v d :: l)) := rfl
theorem varO1 {d : D} {a0 : Sl} : mVar 1 (a0 :: .own d :: l) = some (.ok d (a0 :: .v d :: l)) := rfl
theorem takeO1 {d : D} {a0 : Sl} : mTake 1 (a0 :: .own d :: l) = some (.ok (.fr d) (a0 :: .no :: l)) := rfl
theorem var2 {d : D} {a0 a1 : Sl} : mVar 2 (a0 :: a1 :: .v d :: l) = some (.ok d (a0 :: a1 :: .v d :: l)) := rfl
theorem varO2 {d : D} {a0 a1 : Sl} : mVar 2 (a0 :: a1 :: .own d :: l) = some (.ok d (a0 :: a1 :: .v d :: l)) := rfl
theorem takeO2 {d : D} {a0 a1 : Sl} : mTake 2 (a0 :: a1 :: .own d :: l) = some (.ok (.fr d) (a0 :: a1 :: .no :: l)) := rfl
theorem var3 {d : D} {a0 a1 a2 : Sl} : mVar 3 (a0 :: a1 :: a2 :: .v d :: l) = some (.ok d (a0 :: a1 :: a2 :: .v d :: l)) := rfl
theorem varO3 {d : D} {a0 a1 a2 : Sl} : mVar 3 (a0 :: a1 :: a2 :: .own d :: l) = some (.ok d (a0 :: a1 :: a2 :: .v d :: l)) := rfl
theorem takeO3 {d : D} {a0 a1 a2 : Sl} : mTake 3 (a0 :: a1 :: a2 :: .own d :: l) = some (.ok (.fr d) (a0 :: a1 :: a2 :: .no :: l)) := rfl
theorem var4 {d : D} {a0 a1 a2 a3 : Sl} : mVar 4 (a0 :: a1 :: a2 :: a3 :: .v d :: l) = some (.ok d (a0 :: a1 :: a2 :: a3 :: .v d :: l)) := rfl
theorem varO4 {d : D} {a0 a1 a2 a3 : Sl} : mVar 4 (a0 :: a1 :: a2 :: a3 :: .own d :: l) = some (.ok d (a0 :: a1 :: a2 :: a3 :: .v d :: l)) := rfl
theorem takeO4 {d : D} {a0 a1 a2 a3 : Sl} : mTake 4 (a0 :: a1 :: a2 :: a3 :: .own d :: l) = some (.ok (.fr d) (a0 :: a1 :: a2 :: a3 :: .no :: l)) := rfl
theorem var5 {d : D} {a0 a1 a2 a3 a4 : Sl} : mVar 5 (a0 :: a1 :: a2 :: a3 :: a4 :: .v d :: l) = some (.ok d (a0 :: a1 :: a2 :: a3 :: a4 :: .v d :: l)) := rfl
theorem varO5 {d : D} {a0 a1 a2 a3 a4 : Sl} : mVar 5 (a0 :: a1 :: a2 :: a3 :: a4 :: .own d :: l) = some (.ok d (a0 :: a1 :: a2 :: a3 :: a4 :: .v d :: l)) := rfl
theorem takeO5 {d : D} {a0 a1 a2 a3 a4 : Sl} : mTake 5 (a0 :: a1 :: a2 :: a3 :: a4 :: .own d :: l) = some (.ok (.fr d) (a0 :: a1 :: a2 :: a3 :: a4 :: .no :: l)) := rfl
theorem var6 {d : D} {a0 a1 a2 a3 a4 a5 : Sl} : mVar 6 (a0 :: a1 :: a2 :: a3 :: a4 :: a5 :: .v d :: l) = some (.ok d (a0 :: a1 :: a2 :: a3 :: a4 :: a5 :: .v d :: l)) := rfl
theorem varO6 {d : D} {a0 a1 a2 a3 a4 a5 : Sl} : mVar 6 (a0 :: a1 :: a2 :: a3 :: a4 :: a5 :: .own d :: l) = some (.ok d (a0 :: a1 :: a2 :: a3 :: a4 :: a5 :: .v d :: l)) := rfl
theorem takeO6 {d : D} {a0 a1 a2 a3 a4 a5 : Sl} : mTake 6 (a0 :: a1 :: a2 :: a3 :: a4 :: a5 :: .own d :: l) = some (.ok (.fr d) (a0 :: a1 :: a2 :: a3 :: a4 :: a5 :: .no :: l)) := rfl
theorem var7 {d : D} {a0 a1 a2 a3 a4 a5 a6 : Sl} : mVar 7 (a0 :: a1 :: a2 :: a3 :: a4 :: a5 :: a6 :: .v d :: l) = some (.ok d (a0 :: a1 :: a2 :: a3 :: a4 :: a5 :: a6 :: .v d :: l)) := rfl
theorem varO7 {d : D} {a0 a1 a2 a3 a4 a5 a6 : Sl} : mVar 7 (a0 :: a1 :: a2 :: a3 :: a4 :: a5 :: a6 :: .own d :: l) = some (.ok d (a0 :: a1 :: a2 :: a3 :: a4 :: a5 :: a6 :: .v d :: l)) := rfl
theorem takeO7 {d : D} {a0 a1 a2 a3 a4 a5 a6 : Sl} : mTake 7 (a0 :: a1 :: a2 :: a3 :: a4 :: a5 :: a6 :: .own d :: l) = some (.ok (.fr d) (a0 :: a1 :: a2 :: a3 :: a4 :: a5 :: a6 :: .no :: l)) := rfl
theorem var8 {d : D} {a0 a1 a2 a3 a4 a5 a6 a7 : Sl} : mVar 8 (a0 :: a1 :: a2 :: a3 :: a4 :: a5 :: a6 :: a7 :: .v d :: l) = some (.ok d (a0 :: a1 :: a2 :: a3 :: a4 :: a5 :: a6 :: a7 :: .v d :: l)) := rfl
theorem varO8 {d : D} {a0 a1 a2 a3 a4 a5 a6 a7 : Sl} : mVar 8 (a0 :: a1 :: a2 :: a3 :: a4 :: a5 :: a6 :: a7 :: .own d :: l) = some (.ok d (a0 :: a1 :: a2 :: a3 :: a4 :: a5 :: a6 :: a7 :: .v d :: l)) := rfl
theorem takeO8 {d : D} {a0 a1 a2 a3 a4 a5 a6 a7 : Sl} : mTake 8 (a0 :: a1 :: a2 :: a3 :: a4 :: a5 :: a6 :: a7 :: .own d :: l) = some (.ok (.fr d) (a0 :: a1 :: a2 :: a3 :: a4 :: a5 :: a6 :: a7 :: .no :: l)) := rfl
theorem var9 {d : D} {a0 a1 a2 a3 a4 a5 a6 a7 a8 : Sl} : mVar 9 (a0 :: a1 :: a2 :: a3 :: a4 :: a5 :: a6 :: a7 :: a8 :: .v d :: l) = some (.ok d (a0 :: a1 :: a2 :: a3 :: a4 :: a5 :: a6 :: a7 :: a8 :: .v d :: l)) := rfl
theorem varO9 {d : D} {a0 a1 a2 a3 a4 a5 a6 a7 a8 : Sl} : mVar 9 (a0 :: a1 :: a2 :: a3 :: a4 :: a5 :: a6 :: a7 :: a8 :: .own d :: l) = some (.ok d (a0 :: a1 :: a2 :: a3 :: a4 :: a5 :: a6 :: a7 :: a8 :: .v d :: l)) := rfl
theorem takeO9 {d : D} {a0 a1 a2 a3 a4 a5 a6 a7 a8 : Sl} : mTake 9 (a0 :: a1 :: a2 :: a3 :: a4 :: a5 :: a6 :: a7 :: a8 :: .own d :: l) = some (.ok (.fr d) (a0 :: a1 :: a2 :: a3 :: a4 :: a5 :: a6 :: a7 :: a8 :: .no :: l)) := rfl
theorem var10 {d : D} {a0 a1 a2 a3 a4 a5 a6 a7 a8 a9 : Sl} : mVar 10 (a0 :: a1 :: a2 :: a3 :: a4 :: a5 :: a6 :: a7 :: a8 :: a9 :: .v d :: l) = some (.ok d (a0 :: a1 :: a2 :: a3 :: a4 :: a5 :: a6 :: a7 :: a8 :: a9 :: .v d :: l)) := rfl
theorem varO10 {d : D} {a0 a1 a2 a3 a4 a5 a6 a7 a8 a9 : Sl} : mVar 10 (a0 :: a1 :: a2 :: a3 :: a4 :: a5 :: a6 :: a7 :: a8 :: a9 :: .own d :: l) = some (.ok d (a0 :: a1 :: a2 :: a3 :: a4 :: a5 :: a6 :: a7 :: a8 :: a9 :: .v d :: l)) := rfl
theorem takeO10 {d : D} {a0 a1 a2 a3 a4 a5 a6 a7 a8 a9 : Sl} : mTake 10 (a0 :: a1 :: a2 :: a3 :: a4 :: a5 :: a6 :: a7 :: a8 :: a9 :: .own d :: l) = some (.ok (.fr d) (a0 :: a1 :: a2 :: a3 :: a4 :: a5 :: a6 :: a7 :: a8 :: a9 :: .no :: l)) := rfl
theorem var11 {d : D} {a0 a1 a2 a3 a4 a5 a6 a7 a8 a9 a10 : Sl} : mVar 11 (a0 :: a1 :: a2 :: a3 :: a4 :: a5 :: a6 :: a7 :: a8 :: a9 :: a10 :: .v d :: l) = some (.ok d (a0 :: a1 :: a2 :: a3 :: a4 :: a5 :: a6 :: a7 :: a8 :: a9 :: a10 :: .v d :: l)) := rfl
theorem varO11 {d : D} {a0 a1 a2 a3 a4 a5 a6 a7 a8 a9 a10 : Sl} : mVar 11 (a0 :: a1 :: a2 :: a3 :: a4 :: a5 :: a6 :: a7 :: a8 :: a9 :: a10 :: .own d :: l) = some (.ok d (a0 :: a1 :: a2 :: a3 :: a4 :: a5 :: a6 :: a7 :: a8 :: a9 :: a10 :: .v d :: l)) := rfl
theorem takeO11 {d : D} {a0 a1 a2 a3 a4 a5 a6 a7 a8 a9 a10 : Sl} : mTake 11 (a0 :: a1 :: a2 :: a3 :: a4 :: a5 :: a6 :: a7 :: a8 :: a9 :: a10 :: .own d :: l) = some (.ok (.fr d) (a0 :: a1 :: a2 :: a3 :: a4 :: a5 :: a6 :: a7 :: a8 :: a9 :: a10 :: .no :: l)) := rfl
theorem var12 {d : D} {a0 a1 a2 a3 a4 a5 a6 a7 a8 a9 a10 a11 : Sl} : mVar 12 (a0 :: a1 :: a2 :: a3 :: a4 :: a5 :: a6 :: a7 :: a8 :: a9 :: a10 :: a11 :: .v d :: l) = some (.ok d (a0 :: a1 :: a2 :: a3 :: a4 :: a5 :: a6 :: a7 :: a8 :: a9 :: a10 :: a11 :: .v d :: l)) := rfl
theorem varO12 {d : D} {a0 a1 a2 a3 a4 a5 a6 a7 a8 a9 a10 a11 : Sl} : mVar 12 (a0 :: a1 :: a2 :: a3 :: a4 :: a5 :: a6 :: a7 :: a8 :: a9 :: a10 :: a11 :: .own d :: l) = some (.ok d (a0 :: a1 :: a2 :: a3 :: a4 :: a5 :: a6 :: a7 :: a8 :: a9 :: a10 :: a11 :: .v d :: l)) := rfl
theorem takeO12 {d : D} {a0 a1 a2 a3 a4 a5 a6 a7 a8 a9 a10 a11 : Sl} : mTake 12 (a0 :: a1 :: a2 :: a3 :: a4 :: a5 :: a6 :: a7 :: a8 :: a9 :: a10 :: a11 :: .own d :: l) = some (.ok (.fr d) (a0 :: a1 :: a2 :: a3 :: a4 :: a5 :: a6 :: a7 :: a8 :: a9 :: a10 :: a11 :: .no :: l)) := rfl
theorem var13 {d : D} {a0 a1 a2 a3 a4 a5 a6 a7 a8 a9 a10 a11 a12 : Sl} : mVar 13 (a0 :: a1 :: a2 :: a3 :: a4 :: a5 :: a6 :: a7 :: a8 :: a9 :: a10 :: a11 :: a12 :: .v d :: l) = some (.ok d (a0 :: a1 :: a2 :: a3 :: a4 :: a5 :: a6 :: a7 :: a8 :: a9 :: a10 :: a11 :: a12 :: .v d :: l)) := rfl
theorem varO13 {d : D} {a0 a1 a2 a3 a4 a5 a6 a7 a8 a9 a10 a11 a12 : Sl} : mVar 13 (a0 :: a1 :: a2 :: a3 :: a4 :: a5 :: a6 :: a7 :: a8 :: a9 :: a10 :: a11 :: a12 :: .own d :: l) = some (.ok d (a0 :: a1 :: a2 :: a3 :: a4 :: a5 :: a6 :: a7 :: a8 :: a9 :: a10 :: a11 :: a12 :: .v d :: l)) := rfl
theorem takeO13 {d : D} {a0 a1 a2 a3 a4 a5 a6 a7 a8 a9 a10 a11 a12 : Sl} : mTake 13 (a0 :: a1 :: a2 :: a3 :: a4 :: a5 :: a6 :: a7 :: a8 :: a9 :: a10 :: a11 :: a12 :: .own d :: l) = some (.ok (.fr d) (a0 :: a1 :: a2 :: a3 :: a4 :: a5 :: a6 :: a7 :: a8 :: a9 :: a10 :: a11 :: a12 :: .no :: l)) := rfl
theorem var14 {d : D} {a0 a1 a2 a3 a4 a5 a6 a7 a8 a9 a10 a11 a12 a13 : Sl} : mVar 14 (a0 :: a1 :: a2 :: a3 :: a4 :: a5 :: a6 :: a7 :: a8 :: a9 :: a10 :: a11 :: a12 :: a13 :: .v d :: l) = some (.ok d (a0 :: a1 :: a2 :: a3 :: a4 :: a5 :: a6 :: a7 :: a8 :: a9 :: a10 :: a11 :: a12 :: a13 :: .v d :: l)) := rfl
theorem varO14 {d : D} {a0 a1 a2 a3 a4 a5 a6 a7 a8 a9 a10 a11 a12 a13 : Sl} : mVar 14 (a0 :: a1 :: a2 :: a3 :: a4 :: a5 :: a6 :: a7 :: a8 :: a9 :: a10 :: a11 :: a12 :: a13 :: .own d :: l) = some (.ok d (a0 :: a1 :: a2 :: a3 :: a4 :: a5 :: a6 :: a7 :: a8 :: a9 :: a10 :: a11 :: a12 :: a13 :: .v d :: l)) := rfl
theorem takeO14 {d : D} {a0 a1 a2 a3 a4 a5 a6 a7 a8 a9 a10 a11 a12 a13 : Sl} : mTake 14 (a0 :: a1 :: a2 :: a3 :: a4 :: a5 :: a6 :: a7 :: a8 :: a9 :: a10 :: a11 :: a12 :: a13 :: .own d :: l) = some (.ok (.fr d) (a0 :: a1 :: a2 :: a3 :: a4 :: a5 :: a6 :: a7 :: a8 :: a9 :: a10 :: a11 :: a12 :: a13 :: .no :: l)) := rfl
theorem var15 {d : D} {a0 a1 a2 a3 a4 a5 a6 a7 a8 a9 a10 a11 a12 a13 a14 : Sl} : mVar 15 (a0 :: a1 :: a2 :: a3 :: a4 :: a5 :: a6 :: a7 :: a8 :: a9 :: a10 :: a11 :: a12 :: a13 :: a14 :: .v d :: l) = some (.ok d (a0 :: a1 :: a2 :: a3 :: a4 :: a5 :: a6 :: a7 :: a8 :: a9 :: a10 :: a11 :: a12 :: a13 :: a14 :: .v d :: l)) := rfl
theorem varO15 {d : D} {a0 a1 a2 a3 a4 a5 a6 a7 a8 a9 a10 a11 a12 a13 a14 : Sl} : mVar 15 (a0 :: a1 :: a2 :: a3 :: a4 :: a5 :: a6 :: a7 :: a8 :: a9 :: a10 :: a11 :: a12 :: a13 :: a14 :: .own d :: l) = some (.ok d (a0 :: a1 :: a2 :: a3 :: a4 :: a5 :: a6 :: a7 :: a8 :: a9 :: a10 :: a11 :: a12 :: a13 :: a14 :: .v d :: l)) := rfl
theorem takeO15 {d : D} {a0 a1 a2 a3 a4 a5 a6 a7 a8 a9 a10 a11 a12 a13 a14 : Sl} : mTake 15 (a0 :: a1 :: a2 :: a3 :: a4 :: a5 :: a6 :: a7 :: a8 :: a9 :: a10 :: a11 :: a12 :: a13 :: a14 :: .own d :: l) = some (.ok (.fr d) (a0 :: a1 :: a2 :: a3 :: a4 :: a5 :: a6 :: a7 :: a8 :: a9 :: a10 :: a11 :: a12 :: a13 :: a14 :: .no :: l)) := rfl
theorem var16 {d : D} {a0 a1 a2 a3 a4 a5 a6 a7 a8 a9 a10 a11 a12 a13 a14 a15 : Sl} : mVar 16 (a0 :: a1 :: a2 :: a3 :: a4 :: a5 :: a6 :: a7 :: a8 :: a9 :: a10 :: a11 :: a12 :: a13 :: a14 :: a15 :: .v d :: l) = some (.ok d (a0 :: a1 :: a2 :: a3 :: a4 :: a5 :: a6 :: a7 :: a8 :: a9 :: a10 :: a11 :: a12 :: a13 :: a14 :: a15 :: .v d :: l)) := rfl
theorem varO16 {d : D} {a0 a1 a2 a3 a4 a5 a6 a7 a8 a9 a10 a11 a12 a13 a14 a15 : Sl} : mVar 16 (a0 :: a1 :: a2 :: a3 :: a4 :: a5 :: a6 :: a7 :: a8 :: a9 :: a10 :: a11 :: a12 :: a13 :: a14 :: a15 :: .own d :: l) = some (.ok d (a0 :: a1 :: a2 :: a3 :: a4 :: a5 :: a6 :: a7 :: a8 :: a9 :: a10 :: a11 :: a12 :: a13 :: a14 :: a15 :: .v d :: l)) := rfl
theorem takeO16 {d : D} {a0 a1 a2 a3 a4 a5 a6 a7 a8 a9 a10 a11 a12 a13 a14 a15 : Sl} : mTake 16 (a0 :: a1 :: a2 :: a3 :: a4 :: a5 :: a6 :: a7 :: a8 :: a9 :: a10 :: a11 :: a12 :: a13 :: a14 :: a15 :: .own d :: l) = some (.ok (.fr d) (a0 :: a1 :: a2 :: a3 :: a4 :: a5 :: a6 :: a7 :: a8 :: a9 :: a10 :: a11 :: a12 :: a13 :: a14 :: a15 :: .no :: l)) := rfl
theorem var17 {d : D} {a0 a1 a2 a3 a4 a5 a6 a7 a8 a9 a10 a11 a12 a13 a14 a15 a16 : Sl} : mVar 17 (a0 :: a1 :: a2 :: a3 :: a4 :: a5 :: a6 :: a7 :: a8 :: a9 :: a10 :: a11 :: a12 :: a13 :: a14 :: a15 :: a16 :: .v d :: l) = some (.ok d (a0 :: a1 :: a2 :: a3 :: a4 :: a5 :: a6 :: a7 :: a8 :: a9 :: a10 :: a11 :: a12 :: a13 :: a14 :: a15 :: a16 :: .v d :: l)) := rfl
theorem varO17 {d : D} {a0 a1 a2 a3 a4 a5 a6 a7 a8 a9 a10 a11 a12 a13 a14 a15 a16 : Sl} : mVar 17 (a0 :: a1 :: a2 :: a3 :: a4 :: a5 :: a6 :: a7 :: a8 :: a9 :: a10 :: a11 :: a12 :: a13 :: a14 :: a15 :: a16 :: .own d :: l) = some (.ok d (a0 :: a1 :: a2 :: a3 :: a4 :: a5 :: a6 :: a7 :: a8 :: a9 :: a10 :: a11 :: a12 :: a13 :: a14 :: a15 :: a16 :: .v d :: l)) := rfl
theorem takeO17 {d : D} {a0 a1 a2 a3 a4 a5 a6 a7 a8 a9 a10 a11 a12 a13 a14 a15 a16 : Sl} : mTake 17 (a0 :: a1 :: a2 :: a3 :: a4 :: a5 :: a6 :: a7 :: a8 :: a9 :: a10 :: a11 :: a12 :: a13 :: a14 :: a15 :: a16 :: .own d :: l) = some (.ok (.fr d) (a0 :: a1 :: a2 :: a3 :: a4 :: a5 :: a6 :: a7 :: a8 :: a9 :: a10 :: a11 :: a12 :: a13 :: a14 :: a15 :: a16 :: .no :: l)) := rfl
theorem var18 {d : D} {a0 a1 a2 a3 a4 a5 a6 a7 a8 a9 a10 a11 a12 a13 a14 a15 a16 a17 : Sl} : mVar 18 (a0 :: a1 :: a2 :: a3 :: a4 :: a5 :: a6 :: a7 :: a8 :: a9 :: a10 :: a11 :: a12 :: a13 :: a14 :: a15 :: a16 :: a17 :: .v d :: l) = some (.ok d (a0 :: a1 :: a2 :: a3 :: a4 :: a5 :: a6 :: a7 :: a8 :: a9 :: a10 :: a11 :: a12 :: a13 :: a14 :: a15 :: a16 :: a17 :: .v d :: l)) := rfl
theorem varO18 {d : D} {a0 a1 a2 a3 a4 a5 a6 a7 a8 a9 a10 a11 a12 a13 a14 a15 a16 a17 : Sl} : mVar 18 (a0 :: a1 :: a2 :: a3 :: a4 :: a5 :: a6 :: a7 :: a8 :: a9 :: a10 :: a11 :: a12 :: a13 :: a14 :: a15 :: a16 :: a17 :: .own d :: l) = some (.ok d (a0 :: a1 :: a2 :: a3 :: a4 :: a5 :: a6 :: a7 :: a8 :: a9 :: a10 :: a11 :: a12 :: a13 :: a14 :: a15 :: a16 :: a17 :: .v d :: l)) := rfl
theorem takeO18 {d : D} {a0 a1 a2 a3 a4 a5 a6 a7 a8 a9 a10 a11 a12 a13 a14 a15 a16 a17 : Sl} : mTake 18 (a0 :: a1 :: a2 :: a3 :: a4 :: a5 :: a6 :: a7 :: a8 :: a9 :: a10 :: a11 :: a12 :: a13 :: a14 :: a15 :: a16 :: a17 :: .own d :: l) = some (.ok (.fr d) (a0 :: a1 :: a2 :: a3 :: a4 :: a5 :: a6 :: a7 :: a8 :: a9 :: a10 :: a11 :: a12 :: a13 :: a14 :: a15 :: a16 :: a17 :: .no :: l)) := rfl
theorem var19 {d : D} {a0 a1 a2 a3 a4 a5 a6 a7 a8 a9 a10 a11 a12 a13 a14 a15 a16 a17 a18 : Sl} : mVar 19 (a0 :: a1 :: a2 :: a3 :: a4 :: a5 :: a6 :: a7 :: a8 :: a9 :: a10 :: a11 :: a12 :: a13 :: a14 :: a15 :: a16 :: a17 :: a18 :: .v d :: l) = some (.ok d (a0 :: a1 :: a2 :: a3 :: a4 :: a5 :: a6 :: a7 :: a8 :: a9 :: a10 :: a11 :: a12 :: a13 :: a14 :: a15 :: a16 :: a17 :: a18 :: .v d :: l)) := rfl
theorem varO19 {d : D} {a0 a1 a2 a3 a4 a5 a6 a7 a8 a9 a10 a11 a12 a13 a14 a15 a16 a17 a18 : Sl} : mVar 19 (a0 :: a1 :: a2 :: a3 :: a4 :: a5 :: a6 :: a7 :: a8 :: a9 :: a10 :: a11 :: a12 :: a13 :: a14 :: a15 :: a16 :: a17 :: a18 :: .own d :: l) = some (.ok d (a0 :: a1 :: a2 :: a3 :: a4 :: a5 :: a6 :: a7 :: a8 :: a9 :: a10 :: a11 :: a12 :: a13 :: a14 :: a15 :: a16 :: a17 :: a18 :: .v d :: l)) := rfl
theorem takeO19 {d : D} {a0 a1 a2 a3 a4 a5 a6 a7 a8 a9 a10 a11 a12 a13 a14 a15 a16 a17 a18 : Sl} : mTake 19 (a0 :: a1 :: a2 :: a3 :: a4 :: a5 :: a6 :: a7 :: a8 :: a9 :: a10 :: a11 :: a12 :: a13 :: a14 :: a15 :: a16 :: a17 :: a18 :: .own d :: l) = some (.ok (.fr d) (a0 :: a1 :: a2 :: a3 :: a4 :: a5 :: a6 :: a7 :: a8 :: a9 :: a10 :: a11 :: a12 :: a13 :: a14 :: a15 :: a16 :: a17 :: a18 :: .no :: l)) := rfl
theorem var20 {d : D} {a0 a1 a2 a3 a4 a5 a6 a7 a8 a9 a10 a11 a12 a13 a14 a15 a16 a17 a18 a19 : Sl} : mVar 20 (a0 :: a1 :: a2 :: a3 :: a4 :: a5 :: a6 :: a7 :: a8 :: a9 :: a10 :: a11 :: a12 :: a13 :: a14 :: a15 :: a16 :: a17 :: a18 :: a19 :: .v d :: l) = some (.ok d (a0 :: a1 :: a2 :: a3 :: a4 :: a5 :: a6 :: a7 :: a8 :: a9 :: a10 :: a11 :: a12 :: a13 :: a14 :: a15 :: a16 :: a17 :: a18 :: a19 :: .v d :: l)) := rfl
theorem varO20 {d : D} {a0 a1 a2 a3 a4 a5 a6 a7 a8 a9 a10 a11 a12 a13 a14 a15 a16 a17 a18 a19 : Sl} : mVar 20 (a0 :: a1 :: a2 :: a3 :: a4 :: a5 :: a6 :: a7 :: a8 :: a9 :: a10 :: a11 :: a12 :: a13 :: a14 :: a15 :: a16 :: a17 :: a18 :: a19 :: .own d :: l) = some (.ok d (a0 :: a1 :: a2 :: a3 :: a4 :: a5 :: a6 :: a7 :: a8 :: a9 :: a10 :: a11 :: a12 :: a13 :: a14 :: a15 :: a16 :: a17 :: a18 :: a19 :: .v d :: l)) := rfl
theorem takeO20 {d : D} {a0 a1 a2 a3 a4 a5 a6 a7 a8 a9 a10 a11 a12 a13 a14 a15 a16 a17 a18 a19 : Sl} : mTake 20 (a0 :: a1 :: a2 :: a3 :: a4 :: a5 :: a6 :: a7 :: a8 :: a9 :: a10 :: a11 :: a12 :: a13 :: a14 :: a15 :: a16 :: a17 :: a18 :: a19 :: .own d :: l) = some (.ok (.fr d) (a0 :: a1 :: a2 :: a3 :: a4 :: a5 :: a6 :: a7 :: a8 :: a9 :: a10 :: a11 :: a12 :: a13 :: a14 :: a15 :: a16 :: a17 :: a18 :: a19 :: .no :: l)) := rfl
theorem var21 {d : D} {a0 a1 a2 a3 a4 a5 a6 a7 a8 a9 a10 a11 a12 a13 a14 a15 a16 a17 a18 a19 a20 : Sl} : mVar 21 (a0 :: a1 :: a2 :: a3 :: a4 :: a5 :: a6 :: a7 :: a8 :: a9 :: a10 :: a11 :: a12 :: a13 :: a14 :: a15 :: a16 :: a17 :: a18 :: a19 :: a20 :: .v d :: l) = some (.ok d (a0 :: a1 :: a2 :: a3 :: a4 :: a5 :: a6 :: a7 :: a8 :: a9 :: a10 :: a11 :: a12 :: a13 :: a14 :: a15 :: a16 :: a17 :: a18 :: a19 :: a20 :: .v d :: l)) := rfl
theorem varO21 {d : D} {a0 a1 a2 a3 a4 a5 a6 a7 a8 a9 a10 a11 a12 a13 a14 a15 a16 a17 a18 a19 a20 : Sl} : mVar 21 (a0 :: a1 :: a2 :: a3 :: a4 :: a5 :: a6 :: a7 :: a8 :: a9 :: a10 :: a11 :: a12 :: a13 :: a14 :: a15 :: a16 :: a17 :: a18 :: a19 :: a20 :: .own d :: l) = some (.ok d (a0 :: a1 :: a2 :: a3 :: a4 :: a5 :: a6 :: a7 :: a8 :: a9 :: a10 :: a11 :: a12 :: a13 :: a14 :: a15 :: a16 :: a17 :: a18 :: a19 :: a20 :: .v d :: l)) := rfl
theorem takeO21 {d : D} {a0 a1 a2 a3 a4 a5 a6 a7 a8 a9 a10 a11 a12 a13 a14 a15 a16 a17 a18 a19 a20 : Sl} : mTake 21 (a0 :: a1 :: a2 :: a3 :: a4 :: a5 :: a6 :: a7 :: a8 :: a9 :: a10 :: a11 :: a12 :: a13 :: a14 :: a15 :: a16 :: a17 :: a18 :: a19 :: a20 :: .own d :: l) = some (.ok (.fr d) (a0 :: a1 :: a2 :: a3 :: a4 :: a5 :: a6 :: a7 :: a8 :: a9 :: a10 :: a11 :: a12 :: a13 :: a14 :: a15 :: a16 :: a17 :: a18 :: a19 :: a20 :: .no :: l)) := rfl
theorem var22 {d : D} {a0 a1 a2 a3 a4 a5 a6 a7 a8 a9 a10 a11 a12 a13 a14 a15 a16 a17 a18 a19 a20 a21 : Sl} : mVar 22 (a0 :: a1 :: a2 :: a3 :: a4 :: a5 :: a6 :: a7 :: a8 :: a9 :: a10 :: a11 :: a12 :: a13 :: a14 :: a15 :: a16 :: a17 :: a18 :: a19 :: a20 :: a21 :: .v d :: l) = some (.ok d (a0 :: a1 :: a2 :: a3 :: a4 :: a5 :: a6 :: a7 :: a8 :: a9 :: a10 :: a11 :: a12 :: a13 :: a14 :: a15 :: a16 :: a17 :: a18 :: a19 :: a20 :: a21 :: .v d :: l)) := rfl
theorem varO22 {d : D} {a0 a1 a2 a3 a4 a5 a6 a7 a8 a9 a10 a11 a12 a13 a14 a15 a16 a17 a18 a19 a20 a21 : Sl} : mVar 22 (a0 :: a1 :: a2 :: a3 :: a4 :: a5 :: a6 :: a7 :: a8 :: a9 :: a10 :: a11 :: a12 :: a13 :: a14 :: a15 :: a16 :: a17 :: a18 :: a19 :: a20 :: a21 :: .own d :: l) = some (.ok d (a0 :: a1 :: a2 :: a3 :: a4 :: a5 :: a6 :: a7 :: a8 :: a9 :: a10 :: a11 :: a12 :: a13 :: a14 :: a15 :: a16 :: a17 :: a18 :: a19 :: a20 :: a21 :: .v d :: l)) := rfl
theorem takeO22 {d : D} {a0 a1 a2 a3 a4 a5 a6 a7 a8 a9 a10 a11 a12 a13 a14 a15 a16 a17 a18 a19 a20 a21 : Sl} : mTake 22 (a0 :: a1 :: a2 :: a3 :: a4 :: a5 :: a6 :: a7 :: a8 :: a9 :: a10 :: a11 :: a12 :: a13 :: a14 :: a15 :: a16 :: a17 :: a18 :: a19 :: a20 :: a21 :: .own d :: l) = some (.ok (.fr d) (a0 :: a1 :: a2 :: a3 :: a4 :: a5 :: a6 :: a7 :: a8 :: a9 :: a10 :: a11 :: a12 :: a13 :: a14 :: a15 :: a16 :: a17 :: a18 :: a19 :: a20 :: a21 :: .no :: l)) := rfl
theorem var23 {d : D} {a0 a1 a2 a3 a4 a5 a6 a7 a8 a9 a10 a11 a12 a13 a14 a15 a16 a17 a18 a19 a20 a21 a22 : Sl} : mVar 23 (a0 :: a1 :: a2 :: a3 :: a4 :: a5 :: a6 :: a7 :: a8 :: a9 :: a10 :: a11 :: a12 :: a13 :: a14 :: a15 :: a16 :: a17 :: a18 :: a19 :: a20 :: a21 :: a22 :: .v d :: l) = some (.ok d (a0 :: a1 :: a2 :: a3 :: a4 :: a5 :: a6 :: a7 :: a8 :: a9 :: a10 :: a11 :: a12 :: a13 :: a14 :: a15 :: a16 :: a17 :: a18 :: a19 :: a20 :: a21 :: a22 :: .v d :: l)) := rfl
theorem varO23 {d : D} {a0 a1 a2 a3 a4 a5 a6 a7 a8 a9 a10 a11 a12 a13 a14 a15 a16 a17 a18 a19 a20 a21 a22 : Sl} : mVar 23 (a0 :: a1 :: a2 :: a3 :: a4 :: a5 :: a6 :: a7 :: a8 :: a9 :: a10 :: a11 :: a12 :: a13 :: a14 :: a15 :: a16 :: a17 :: a18 :: a19 :: a20 :: a21 :: a22 :: .own d :: l) = some (.ok d (a0 :: a1 :: a2 :: a3 :: a4 :: a5 :: a6 :: a7 :: a8 :: a9 :: a10 :: a11 :: a12 :: a13 :: a14 :: a15 :: a16 :: a17 :: a18 :: a19 :: a20 :: a21 :: a22 :: .v d :: l)) := rfl
theorem takeO23 {d : D} {a0 a1 a2 a3 a4 a5 a6 a7 a8 a9 a10 a11 a12 a13 a14 a15 a16 a17 a18 a19 a20 a21 a22 : Sl} : mTake 23 (a0 :: a1 :: a2 :: a3 :: a4 :: a5 :: a6 :: a7 :: a8 :: a9 :: a10 :: a11 :: a12 :: a13 :: a14 :: a15 :: a16 :: a17 :: a18 :: a19 :: a20 :: a21 :: a22 :: .own d :: l) = some (.ok (.fr d) (a0 :: a1 :: a2 :: a3 :: a4 :: a5 :: a6 :: a7 :: a8 :: a9 :: a10 :: a11 :: a12 :: a13 :: a14 :: a15 :: a16 :: a17 :: a18 :: a19 :: a20 :: a21 :: a22 :: .no :: l)) := rfl
end
/-! statements -/
section
variable {a b : MS} {r : Rs} {c : Str} {ns : List Str} {ds : List D}
theorem v_seq (h : a e = some (.nx e1)) (k : b e1 = o) : mSeq a b e = o := by unfold mSeq; rw [h]; exact k
theorem v_seq_rt (h : a e = some (.rt r e1)) : mSeq a b e = some (.rt r e1) := by unfold mSeq; rw [h]
theorem v_seq_ex (h : a e = some (.ex c ns ds e1)) : mSeq a b e = some (.ex c ns ds e1) := by unfold mSeq; rw [h]
theorem v_seq_ct (h : a e = some (.ct e1)) : mSeq a b e = some (.ct e1) := by unfold mSeq; rw [h]
theorem v_seq_bk (h : a e = some (.bk e1)) : mSeq a b e = some (.bk e1) := by unfold mSeq; rw [h]
end
section
variable {α : Type} {m : M α} {k : α → MS} {x : α} {c : Str} {ns : List Str} {ds : List D}
theorem v_then (h : m e = some (.ok x e1)) : mThen m k e = k x e1 := by unfold mThen; rw [h]
theorem v_then_ex (h : m e = some (.ex c ns ds e1)) : mThen m k e = some (.ex c ns ds e1) := by unfold mThen; rw [h]
theorem v_of {α : Type} {f : Z.Env → Option α} {a : α} (h : f e = some a) : M.of f e = some (.ok a e) := by unfold M.of; rw [h]
theorem v_drop (h : m e = some (.ok x e1)) : mDrop m e = some (.nx e1) := v_then h
theorem v_drop_ex (h : m e = some (.ex c ns ds e1)) : mDrop m e = some (.ex c ns ds e1) := v_then_ex h
end
section
variable {α β : Type} {m : M α} {k : α → M β} {x : α} {c : Str} {ns : List Str} {ds : List D}
theorem v_bind (h : m e = some (.ok x e1)) : M.bind m k e = k x e1 := by unfold M.bind; rw [h]
theorem v_bind_ex (h : m e = some (.ex c ns ds e1)) : M.bind m k e = some (.ex c ns ds e1) := by unfold M.bind; rw [h]
end
section
variable {m n : M Rs} {r q : Rs} {s t : Sl} {i j l : Nat} {c : Str} {ns : List Str} {ds : List D}
theorem v_ret (h : m e = some (.ok r e1)) : mRet m e = some (.rt r e1) := v_then h
theorem v_ret_ex (h : m e = some (.ex c ns ds e1)) : mRet m e = some (.ex c ns ds e1) := v_then_ex h
theorem v_set (h : m e = some (.ok r e1)) (hs : r.sl = some s) (k : setSl j s e1 = some e2) : mSet j m e = some (.nx e2) := by
  unfold mSet
  rw [v_then h, hs, Option.bind_some, k]
  rfl
theorem v_set_ex (h : m e = some (.ex c ns ds e1)) : mSet j m e = some (.ex c ns ds e1) := v_then_ex h
theorem v_par (h : m e = some (.ok r e1)) (h2 : n e1 = some (.ok q e2)) (hs : r.sl = some s) (ht : q.sl = some t) (k : setSl i s e2 = some e3) (k2 : setSl j t e3 = some e4) : mPar i j (mPair m n) e = some (.nx e4) := by
  have hp : mPair m n e = some (.ok (r, q) e2) := by
    unfold mPair
    rw [h]
    simp only [h2]
  unfold mPar
  rw [v_then hp, hs, Option.bind_some, ht, Option.bind_some, k, Option.bind_some, k2]
  rfl
end
theorem v_tri {m : M (List D)} {x y z : D} {i j l : Nat} (h : m e = some (.ok [x, y, z] e1)) (k : setSl i (.v x) e1 = some e2) (k2 : setSl j (.v y) e2 = some e3) (k3 : setSl l (.v z) e3 = some e4) : mTri i j l m e = some (.nx e4) := by
  unfold mTri
  rw [v_then h]
  show ((setSl i (.v x) e1).bind fun e1 => (setSl j (.v y) e1).bind fun e2 => setSl l (.v z) e2).bind _ = _
  rw [k, Option.bind_some, k2, Option.bind_some, k3]
  rfl
theorem v_unp {m : M D} {t : TgM} {d : D} (h : m e = some (.ok d e1)) (k : t d e1 = some e2) : mUnp t m e = some (.nx e2) := by
  unfold mUnp
  rw [v_then h, k]
  rfl
theorem v_gT {u : TgsM} {ds : List D} (k : u ds e = some e1) : gT u (.tup ds) e = some e1 := k
theorem v_gs {t : TgM} {u : TgsM} {d : D} {ds : List D} (h : t d e = some e1) (k : u ds e1 = some e2) : gsCons t u (d :: ds) e = some e2 := by
  show (t d e).bind _ = _
  rw [h]
  exact k
theorem v_gs0 : gsNil [] e = some e := rfl
theorem v_gN {j : Nat} {d : D} (k : setSl j (.v d) e = some e1) : gN j d e = some e1 := k
theorem v_ifs {t : M Bool} {a b : MS} {c : Bool} (h : t e = some (.ok c e1)) (k : cond c (a e1) (b e1) = o) : mIfS t a b e = o := by
  unfold mIfS
  rw [v_then h]
  cases c <;> exact k
theorem v_for {it : M (List D)} {t : TgM} {b : MS} {ds : List D} (h : it e = some (.ok ds e1)) (k : forL t b ds e1 = o) : mFor it t b e = o := by
  unfold mFor
  rw [v_then h]
  exact k
theorem v_raise1 {m : M (List D)} {c f : Str} {d : D} (h : m e = some (.ok [d] e1)) : mRaise c [f] m e = some (.ex c [f] [d] e1) := by
  unfold mRaise
  rw [v_then h]
  rfl
theorem v_raise2 {m : M (List D)} {c f g : Str} {d d2 : D} (h : m e = some (.ok [d, d2] e1)) : mRaise c [f, g] m e = some (.ex c [g, f] [d2, d] e1) := by
  unfold mRaise
  rw [v_then h]
  rfl
theorem v_try {m : MS} {hs : List Hd} (h : m e = o) (k : ∀ c ns ds e', o ≠ some (.ex c ns ds e')) : mTry m hs e = o := by
  unfold mTry
  rw [h]
  cases o with
  | none => rfl
  | some x => cases x <;> first | rfl | exact absurd rfl (k _ _ _ _)
theorem v_try_ex {m : MS} {hs : List Hd} {c : Str} {ns : List Str} {ds : List D} (h : m e = some (.ex c ns ds e1)) (k : mHds c ns ds e1 hs = o) : mTry m hs e = o := by
  unfold mTry
  rw [h]
  exact k
/-! outcomes -/
section
variable {α : Type} {x y z : α} {b : Bool} {p : Prop} [Decidable p]
theorem c_t (h : x = z) : cond true x y = z := h
theorem c_f (h : y = z) : cond false x y = z := h
theorem c_n (h : cond b y x = z) : cond (!b) x y = z := by cases b <;> exact h
theorem c_dt (hp : p) (h : x = z) : cond (decide p) x y = z := by rw [decide_eq_true hp]; exact h
theorem c_df (hp : ¬ p) (h : y = z) : cond (decide p) x y = z := by rw [decide_eq_false hp]; exact h
theorem c_ht (hb : b = true) (h : x = z) : cond b x y = z := by rw [hb]; exact h
theorem c_hf (hb : b = false) (h : y = z) : cond b x y = z := by rw [hb]; exact h
end
/-! truths -/
section
variable {m n : M Bool} {b c : Bool} {d : D} {q : Option (Res Bool)}
theorem v_tst {m : M D} (h : m e = some (.ok (.bl b) e1)) : mTst m e = some (.ok b e1) := by unfold mTst; rw [v_bind h]; rfl
theorem v_not (h : m e = some (.ok b e1)) : mNot m e = some (.ok (!b) e1) := by unfold mNot; rw [v_bind h]; rfl
theorem v_and (h : m e = some (.ok b e1)) (k : cond b (n e1) (some (.ok false e1)) = q) : mAnd m n e = q := by unfold mAnd; rw [v_bind h]; cases b <;> exact k
theorem v_or (h : m e = some (.ok b e1)) (k : cond b (some (.ok true e1)) (n e1) = q) : mOr m n e = q := by unfold mOr; rw [v_bind h]; cases b <;> exact k
end
section
variable {m n : M D} {b : Bool} {q : Option (Res D)}
theorem v_andV (h : m e = some (.ok (.bl b) e1)) (k : cond b (n e1) (some (.ok (.bl false) e1)) = q) : mAndV m n e = q := by unfold mAndV; rw [v_bind h]; cases b <;> exact k
theorem v_orV (h : m e = some (.ok (.bl b) e1)) (k : cond b (some (.ok (.bl true) e1)) (n e1) = q) : mOrV m n e = q := by unfold mOrV; rw [v_bind h]; cases b <;> exact k
theorem v_notV (h : m e = some (.ok (.bl b) e1)) : mNotV m e = some (.ok (.bl !b) e1) := by unfold mNotV; rw [v_bind h]; rfl
theorem v_if {α : Type} {t : M Bool} {a c : M α} {b : Bool} {q : Option (Res α)} (h : t e = some (.ok b e1)) (k : cond b (a e1) (c e1) = q) : mIf t a c e = q := by unfold mIf; rw [v_bind h]; cases b <;> exact k
end
/-! values -/
section
variable {m n : M D} {k l : M Rs} {r q : Rs} {x y z d : D} {f : D → D → Option D} {g : D → Option D}
theorem v_c {α : Type} {a : α} : M.ret a e = some (.ok a e) := rfl
theorem v_R (h : m e = some (.ok x e1)) : mR m e = some (.ok (.v x) e1) := by unfold mR; rw [v_bind h]; rfl
theorem v_V (h : k e = some (.ok (.v x) e1)) : mV k e = some (.ok x e1) := by unfold mV; rw [h]
theorem v_Vf (h : k e = some (.ok (.fr x) e1)) : mV k e = some (.ok x e1) := by unfold mV; rw [h]
theorem v_V_ex {c : Str} {ns : List Str} {ds : List D} (h : k e = some (.ex c ns ds e1)) : mV k e = some (.ex c ns ds e1) := by unfold mV; rw [h]
theorem v_op (h : m e = some (.ok x e1)) (h2 : n e1 = some (.ok y e2)) (hf : f x y = some z) : mOp f m n e = some (.ok z e2) := by
  unfold mOp
  rw [v_bind h, v_bind h2]
  exact v_of (by simp only [hf, Option.bind_some])
theorem v_U (h : m e = some (.ok x e1)) (hf : g x = some z) : mU g m e = some (.ok z e1) := by
  unfold mU
  rw [v_bind h]
  exact v_of (by simp only [hf, Option.bind_some])
theorem v_G (h : k e = some (.ok r e1)) (hr : r.get e1 = some x) (hf : g x = some z) : mG g k e = some (.ok z e1) := by
  unfold mG
  rw [v_bind h]
  exact v_of (by simp only [hr, Option.bind_some, hf])
theorem v_N (h : k e = some (.ok r e1)) (hr : r.get e1 = some x) (hf : g x = some z) : mN g k e = some (.ok (.fr z) e1) := by
  unfold mN
  rw [v_bind h]
  exact v_of (by simp only [hr, Option.bind_some, hf])
theorem v_rd2 (h : k e = some (.ok r e1)) (h2 : l e1 = some (.ok q e2)) (hr : r.get e2 = some x) (hq : q.get e2 = some y) (hf : f x y = some z) : mRd2 f k l e = some (.ok z e2) := by
  unfold mRd2
  rw [v_bind h, v_bind h2]
  exact v_of (by simp only [hr, Option.bind_some, hq, Option.bind_some, hf])
theorem v_opN (h : k e = some (.ok r e1)) (h2 : l e1 = some (.ok q e2)) (hr : r.get e2 = some x) (hq : q.get e2 = some y) (hf : f x y = some z) : mOpN f k l e = some (.ok (.fr z) e2) := by
  unfold mOpN
  rw [v_bind h, v_bind h2]
  exact v_of (by simp only [hr, Option.bind_some, hq, Option.bind_some, hf])
theorem v_ix (h : k e = some (.ok r e1)) (h2 : m e1 = some (.ok y e2)) (hr : r.get e2 = some x) (hf : fIx x y = some z) : mIx k m e = some (.ok z e2) := by
  unfold mIx
  rw [v_bind h, v_bind h2]
  exact v_of (by simp only [hr, Option.bind_some, hf])
theorem v_sl {lo hi : M (Option Int)} {a b : Option Int} (h : k e = some (.ok r e1)) (h2 : lo e1 = some (.ok a e2)) (h3 : hi e2 = some (.ok b e3)) (hr : r.get e3 = some x) (hf : fSl a b x = some q) : mSl k lo hi e = some (.ok q e3) := by
  unfold mSl
  rw [v_bind h, v_bind h2, v_bind h3]
  exact v_of (by simp only [hr, Option.bind_some, hf])
theorem v_part {i : Int} (h : m e = some (.ok (.int i) e1)) : mPart m e = some (.ok (some i) e1) := by
  unfold mPart
  rw [v_bind h]
  rfl
theorem v_fld {w : Fl} {fn : Str} (h : k e = some (.ok r e1)) (hr : r.get e1 = some x) (hf : fFld w fn x = some z) : mFld w fn k e = some (.ok z e1) := by
  unfold mFld
  rw [v_bind h]
  exact v_of (by simp only [hr, Option.bind_some, hf])
theorem v_listRg {ds : List D} (h : m e = some (.ok x e1)) (hf : fRg x = some ds) : mListRg m e = some (.ok (.fr (.lst ds)) e1) := by
  unfold mListRg
  rw [v_bind h]
  exact v_of (by simp only [hf, Option.bind_some])
theorem v_tupRg {ds : List D} (h : m e = some (.ok x e1)) (hf : fRg x = some ds) : mTupRg m e = some (.ok (.tup ds) e1) := by
  unfold mTupRg
  rw [v_bind h]
  exact v_of (by simp only [hf, Option.bind_some])
theorem v_it {ds : List D} {g : D → Option (List D)} (h : m e = some (.ok x e1)) (hf : g x = some ds) : mIt g m e = some (.ok ds e1) := by
  unfold mIt
  rw [v_bind h]
  exact v_of (by simp only [hf, Option.bind_some])
end
section
variable {m : M D} {n : M (List D)} {d : D} {ds : List D}
theorem v_nil : mNil e = some (.ok [] e) := rfl
theorem v_cons (h : m e = some (.ok d e1)) (h2 : n e1 = some (.ok ds e2)) : mCons m n e = some (.ok (d :: ds) e2) := by
  unfold mCons
  rw [v_bind h, v_bind h2]
  rfl
theorem v_tup (h : n e = some (.ok ds e1)) (hz : szOk ds.length = true) : mTup n e = some (.ok (.tup ds) e1) := by
  unfold mTup
  rw [v_bind h]
  exact v_of (if_pos hz)
theorem v_lst (h : n e = some (.ok ds e1)) (hz : szOk ds.length = true) : mLst n e = some (.ok (.fr (.lst ds)) e1) := by
  unfold mLst
  rw [v_bind h]
  exact v_of (if_pos hz)
end
/-! calls -/
section
variable {F : DF} {m n p : M D} {x y z r : D} {P P' : D} {l : Z.Env} {a0 : Sl} {c : Str} {ns : List Str} {ds : List D}
theorem v_c0 (hF : F [] = some (.rt (.v r) none)) : mCall F [] xNil e = some (.ok (.v r) e) := by
  unfold mCall
  rw [v_bind (e := e) (e1 := e) (x := []) rfl]
  simp only [rsv, Option.bind_some, List.map_nil, List.append_nil, hF, wb, axIx]
theorem x1 (h : m e = some (.ok x e1)) : xV m xNil e = some (.ok [.v x] e1) := by
  unfold xV
  rw [v_bind h, v_bind (e := e1) (e1 := e1) (x := []) rfl]
  rfl
theorem xc {t : M (List Ax)} {as : List Ax} (h : m e = some (.ok x e1)) (h2 : t e1 = some (.ok as e2)) : xV m t e = some (.ok (.v x :: as) e2) := by
  unfold xV
  rw [v_bind h, v_bind h2]
  rfl
/-- a call, its arguments values -/
theorem v_call {t : M (List Ax)} {xs dd : List D} {axs : List Ax} {as : List Ar} (h : t e = some (.ok axs e1)) (hx : axs = xs.map Ax.v) (ha : (xs ++ dd).map Ar.v = as) (hF : F as = some (.rt (.v r) none)) : mCall F dd t e = some (.ok (.v r) e1) := by
  subst hx
  have key : ∀ xs : List D, rsv e1 (xs.map Ax.v) = some (xs.map Ar.v) := fun xs => by
    induction xs with
    | nil => rfl
    | cons x xs ih => simp only [List.map_cons, rsv, ih, Option.bind_some]
  have key2 : ∀ xs : List D, axIx (xs.map Ax.v) = none := fun xs => by
    induction xs with
    | nil => rfl
    | cons x xs ih => simp only [List.map_cons, axIx, ih]
  unfold mCall
  rw [v_bind h]
  simp only [key, Option.bind_some, ← List.map_append, ha, hF, wb, key2]
theorem v_callf {t : M (List Ax)} {xs dd : List D} {axs : List Ax} {as : List Ar} (h : t e = some (.ok axs e1)) (hx : axs = xs.map Ax.v) (ha : (xs ++ dd).map Ar.v = as) (hF : F as = some (.rt (.fr r) none)) : mCall F dd t e = some (.ok (.fr r) e1) := by
  subst hx
  have key : ∀ xs : List D, rsv e1 (xs.map Ax.v) = some (xs.map Ar.v) := fun xs => by
    induction xs with
    | nil => rfl
    | cons x xs ih => simp only [List.map_cons, rsv, ih, Option.bind_some]
  have key2 : ∀ xs : List D, axIx (xs.map Ax.v) = none := fun xs => by
    induction xs with
    | nil => rfl
    | cons x xs ih => simp only [List.map_cons, axIx, ih]
  unfold mCall
  rw [v_bind h]
  simp only [key, Option.bind_some, ← List.map_append, ha, hF, wb, key2]
theorem v_call_ex {t : M (List Ax)} {xs dd : List D} {axs : List Ax} {as : List Ar} (h : t e = some (.ok axs e1)) (hx : axs = xs.map Ax.v) (ha : (xs ++ dd).map Ar.v = as) (hF : F as = some (.ex c ns ds none)) : mCall F dd t e = some (.ex c ns ds e1) := by
  subst hx
  have key : ∀ xs : List D, rsv e1 (xs.map Ax.v) = some (xs.map Ar.v) := fun xs => by
    induction xs with
    | nil => rfl
    | cons x xs ih => simp only [List.map_cons, rsv, ih, Option.bind_some]
  have key2 : ∀ xs : List D, axIx (xs.map Ax.v) = none := fun xs => by
    induction xs with
    | nil => rfl
    | cons x xs ih => simp only [List.map_cons, axIx, ih]
  unfold mCall
  rw [v_bind h]
  simp only [key, Option.bind_some, ← List.map_append, ha, hF, wb, key2]
theorem v_c1 (h : m e = some (.ok x e1)) (hF : F [.v x] = some (.rt (.v r) none)) : mCall F [] (xV m xNil) e = some (.ok (.v r) e1) := v_call (xs := [x]) (x1 h) rfl rfl hF
theorem v_c1f (h : m e = some (.ok x e1)) (hF : F [.v x] = some (.rt (.fr r) none)) : mCall F [] (xV m xNil) e = some (.ok (.fr r) e1) := v_callf (xs := [x]) (x1 h) rfl rfl hF
theorem v_c1x (h : m e = some (.ok x e1)) (hF : F [.v x] = some (.ex c ns ds none)) : mCall F [] (xV m xNil) e = some (.ex c ns ds e1) := v_call_ex (xs := [x]) (x1 h) rfl rfl hF
theorem v_c2 (h : m e = some (.ok x e1)) (h2 : n e1 = some (.ok y e2)) (hF : F [.v x, .v y] = some (.rt (.v r) none)) : mCall F [] (xV m (xV n xNil)) e = some (.ok (.v r) e2) := v_call (xs := [x, y]) (xc h (x1 h2)) rfl rfl hF
theorem v_c2f (h : m e = some (.ok x e1)) (h2 : n e1 = some (.ok y e2)) (hF : F [.v x, .v y] = some (.rt (.fr r) none)) : mCall F [] (xV m (xV n xNil)) e = some (.ok (.fr r) e2) := v_callf (xs := [x, y]) (xc h (x1 h2)) rfl rfl hF
theorem v_c2x (h : m e = some (.ok x e1)) (h2 : n e1 = some (.ok y e2)) (hF : F [.v x, .v y] = some (.ex c ns ds none)) : mCall F [] (xV m (xV n xNil)) e = some (.ex c ns ds e2) := v_call_ex (xs := [x, y]) (xc h (x1 h2)) rfl rfl hF
theorem v_c3 (h : m e = some (.ok x e1)) (h2 : n e1 = some (.ok y e2)) (h3 : p e2 = some (.ok z e3)) (hF : F [.v x, .v y, .v z] = some (.rt (.v r) none)) : mCall F [] (xV m (xV n (xV p xNil))) e = some (.ok (.v r) e3) := v_call (xs := [x, y, z]) (xc h (xc h2 (x1 h3))) rfl rfl hF
theorem v_c3f (h : m e = some (.ok x e1)) (h2 : n e1 = some (.ok y e2)) (h3 : p e2 = some (.ok z e3)) (hF : F [.v x, .v y, .v z] = some (.rt (.fr r) none)) : mCall F [] (xV m (xV n (xV p xNil))) e = some (.ok (.fr r) e3) := v_callf (xs := [x, y, z]) (xc h (xc h2 (x1 h3))) rfl rfl hF
theorem v_c3x (h : m e = some (.ok x e1)) (h2 : n e1 = some (.ok y e2)) (h3 : p e2 = some (.ok z e3)) (hF : F [.v x, .v y, .v z] = some (.ex c ns ds none)) : mCall F [] (xV m (xV n (xV p xNil))) e = some (.ex c ns ds e3) := v_call_ex (xs := [x, y, z]) (xc h (xc h2 (x1 h3))) rfl rfl hF
theorem v_c1d (h : m e = some (.ok x e1)) (hF : F [.v x, .v y] = some (.rt (.v r) none)) : mCall F [y] (xV m xNil) e = some (.ok (.v r) e1) := v_call (xs := [x]) (x1 h) rfl rfl hF
/-- with the pen: the caller's own, at 1; the caller's parameter, at 0 -/
theorem v_pen1 {q : D} (h : m (a0 :: .own P :: l) = some (.ok x (a0 :: .own P :: l))) (hF : F [.io P, .v x] = some (.rt (.v q) (some P'))) : mCall F [] (xSl 1 (xV m xNil)) (a0 :: .own P :: l) = some (.ok (.v q) (a0 :: .own P' :: l)) := by
  have h2 : xSl 1 (xV m xNil) (a0 :: .own P :: l) = some (.ok [.sl 1, .v x] (a0 :: .own P :: l)) := by
    unfold xSl
    rw [v_bind (e := a0 :: .own P :: l) (e1 := a0 :: .own P :: l) (x := ()) rfl, v_bind (x1 h)]
    rfl
  unfold mCall
  rw [v_bind h2]
  simp only [rsv, noIoA, Option.bind_some, List.getElem?_cons_succ, List.getElem?_cons_zero, Sl.mut, List.map_nil, List.append_nil, if_true, hF, wb, axIx, Sl.upd, List.set_cons_succ, List.set_cons_zero]
theorem v_pen1f {q : D} (h : m (a0 :: .own P :: l) = some (.ok x (a0 :: .own P :: l))) (hF : F [.io P, .v x] = some (.rt (.fr q) (some P'))) : mCall F [] (xSl 1 (xV m xNil)) (a0 :: .own P :: l) = some (.ok (.fr q) (a0 :: .own P' :: l)) := by
  have h2 : xSl 1 (xV m xNil) (a0 :: .own P :: l) = some (.ok [.sl 1, .v x] (a0 :: .own P :: l)) := by
    unfold xSl
    rw [v_bind (e := a0 :: .own P :: l) (e1 := a0 :: .own P :: l) (x := ()) rfl, v_bind (x1 h)]
    rfl
  unfold mCall
  rw [v_bind h2]
  simp only [rsv, noIoA, Option.bind_some, List.getElem?_cons_succ, List.getElem?_cons_zero, Sl.mut, List.map_nil, List.append_nil, if_true, hF, wb, axIx, Sl.upd, List.set_cons_succ, List.set_cons_zero]
theorem v_pen0 {q : D} {f : Z.Env} (h : m (.io P :: l) = some (.ok x (.io P :: f))) (hF : F [.io P, .v x] = some (.rt (.v q) (some P'))) : mCall F [] (xSl 0 (xV m xNil)) (.io P :: l) = some (.ok (.v q) (.io P' :: f)) := by
  have h2 : xSl 0 (xV m xNil) (.io P :: l) = some (.ok [.sl 0, .v x] (.io P :: f)) := by
    unfold xSl
    rw [v_bind (e := .io P :: l) (e1 := .io P :: l) (x := ()) rfl, v_bind (x1 h)]
    rfl
  unfold mCall
  rw [v_bind h2]
  simp only [rsv, noIoA, Option.bind_some, List.getElem?_cons_zero, Sl.mut, List.map_nil, List.append_nil, if_true, hF, wb, axIx, Sl.upd, List.set_cons_zero]
theorem v_pen0f {q : D} {f : Z.Env} (h : m (.io P :: l) = some (.ok x (.io P :: f))) (hF : F [.io P, .v x] = some (.rt (.fr q) (some P'))) : mCall F [] (xSl 0 (xV m xNil)) (.io P :: l) = some (.ok (.fr q) (.io P' :: f)) := by
  have h2 : xSl 0 (xV m xNil) (.io P :: l) = some (.ok [.sl 0, .v x] (.io P :: f)) := by
    unfold xSl
    rw [v_bind (e := .io P :: l) (e1 := .io P :: l) (x := ()) rfl, v_bind (x1 h)]
    rfl
  unfold mCall
  rw [v_bind h2]
  simp only [rsv, noIoA, Option.bind_some, List.getElem?_cons_zero, Sl.mut, List.map_nil, List.append_nil, if_true, hF, wb, axIx, Sl.upd, List.set_cons_zero]
/-- keywords -/
theorem v_k1 (h : m e = some (.ok x e1)) (hF : F [.v x] = some (.rt (.v r) none)) : mCall F [] (mKw 0 1 [0] [] mNil (mCons m mNil)) e = some (.ok (.v r) e1) := by
  refine v_call (xs := [x]) (axs := [.v x]) (e1 := e1) ?_ rfl rfl hF
  unfold mKw
  rw [v_bind v_nil, v_bind (v_cons h v_nil)]
  rfl
/-- the pen at 0, nothing beside -/
theorem v_run {n N : Nat} {m : MS} {as : List Ar} {e0 e1 : Z.Env} {io : Option D} (hl : as.length = n) (h0 : env0 N as = e0) (h : m e0 = some (.rt (.v r) e1)) (hi : ioC as e1 = io) : mkF n N m as = some (.rt (.v r) io) := by
  unfold mkF
  rw [if_pos hl]
  unfold runF
  rw [h0, h]
  subst hi
  rfl
theorem v_runf {n N : Nat} {m : MS} {as : List Ar} {e0 e1 : Z.Env} {io : Option D} (hl : as.length = n) (h0 : env0 N as = e0) (h : m e0 = some (.rt (.fr r) e1)) (hi : ioC as e1 = io) : mkF n N m as = some (.rt (.fr r) io) := by
  unfold mkF
  rw [if_pos hl]
  unfold runF
  rw [h0, h]
  subst hi
  rfl
theorem v_runn {n N : Nat} {m : MS} {as : List Ar} {e0 e1 : Z.Env} {io : Option D} (hl : as.length = n) (h0 : env0 N as = e0) (h : m e0 = some (.nx e1)) (hi : ioC as e1 = io) : mkF n N m as = some (.rt (.v .non) io) := by
  unfold mkF
  rw [if_pos hl]
  unfold runF
  rw [h0, h]
  subst hi
  rfl
theorem v_runx {n N : Nat} {m : MS} {as : List Ar} {e0 e1 : Z.Env} {io : Option D} (hl : as.length = n) (h0 : env0 N as = e0) (h : m e0 = some (.ex c ns ds e1)) (hi : ioC as e1 = io) : mkF n N m as = some (.ex c ns ds io) := by
  unfold mkF
  rw [if_pos hl]
  unfold runF
  rw [h0, h]
  subst hi
  rfl
/-! results of any kind -/
def nbw : Rs → Bool
  | .bw _ => false
  | _ => true
def rval : Rs → Option D
  | .v x => some x
  | .fr x => some x
  | _ => none
section
variable {q : Rs} {k : M Rs}
theorem w_V (h : k e = some (.ok q e1)) (hr : rval q = some x) : mV k e = some (.ok x e1) := by
  cases q with
  | v y => cases hr; exact v_V h
  | fr y => cases hr; exact v_Vf h
  | bw j => cases hr
theorem w_c0 (hF : F [] = some (.rt (.v r) none)) : mCall F [] xNil e = some (.ok (.v r) e) := v_c0 hF
theorem w_c1 (h : m e = some (.ok x e1)) (hF : F [.v x] = some (.rt q none)) (hb : nbw q = true) : mCall F [] (xV m xNil) e = some (.ok q e1) := by
  cases q with
  | v y => exact v_c1 h hF
  | fr y => exact v_c1f h hF
  | bw j => cases hb
theorem w_c2 (h : m e = some (.ok x e1)) (h2 : n e1 = some (.ok y e2)) (hF : F [.v x, .v y] = some (.rt q none)) (hb : nbw q = true) : mCall F [] (xV m (xV n xNil)) e = some (.ok q e2) := by
  cases q with
  | v y => exact v_c2 h h2 hF
  | fr y => exact v_c2f h h2 hF
  | bw j => cases hb
theorem w_c3 (h : m e = some (.ok x e1)) (h2 : n e1 = some (.ok y e2)) (h3 : p e2 = some (.ok z e3)) (hF : F [.v x, .v y, .v z] = some (.rt q none)) (hb : nbw q = true) : mCall F [] (xV m (xV n (xV p xNil))) e = some (.ok q e3) := by
  cases q with
  | v y => exact v_c3 h h2 h3 hF
  | fr y => exact v_c3f h h2 h3 hF
  | bw j => cases hb
theorem w_call {t : M (List Ax)} {xs dd : List D} {axs : List Ax} {as : List Ar} (h : t e = some (.ok axs e1)) (hx : axs = xs.map Ax.v) (ha : (xs ++ dd).map Ar.v = as) (hF : F as = some (.rt q none)) (hb : nbw q = true) : mCall F dd t e = some (.ok q e1) := by
  cases q with
  | v y => exact v_call h hx ha hF
  | fr y => exact v_callf h hx ha hF
  | bw j => cases hb
theorem w_c1d (h : m e = some (.ok x e1)) (hF : F [.v x, .v y] = some (.rt q none)) (hb : nbw q = true) : mCall F [y] (xV m xNil) e = some (.ok q e1) := w_call (xs := [x]) (x1 h) rfl rfl hF hb
theorem w_c2d (h : m e = some (.ok x e1)) (h2 : n e1 = some (.ok y e2)) (hF : F [.v x, .v y, .v z] = some (.rt q none)) (hb : nbw q = true) : mCall F [z] (xV m (xV n xNil)) e = some (.ok q e2) := w_call (xs := [x, y]) (xc h (x1 h2)) rfl rfl hF hb
theorem w_k1 (h : m e = some (.ok x e1)) (hF : F [.v x] = some (.rt q none)) (hb : nbw q = true) : mCall F [] (mKw 0 1 [0] [] mNil (mCons m mNil)) e = some (.ok q e1) := by
  refine w_call (xs := [x]) (axs := [.v x]) (e1 := e1) ?_ rfl rfl hF hb
  unfold mKw
  rw [v_bind v_nil, v_bind (v_cons h v_nil)]
  rfl
theorem w_pen1 (h : m (a0 :: .own P :: l) = some (.ok x (a0 :: .own P :: l))) (hF : F [.io P, .v x] = some (.rt q (some P'))) (hb : nbw q = true) : mCall F [] (xSl 1 (xV m xNil)) (a0 :: .own P :: l) = some (.ok q (a0 :: .own P' :: l)) := by
  cases q with
  | v y => exact v_pen1 h hF
  | fr y => exact v_pen1f h hF
  | bw j => cases hb
theorem w_pen0 {f : Z.Env} (h : m (.io P :: l) = some (.ok x (.io P :: f))) (hF : F [.io P, .v x] = some (.rt q (some P'))) (hb : nbw q = true) : mCall F [] (xSl 0 (xV m xNil)) (.io P :: l) = some (.ok q (.io P' :: f)) := by
  cases q with
  | v y => exact v_pen0 h hF
  | fr y => exact v_pen0f h hF
  | bw j => cases hb
end
end
end
end Zv
end

section
set_option Elab.async false
set_option linter.all false
set_option maxRecDepth 100000
/-! The package's functions, as plain functions. -/
namespace Zl
open PySem L2 Z Za
/-- is_integer: slots 0 value -/
def m_is_integer : MS := (mRet (mR (mAndV (mG (fIsi "int") (mPeek 0)) (mNotV (mG (fIsi "bool") (mPeek 0))))))
def F_is_integer : DF := mkF 1 1 m_is_integer
/-- is_within: slots 0 value 1 least 2 most -/
def m_is_within : MS := (mSeq (mIfS (mNot (mTst (mV (mCall F_is_integer [] (xV (mVar 0) xNil))))) (mRet (mR (M.ret (.bl false)))) mNext)
    (mRet (mR (mAndV (mOrV (mRd2 fIsN (mPeek 1) (mR (M.ret .non))) (mOp fGe (mVar 0) (mVar 1))) (mOrV (mRd2 fIsN (mPeek 2) (mR (M.ret .non))) (mOp fLe (mVar 0) (mVar 2)))))))
def F_is_within : DF := mkF 3 3 m_is_within
/-- is_couples: slots 0 value -/
def m_is_couples : MS := (mRet (mCall F_is_within [] (xV (mVar 0) (xV (M.ret (.int 1)) (xV (M.ret (.int 400)) xNil)))))
def F_is_couples : DF := mkF 1 1 m_is_couples
/-- is_moment: slots 0 value -/
def m_is_moment : MS := (mRet (mCall F_is_within [] (xV (mVar 0) (xV (M.ret (.int 0)) (xV (M.ret (.int 1000000000000)) xNil)))))
def F_is_moment : DF := mkF 1 1 m_is_moment
/-- is_row: slots 0 value -/
def m_is_row : MS := (mRet (mR (mG (fIsiT ["list", "tuple"]) (mPeek 0))))
def F_is_row : DF := mkF 1 1 m_is_row
/-- need_couples: slots 0 value -/
def m_need_couples : MS := (mIfS (mNot (mTst (mV (mCall F_is_couples [] (xV (mVar 0) xNil))))) (mRaise "BadCouples" ["value"] (mCons (mVar 0) mNil)) mNext)
def F_need_couples : DF := mkF 1 1 m_need_couples
/-- need_far: slots 0 value -/
def m_need_far : MS := (mIfS (mNot (mTst (mV (mCall F_is_within [] (xV (mVar 0) (xV (M.ret (.int 1)) (xV (M.ret (.int 1000000000)) xNil))))))) (mRaise "BadCouples" ["value"] (mCons (mVar 0) mNil)) mNext)
def F_need_far : DF := mkF 1 1 m_need_far
/-- need_moment: slots 0 value -/
def m_need_moment : MS := (mIfS (mNot (mTst (mV (mCall F_is_moment [] (xV (mVar 0) xNil))))) (mRaise "BadMoment" ["value"] (mCons (mVar 0) mNil)) mNext)
def F_need_moment : DF := mkF 1 1 m_need_moment
/-- need_within: slots 0 value 1 least 2 most 3 part -/
def m_need_within : MS := (mIfS (mNot (mTst (mV (mCall F_is_within [] (xV (mVar 0) (xV (mVar 1) (xV (mVar 2) xNil))))))) (mRaise "BadNumber" ["part"] (mCons (mVar 3) mNil)) mNext)
def F_need_within : DF := mkF 4 4 m_need_within
/-- need_place: slots 0 couples 1 value -/
def m_need_place : MS := (mIfS (mNot (mTst (mV (mCall F_is_within [] (xV (mVar 1) (xV (M.ret (.int 0)) (xV (mOp fSub (mOp fMul (M.ret (.int 2)) (mVar 0)) (M.ret (.int 1))) xNil))))))) (mRaise "NoPlace" ["value"] (mCons (mVar 1) mNil)) mNext)
def F_need_place : DF := mkF 2 2 m_need_place
/-- is_figure: slots 0 value 1 couples 2 place -/
def e1_is_figure : M D := (mV (mCall F_is_integer [] (xV (mVar 2) xNil)))
def m_is_figure : MS := (mSeq (mIfS (mOr (mNot (mTst (mV (mCall F_is_row [] (xV (mVar 0) xNil))))) (mTst (mRd2 (fIn true) (mR (mG fLen (mPeek 0))) (mR (mTup (mCons (M.ret (.int 2)) (mCons (M.ret (.int 4)) (mCons (M.ret (.int 6)) (mCons (M.ret (.int 8)) mNil))))))))) (mRet (mR (M.ret (.bl false)))) mNext)
    (mSeq (mIfS (mAnd (mTst (mRd2 fNotN (mPeek 1) (mR (M.ret .non)))) (mTst (mRd2 fNe (mR (mOp fMul (M.ret (.int 2)) (mVar 1))) (mR (mG fLen (mPeek 0)))))) (mRet (mR (M.ret (.bl false)))) mNext)
    (mSeq (mIfS (mNot (mTst (mG fAll (mLc (mIt items (mVar 0)) (gN 2) (M.ret true) e1_is_figure [2])))) (mRet (mR (M.ret (.bl false)))) mNext)
    (mRet (mR (mRd2 fEq (mN fSorted (mPeek 0)) (mListRg (mG fLen (mPeek 0)))))))))
def F_is_figure : DF := mkF 2 3 m_is_figure
/-- need_figure: slots 0 value -/
def m_need_figure : MS := (mIfS (mNot (mTst (mV (mCall F_is_figure [.non] (xV (mVar 0) xNil))))) (mRaise "BadFigure" ["value"] (mCons (mVar 0) mNil)) mNext)
def F_need_figure : DF := mkF 1 1 m_need_figure
/-- still: slots 0 couples -/
def m_still : MS := (mSeq (mDrop (mCall F_need_within [] (xV (mVar 0) (xV (M.ret (.int 1)) (xV (M.ret (.int 4)) (xV (M.ret (.str (Str.ofString "couples"))) xNil))))))
    (mRet (mR (mTupRg (mOp fMul (M.ret (.int 2)) (mVar 0))))))
def F_still : DF := mkF 1 1 m_still
/-- crossed: slots 0 couples 1 place -/
def e1_crossed : M D := (mOp fSub (mOp fAdd (mVar 1) (M.ret (.int 1))) (mOp fMul (M.ret (.int 2)) (mOp fMod (mVar 1) (M.ret (.int 2)))))
def m_crossed : MS := (mSeq (mDrop (mCall F_need_within [] (xV (mVar 0) (xV (M.ret (.int 1)) (xV (M.ret (.int 4)) (xV (M.ret (.str (Str.ofString "couples"))) xNil))))))
    (mRet (mR (mG fTuple (mLc (mIt itR1 (mOp fMul (M.ret (.int 2)) (mVar 0))) (gN 1) (M.ret true) e1_crossed [1])))))
def F_crossed : DF := mkF 1 2 m_crossed
/-- upended: slots 0 couples 1 place -/
def e1_upended : M D := (mOp fAdd (mOp fMul (M.ret (.int 2)) (mOp fSub (mOp fSub (mVar 0) (M.ret (.int 1))) (mOp fDiv (mVar 1) (M.ret (.int 2))))) (mOp fMod (mVar 1) (M.ret (.int 2))))
def m_upended : MS := (mSeq (mDrop (mCall F_need_within [] (xV (mVar 0) (xV (M.ret (.int 1)) (xV (M.ret (.int 4)) (xV (M.ret (.str (Str.ofString "couples"))) xNil))))))
    (mRet (mR (mG fTuple (mLc (mIt itR1 (mOp fMul (M.ret (.int 2)) (mVar 0))) (gN 1) (M.ret true) e1_upended [1])))))
def F_upended : DF := mkF 1 2 m_upended
/-- joined_rows: slots 0 one 1 other 2 place -/
def e1_joined_rows : M D := (mIx (mPeek 1) (mVar 2))
def m_joined_rows : MS := (mRet (mR (mG fTuple (mLc (mIt items (mVar 0)) (gN 2) (M.ret true) e1_joined_rows [2]))))
def F_joined_rows : DF := mkF 2 3 m_joined_rows
/-- back_row: slots 0 row 1 found 2 place 3 goal -/
def b1_back_row : MS := (mSetIx 1 (mVar 2) (mVar 3))
def m_back_row : MS := (mSeq (mSet 1 (mOpN fRep (mLst (mCons (M.ret (.int 0)) mNil)) (mR (mG fLen (mPeek 0)))))
    (mSeq (mFor (mIt itEnum (mVar 0)) (gT (gsCons (gN 2) (gsCons (gN 3) gsNil))) b1_back_row)
    (mRet (mR (mG fTuple (mPeek 1))))))
def F_back_row : DF := mkF 1 4 m_back_row
/-- cycles_of: slots 0 row 1 first 2 found 3 seen 4 cycle 5 place -/
def t1_cycles_of : M Bool := (mNot (mTst (mIx (mPeek 3) (mVar 5))))
def b2_cycles_of : MS := (mSeq (mSetIx 3 (M.ret (.bl true)) (mVar 5))
    (mSeq (mDrop (mM1 4 fApp (mVar 5)))
    (mSet 5 (mR (mIx (mPeek 0) (mVar 5))))))
def b3_cycles_of : MS := (mSeq (mIfS (mTst (mIx (mPeek 3) (mVar 1))) mCnt mNext)
    (mSeq (mPar 4 5 (mPair (mLst mNil) (mR (mVar 1))))
    (mSeq (whL t1_cycles_of b2_cycles_of fuel)
    (mDrop (mM1 2 fApp (mG fTuple (mPeek 4)))))))
def m_cycles_of : MS := (mSeq (mPar 2 3 (mPair (mLst mNil) (mOpN fRep (mLst (mCons (M.ret (.bl false)) mNil)) (mR (mG fLen (mPeek 0))))))
    (mSeq (mFor (mIt itR1 (mG fLen (mPeek 0))) (gN 1) b3_cycles_of)
    (mRet (mR (mG fTuple (mPeek 2))))))
def F_cycles_of : DF := mkF 1 6 m_cycles_of
/-- power_row: slots 0 row 1 times 2 found 3 cycle 4 at 5 place -/
def b1_power_row : MS := (mSetIx 2 (mIx (mPeek 3) (mOp fMod (mOp fAdd (mVar 4) (mVar 1)) (mG fLen (mPeek 3)))) (mVar 5))
def b2_power_row : MS := (mFor (mIt itEnum (mVar 3)) (gT (gsCons (gN 4) (gsCons (gN 5) gsNil))) b1_power_row)
def m_power_row : MS := (mSeq (mSet 2 (mOpN fRep (mLst (mCons (M.ret (.int 0)) mNil)) (mR (mG fLen (mPeek 0)))))
    (mSeq (mFor (mIt items (mV (mCall F_cycles_of [] (xV (mVar 0) xNil)))) (gN 3) b2_power_row)
    (mRet (mR (mG fTuple (mPeek 2))))))
def F_power_row : DF := mkF 2 6 m_power_row
/-- then: slots 0 one 1 other -/
def m_then : MS := (mSeq (mDrop (mCall F_need_figure [] (xV (mVar 0) xNil)))
    (mSeq (mDrop (mCall F_need_figure [] (xV (mVar 1) xNil)))
    (mSeq (mIfS (mTst (mRd2 fNe (mR (mG fLen (mPeek 0))) (mR (mG fLen (mPeek 1))))) (mRaise "BadFigure" ["value"] (mCons (mVar 1) mNil)) mNext)
    (mRet (mCall F_joined_rows [] (xV (mVar 0) (xV (mVar 1) xNil)))))))
def F_then : DF := mkF 2 2 m_then
/-- back: slots 0 figure -/
def m_back : MS := (mSeq (mDrop (mCall F_need_figure [] (xV (mVar 0) xNil)))
    (mRet (mCall F_back_row [] (xV (mVar 0) xNil))))
def F_back : DF := mkF 1 1 m_back
/-- power: slots 0 figure 1 times -/
def m_power : MS := (mSeq (mDrop (mCall F_need_figure [] (xV (mVar 0) xNil)))
    (mSeq (mDrop (mCall F_need_within [] (xV (mVar 1) (xV (mU fNeg (M.ret (.int 1000000000000))) (xV (M.ret (.int 1000000000000)) (xV (M.ret (.str (Str.ofString "times"))) xNil))))))
    (mRet (mCall F_power_row [] (xV (mVar 0) (xV (mVar 1) xNil))))))
def F_power : DF := mkF 2 2 m_power
/-- cycles: slots 0 figure -/
def m_cycles : MS := (mSeq (mDrop (mCall F_need_figure [] (xV (mVar 0) xNil)))
    (mRet (mCall F_cycles_of [] (xV (mVar 0) xNil))))
def F_cycles : DF := mkF 1 1 m_cycles
/-- order: slots 0 figure 1 found 2 cycle -/
def b1_order : MS := (mSet 1 (mR (mOp fLcm (mVar 1) (mG fLen (mPeek 2)))))
def m_order : MS := (mSeq (mDrop (mCall F_need_figure [] (xV (mVar 0) xNil)))
    (mSeq (mSet 1 (mR (M.ret (.int 1))))
    (mSeq (mFor (mIt items (mV (mCall F_cycles_of [] (xV (mVar 0) xNil)))) (gN 2) b1_order)
    (mRet (mTake 1)))))
def F_order : DF := mkF 1 3 m_order
/-- flipped: slots 0 place -/
def m_flipped : MS := (mRet (mR (mOp fSub (mOp fAdd (mVar 0) (M.ret (.int 1))) (mOp fMul (M.ret (.int 2)) (mOp fMod (mVar 0) (M.ret (.int 2)))))))
def F_flipped : DF := mkF 1 1 m_flipped
/-- mirror_row: slots 0 row 1 place -/
def e1_mirror_row : M D := (mV (mCall F_flipped [] (xV (mIx (mPeek 0) (mV (mCall F_flipped [] (xV (mVar 1) xNil)))) xNil)))
def m_mirror_row : MS := (mRet (mR (mG fTuple (mLc (mIt itR1 (mG fLen (mPeek 0))) (gN 1) (M.ret true) e1_mirror_row [1]))))
def F_mirror_row : DF := mkF 1 2 m_mirror_row
/-- mirrored: slots 0 figure -/
def m_mirrored : MS := (mSeq (mDrop (mCall F_need_figure [] (xV (mVar 0) xNil)))
    (mRet (mCall F_mirror_row [] (xV (mVar 0) xNil))))
def F_mirrored : DF := mkF 1 1 m_mirrored
/-- turned: slots 0 figure 1 last 2 place -/
def e1_turned : M D := (mOp fSub (mVar 1) (mIx (mPeek 0) (mOp fSub (mVar 1) (mVar 2))))
def m_turned : MS := (mSeq (mDrop (mCall F_need_figure [] (xV (mVar 0) xNil)))
    (mSeq (mSet 1 (mR (mOp fSub (mG fLen (mPeek 0)) (M.ret (.int 1)))))
    (mRet (mR (mG fTuple (mLc (mIt itR1 (mG fLen (mPeek 0))) (gN 2) (M.ret true) e1_turned [2]))))))
def F_turned : DF := mkF 1 3 m_turned
/-- beside: slots 0 one 1 other 2 place -/
def e1_beside : M D := (mOp fAdd (mG fLen (mPeek 0)) (mVar 2))
def m_beside : MS := (mSeq (mDrop (mCall F_need_figure [] (xV (mVar 0) xNil)))
    (mSeq (mDrop (mCall F_need_figure [] (xV (mVar 1) xNil)))
    (mSeq (mIfS (mTst (mOp fGt (mOp fAdd (mG fLen (mPeek 0)) (mG fLen (mPeek 1))) (mOp fMul (M.ret (.int 2)) (M.ret (.int 4))))) (mRaise "BadFigure" ["value"] (mCons (mVar 1) mNil)) mNext)
    (mRet (mR (mOp fCatT (mG fTuple (mPeek 0)) (mG fTuple (mLc (mIt items (mVar 1)) (gN 2) (M.ret true) e1_beside [2]))))))))
def F_beside : DF := mkF 2 3 m_beside
/-- exchanges: slots 0 figure 1 found 2 cycle 3 place -/
def b1_exchanges : MS := (mDrop (mM1 1 fApp (mTup (mCons (mIx (mPeek 2) (M.ret (.int 0))) (mCons (mVar 3) mNil)))))
def b2_exchanges : MS := (mFor (mIt items (mV (mSl (mPeek 2) (mPart (M.ret (.int 1))) (M.ret none)))) (gN 3) b1_exchanges)
def m_exchanges : MS := (mSeq (mDrop (mCall F_need_figure [] (xV (mVar 0) xNil)))
    (mSeq (mSet 1 (mLst mNil))
    (mSeq (mFor (mIt items (mV (mCall F_cycles_of [] (xV (mVar 0) xNil)))) (gN 2) b2_exchanges)
    (mRet (mR (mG fTuple (mPeek 1)))))))
def F_exchanges : DF := mkF 1 4 m_exchanges
end Zl
end

section
set_option Elab.async false
set_option linter.all false
set_option maxRecDepth 100000
set_option maxHeartbeats 4000000
/-! each function's answer. -/
namespace Zl
open PySem L2 Z Zb Za
open Zp (it Pm orb walk mins cycs isMin)
theorem lc_map {t : TgM} {el : M D} {vs : List Nat} {g : D → D} {env0 : Z.Env} : ∀ (ds acc : List D), (∀ d ∈ ds, ∃ e1 e3, t d env0 = some e1 ∧ el e1 = some (.ok (g d) e3) ∧ clr e3 vs = env0) → acc.length + ds.length ≤ 1000000 →
    lcL t (M.ret true) el vs ds acc env0 = some (.ok (acc ++ ds.map g) env0)
  | [], acc, _, _ => by rw [List.map_nil, List.append_nil]; rfl
  | d :: ds, acc, h, hz => by
    obtain ⟨e1, e3, h1, h2, h3⟩ := h d List.mem_cons_self
    rw [List.length_cons] at hz
    have ih := lc_map ds (acc ++ [g d]) (fun x hx => h x (List.mem_cons_of_mem _ hx)) (by rw [List.length_append]; show acc.length + 1 + ds.length ≤ 1000000; omega)
    simp only [lcL, h1, M.ret, h2, sz_of (show acc.length ≤ 1000000 by omega), h3, ↓reduceIte]
    rw [ih, List.append_assoc]
    rfl
/-- what an argument that is a figure may be -/
structure Fg (d : D) (f : Nat → Nat) (n : Nat) : Prop where
  pm : Pm f n
  sz : n = 2 ∨ n = 4 ∨ n = 6 ∨ n = 8
  eq : d = .lst ((List.range n).map fun i => I (f i)) ∨ d = .tup ((List.range n).map fun i => I (f i))
theorem at_map {n : Nat} {g : Nat → D} {i : Nat} (h : i < n) : L2.atI ((List.range n).map g) (i : Nat) = some (g i) := by
  refine L2.atI_nat ?_
  rw [List.getElem?_map, List.getElem?_range h]
  rfl
theorem isort_perm_range {f : Nat → Nat} {n : Nat} (P : Pm f n) : isort ((List.range n).map fun i => ((f i : Nat) : Int)) = (List.range n).map fun i => ((i : Nat) : Int) := by
  refine (isort_eq ?_ ?_).symm
  · have hp : (List.range n).Perm ((List.range n).map f) := by
      refine (List.perm_ext_iff_of_nodup List.nodup_range ?_).mpr ?_
      · unfold List.Nodup
        rw [List.pairwise_map]
        refine List.Pairwise.imp_of_mem ?_ (List.nodup_range (n := n))
        intro a b ha hb hab e
        exact hab (P.inj a b (List.mem_range.mp ha) (List.mem_range.mp hb) e)
      · intro x
        rw [List.mem_range, List.mem_map]
        constructor
        · intro hx
          obtain ⟨L, h1, h2⟩ := P.per hx
          refine ⟨it f (L - 1) x, List.mem_range.mpr (P.it_lt hx _), ?_⟩
          have := h2.back
          rw [show L = (L - 1) + 1 by have := h2.pos; omega] at this
          exact this
        · rintro ⟨i, hi, rfl⟩
          exact P.lt i (List.mem_range.mp hi)
    have := hp.map fun i : Nat => (i : Int)
    rw [List.map_map] at this
    exact this
  · rw [List.pairwise_map]
    refine List.Pairwise.imp ?_ List.pairwise_lt_range
    intro a b h
    omega
theorem is_row_fg {d : D} {f : Nat → Nat} {n : Nat} (F : Fg d f n) : F_is_row [.v d] = some (.rt (.v (.bl true)) none) := by
  rcases F.eq with rfl | rfl <;> rfl
theorem is_integer_int (i : Int) : F_is_integer [.v (.int i)] = some (.rt (.v (.bl true)) none) := rfl
theorem is_figure_fg {d : D} {f : Nat → Nat} {n : Nat} (F : Fg d f n) : F_is_figure [.v d, .v .non] = some (.rt (.v (.bl true)) none) := by
  have h1 := is_row_fg F
  have hn : n ≤ 8 := by have := F.sz; omega
  have hin : fIn true (.int (n : Nat)) (.tup [.int 2, .int 4, .int 6, .int 8]) = some (.bl false) := by
    rcases F.sz with rfl | rfl | rfl | rfl <;> rfl
  have hnn : fNotN .non .non = some (.bl false) := rfl
  have hl : ((List.range n).map fun i => I (f i)).length = n := by rw [List.length_map, List.length_range]
  have hs : allOf inOf ((List.range n).map fun i => I (f i)) = some ((List.range n).map fun i => ((f i : Nat) : Int)) := by
    generalize List.range n = l
    induction l with
    | nil => rfl
    | cons a l ih =>
      rw [List.map_cons, allOf, ih]
      rfl
  have hb : allOf blOf (((List.range n).map fun i => I (f i)).map fun _ => D.bl true) = some ((List.range n).map fun _ => true) := by
    generalize List.range n = l
    induction l with
    | nil => rfl
    | cons a l ih =>
      rw [List.map_cons, List.map_cons, allOf, ih]
      rfl
  have hall : ((List.range n).map fun _ => true).all id = true := by
    rw [List.all_eq_true]
    intro x hx
    obtain ⟨_, _, rfl⟩ := List.mem_map.mp hx
    rfl
  have hlc := lc_map (t := gN 2) (el := e1_is_figure) (vs := [2]) (g := fun _ => D.bl true) (env0 := [.v d, .v .non, .no]) ((List.range n).map fun i => I (f i)) [] (fun x hx => by
    obtain ⟨i, _, rfl⟩ := List.mem_map.mp hx
    exact ⟨[.v d, .v .non, .v (I (f i))], [.v d, .v .non, .v (I (f i))], rfl, rfl, rfl⟩) (by rw [hl]; show 0 + n ≤ 1000000; omega)
  have hrg : okRg (n : Nat) = true := by
    unfold okRg
    simp only [Bool.and_eq_true, decide_eq_true_eq]
    omega
  have heq : fEq (.lst (((List.range n).map fun i => ((i : Nat) : Int)).map .int)) (.lst (rng n)) = some (.bl true) := by
    rw [show rng n = ((List.range n).map fun i => ((i : Nat) : Int)).map .int by rw [List.map_map]; rfl, fEq_lints]
    rw [decide_eq_true rfl]
  have hit : ∀ x : Nat, ((x : Nat) : Int).toNat = x := fun x => rfl
  rcases F.eq with rfl | rfl
  · simp only [F_is_figure, mkF, m_is_figure, mSeq, mIfS, mThen, mTst, mOp, mIx, mPeek, mVar, mTake, mSet, mSetIx, mRet, mR, mV, mU, mG, mN, mRd2, mOpN, mAnd, mOr, mNot, mAndV, mOrV, mNotV, mIf, mNil, mCons, mTup, mLst, mPart, mSl, mPar, mPair, mDrop, mM1, mM0, mHere, M.chg, M.bind, M.ret, M.of, Ar.sl, Rs.get, Rs.sl, fIx, fI, fI0, fInt, fLen, setSl, isIo, isL, chg, onL, fSetIx, fApp, Sl.mut, Sl.upd, ioC, ioIx, env0, runF, mCall, rsv, wb, axIx, noIoA, xNil, xV, xSl, mIt, mListRg, mTupRg, fRg, List.length_cons, List.length_nil, List.map_cons, List.map_nil, List.cons_append, List.nil_append, List.replicate_succ, List.replicate_zero, List.append_nil, Nat.reduceAdd, Nat.reduceSub, List.getElem?_cons_zero, List.getElem?_cons_succ, List.getElem?_nil, List.set_cons_zero, List.set_cons_succ, Option.bind_some, Option.bind_none, Option.map_some, Option.map_none, Nat.reduceLT, Nat.reduceEqDiff, Nat.reduceLeDiff, decide_true, decide_false, Bool.and_true, Bool.true_and, Bool.and_false, Bool.false_and, Bool.not_true, Bool.not_false, ↓reduceIte, reduceCtorEq, Bool.false_eq_true, List.length_map, Nat.lt_add_left_iff_pos, Nat.zero_lt_succ, Nat.add_eq, Nat.zero_add, Nat.add_zero, Nat.zero_le, sz0, sz1, sz2, sz3, sz4, sz5, sz6, sz7, sz8, sz9, h1, hl, hin, hnn, mLc, items, noIo, List.all_cons, List.all_nil, clr, unclr, hlc, fAll, hb, hall, fSorted, hs, isort_perm_range F.pm, hrg, heq, hit]
  · simp only [F_is_figure, mkF, m_is_figure, mSeq, mIfS, mThen, mTst, mOp, mIx, mPeek, mVar, mTake, mSet, mSetIx, mRet, mR, mV, mU, mG, mN, mRd2, mOpN, mAnd, mOr, mNot, mAndV, mOrV, mNotV, mIf, mNil, mCons, mTup, mLst, mPart, mSl, mPar, mPair, mDrop, mM1, mM0, mHere, M.chg, M.bind, M.ret, M.of, Ar.sl, Rs.get, Rs.sl, fIx, fI, fI0, fInt, fLen, setSl, isIo, isL, chg, onL, fSetIx, fApp, Sl.mut, Sl.upd, ioC, ioIx, env0, runF, mCall, rsv, wb, axIx, noIoA, xNil, xV, xSl, mIt, mListRg, mTupRg, fRg, List.length_cons, List.length_nil, List.map_cons, List.map_nil, List.cons_append, List.nil_append, List.replicate_succ, List.replicate_zero, List.append_nil, Nat.reduceAdd, Nat.reduceSub, List.getElem?_cons_zero, List.getElem?_cons_succ, List.getElem?_nil, List.set_cons_zero, List.set_cons_succ, Option.bind_some, Option.bind_none, Option.map_some, Option.map_none, Nat.reduceLT, Nat.reduceEqDiff, Nat.reduceLeDiff, decide_true, decide_false, Bool.and_true, Bool.true_and, Bool.and_false, Bool.false_and, Bool.not_true, Bool.not_false, ↓reduceIte, reduceCtorEq, Bool.false_eq_true, List.length_map, Nat.lt_add_left_iff_pos, Nat.zero_lt_succ, Nat.add_eq, Nat.zero_add, Nat.add_zero, Nat.zero_le, sz0, sz1, sz2, sz3, sz4, sz5, sz6, sz7, sz8, sz9, h1, hl, hin, hnn, mLc, items, noIo, List.all_cons, List.all_nil, clr, unclr, hlc, fAll, hb, hall, fSorted, hs, isort_perm_range F.pm, hrg, heq, hit]
end Zl
end

section
set_option Elab.async false
set_option linter.all false
set_option maxRecDepth 100000
set_option maxHeartbeats 4000000
/-! cycles_of. -/
namespace Zl
open PySem L2 Z Zb Za
open Zp (it Pm orb walk mins cycs isMin)
theorem need_figure_fg {d : D} {f : Nat → Nat} {n : Nat} (F : Fg d f n) : F_need_figure [.v d] = some (.rt (.v .non) none) := by
  have h := is_figure_fg F
  simp only [F_need_figure, mkF, m_need_figure, mSeq, mIfS, mThen, mTst, mOp, mIx, mPeek, mVar, mTake, mSet, mSetIx, mRet, mR, mV, mU, mG, mN, mRd2, mOpN, mAnd, mOr, mNot, mAndV, mOrV, mNotV, mIf, mNil, mCons, mTup, mLst, mPart, mSl, mPar, mPair, mDrop, mM1, mM0, mHere, M.chg, M.bind, M.ret, M.of, Ar.sl, Rs.get, Rs.sl, fIx, fI, fI0, fInt, fLen, setSl, isIo, isL, chg, onL, fSetIx, fApp, Sl.mut, Sl.upd, ioC, ioIx, env0, runF, mCall, rsv, wb, axIx, noIoA, xNil, xV, xSl, mIt, mListRg, mTupRg, fRg, List.length_cons, List.length_nil, List.map_cons, List.map_nil, List.cons_append, List.nil_append, List.replicate_succ, List.replicate_zero, List.append_nil, Nat.reduceAdd, Nat.reduceSub, List.getElem?_cons_zero, List.getElem?_cons_succ, List.getElem?_nil, List.set_cons_zero, List.set_cons_succ, Option.bind_some, Option.bind_none, Option.map_some, Option.map_none, Nat.reduceLT, Nat.reduceEqDiff, Nat.reduceLeDiff, decide_true, decide_false, Bool.and_true, Bool.true_and, Bool.and_false, Bool.false_and, Bool.not_true, Bool.not_false, ↓reduceIte, reduceCtorEq, Bool.false_eq_true, List.length_map, Nat.lt_add_left_iff_pos, Nat.zero_lt_succ, Nat.add_eq, Nat.zero_add, Nat.add_zero, Nat.zero_le, sz0, sz1, sz2, sz3, sz4, sz5, sz6, sz7, sz8, sz9, h]
theorem set_map {n p : Nat} {g : Nat → D} {v : D} : ((List.range n).map g).set p v = (List.range n).map fun i => if i = p then v else g i := by
  apply List.ext_getElem
  · simp
  · intro i h1 h2
    rw [List.getElem_set]
    simp only [List.getElem_map, List.getElem_range]
    by_cases e : p = i
    · rw [if_pos e, if_pos e.symm]
    · rw [if_neg e, if_neg (fun h => e h.symm)]
theorem ix_nat {n i : Nat} (h : i < n) : ixN n (i : Nat) = some i := by
  unfold ixN
  rw [if_pos (by omega), if_pos (by omega)]
  rfl
abbrev tupN (c : List Nat) : D := .tup (c.map I)
def seenD (n : Nat) (sn : Nat → Bool) : List D := (List.range n).map fun i => D.bl (sn i)
def snk (f : Nat → Nat) (sn : Nat → Bool) (x k y : Nat) : Bool := sn y || (List.range k).any fun j => it f j x == y
theorem snk_succ (f : Nat → Nat) (sn : Nat → Bool) (x k : Nat) : (fun y => if y = it f k x then true else snk f sn x k y) = snk f sn x (k + 1) := by
  funext y
  unfold snk
  rw [List.range_succ, List.any_append]
  simp only [List.any_cons, List.any_nil, Bool.or_false]
  by_cases e : y = it f k x
  · rw [if_pos e, show (it f k x == y) = true by rw [e]; exact beq_self_eq_true _, Bool.or_true, Bool.or_true]
  · rw [if_neg e, show (it f k x == y) = false from beq_false_of_ne fun h => e h.symm, Bool.or_false]
/-- the walk along one cycle -/
theorem one_cycle {d : D} {f : Nat → Nat} {n : Nat} (F : Fg d f n) {sn : Nat → Bool} {x L : Nat} {s1 s2 : Sl} (hx : x < n) (hL : Zp.Per f x L) (hLn : L ≤ n) (hs : ∀ y, Zp.Rel f x y → sn y = false) :
    whL t1_cycles_of b2_cycles_of fuel [.v d, s1, s2, .own (.lst (seenD n sn)), .own (.lst []), .v (I x)] =
      some (.nx [.v d, s1, s2, .own (.lst (seenD n (snk f sn x L))), .own (.lst ((orb f n x).map I)), .v (I x)]) := by
  have hn8 : n ≤ 8 := by have := F.sz; omega
  obtain ⟨env', e1, e2⟩ := whL_inv (t := t1_cycles_of) (b := b2_cycles_of) (n := L)
    (I := fun k env => env = [.v d, s1, s2, .own (.lst (seenD n (snk f sn x k))), .own (.lst ((List.range k).map fun j => I (it f j x))), .v (I (it f k x))])
    (J := fun env => env = [.v d, s1, s2, .own (.lst (seenD n (snk f sn x L))), .own (.lst ((orb f n x).map I)), .v (I x)])
    (fun k env hk e => by
      subst e
      have hlt : it f k x < n := F.pm.it_lt hx k
      have a1 : L2.atI (seenD n (snk f sn x k)) (it f k x : Nat) = some (.bl (snk f sn x k (it f k x))) := at_map hlt
      have a2 : snk f sn x k (it f k x) = false := by
        unfold snk
        rw [hs _ ⟨k, rfl⟩, Bool.false_or, List.any_eq_false]
        intro j hj e
        have hj := List.mem_range.mp hj
        have e := eq_of_beq e
        rw [show k = j + (k - j) by omega, Zp.it_add] at e
        exact hL.least (k - j) (by omega) (by omega) (F.pm.it_inj j hx (F.pm.it_lt hx _) e).symm
      rw [a2] at a1
      have a3 : (seenD n (snk f sn x k)).set (it f k x) (.bl true) = seenD n (snk f sn x (k + 1)) := by
        unfold seenD
        rw [set_map, ← snk_succ]
        refine List.map_congr_left fun i _ => ?_
        by_cases e : i = it f k x
        · simp only [if_pos e]
        · simp only [if_neg e]
      have a4 : (seenD n (snk f sn x k)).length = n := by unfold seenD; rw [List.length_map, List.length_range]
      have a5 : szOk ((List.range k).map fun j => I (it f j x)).length = true := sz_of (by rw [List.length_map, List.length_range]; omega)
      have a6 : L2.atI ((List.range n).map fun i => I (f i)) (it f k x : Nat) = some (I (it f (k + 1) x)) := at_map hlt
      have a7 : ((List.range k).map fun j => I (it f j x)) ++ [I (it f k x)] = (List.range (k + 1)).map fun j => I (it f j x) := by
        rw [List.range_succ, List.map_append]
        rfl
      have a8 := ix_nat hlt
      refine ⟨[.v d, s1, s2, .own (.lst (seenD n (snk f sn x k))), .own (.lst ((List.range k).map fun j => I (it f j x))), .v (I (it f k x))], [.v d, s1, s2, .own (.lst (seenD n (snk f sn x (k + 1)))), .own (.lst ((List.range (k + 1)).map fun j => I (it f j x))), .v (I (it f (k + 1) x))], ?_, .inl ?_, rfl⟩
      · generalize it f k x = p at *
        generalize seenD n (snk f sn x k) = q at *
        simp only [t1_cycles_of, mSeq, mIfS, mThen, mTst, mOp, mIx, mPeek, mVar, mTake, mSet, mSetIx, mRet, mR, mV, mU, mG, mN, mRd2, mOpN, mAnd, mOr, mNot, mAndV, mOrV, mNotV, mIf, mNil, mCons, mTup, mLst, mPart, mSl, mPar, mPair, mDrop, mM1, mM0, mHere, M.chg, M.bind, M.ret, M.of, Ar.sl, Rs.get, Rs.sl, fIx, fI, fI0, fInt, fLen, setSl, isIo, isL, chg, onL, fSetIx, fApp, Sl.mut, Sl.upd, ioC, ioIx, env0, runF, mCall, rsv, wb, axIx, noIoA, xNil, xV, xSl, mIt, mListRg, mTupRg, fRg, List.length_cons, List.length_nil, List.map_cons, List.map_nil, List.cons_append, List.nil_append, List.replicate_succ, List.replicate_zero, List.append_nil, Nat.reduceAdd, Nat.reduceSub, List.getElem?_cons_zero, List.getElem?_cons_succ, List.getElem?_nil, List.set_cons_zero, List.set_cons_succ, Option.bind_some, Option.bind_none, Option.map_some, Option.map_none, Nat.reduceLT, Nat.reduceEqDiff, Nat.reduceLeDiff, decide_true, decide_false, Bool.and_true, Bool.true_and, Bool.and_false, Bool.false_and, Bool.not_true, Bool.not_false, ↓reduceIte, reduceCtorEq, Bool.false_eq_true, List.length_map, Nat.lt_add_left_iff_pos, Nat.zero_lt_succ, Nat.add_eq, Nat.zero_add, Nat.add_zero, Nat.zero_le, sz0, sz1, sz2, sz3, sz4, sz5, sz6, sz7, sz8, sz9, a1]
      · rw [← a7]
        rw [← a3]
        rcases F.eq with rfl | rfl
        · generalize it f k x = p at *
          generalize it f (k + 1) x = p2 at *
          generalize seenD n (snk f sn x k) = q at *
          generalize ((List.range k).map fun j => I (it f j x)) = r at *
          generalize ((List.range n).map fun i => I (f i)) = xs at *
          simp only [b2_cycles_of, mSeq, mIfS, mThen, mTst, mOp, mIx, mPeek, mVar, mTake, mSet, mSetIx, mRet, mR, mV, mU, mG, mN, mRd2, mOpN, mAnd, mOr, mNot, mAndV, mOrV, mNotV, mIf, mNil, mCons, mTup, mLst, mPart, mSl, mPar, mPair, mDrop, mM1, mM0, mHere, M.chg, M.bind, M.ret, M.of, Ar.sl, Rs.get, Rs.sl, fIx, fI, fI0, fInt, fLen, setSl, isIo, isL, chg, onL, fSetIx, fApp, Sl.mut, Sl.upd, ioC, ioIx, env0, runF, mCall, rsv, wb, axIx, noIoA, xNil, xV, xSl, mIt, mListRg, mTupRg, fRg, List.length_cons, List.length_nil, List.map_cons, List.map_nil, List.cons_append, List.nil_append, List.replicate_succ, List.replicate_zero, List.append_nil, Nat.reduceAdd, Nat.reduceSub, List.getElem?_cons_zero, List.getElem?_cons_succ, List.getElem?_nil, List.set_cons_zero, List.set_cons_succ, Option.bind_some, Option.bind_none, Option.map_some, Option.map_none, Nat.reduceLT, Nat.reduceEqDiff, Nat.reduceLeDiff, decide_true, decide_false, Bool.and_true, Bool.true_and, Bool.and_false, Bool.false_and, Bool.not_true, Bool.not_false, ↓reduceIte, reduceCtorEq, Bool.false_eq_true, List.length_map, Nat.lt_add_left_iff_pos, Nat.zero_lt_succ, Nat.add_eq, Nat.zero_add, Nat.add_zero, Nat.zero_le, sz0, sz1, sz2, sz3, sz4, sz5, sz6, sz7, sz8, sz9, a4, a5, a6, a8]
        · generalize it f k x = p at *
          generalize it f (k + 1) x = p2 at *
          generalize seenD n (snk f sn x k) = q at *
          generalize ((List.range k).map fun j => I (it f j x)) = r at *
          generalize ((List.range n).map fun i => I (f i)) = xs at *
          simp only [b2_cycles_of, mSeq, mIfS, mThen, mTst, mOp, mIx, mPeek, mVar, mTake, mSet, mSetIx, mRet, mR, mV, mU, mG, mN, mRd2, mOpN, mAnd, mOr, mNot, mAndV, mOrV, mNotV, mIf, mNil, mCons, mTup, mLst, mPart, mSl, mPar, mPair, mDrop, mM1, mM0, mHere, M.chg, M.bind, M.ret, M.of, Ar.sl, Rs.get, Rs.sl, fIx, fI, fI0, fInt, fLen, setSl, isIo, isL, chg, onL, fSetIx, fApp, Sl.mut, Sl.upd, ioC, ioIx, env0, runF, mCall, rsv, wb, axIx, noIoA, xNil, xV, xSl, mIt, mListRg, mTupRg, fRg, List.length_cons, List.length_nil, List.map_cons, List.map_nil, List.cons_append, List.nil_append, List.replicate_succ, List.replicate_zero, List.append_nil, Nat.reduceAdd, Nat.reduceSub, List.getElem?_cons_zero, List.getElem?_cons_succ, List.getElem?_nil, List.set_cons_zero, List.set_cons_succ, Option.bind_some, Option.bind_none, Option.map_some, Option.map_none, Nat.reduceLT, Nat.reduceEqDiff, Nat.reduceLeDiff, decide_true, decide_false, Bool.and_true, Bool.true_and, Bool.and_false, Bool.false_and, Bool.not_true, Bool.not_false, ↓reduceIte, reduceCtorEq, Bool.false_eq_true, List.length_map, Nat.lt_add_left_iff_pos, Nat.zero_lt_succ, Nat.add_eq, Nat.zero_add, Nat.add_zero, Nat.zero_le, sz0, sz1, sz2, sz3, sz4, sz5, sz6, sz7, sz8, sz9, a4, a5, a6, a8])
    (fun env e => by
      subst e
      have hlt : it f L x < n := F.pm.it_lt hx L
      have a1 : L2.atI (seenD n (snk f sn x L)) (it f L x : Nat) = some (.bl (snk f sn x L (it f L x))) := at_map hlt
      have a2 : snk f sn x L (it f L x) = true := by
        unfold snk
        rw [show (List.range L).any (fun j => it f j x == it f L x) = true from List.any_eq_true.mpr ⟨0, List.mem_range.mpr hL.pos, by rw [hL.back]; exact beq_self_eq_true _⟩, Bool.or_true]
      rw [a2] at a1
      refine ⟨[.v d, s1, s2, .own (.lst (seenD n (snk f sn x L))), .own (.lst ((List.range L).map fun j => I (it f j x))), .v (I (it f L x))], ?_, ?_⟩
      · generalize it f L x = p at *
        generalize seenD n (snk f sn x L) = q at *
        simp only [t1_cycles_of, mSeq, mIfS, mThen, mTst, mOp, mIx, mPeek, mVar, mTake, mSet, mSetIx, mRet, mR, mV, mU, mG, mN, mRd2, mOpN, mAnd, mOr, mNot, mAndV, mOrV, mNotV, mIf, mNil, mCons, mTup, mLst, mPart, mSl, mPar, mPair, mDrop, mM1, mM0, mHere, M.chg, M.bind, M.ret, M.of, Ar.sl, Rs.get, Rs.sl, fIx, fI, fI0, fInt, fLen, setSl, isIo, isL, chg, onL, fSetIx, fApp, Sl.mut, Sl.upd, ioC, ioIx, env0, runF, mCall, rsv, wb, axIx, noIoA, xNil, xV, xSl, mIt, mListRg, mTupRg, fRg, List.length_cons, List.length_nil, List.map_cons, List.map_nil, List.cons_append, List.nil_append, List.replicate_succ, List.replicate_zero, List.append_nil, Nat.reduceAdd, Nat.reduceSub, List.getElem?_cons_zero, List.getElem?_cons_succ, List.getElem?_nil, List.set_cons_zero, List.set_cons_succ, Option.bind_some, Option.bind_none, Option.map_some, Option.map_none, Nat.reduceLT, Nat.reduceEqDiff, Nat.reduceLeDiff, decide_true, decide_false, Bool.and_true, Bool.true_and, Bool.and_false, Bool.false_and, Bool.not_true, Bool.not_false, ↓reduceIte, reduceCtorEq, Bool.false_eq_true, List.length_map, Nat.lt_add_left_iff_pos, Nat.zero_lt_succ, Nat.add_eq, Nat.zero_add, Nat.add_zero, Nat.zero_le, sz0, sz1, sz2, sz3, sz4, sz5, sz6, sz7, sz8, sz9, a1]
      · rw [Zp.orb_eq hL (by omega), List.map_map, hL.back]
        rfl) 0 fuel (Nat.zero_le _) (by show L - 0 < 1000; omega) [.v d, s1, s2, .own (.lst (seenD n sn)), .own (.lst []), .v (I x)] (by
      rw [show snk f sn x 0 = sn by funext y; unfold snk; rw [List.range_zero, List.any_nil, Bool.or_false]]
      rfl)
  rw [e1, e2]
end Zl
end

section
set_option Elab.async false
set_option linter.all false
set_option maxRecDepth 100000
set_option maxHeartbeats 4000000
/-! cycles_of, cycles. -/
namespace Zl
open PySem L2 Z Zb Za
open Zp (it Pm orb walk mins cycs isMin)
def cyB (f : Nat → Nat) (n i : Nat) : List (List Nat) := ((List.range i).filter (isMin f n)).map (orb f n)
theorem cyB_succ (f : Nat → Nat) (n i : Nat) : cyB f n (i + 1) = cyB f n i ++ (if isMin f n i = true then [orb f n i] else []) := by
  unfold cyB
  rw [List.range_succ, List.filter_append, List.map_append]
  cases h : isMin f n i <;> simp [h]
theorem cyB_len (f : Nat → Nat) (n i : Nat) : (cyB f n i).length ≤ i := by
  unfold cyB
  rw [List.length_map]
  exact Nat.le_trans (List.length_filter_le _ _) (Nat.le_of_eq List.length_range)
def Junk (i : Nat) (s1 s4 s5 : Sl) : Prop := (i = 0 ∧ s1 = .no ∧ s4 = .no ∧ s5 = .no) ∨ ∃ a b c, s1 = .v a ∧ s4 = .own b ∧ s5 = .v c
theorem rep1 (n : Nat) (d : D) : (List.replicate n [d]).flatten = (List.range n).map fun _ => d := by
  induction n with
  | zero => rfl
  | succ n ih =>
    rw [List.replicate_succ', List.flatten_append, ih, List.range_succ, List.map_append]
    rfl
theorem rep_bl (n : Nat) (hn : n ≤ 1000) : fRep (.lst [.bl false]) (.int (n : Nat)) = some (.lst (seenD n fun _ => false)) := by
  have hrep : (List.replicate n [D.bl false]).flatten = seenD n fun _ => false := rep1 n _
  rw [← hrep]
  unfold fRep
  dsimp only
  rw [Int.toNat_natCast, decide_eq_true (show -1000000 ≤ ((n : Nat) : Int) by omega), decide_eq_true (show ((n : Nat) : Int) ≤ 1000000 by omega), sz_of (show [D.bl false].length * n ≤ 1000000 by show 1 * n ≤ 1000000; omega)]
  rfl
theorem okR_nat (n : Nat) (hn : n ≤ 1000) : okR (n : Nat) = true := by
  unfold okR
  rw [decide_eq_true (show -(2 ^ 61) ≤ ((n : Nat) : Int) by omega), decide_eq_true (show ((n : Nat) : Int) < 2 ^ 61 by omega)]
  rfl
theorem it_rng (n : Nat) (hn : n ≤ 1000) : itR1 (.int (n : Nat)) = some (rng n) := by
  have h := okR_nat n hn
  unfold itR1
  dsimp only
  generalize okR (n : Nat) = b at h ⊢
  rw [h, Int.toNat_natCast]
  rfl
theorem cyc_skip {d : D} {i : Nat} {s4 s5 : Sl} {q r : List D} (a1 : L2.atI r (i : Nat) = some (.bl true)) : b3_cycles_of [.v d, .v (I i), .own (.lst q), .own (.lst r), s4, s5] = some (.ct [.v d, .v (I i), .own (.lst q), .own (.lst r), s4, s5]) := by
  simp only [b3_cycles_of, mSeq, mIfS, mThen, mTst, mOp, mIx, mPeek, mVar, mTake, mSet, mSetIx, mRet, mR, mV, mU, mG, mN, mRd2, mOpN, mAnd, mOr, mNot, mAndV, mOrV, mNotV, mIf, mNil, mCons, mTup, mLst, mPart, mSl, mPar, mPair, mDrop, mM1, mM0, mHere, M.chg, M.bind, M.ret, M.of, Ar.sl, Rs.get, Rs.sl, fIx, fI, fI0, fInt, fLen, setSl, isIo, isL, chg, onL, fSetIx, fApp, Sl.mut, Sl.upd, ioC, ioIx, env0, runF, mCall, rsv, wb, axIx, noIoA, xNil, xV, xSl, mIt, mListRg, mTupRg, fRg, List.length_cons, List.length_nil, List.map_cons, List.map_nil, List.cons_append, List.nil_append, List.replicate_succ, List.replicate_zero, List.append_nil, Nat.reduceAdd, Nat.reduceSub, List.getElem?_cons_zero, List.getElem?_cons_succ, List.getElem?_nil, List.set_cons_zero, List.set_cons_succ, Option.bind_some, Option.bind_none, Option.map_some, Option.map_none, Nat.reduceLT, Nat.reduceEqDiff, Nat.reduceLeDiff, decide_true, decide_false, Bool.and_true, Bool.true_and, Bool.and_false, Bool.false_and, Bool.not_true, Bool.not_false, ↓reduceIte, reduceCtorEq, Bool.false_eq_true, List.length_map, Nat.lt_add_left_iff_pos, Nat.zero_lt_succ, Nat.add_eq, Nat.zero_add, Nat.add_zero, Nat.zero_le, sz0, sz1, sz2, sz3, sz4, sz5, sz6, sz7, sz8, sz9, a1, mCnt]
theorem cyc_take {d : D} {i : Nat} {s4 s5 : Sl} {q r r2 c : List D} (a1 : L2.atI r (i : Nat) = some (.bl false)) {i0 : Nat} {s1 : Sl} (hj : Junk i0 s1 s4 s5) (hsz : szOk q.length = true)
    (w : whL t1_cycles_of b2_cycles_of fuel [.v d, .v (I i), .own (.lst q), .own (.lst r), .own (.lst []), .v (I i)] = some (.nx [.v d, .v (I i), .own (.lst q), .own (.lst r2), .own (.lst c), .v (I i)])) :
    b3_cycles_of [.v d, .v (I i), .own (.lst q), .own (.lst r), s4, s5] = some (.nx [.v d, .v (I i), .own (.lst (q ++ [.tup c])), .own (.lst r2), .own (.lst c), .v (I i)]) := by
  unfold b3_cycles_of
  generalize whL t1_cycles_of b2_cycles_of fuel = W at w ⊢
  have hap : fApp (.tup c) q = some (.non, q ++ [.tup c]) := by
    unfold fApp
    rw [hsz]
    rfl
  generalize fApp = ap at hap ⊢
  rcases hj with ⟨_, rfl, rfl, rfl⟩ | ⟨a, b, e, rfl, rfl, rfl⟩
  · simp only [mSeq, mIfS, mThen, mTst, mOp, mIx, mPeek, mVar, mTake, mSet, mSetIx, mRet, mR, mV, mU, mG, mN, mRd2, mOpN, mAnd, mOr, mNot, mAndV, mOrV, mNotV, mIf, mNil, mCons, mTup, mLst, mPart, mSl, mPar, mPair, mDrop, mM1, mM0, mHere, M.chg, M.bind, M.ret, M.of, Ar.sl, Rs.get, Rs.sl, fIx, fI, fI0, fInt, fLen, setSl, isIo, isL, chg, onL, fSetIx, fApp, Sl.mut, Sl.upd, ioC, ioIx, env0, runF, mCall, rsv, wb, axIx, noIoA, xNil, xV, xSl, mIt, mListRg, mTupRg, fRg, List.length_cons, List.length_nil, List.map_cons, List.map_nil, List.cons_append, List.nil_append, List.replicate_succ, List.replicate_zero, List.append_nil, Nat.reduceAdd, Nat.reduceSub, List.getElem?_cons_zero, List.getElem?_cons_succ, List.getElem?_nil, List.set_cons_zero, List.set_cons_succ, Option.bind_some, Option.bind_none, Option.map_some, Option.map_none, Nat.reduceLT, Nat.reduceEqDiff, Nat.reduceLeDiff, decide_true, decide_false, Bool.and_true, Bool.true_and, Bool.and_false, Bool.false_and, Bool.not_true, Bool.not_false, ↓reduceIte, reduceCtorEq, Bool.false_eq_true, List.length_map, Nat.lt_add_left_iff_pos, Nat.zero_lt_succ, Nat.add_eq, Nat.zero_add, Nat.add_zero, Nat.zero_le, sz0, sz1, sz2, sz3, sz4, sz5, sz6, sz7, sz8, sz9, a1, mNext, w, fTuple, hap]
  · simp only [mSeq, mIfS, mThen, mTst, mOp, mIx, mPeek, mVar, mTake, mSet, mSetIx, mRet, mR, mV, mU, mG, mN, mRd2, mOpN, mAnd, mOr, mNot, mAndV, mOrV, mNotV, mIf, mNil, mCons, mTup, mLst, mPart, mSl, mPar, mPair, mDrop, mM1, mM0, mHere, M.chg, M.bind, M.ret, M.of, Ar.sl, Rs.get, Rs.sl, fIx, fI, fI0, fInt, fLen, setSl, isIo, isL, chg, onL, fSetIx, fApp, Sl.mut, Sl.upd, ioC, ioIx, env0, runF, mCall, rsv, wb, axIx, noIoA, xNil, xV, xSl, mIt, mListRg, mTupRg, fRg, List.length_cons, List.length_nil, List.map_cons, List.map_nil, List.cons_append, List.nil_append, List.replicate_succ, List.replicate_zero, List.append_nil, Nat.reduceAdd, Nat.reduceSub, List.getElem?_cons_zero, List.getElem?_cons_succ, List.getElem?_nil, List.set_cons_zero, List.set_cons_succ, Option.bind_some, Option.bind_none, Option.map_some, Option.map_none, Nat.reduceLT, Nat.reduceEqDiff, Nat.reduceLeDiff, decide_true, decide_false, Bool.and_true, Bool.true_and, Bool.and_false, Bool.false_and, Bool.not_true, Bool.not_false, ↓reduceIte, reduceCtorEq, Bool.false_eq_true, List.length_map, Nat.lt_add_left_iff_pos, Nat.zero_lt_succ, Nat.add_eq, Nat.zero_add, Nat.add_zero, Nat.zero_le, sz0, sz1, sz2, sz3, sz4, sz5, sz6, sz7, sz8, sz9, a1, mNext, w, fTuple, hap]
theorem cyc_all {d : D} {n : Nat} {q r r0 rr : List D} {s1 s4 s5 : Sl} {frp : D → D → Option D} {it1 : D → Option (List D)} (hl : fLen d = some (.int (n : Nat))) (hfr : frp (.lst [.bl false]) (.int (n : Nat)) = some (.lst r0)) (hrg : it1 (.int (n : Nat)) = some rr)
    (w1 : forL (gN 1) b3_cycles_of rr [.v d, .no, .own (.lst []), .own (.lst r0), .no, .no] = some (.nx [.v d, s1, .own (.lst q), .own (.lst r), s4, s5])) :
    runF 6 (mSeq (mPar 2 3 (mPair (mLst mNil) (mOpN frp (mLst (mCons (M.ret (.bl false)) mNil)) (mR (mG fLen (mPeek 0))))))
      (mSeq (mFor (mIt it1 (mG fLen (mPeek 0))) (gN 1) b3_cycles_of)
      (mRet (mR (mG fTuple (mPeek 2)))))) [.v d] = some (.rt (.v (.tup q)) none) := by
  generalize fLen = fl at *
  simp only [mFor, mSeq, mIfS, mThen, mTst, mOp, mIx, mPeek, mVar, mTake, mSet, mSetIx, mRet, mR, mV, mU, mG, mN, mRd2, mOpN, mAnd, mOr, mNot, mAndV, mOrV, mNotV, mIf, mNil, mCons, mTup, mLst, mPart, mSl, mPar, mPair, mDrop, mM1, mM0, mHere, M.chg, M.bind, M.ret, M.of, Ar.sl, Rs.get, Rs.sl, fIx, fI, fI0, fInt, fLen, setSl, isIo, isL, chg, onL, fSetIx, fApp, Sl.mut, Sl.upd, ioC, ioIx, env0, runF, mCall, rsv, wb, axIx, noIoA, xNil, xV, xSl, mIt, mListRg, mTupRg, fRg, List.length_cons, List.length_nil, List.map_cons, List.map_nil, List.cons_append, List.nil_append, List.replicate_succ, List.replicate_zero, List.append_nil, Nat.reduceAdd, Nat.reduceSub, List.getElem?_cons_zero, List.getElem?_cons_succ, List.getElem?_nil, List.set_cons_zero, List.set_cons_succ, Option.bind_some, Option.bind_none, Option.map_some, Option.map_none, Nat.reduceLT, Nat.reduceEqDiff, Nat.reduceLeDiff, decide_true, decide_false, Bool.and_true, Bool.true_and, Bool.and_false, Bool.false_and, Bool.not_true, Bool.not_false, ↓reduceIte, reduceCtorEq, Bool.false_eq_true, List.length_map, Nat.lt_add_left_iff_pos, Nat.zero_lt_succ, Nat.add_eq, Nat.zero_add, Nat.add_zero, Nat.zero_le, sz0, sz1, sz2, sz3, sz4, sz5, sz6, sz7, sz8, sz9, hl, hfr, hrg, w1, fTuple]
theorem cycles_of_fg {d : D} {f : Nat → Nat} {n : Nat} (F : Fg d f n) : F_cycles_of [.v d] = some (.rt (.v (.tup ((cycs f n).map tupN))) none) := by
  have hn8 : n ≤ 8 := by have := F.sz; omega
  obtain ⟨env', w1, s1, s4, s5, sn, _, _, rfl⟩ := forL_inv (t := gN 1) (b := b3_cycles_of) (ds := rng n) (k := 0)
    (I := fun i env => ∃ s1 s4 s5 sn, (∀ y, y < n → (sn y = true ↔ ∃ m, m < i ∧ m < n ∧ isMin f n m = true ∧ Zp.Rel f m y)) ∧ Junk i s1 s4 s5 ∧ env = [.v d, s1, .own (.lst ((cyB f n i).map tupN)), .own (.lst (seenD n sn)), s4, s5])
    (fun i x env hx ⟨s1, s4, s5, sn, hsn, hj, e⟩ => by
      rw [Nat.zero_add] at *
      have hi : i < n := by
        have := (List.getElem?_eq_some_iff.mp hx).1
        rw [rng_len] at this
        exact this
      have ex : x = I i := by
        rw [rng_eq, List.getElem?_map, List.getElem?_range hi] at hx
        exact (Option.some.inj hx).symm
      subst ex
      subst e
      have a1 : L2.atI (seenD n sn) (i : Nat) = some (.bl (sn i)) := at_map hi
      cases hs : sn i with
      | true =>
        rw [hs] at a1
        have hm : isMin f n i = false := by
          cases h : isMin f n i with
          | false => rfl
          | true =>
            obtain ⟨m, m1, m2, m3, m4⟩ := (hsn i hi).mp hs
            have := F.pm.min_uniq m2 hi m3 h m4 (.refl i)
            omega
        refine ⟨[.v d, .v (I i), .own (.lst ((cyB f n i).map tupN)), .own (.lst (seenD n sn)), s4, s5], [.v d, .v (I i), .own (.lst ((cyB f n i).map tupN)), .own (.lst (seenD n sn)), s4, s5], ?_, .inr ?_, .v (I i), s4, s5, sn, fun y hy => ?_, ?_, ?_⟩
        · rcases hj with ⟨hi0, rfl, rfl, rfl⟩ | ⟨a, b, c, rfl, rfl, rfl⟩ <;> rfl
        · exact cyc_skip a1
        · rw [hsn y hy]
          constructor
          · rintro ⟨m, m1, m2⟩
            exact ⟨m, by omega, m2⟩
          · rintro ⟨m, m1, m2, m3, m4⟩
            refine ⟨m, ?_, m2, m3, m4⟩
            rcases Nat.lt_or_ge m i with h | h
            · exact h
            · have : m = i := by omega
              subst this
              rw [hm] at m3
              cases m3
        · rcases hj with ⟨hi0, rfl, rfl, rfl⟩ | ⟨a, b, c, rfl, rfl, rfl⟩
          · exfalso
            obtain ⟨m, m1, _⟩ := (hsn i hi).mp hs
            omega
          · exact .inr ⟨_, _, _, rfl, rfl, rfl⟩
        · rw [cyB_succ, hm]
          simp only [Bool.false_eq_true, ↓reduceIte, List.append_nil]
      | false =>
        rw [hs] at a1
        have hm : isMin f n i = true := by
          obtain ⟨m, m1, m2, m3, m4⟩ := F.pm.min_ex i hi
          rcases Nat.lt_or_ge m i with h | h
          · have := (hsn i hi).mpr ⟨m, h, m1, m3, m4⟩
            rw [hs] at this
            cases this
          · have : m = i := by omega
            rw [← this]
            exact m3
        obtain ⟨L, l1, l2⟩ := F.pm.per hi
        have w := one_cycle F (sn := sn) (s1 := .v (I i)) (s2 := .own (.lst ((cyB f n i).map tupN))) hi l2 l1 (fun y hy => by
          cases h : sn y with
          | false => rfl
          | true =>
            have hyn := F.pm.rel_lt hi hy
            obtain ⟨m, m1, m2, m3, m4⟩ := (hsn y hyn).mp h
            have := (hsn i hi).mpr ⟨m, m1, m2, m3, m4.trans (hy.symm F.pm hi)⟩
            rw [hs] at this
            cases this)
        have hsz : szOk ((cyB f n i).map tupN).length = true := sz_of (by
          rw [List.length_map]
          have := cyB_len f n i
          omega)
        refine ⟨[.v d, .v (I i), .own (.lst ((cyB f n i).map tupN)), .own (.lst (seenD n sn)), s4, s5], [.v d, .v (I i), .own (.lst ((cyB f n i).map tupN ++ [tupN (orb f n i)])), .own (.lst (seenD n (snk f sn i L))), .own (.lst ((orb f n i).map I)), .v (I i)], ?_, .inl ?_, .v (I i), .own (.lst ((orb f n i).map I)), .v (I i), snk f sn i L, fun y hy => ?_, .inr ⟨I i, .lst ((orb f n i).map I), I i, rfl, rfl, rfl⟩, ?_⟩
        · rcases hj with ⟨hi0, rfl, rfl, rfl⟩ | ⟨a, b, c, rfl, rfl, rfl⟩ <;> rfl
        · exact cyc_take a1 hj hsz w
        · unfold snk
          rw [Bool.or_eq_true, hsn y hy, List.any_eq_true]
          constructor
          · rintro (⟨m, m1, m2⟩ | ⟨j, _, e⟩)
            · exact ⟨m, by omega, m2⟩
            · exact ⟨i, by omega, hi, hm, j, eq_of_beq e⟩
          · rintro ⟨m, m1, m2, m3, m4⟩
            rcases Nat.lt_or_ge m i with h | h
            · exact .inl ⟨m, h, m2, m3, m4⟩
            · have : m = i := by omega
              subst this
              obtain ⟨k, e⟩ := m4
              refine .inr ⟨k % L, List.mem_range.mpr (Nat.mod_lt _ l2.pos), ?_⟩
              rw [← l2.mod, e]
              exact beq_self_eq_true _
        · rw [cyB_succ, hm]
          simp only [↓reduceIte, List.map_append, List.map_cons, List.map_nil])
    [.v d, .no, .own (.lst []), .own (.lst (seenD n fun _ => false)), .no, .no] ⟨.no, .no, .no, fun _ => false, fun y _ => ⟨fun h => (nomatch h), fun ⟨m, h, _⟩ => absurd h (Nat.not_lt_zero m)⟩, .inl ⟨rfl, rfl, rfl, rfl⟩, rfl⟩
  rw [rng_len, Nat.zero_add] at w1
  have hl : ((List.range n).map fun i => I (f i)).length = n := by rw [List.length_map, List.length_range]
  have hfr := rep_bl n (by omega)
  have hrg := it_rng n (by omega)
  have hfl : fLen d = some (.int (n : Nat)) := by
    rcases F.eq with rfl | rfl
    · exact congrArg (fun x : Nat => some (D.int x)) hl
    · exact congrArg (fun x : Nat => some (D.int x)) hl
  exact cyc_all hfl hfr hrg w1
end Zl
end

section
set_option Elab.async false
set_option linter.all false
set_option maxRecDepth 100000
/-! More for the evaluation of plain functions: sequences by their outcome, rows, comprehensions. -/
namespace Zv
open PySem L2 Z Zb Za
def seqK (b : MS) : Option SO → Option SO := fun o => match o with
  | some (.nx e1) => b e1
  | x => x
section
variable {e e1 : Z.Env} {a b : MS} {o o1 : Option SO}
theorem v_sq (h : a e = o1) (k : seqK b o1 = o) : mSeq a b e = o := by
  unfold mSeq
  rw [h]
  exact k
theorem v_sk (k : b e1 = o) : seqK b (some (.nx e1)) = o := k
end
theorem e0_nil : env0 0 [] = [] := rfl
theorem e0_no {N : Nat} {l : Z.Env} (h : env0 N [] = l) : env0 (N + 1) [] = .no :: l := by rw [← h]; rfl
theorem e0_v {N : Nat} {l : Z.Env} {d : D} {as : List Ar} (h : env0 N as = l) : env0 (N + 1) (.v d :: as) = .v d :: l := by
  rw [← h]
  unfold env0
  rw [List.length_cons, show N + 1 - (as.length + 1) = N - as.length by omega]
  rfl
theorem e0_io {N : Nat} {l : Z.Env} {d : D} {as : List Ar} (h : env0 N as = l) : env0 (N + 1) (.io d :: as) = .io d :: l := by
  rw [← h]
  unfold env0
  rw [List.length_cons, show N + 1 - (as.length + 1) = N - as.length by omega]
  rfl
section
variable {n : Nat} {g x : Nat → D}
theorem len_row : fLen (.lst ((List.range n).map g)) = some (.int (n : Nat)) := by
  unfold fLen
  simp only [List.length_map, List.length_range]
theorem len_rowT : fLen (.tup ((List.range n).map g)) = some (.int (n : Nat)) := by
  unfold fLen
  simp only [List.length_map, List.length_range]
theorem len_mapL {α : Type} {h : α → D} {l : List α} : fLen (.lst (l.map h)) = some (.int (l.length : Nat)) := by
  unfold fLen
  simp only [List.length_map]
theorem len_mapT {α : Type} {h : α → D} {l : List α} : fLen (.tup (l.map h)) = some (.int (l.length : Nat)) := by
  unfold fLen
  simp only [List.length_map]
theorem fdiv2 {z : Int} : fDiv (.int z) (.int 2) = some (.int (z / 2)) := by
  show some (D.int (z.fdiv 2)) = _
  rw [Int.fdiv_eq_ediv_of_nonneg _ (by decide)]
theorem fmod2 {z : Int} : fMod (.int z) (.int 2) = some (.int (z % 2)) := by
  show some (D.int (z.fmod 2)) = _
  rw [Int.fmod_eq_emod_of_nonneg _ (by decide)]
theorem fmodN {z : Int} {m : Nat} (h : 0 < m) : fMod (.int z) (.int (m : Nat)) = some (.int (z % (m : Nat))) := by
  show (if cMod z m = true then some (D.int (z.fmod m)) else none) = _
  rw [if_pos (by unfold cMod; rw [decide_eq_true]; omega), Int.fmod_eq_emod_of_nonneg _ (by omega)]
theorem ix_rowN {i : Nat} (h : i < n) : fIx (.lst ((List.range n).map g)) (.int (i : Nat)) = some (g i) := Zl.at_map h
theorem ix_rowNT {i : Nat} (h : i < n) : fIx (.tup ((List.range n).map g)) (.int (i : Nat)) = some (g i) := Zl.at_map h
theorem ix_row {z : Int} (h0 : 0 ≤ z) (h : z < n) : fIx (.lst ((List.range n).map g)) (.int z) = some (g z.toNat) := by
  obtain ⟨i, rfl⟩ := Int.eq_ofNat_of_zero_le h0
  exact ix_rowN (by omega)
theorem ix_rowT {z : Int} (h0 : 0 ≤ z) (h : z < n) : fIx (.tup ((List.range n).map g)) (.int z) = some (g z.toNat) := by
  obtain ⟨i, rfl⟩ := Int.eq_ofNat_of_zero_le h0
  exact ix_rowNT (by omega)
theorem it_rngN (h : n ≤ 1000000) : itR1 (.int (n : Nat)) = some ((List.range n).map I) := by
  show (if okR (n : Nat) = true then some (rng ((n : Nat) : Int).toNat) else none) = _
  rw [if_pos (by unfold okR; simp only [Bool.and_eq_true, decide_eq_true_eq]; omega)]
  rfl
theorem it_rngZ {z : Int} (h0 : 0 ≤ z) (h : z ≤ 1000000) : itR1 (.int z) = some ((List.range z.toNat).map I) := by
  obtain ⟨i, rfl⟩ := Int.eq_ofNat_of_zero_le h0
  exact it_rngN (by omega)
theorem rg_N (h : n ≤ 1000000) : fRg (.int (n : Nat)) = some ((List.range n).map I) := by
  show (if okRg (n : Nat) = true then some (rng ((n : Nat) : Int).toNat) else none) = _
  rw [if_pos (by unfold okRg; simp only [Bool.and_eq_true, decide_eq_true_eq]; omega)]
  rfl
theorem rg_Z {z : Int} (h0 : 0 ≤ z) (h : z ≤ 1000000) : fRg (.int z) = some ((List.range z.toNat).map I) := by
  obtain ⟨i, rfl⟩ := Int.eq_ofNat_of_zero_le h0
  exact rg_N (by omega)
theorem add_N {a b : Nat} : fAdd (.int (a : Nat)) (.int (b : Nat)) = some (.int ((a + b : Nat) : Int)) := rfl
theorem add_N1 {a : Nat} : fAdd (.int (a : Nat)) (.int 1) = some (.int ((a + 1 : Nat) : Int)) := rfl
theorem add_1N {a : Nat} : fAdd (.int 1) (.int (a : Nat)) = some (.int ((1 + a : Nat) : Int)) := by
  show some (D.int (1 + (a : Nat))) = _
  rw [show (1 : Int) + (a : Nat) = ((1 + a : Nat) : Int) by omega]
theorem sub_N {a b : Nat} (h : b ≤ a) : fSub (.int (a : Nat)) (.int (b : Nat)) = some (.int ((a - b : Nat) : Int)) := by
  show some (D.int ((a : Nat) - (b : Nat))) = _
  rw [show (a : Int) - (b : Nat) = ((a - b : Nat) : Int) by omega]
theorem sub_N1 {a : Nat} (h : 1 ≤ a) : fSub (.int (a : Nat)) (.int 1) = some (.int ((a - 1 : Nat) : Int)) := by
  show some (D.int ((a : Nat) - 1)) = _
  rw [show (a : Int) - 1 = ((a - 1 : Nat) : Int) by omega]
theorem mul2_N {a : Nat} : fMul (.int 2) (.int (a : Nat)) = some (.int ((2 * a : Nat) : Int)) := rfl
theorem div2_N {a : Nat} : fDiv (.int (a : Nat)) (.int 2) = some (.int ((a / 2 : Nat) : Int)) := fdiv2
theorem mod2_N {a : Nat} : fMod (.int (a : Nat)) (.int 2) = some (.int ((a % 2 : Nat) : Int)) := fmod2
theorem mod_N {a m : Nat} (h : 0 < m) : fMod (.int (a : Nat)) (.int (m : Nat)) = some (.int ((a % m : Nat) : Int)) := fmodN h
theorem set_self {e1 : Z.Env} {k : Nat} {s : Sl} (h : e1[k]? = some s) : e1.set k s = e1 := by
  apply List.ext_getElem?
  intro i
  rw [List.getElem?_set]
  by_cases e : k = i
  · subst e
    rw [if_pos rfl, if_pos (List.getElem?_eq_some_iff.mp h).1]
    exact h.symm
  · rw [if_neg e]
theorem v_lc {it : M (List D)} {el : M D} {k : Nat} {s : Sl} {e e1 : Z.Env} (h : it e = some (.ok ((List.range n).map x) e1)) (hs : e1[k]? = some s) (hi : isIo (some s) = false) (hz : n ≤ 1000000)
    (hel : ∀ i, i < n → el (e1.set k (.v (x i))) = some (.ok (g i) (e1.set k (.v (x i))))) : mLc it (gN k) (M.ret true) el [k] e = some (.ok (.fr (.lst ((List.range n).map g))) e1) := by
  have hk := (List.getElem?_eq_some_iff.mp hs).1
  have key : ∀ (m : Nat) (l : List Nat) (acc : List D), (∀ i ∈ l, i < n) → acc.length + l.length ≤ 1000000 → lcL (gN k) (M.ret true) el [k] (l.map x) acc (e1.set k .no) = some (.ok (acc ++ l.map g) (e1.set k .no)) := by
    intro m l
    induction l with
    | nil => intro acc _ _; rw [List.map_nil, List.map_nil, List.append_nil]; rfl
    | cons a l ih =>
      intro acc ha hl
      rw [List.length_cons] at hl
      have h1 : setSl k (.v (x a)) (e1.set k .no) = some (e1.set k (.v (x a))) := by
        rw [set_g (List.getElem?_set_self hk) rfl, List.set_set]
      have h2 := hel a (ha a List.mem_cons_self)
      rw [List.map_cons, List.map_cons]
      have h3 := ih (acc ++ [g a]) (fun i hi => ha i (List.mem_cons_of_mem _ hi)) (by rw [List.length_append]; show acc.length + 1 + l.length ≤ 1000000; omega)
      have h4 : clr (e1.set k (.v (x a))) [k] = e1.set k .no := by
        show (e1.set k (.v (x a))).set k .no = _
        rw [List.set_set]
      show (match gN k (x a) (e1.set k .no) with
        | none => none
        | some env1 => match M.ret true env1 with
          | some (.ok true env2) => (match el env2 with
            | some (.ok y env3) => if szOk acc.length then lcL (gN k) (M.ret true) el [k] (l.map x) (acc ++ [y]) (clr env3 [k]) else none
            | _ => none)
          | some (.ok false env2) => lcL (gN k) (M.ret true) el [k] (l.map x) acc (clr env2 [k])
          | _ => none) = _
      rw [show gN k (x a) (e1.set k .no) = some (e1.set k (.v (x a))) from h1]
      show (match el (e1.set k (.v (x a))) with
            | some (.ok y env3) => if szOk acc.length then lcL (gN k) (M.ret true) el [k] (l.map x) (acc ++ [y]) (clr env3 [k]) else none
            | _ => none) = _
      rw [h2]
      show (if szOk acc.length then lcL (gN k) (M.ret true) el [k] (l.map x) (acc ++ [g a]) (clr (e1.set k (.v (x a))) [k]) else none) = _
      rw [h4, if_pos (sz_of (by omega)), h3, List.append_assoc]
      rfl
  have hr := key 0 (List.range n) [] (fun i hi => List.mem_range.mp hi) (by rw [List.length_range]; show 0 + n ≤ 1000000; omega)
  have hn : noIo e1 [k] = true := by
    unfold noIo
    rw [List.all_cons, hs, hi]
    rfl
  have hu : unclr e1 (e1.set k .no) [k] = e1 := by
    show (match e1[k]? with
      | some s => (e1.set k .no).set k s
      | none => e1.set k .no) = e1
    rw [hs]
    show (e1.set k .no).set k s = e1
    rw [List.set_set, set_self hs]
  unfold mLc
  simp only [h]
  rw [if_pos hn, show clr e1 [k] = e1.set k .no from rfl, hr]
  simp only [hu]
  rw [List.nil_append]
end
end Zv
end

section
set_option Elab.async false
set_option linter.all false
set_option maxRecDepth 100000
set_option maxHeartbeats 4000000
/-! Figures: what the package's functions make of rows. -/
namespace Zl
open PySem L2 Z Zb Za Zv
open Zp (it Pm orb walk mins cycs isMin)
local macro_rules | `(tactic| tm_at "pf") => `(tactic| first | (with_reducible assumption) | omega | (with_reducible refine Zp.Pm.lt (by assumption) _ ?_; omega) | (with_reducible refine Nat.le_sub_one_of_lt (Zp.Pm.lt (by assumption) _ ?_); omega) | (simp only [List.length_map, List.length_range, List.length_cons, List.length_nil, List.length_append] at *; omega) | rfl)
local macro_rules | `(tactic| tm_at "io") => `(tactic| first | exact rfl | (with_reducible assumption) | (simp only [*]))
local macro_rules | `(tactic| tm_at "lf") => `(tactic| first
  | (with_reducible assumption)
  | with_reducible exact fEq_int _ _ | with_reducible exact fNe_int _ _
  | with_reducible exact len_row | with_reducible exact len_rowT | with_reducible exact len_mapT | with_reducible exact len_mapL
  | with_reducible exact add_N | with_reducible exact add_N1 | with_reducible exact add_1N | with_reducible exact sub_N (by tm_at "pf") | with_reducible exact sub_N1 (by tm_at "pf") | with_reducible exact mul2_N | with_reducible exact div2_N | with_reducible exact mod2_N | with_reducible exact mod_N (by tm_at "pf")
  | with_reducible exact fdiv2 | with_reducible exact fmod2
  | with_reducible exact ix_rowN (by tm_at "pf") | with_reducible exact ix_rowNT (by tm_at "pf")
  | with_reducible exact ix_row (by tm_at "pf") (by tm_at "pf") | with_reducible exact ix_rowT (by tm_at "pf") (by tm_at "pf")
  | with_reducible exact it_rngN (by tm_at "pf") | with_reducible exact it_rngZ (by tm_at "pf") (by tm_at "pf")
  | with_reducible exact rg_N (by tm_at "pf") | with_reducible exact rg_Z (by tm_at "pf") (by tm_at "pf")
  | with_reducible exact fmodN (by tm_at "pf")
  | ((with_reducible show _ ≤ _); tm_at "pf")
  | ((with_reducible show isIo _ = false); tm_at "io")
  | ((with_reducible show szOk _ = true); exact sz_of (by tm_at "pf"))
  | ((with_reducible show setSl _ _ _ = _); first | exact set0 (by tm_at "io") | exact set1 (by tm_at "io") | exact set2 (by tm_at "io") | exact set3 (by tm_at "io") | exact set4 (by tm_at "io") | exact set5 (by tm_at "io") | exact set6 (by tm_at "io") | exact set7 (by tm_at "io") | exact set8 (by tm_at "io") | exact set9 (by tm_at "io") | exact set10 (by tm_at "io") | exact set11 (by tm_at "io") | exact set12 (by tm_at "io") | exact set13 (by tm_at "io") | exact set14 (by tm_at "io") | exact set15 (by tm_at "io") | exact set16 (by tm_at "io") | exact set17 (by tm_at "io"))
  | exact rfl
  | fail "leaf")
local macro_rules | `(tactic| tm_at "ev") => `(tactic| first
  | (with_reducible assumption)
  | (with_reducible exact v_c) | (with_reducible exact v_nil) | (with_reducible exact v_gs0)
  | ((with_reducible show mVar _ _ = _); exact rfl)
  | ((with_reducible show mPeek _ _ = _); exact rfl)
  | ((with_reducible show mTake _ _ = _); exact rfl)
  | ((with_reducible show mNext _ = _); exact rfl)
  | ((with_reducible show mCnt _ = _); exact rfl)
  | ((with_reducible show seqK (some (CO.rt _ _)) _ = _); exact rfl)
  | ((with_reducible show seqK (some (CO.ct _)) _ = _); exact rfl)
  | ((with_reducible show some _ = _); exact rfl)
  | ((first
      | with_reducible apply v_sq | with_reducible apply v_sk
      | with_reducible apply v_ifs
      | with_reducible apply c_t | with_reducible apply c_f | with_reducible apply c_n
      | ((with_reducible apply c_dt); (first | (with_reducible assumption) | omega)) | ((with_reducible apply c_df); (first | (with_reducible assumption) | omega))
      | ((with_reducible apply c_ht); (with_reducible assumption)) | ((with_reducible apply c_hf); (with_reducible assumption))
      | with_reducible apply v_drop | with_reducible apply v_ret | with_reducible apply v_set | with_reducible apply v_par | with_reducible apply v_tri
      | with_reducible apply v_unp | with_reducible apply v_gT | with_reducible apply v_gs | with_reducible apply v_gN
      | with_reducible apply v_for | with_reducible apply v_raise1
      | with_reducible apply v_tst | with_reducible apply v_not | with_reducible apply v_and | with_reducible apply v_or
      | with_reducible apply v_andV | with_reducible apply v_orV | with_reducible apply v_notV | with_reducible apply v_if
      | with_reducible apply v_R | with_reducible apply w_V | with_reducible apply v_op | with_reducible apply v_U | with_reducible apply v_G | with_reducible apply v_N
      | with_reducible apply v_rd2 | with_reducible apply v_opN | with_reducible apply v_ix | with_reducible apply v_sl | with_reducible apply v_part
      | with_reducible apply v_fld | with_reducible apply v_listRg | with_reducible apply v_tupRg | with_reducible apply v_it
      | with_reducible apply v_lc | with_reducible apply v_cons | with_reducible apply v_tup | with_reducible apply v_lst
      | with_reducible apply w_c0 | with_reducible apply w_c1 | with_reducible apply w_c2 | with_reducible apply w_c3
      | with_reducible apply w_c1d | with_reducible apply w_c2d | with_reducible apply w_k1 | with_reducible apply w_pen1 | with_reducible apply w_pen0
      | with_reducible exact e0_nil | with_reducible apply e0_v | with_reducible apply e0_io | with_reducible apply e0_no
      | with_reducible apply v_run | with_reducible apply v_runf | with_reducible apply v_runx
      | (intro _ _; dsimp only [List.set])
      | tm_at "lf") <;> tm_at "ev"))

/-- the other side -/
def fl (i : Nat) : Nat := if i % 2 = 0 then i + 1 else i - 1
abbrev row (f : Nat → Nat) (n : Nat) : List D := (List.range n).map fun i => I (f i)
theorem flipped_N {i : Nat} : F_flipped [.v (I i)] = some (.rt (.v (I (fl i))) none) := by
  have h : ((i : Nat) : Int) + 1 - 2 * ((i : Int) % 2) = (fl i : Nat) := by
    unfold fl
    split <;> omega
  show F_flipped [.v (I i)] = some (.rt (.v (.int (fl i : Nat))) none)
  rw [← h]
  unfold F_flipped m_flipped
  tm_at "ev"
theorem fl_lt {i n : Nat} (h : i < n) (hn : n % 2 = 0) : fl i < n := by
  unfold fl
  split <;> omega
def mir (f : Nat → Nat) (i : Nat) : Nat := fl (f (fl i))
theorem Fg.ev {d : D} {f : Nat → Nat} {n : Nat} (F : Fg d f n) : n % 2 = 0 ∧ 2 ≤ n ∧ n ≤ 8 := by
  have := F.sz
  omega
section
variable {d : D} {f : Nat → Nat} {n : Nat}
theorem Fg.len (F : Fg d f n) : fLen d = some (.int (n : Nat)) := by
  rcases F.eq with rfl | rfl
  · exact len_row
  · exact len_rowT
theorem Fg.ix (F : Fg d f n) {i : Nat} (h : i < n) : fIx d (.int (i : Nat)) = some (I (f i)) := by
  rcases F.eq with rfl | rfl
  · exact ix_rowN h
  · exact ix_rowNT h
theorem Fg.its (F : Fg d f n) : items d = some (row f n) := by
  rcases F.eq with rfl | rfl <;> rfl
theorem Fg.tup (F : Fg d f n) : fTuple d = some (.tup (row f n)) := by
  rcases F.eq with rfl | rfl <;> rfl
theorem Fg.list (F : Fg d f n) : fList d = some (.lst (row f n)) := by
  rcases F.eq with rfl | rfl <;> rfl
end
local macro_rules | `(tactic| tm_at "lf") => `(tactic| first | with_reducible exact Fg.len (by assumption) | with_reducible exact Fg.its (by assumption) | with_reducible exact Fg.tup (by assumption) | with_reducible exact Fg.list (by assumption) | with_reducible exact Fg.ix (by assumption) (by tm_at "pf"))
local macro_rules | `(tactic| tm_at "lf") => `(tactic| with_reducible exact flipped_N)
local macro_rules | `(tactic| tm_at "pf") => `(tactic| (with_reducible refine fl_lt ?_ ?_ <;> first | assumption | omega))
theorem mirror_row_fg {d : D} {f : Nat → Nat} {n : Nat} (F : Fg d f n) : F_mirror_row [.v d] = some (.rt (.v (.tup (row (mir f) n))) none) := by
  obtain ⟨h2, h0, h8⟩ := F.ev
  unfold F_mirror_row m_mirror_row e1_mirror_row
  tm_at "ev"

theorem fl_fl (i : Nat) : fl (fl i) = i := by
  unfold fl
  split <;> split <;> omega
theorem fl_inj {i j : Nat} (h : fl i = fl j) : i = j := by
  rw [← fl_fl i, h, fl_fl]
section
variable {d d' : D} {f g : Nat → Nat} {n m : Nat}
theorem Fg.pmir (F : Fg d f n) : Pm (mir f) n := by
  have h2 := F.ev.1
  constructor
  · intro i hi
    exact fl_lt (F.pm.lt _ (fl_lt hi h2)) h2
  · intro i j hi hj h
    exact fl_inj (F.pm.inj _ _ (fl_lt hi h2) (fl_lt hj h2) (fl_inj h))
theorem fg_tup (P : Pm f n) (h : n = 2 ∨ n = 4 ∨ n = 6 ∨ n = 8) : Fg (.tup (row f n)) f n := ⟨P, h, .inr rfl⟩
theorem fg_lst (P : Pm f n) (h : n = 2 ∨ n = 4 ∨ n = 6 ∨ n = 8) : Fg (.lst (row f n)) f n := ⟨P, h, .inl rfl⟩
theorem mirrored_fg (F : Fg d f n) : F_mirrored [.v d] = some (.rt (.v (.tup (row (mir f) n))) none) := by
  have h1 := need_figure_fg F
  have h2 := mirror_row_fg F
  unfold F_mirrored m_mirrored
  tm_at "ev"
theorem Fg.mir (F : Fg d f n) : Fg (.tup (row (mir f) n)) (mir f) n := fg_tup F.pmir F.sz
/-- looked at from the other end -/
def trn (f : Nat → Nat) (n i : Nat) : Nat := n - 1 - f (n - 1 - i)
theorem Fg.ptrn (F : Fg d f n) : Pm (trn f n) n := by
  have h0 := F.ev.2.1
  constructor
  · intro i hi
    unfold trn
    omega
  · intro i j hi hj h
    unfold trn at h
    have h1 := F.pm.lt (n - 1 - i) (by omega)
    have h2 := F.pm.lt (n - 1 - j) (by omega)
    have := F.pm.inj (n - 1 - i) (n - 1 - j) (by omega) (by omega) (by omega)
    omega
theorem Fg.trn (F : Fg d f n) : Fg (.tup (row (trn f n) n)) (trn f n) n := fg_tup F.ptrn F.sz
theorem turned_fg (F : Fg d f n) : F_turned [.v d] = some (.rt (.v (.tup (row (Zl.trn f n) n))) none) := by
  obtain ⟨h2, h0, h8⟩ := F.ev
  have h1 := need_figure_fg F
  have P := F.pm
  unfold F_turned m_turned e1_turned
  tm_at "ev"

/-- one by the first places, the other by those behind -/
def bes (f : Nat → Nat) (n : Nat) (g : Nat → Nat) (i : Nat) : Nat := if i < n then f i else n + g (i - n)
theorem row_bes (f g : Nat → Nat) (n m : Nat) : row f n ++ (List.range m).map (fun i => I (n + g i)) = row (bes f n g) (n + m) := by
  unfold row
  rw [List.range_add, List.map_append, List.map_map]
  congr 1
  · refine List.map_congr_left fun i hi => ?_
    rw [show bes f n g i = f i from if_pos (List.mem_range.mp hi)]
  · refine List.map_congr_left fun i _ => ?_
    show I (n + g i) = I (bes f n g (n + i))
    unfold bes
    rw [if_neg (by omega), show n + i - n = i by omega]
theorem cat_bes (f g : Nat → Nat) {n m : Nat} (h : n + m ≤ 1000000) : fCatT (.tup (row f n)) (.tup ((List.range m).map fun i => I (n + g i))) = some (.tup (row (bes f n g) (n + m))) := by
  show (if szOk ((row f n).length + ((List.range m).map fun i => I (n + g i)).length) then some (D.tup (row f n ++ (List.range m).map fun i => I (n + g i))) else none) = _
  rw [List.length_map, List.length_map, List.length_range, List.length_range, if_pos (sz_of h), row_bes]
theorem pbes {f g : Nat → Nat} {n m : Nat} (P : Pm f n) (Q : Pm g m) : Pm (bes f n g) (n + m) := by
  constructor
  · intro i hi
    unfold bes
    split
    · have := P.lt i (by omega); omega
    · have := Q.lt (i - n) (by omega); omega
  · intro i j hi hj h
    unfold bes at h
    split at h <;> split at h
    · exact P.inj i j (by omega) (by omega) h
    · have := P.lt i (by omega); omega
    · have := P.lt j (by omega); omega
    · have := Q.inj (i - n) (j - n) (by omega) (by omega) (by omega)
      omega
theorem beside_fg (F : Fg d f n) (G : Fg d' g m) (h : n + m ≤ 8) : F_beside [.v d, .v d'] = some (.rt (.v (.tup (row (bes f n g) (n + m)))) none) := by
  obtain ⟨h2, h0, h8⟩ := F.ev
  obtain ⟨k2, k0, k8⟩ := G.ev
  have h1 := need_figure_fg F
  have h3 := need_figure_fg G
  have h4 := cat_bes f g (n := n) (m := m) (by omega)
  unfold F_beside m_beside e1_beside
  tm_at "ev"
theorem beside_bad (F : Fg d f n) (G : Fg d' g m) (h : 8 < n + m) : F_beside [.v d, .v d'] = some (.ex "BadFigure" ["value"] [d'] none) := by
  obtain ⟨h2, h0, h8⟩ := F.ev
  obtain ⟨k2, k0, k8⟩ := G.ev
  have h1 := need_figure_fg F
  have h3 := need_figure_fg G
  unfold F_beside m_beside e1_beside
  tm_at "ev"
theorem joined_rows_fg (F : Fg d f n) (G : Fg d' g n) : F_joined_rows [.v d, .v d'] = some (.rt (.v (.tup (row (fun i => g (f i)) n))) none) := by
  obtain ⟨h2, h0, h8⟩ := F.ev
  have P := F.pm
  unfold F_joined_rows m_joined_rows e1_joined_rows
  tm_at "ev"
theorem then_fg (F : Fg d f n) (G : Fg d' g n) : F_then [.v d, .v d'] = some (.rt (.v (.tup (row (fun i => g (f i)) n))) none) := by
  have h1 := need_figure_fg F
  have h3 := need_figure_fg G
  have h4 := joined_rows_fg F G
  unfold F_then m_then
  tm_at "ev"
theorem then_bad (F : Fg d f n) (G : Fg d' g m) (h : n ≠ m) : F_then [.v d, .v d'] = some (.ex "BadFigure" ["value"] [d'] none) := by
  have h1 := need_figure_fg F
  have h3 := need_figure_fg G
  unfold F_then m_then
  tm_at "ev"
theorem pcomp {f g : Nat → Nat} {n : Nat} (P : Pm f n) (Q : Pm g n) : Pm (fun i => g (f i)) n :=
  ⟨fun i hi => Q.lt _ (P.lt i hi), fun i j hi hj h => P.inj i j hi hj (Q.inj _ _ (P.lt i hi) (P.lt j hj) h)⟩
end
end Zl
end

section
set_option Elab.async false
set_option linter.all false
set_option maxRecDepth 100000
set_option maxHeartbeats 4000000
/-! What the laws' plain texts share: drawn numbers and figures, loops, slots that are let, == of made values. -/
namespace Zl
open PySem L2 Z Zb Za Zv
open Zp (it Pm orb walk mins cycs isMin)
abbrev NI (s : Sl) : Prop := isIo (some s) = false
theorem getD_at {l : List Nat} {i : Nat} (h : i < l.length) : l.getD i 0 = l[i] := by
  rw [List.getD_eq_getElem?_getD, List.getElem?_eq_getElem h]
  rfl
theorem fig_of {fig : List Nat} {n : Nat} (h : fig.Perm (List.range n)) : ∃ f, Pm f n ∧ fig = (List.range n).map f := by
  have hl : fig.length = n := by rw [h.length_eq, List.length_range]
  have hnd : fig.Nodup := h.nodup_iff.mpr List.nodup_range
  have e : fig = (List.range n).map fun i => fig.getD i 0 := by
    apply List.ext_getElem
    · rw [List.length_map, List.length_range, hl]
    · intro i h1 h2
      rw [List.getElem_map, List.getElem_range, getD_at h1]
  refine ⟨fun i => fig.getD i 0, ⟨fun i hi => ?_, fun i j hi hj hij => ?_⟩, e⟩
  · have hi2 : i < fig.length := by omega
    show fig.getD i 0 < n
    rw [getD_at hi2]
    exact List.mem_range.mp (h.mem_iff.mp (List.getElem_mem hi2))
  · have hi2 : i < fig.length := by omega
    have hj2 : j < fig.length := by omega
    rw [getD_at hi2, getD_at hj2] at hij
    have hp := List.pairwise_iff_getElem.mp hnd
    rcases Nat.lt_trichotomy i j with h | h | h
    · exact absurd hij (hp i j hi2 hj2 h)
    · exact h
    · exact absurd hij.symm (hp j i hj2 hi2 h)
/-- a pen that has drawn so many numbers at most -/
def Pen (ns : List Int) (k : Nat) (P : D) : Prop := ∃ t g : Int, 0 ≤ t ∧ t ≤ k ∧ 0 ≤ g ∧ P = Zd.pen ns t g
section
variable {G : DF} {ns : List Int} {k : Nat} {P : D}
theorem Pen.mono {l : Nat} (h : Pen ns k P) (hl : k ≤ l) : Pen ns l P := by
  obtain ⟨t, g, h0, h1, h2, rfl⟩ := h
  exact ⟨t, g, h0, by omega, h2, rfl⟩
theorem Pen.drawn (h : Pen ns k P) (hd : Ze.Dr G) (m : Nat) (hk : k ≤ 900000 := by omega) (hm : 0 < m := by omega) (hm2 : m < 4611686018427387904 := by omega) : ∃ (r : Nat) (P' : D), r < m ∧ Pen ns (k + 1) P' ∧ G [.io P, .v (.int (m : Nat))] = some (.rt (.v (I r)) (some P')) := by
  obtain ⟨t, g, h0, h1, h2, rfl⟩ := h
  obtain ⟨r, t', g', r1, r2, r3, r4, r5, r6⟩ := hd ns t g (m : Nat) h0 (by omega) h2 (by omega) (by omega)
  obtain ⟨j, rfl⟩ := Int.eq_ofNat_of_zero_le r1
  exact ⟨j, _, by omega, ⟨t', g', by omega, by omega, r5, rfl⟩, r6⟩
theorem Pen.figure (h : Pen ns k P) (hd : Ze.Dr G) (c : Nat) (hk : k ≤ 800000 := by omega) (hc : c ≤ 100 := by omega) : ∃ (f : Nat → Nat) (P' : D), Pm f (2 * c) ∧ Pen ns (k + 2 * c) P' ∧ Ze.fFig G [.io P, .v (I c)] = some (.rt (.fr (.lst (row f (2 * c)))) (some P')) := by
  obtain ⟨t, g, h0, h1, h2, rfl⟩ := h
  obtain ⟨fig, t', g', r1, r2, r3, r4, r5⟩ := Ze.figure_of (ns := ns) (c := c) hd h0 (by omega) h2 hc
  obtain ⟨f, Pf, rfl⟩ := fig_of r1
  rw [List.map_map] at r5
  exact ⟨f, _, Pf, ⟨t', g', by omega, by omega, r4, rfl⟩, r5⟩
theorem the_pen {ns : List Int} (h : ns.length ≤ 63) : ∃ P, Pen ns 0 P ∧ Za.F__law_pen [.v (.scr ns)] = some (.rt (.fr P) none) :=
  ⟨_, ⟨0, 0, by omega, by omega, by omega, rfl⟩, Za.the_pen h⟩
end
/-! loops -/
section
variable {t : TgM} {b : MS} {d : D} {ds : List D} {e e1 e2 : Z.Env} {o : Option SO}
theorem v_fl0 : forL t b [] e = some (.nx e) := rfl
theorem v_fl (h : t d e = some e1) (h2 : b e1 = some (.nx e2)) (k : forL t b ds e2 = o) : forL t b (d :: ds) e = o := by
  unfold forL
  rw [h]
  show (match b e1 with
      | some (.nx env2) => forL t b ds env2
      | some (.ct env2) => forL t b ds env2
      | some (.bk env2) => some (.nx env2)
      | o => o) = _
  rw [h2]
  exact k
theorem loop_row {k : Nat} {s : Sl} {n : Nat} (hn : 0 < n) (hs : e[k]? = some s) (hi : isIo (some s) = false) (h : ∀ i, i < n → b (e.set k (.v (I i))) = some (.nx (e.set k (.v (I i))))) : forL (gN k) b ((List.range n).map I) e = some (.nx (e.set k (.v (I (n - 1))))) := by
  have hk := (List.getElem?_eq_some_iff.mp hs).1
  have key : ∀ (l : List Nat) (s : Sl), isIo (some s) = false → (∀ i ∈ l, i < n) → (h0 : l ≠ []) → forL (gN k) b (l.map I) (e.set k s) = some (.nx (e.set k (.v (I (l.getLast h0))))) := by
    intro l
    induction l with
    | nil => intro s _ _ h0; exact absurd rfl h0
    | cons a l ih =>
      intro s hi hl h0
      have h1 : gN k (I a) (e.set k s) = some (e.set k (.v (I a))) := by
        show setSl k (.v (I a)) (e.set k s) = _
        rw [set_g (List.getElem?_set_self hk) hi, List.set_set]
      refine v_fl h1 (h a (hl a List.mem_cons_self)) ?_
      cases l with
      | nil => exact v_fl0
      | cons c l =>
        rw [ih (.v (I a)) rfl (fun i hi => hl i (List.mem_cons_of_mem _ hi)) (by simp)]
        rfl
  have h1 := key (List.range n) s hi (fun i hi => List.mem_range.mp hi) (by simp; omega)
  rw [set_self hs] at h1
  rw [h1]
  simp
end
section
variable {F : DF} {m n : M D} {x y : D} {q : Rs} {e e1 e2 : Z.Env}
/-- two keywords, the second parameter's first -/
theorem w_k2r (h : m e = some (.ok x e1)) (h2 : n e1 = some (.ok y e2)) (hF : F [.v y, .v x] = some (.rt q none)) (hb : nbw q = true) : mCall F [] (mKw 0 2 [1, 0] [] mNil (mCons m (mCons n mNil))) e = some (.ok q e2) := by
  refine w_call (xs := [y, x]) (axs := [.v y, .v x]) (e1 := e2) ?_ rfl rfl hF hb
  unfold mKw
  rw [v_bind v_nil, v_bind (v_cons h (v_cons h2 v_nil))]
  rfl
theorem w_k2 (h : m e = some (.ok x e1)) (h2 : n e1 = some (.ok y e2)) (hF : F [.v x, .v y] = some (.rt q none)) (hb : nbw q = true) : mCall F [] (mKw 0 2 [0, 1] [] mNil (mCons m (mCons n mNil))) e = some (.ok q e2) := by
  refine w_call (xs := [x, y]) (axs := [.v x, .v y]) (e1 := e2) ?_ rfl rfl hF hb
  unfold mKw
  rw [v_bind v_nil, v_bind (v_cons h (v_cons h2 v_nil))]
  rfl
end
/-! errors -/
section
variable {c : Str} {ns : List Str} {vs : List D} {e e1 e2 : Z.Env} {m : M D} {n : M (List D)} {d : D} {o o1 : Option SO}
theorem v_cons_x1 (h : m e = some (.ex c ns vs e1)) : mCons m n e = some (.ex c ns vs e1) := by
  unfold mCons
  rw [v_bind_ex h]
theorem v_cons_x2 (h : m e = some (.ok d e1)) (h2 : n e1 = some (.ex c ns vs e2)) : mCons m n e = some (.ex c ns vs e2) := by
  unfold mCons
  rw [v_bind h, v_bind_ex h2]
theorem v_lst_x (h : n e = some (.ex c ns vs e1)) : mLst n e = some (.ex c ns vs e1) := by
  unfold mLst
  rw [v_bind_ex h]
theorem v_hd {p : Str → Option Bool} {oi : Option Nat} {b : MS} {r : List Hd} (hp : p c = some true) (hi : inO (.exc c ns vs) e oi = some e1) (h : b e1 = o1) (k : suEnd oi o1 = o) : mHds c ns vs e ((p, oi, b) :: r) = o := by
  unfold mHds
  rw [hp]
  show suEnd oi ((inO (.exc c ns vs) e oi).bind b) = o
  rw [hi]
  show suEnd oi (b e1) = o
  rw [h]
  exact k
theorem v_hd_no {p : Str → Option Bool} {oi : Option Nat} {b : MS} {r : List Hd} (hp : p c = some false) (k : mHds c ns vs e r = o) : mHds c ns vs e ((p, oi, b) :: r) = o := by
  unfold mHds
  rw [hp]
  exact k
end
/-! == -/
section
variable {k l : Nat} {a b c : D} {f g : Nat → Nat} {n m : Nat}
theorem gk_row : Gk 1 (.lst (row f n)) := gk_lst (gk_mapI _ _ fun _ _ => gk_int _)
theorem gk_rowT : Gk 1 (.tup (row f n)) := gk_tup (gk_mapI _ _ fun _ _ => gk_int _)
theorem gk_l1 (ha : Gk k a) : Gk (k + 1) (.lst [a]) := gk_lst fun d hd => by
  rw [List.mem_singleton.mp hd]; exact ha
theorem gk_l2 (ha : Gk k a) (hb : Gk k b) : Gk (k + 1) (.lst [a, b]) := gk_lst fun d hd => by
  rcases List.mem_cons.mp hd with rfl | hd
  · exact ha
  · rw [List.mem_singleton.mp hd]; exact hb
theorem gk_t2 (ha : Gk k a) (hb : Gk k b) : Gk (k + 1) (.tup [a, b]) := gk_tup fun d hd => by
  rcases List.mem_cons.mp hd with rfl | hd
  · exact ha
  · rw [List.mem_singleton.mp hd]; exact hb
theorem ne_same (e : a = b) (h : Gk k b) (hk : k ≤ 64 := by omega) : fNe a b = some (.bl false) := by
  rw [e]
  exact fNe_self h hk
theorem eq_same (e : a = b) (h : Gk k b) (hk : k ≤ 64 := by omega) : fEq a b = some (.bl true) := by
  rw [e]
  exact fEq_self h hk
theorem row_eq (h : ∀ i, i < n → f i = g i) : row f n = row g n := List.map_congr_left fun i hi => by rw [h i (List.mem_range.mp hi)]
theorem repr_rowT (P : Pm f n) (hn : n ≤ 1000) : fRepr (.tup (row f n)) = some (.str (D.tup (row f n)).py.shown) ∧ Gk 0 (.str (D.tup (row f n)).py.shown) := by
  have hs : Sh ((3 + 2) * (row f n).length + 3) (.tup (row f n)) := sh_tup fun d hd => by
    obtain ⟨i, hi, rfl⟩ := List.mem_map.mp hd
    exact sh_nat _ (by have := P.lt i (List.mem_range.mp hi); omega)
  rw [List.length_map, List.length_range] at hs
  exact fRepr_of hs (by omega) gk_rowT (by omega)
theorem cat_row (h : n + m ≤ 1000000) : fCat (.lst (row f n)) (.lst ((List.range m).map fun i => I (n + g i))) = some (.lst (row (bes f n g) (n + m))) := by
  show (if szOk ((row f n).length + ((List.range m).map fun i => I (n + g i)).length) then some (D.lst (row f n ++ (List.range m).map fun i => I (n + g i))) else none) = _
  rw [List.length_map, List.length_map, List.length_range, List.length_range, if_pos (sz_of h), row_bes]
end
/-- a value that is no figure -/
def Bad (d : D) : Prop := F_is_figure [.v d, .v .non] = some (.rt (.v (.bl false)) none)
theorem Bad.need {d : D} (h : Bad d) : F_need_figure [.v d] = some (.ex "BadFigure" ["value"] [d] none) := by
  unfold Bad at h
  unfold F_need_figure m_need_figure
  refine v_runx rfl rfl (e1 := [.v d]) ?_ rfl
  refine v_ifs (e1 := [.v d]) (c := true) (v_not (b := false) (v_tst (w_V (q := .v (.bl false)) (w_c1d (x := d) rfl h rfl) rfl))) ?_
  exact v_raise1 (v_cons rfl v_nil)
end Zl
end

section
set_option Elab.async false
set_option linter.all false
set_option maxRecDepth 100000
set_option maxHeartbeats 4000000
/-! Figures undone and done many times. -/
namespace Zv
open PySem L2 Z Zb Za
section
variable {j : Nat} {e e1 e2 e3 : Z.Env} {x i r : D} {ds ds' : List D} {s : Sl} {mx mi m : M D}
theorem v_setix (h : mx e = some (.ok x e1)) (hl : isL e1[j]? = true) (h2 : mi e1 = some (.ok i e2)) (hs : e2[j]? = some s) (hm : s.mut = some (.lst ds)) (hf : fSetIx i x ds = some ((), ds')) (he : e2.set j (s.upd (.lst ds')) = e3) : mSetIx j mx mi e = some (.nx e3) := by
  unfold mSetIx
  rw [v_then h]
  rw [if_pos hl, v_then h2]
  simp only [chg, hs, hm, onL, hf, Option.bind_some, he]
theorem v_m1 {f : D → List D → Option (D × List D)} (hl : isL e[j]? = true) (h : m e = some (.ok x e1)) (hs : e1[j]? = some s) (hm : s.mut = some (.lst ds)) (hf : f x ds = some (r, ds')) (he : e1.set j (s.upd (.lst ds')) = e2) : mM1 j f m e = some (.ok r e2) := by
  unfold mM1 mHere
  rw [if_pos hl, v_bind h]
  simp only [M.chg, Z.chg, hs, hm, onL, hf, Option.bind_some, he]
theorem ls0 {a t : Sl} {l : Z.Env} : List.set (a :: l) 0 t = t :: l := rfl
theorem lsS {a t : Sl} {l l' : Z.Env} {k : Nat} (h : l.set k t = l') : List.set (a :: l) (k + 1) t = a :: l' := by rw [← h]; rfl
end
section
variable {F : DF} {m n p a : M D} {x y z u : D} {q : Rs} {e e1 e2 e3 e4 : Z.Env}
theorem w_c4 (h : m e = some (.ok x e1)) (h2 : n e1 = some (.ok y e2)) (h3 : p e2 = some (.ok z e3)) (h4 : a e3 = some (.ok u e4)) (hF : F [.v x, .v y, .v z, .v u] = some (.rt q none)) (hb : nbw q = true) : mCall F [] (xV m (xV n (xV p (xV a xNil)))) e = some (.ok q e4) := w_call (xs := [x, y, z, u]) (xc h (xc h2 (xc h3 (x1 h4)))) rfl rfl hF hb
end
section
variable {i j : Int}
theorem le_t (h : i ≤ j) : fLe (.int i) (.int j) = some (.bl true) := congrArg (fun b => some (D.bl b)) (decide_eq_true h)
theorem le_f (h : ¬ i ≤ j) : fLe (.int i) (.int j) = some (.bl false) := congrArg (fun b => some (D.bl b)) (decide_eq_false h)
theorem ge_t (h : j ≤ i) : fGe (.int i) (.int j) = some (.bl true) := congrArg (fun b => some (D.bl b)) (decide_eq_true h)
theorem ge_f (h : ¬ j ≤ i) : fGe (.int i) (.int j) = some (.bl false) := congrArg (fun b => some (D.bl b)) (decide_eq_false h)
theorem lt_t (h : i < j) : fLt (.int i) (.int j) = some (.bl true) := congrArg (fun b => some (D.bl b)) (decide_eq_true h)
theorem lt_f (h : ¬ i < j) : fLt (.int i) (.int j) = some (.bl false) := congrArg (fun b => some (D.bl b)) (decide_eq_false h)
theorem gt_t (h : j < i) : fGt (.int i) (.int j) = some (.bl true) := congrArg (fun b => some (D.bl b)) (decide_eq_true h)
theorem gt_f (h : ¬ j < i) : fGt (.int i) (.int j) = some (.bl false) := congrArg (fun b => some (D.bl b)) (decide_eq_false h)
theorem eqi_t (h : i = j) : fEq (.int i) (.int j) = some (.bl true) := by rw [fEq_int, decide_eq_true h]
theorem eqi_f (h : ¬ i = j) : fEq (.int i) (.int j) = some (.bl false) := by rw [fEq_int, decide_eq_false h]
theorem nei_f (h : i = j) : fNe (.int i) (.int j) = some (.bl false) := by rw [fNe_int, decide_eq_true h]; rfl
theorem nei_t (h : ¬ i = j) : fNe (.int i) (.int j) = some (.bl true) := by rw [fNe_int, decide_eq_false h]; rfl
end
end Zv
namespace Zl
open PySem L2 Z Zb Za Zv
open Zp (it Pm Per orb walk mins cycs isMin)
local macro_rules | `(tactic| tm_at "pf") => `(tactic| first | (with_reducible assumption) | omega | (with_reducible refine Zp.Pm.lt (by assumption) _ ?_; omega) | (with_reducible refine Nat.le_sub_one_of_lt (Zp.Pm.lt (by assumption) _ ?_); omega) | (simp only [List.length_map, List.length_range, List.length_cons, List.length_nil, List.length_append] at *; omega) | rfl)
local macro_rules | `(tactic| tm_at "io") => `(tactic| first | exact rfl | (with_reducible assumption) | (simp only [*]))
local macro_rules | `(tactic| tm_at "lf") => `(tactic| first
  | (with_reducible assumption)
  | with_reducible exact fEq_int _ _ | with_reducible exact fNe_int _ _
  | with_reducible exact len_row | with_reducible exact len_rowT | with_reducible exact len_mapT | with_reducible exact len_mapL
  | with_reducible exact add_N | with_reducible exact add_N1 | with_reducible exact add_1N | with_reducible exact sub_N (by tm_at "pf") | with_reducible exact sub_N1 (by tm_at "pf") | with_reducible exact mul2_N | with_reducible exact div2_N | with_reducible exact mod2_N | with_reducible exact mod_N (by tm_at "pf")
  | with_reducible exact fdiv2 | with_reducible exact fmod2
  | with_reducible exact ix_rowN (by tm_at "pf") | with_reducible exact ix_rowNT (by tm_at "pf")
  | with_reducible exact ix_row (by tm_at "pf") (by tm_at "pf") | with_reducible exact ix_rowT (by tm_at "pf") (by tm_at "pf")
  | with_reducible exact it_rngN (by tm_at "pf") | with_reducible exact it_rngZ (by tm_at "pf") (by tm_at "pf")
  | with_reducible exact rg_N (by tm_at "pf") | with_reducible exact rg_Z (by tm_at "pf") (by tm_at "pf")
  | with_reducible exact fmodN (by tm_at "pf")
  | ((with_reducible show _ ≤ _); tm_at "pf")
  | ((with_reducible show isIo _ = false); tm_at "io")
  | ((with_reducible show szOk _ = true); exact sz_of (by tm_at "pf"))
  | ((with_reducible show setSl _ _ _ = _); (first | with_reducible apply Zv.set0 | with_reducible apply Zv.set1 | with_reducible apply Zv.set2 | with_reducible apply Zv.set3 | with_reducible apply Zv.set4 | with_reducible apply Zv.set5 | with_reducible apply Zv.set6 | with_reducible apply Zv.set7 | with_reducible apply Zv.set8 | with_reducible apply Zv.set9 | with_reducible apply Zv.set10 | with_reducible apply Zv.set11 | with_reducible apply Zv.set12 | with_reducible apply Zv.set13 | with_reducible apply Zv.set14 | with_reducible apply Zv.set15 | with_reducible apply Zv.set16 | with_reducible apply Zv.set17); tm_at "io")
  | exact rfl
  | fail "leaf")
local macro_rules | `(tactic| tm_at "ev") => `(tactic| first
  | (with_reducible assumption)
  | (with_reducible exact v_c) | (with_reducible exact v_nil) | (with_reducible exact v_gs0)
  | ((with_reducible show mVar _ _ = _); exact rfl)
  | ((with_reducible show mPeek _ _ = _); exact rfl)
  | ((with_reducible show mTake _ _ = _); exact rfl)
  | ((with_reducible show mNext _ = _); exact rfl)
  | ((with_reducible show mCnt _ = _); exact rfl)
  | ((with_reducible show seqK (some (CO.rt _ _)) _ = _); exact rfl)
  | ((with_reducible show seqK (some (CO.ct _)) _ = _); exact rfl)
  | ((with_reducible show some _ = _); exact rfl)
  | ((first
      | with_reducible apply v_sq | with_reducible apply v_sk
      | with_reducible apply v_ifs
      | with_reducible apply c_t | with_reducible apply c_f | with_reducible apply c_n
      | ((with_reducible apply c_dt); (first | (with_reducible assumption) | omega)) | ((with_reducible apply c_df); (first | (with_reducible assumption) | omega))
      | ((with_reducible apply c_ht); (with_reducible assumption)) | ((with_reducible apply c_hf); (with_reducible assumption))
      | with_reducible apply v_drop | with_reducible apply v_ret | with_reducible apply v_set | with_reducible apply v_par | with_reducible apply v_tri
      | with_reducible apply v_unp | with_reducible apply v_gT | with_reducible apply v_gs | with_reducible apply v_gN
      | with_reducible apply v_for | with_reducible apply v_raise1
      | with_reducible apply v_tst | with_reducible apply v_not | with_reducible apply v_and | with_reducible apply v_or
      | with_reducible apply v_andV | with_reducible apply v_orV | with_reducible apply v_notV | with_reducible apply v_if
      | with_reducible apply v_R | with_reducible apply w_V | with_reducible apply v_op | with_reducible apply v_U | with_reducible apply v_G | with_reducible apply v_N
      | with_reducible apply v_rd2 | with_reducible apply v_opN | with_reducible apply v_ix | with_reducible apply v_sl | with_reducible apply v_part
      | with_reducible apply v_fld | with_reducible apply v_listRg | with_reducible apply v_tupRg | with_reducible apply v_it
      | with_reducible apply v_lc | with_reducible apply v_cons | with_reducible apply v_tup | with_reducible apply v_lst
      | with_reducible apply w_c0 | with_reducible apply w_c1 | with_reducible apply w_c2 | with_reducible apply w_c3
      | with_reducible apply w_c1d | with_reducible apply w_c2d | with_reducible apply w_k1 | with_reducible apply w_pen1 | with_reducible apply w_pen0
      | with_reducible exact e0_nil | with_reducible apply e0_v | with_reducible apply e0_io | with_reducible apply e0_no
      | with_reducible apply v_run | with_reducible apply v_runf | with_reducible apply v_runx
      | (intro _ _; dsimp only [List.set])
      | tm_at "lf") <;> tm_at "ev"))

local macro_rules | `(tactic| tm_at "lf") => `(tactic| first | with_reducible exact Fg.len (by assumption) | with_reducible exact Fg.its (by assumption) | with_reducible exact Fg.tup (by assumption) | with_reducible exact Fg.list (by assumption) | with_reducible exact Fg.ix (by assumption) (by tm_at "pf"))
section
variable {d : D} {f g : Nat → Nat} {n : Nat}
theorem set_row {p v : Nat} : (row g n).set p (I v) = row (fun y => if y = p then v else g y) n := by
  unfold row
  rw [set_map]
  refine List.map_congr_left fun y _ => ?_
  show (if y = p then I v else I (g y)) = I (if y = p then v else g y)
  by_cases e : y = p
  · rw [if_pos e, if_pos e]
  · rw [if_neg e, if_neg e]
theorem setix_row {p v : Nat} (h : p < n) : fSetIx (.int (p : Nat)) (.int (v : Nat)) (row g n) = some ((), row (fun y => if y = p then v else g y) n) := by
  unfold fSetIx
  dsimp only
  rw [show (row g n).length = n by unfold row; rw [List.length_map, List.length_range], ix_nat h, ← set_row]
  rfl
theorem rep_row (hn : n ≤ 1000) : fRep (.lst [.int 0]) (.int (n : Nat)) = some (.lst (row (fun _ => 0) n)) := by
  show (if decide (-1000000 ≤ ((n : Nat) : Int)) && decide (((n : Nat) : Int) ≤ 1000000) && szOk ([D.int 0].length * ((n : Nat) : Int).toNat) then some (D.lst (List.replicate ((n : Nat) : Int).toNat [D.int 0]).flatten) else none) = _
  have h1 : szOk ([D.int 0].length * ((n : Nat) : Int).toNat) = true := sz_of (by show 1 * n ≤ 1000000; omega)
  rw [h1, decide_eq_true (by omega), decide_eq_true (by omega)]
  show some (D.lst (List.replicate n [D.int 0]).flatten) = _
  rw [rep1]
  rfl
theorem enum_row : itEnum (.lst (row f n)) = some ((List.range n).map fun i => .tup [I i, I (f i)]) := by
  show some (enumD (row f n)) = _
  unfold enumD row
  rw [List.length_map, List.length_range, List.zipWith_map_right, List.zipWith_self]
theorem enum_rowT : itEnum (.tup (row f n)) = some ((List.range n).map fun i => .tup [I i, I (f i)]) := enum_row
theorem back_row_fg (F : Fg d f n) : ∃ g, (∀ i, i < n → g (f i) = i) ∧ F_back_row [.v d] = some (.rt (.v (.tup (row g n))) none) := by
  obtain ⟨h2, h0, h8⟩ := F.ev
  obtain ⟨env', w1, g, s2, s3, _, _, hg, rfl⟩ := forL_inv (t := gT (gsCons (gN 2) (gsCons (gN 3) gsNil))) (b := b1_back_row) (ds := (List.range n).map fun i => .tup [I i, I (f i)]) (k := 0)
    (I := fun k env => ∃ g s2 s3, NI s2 ∧ NI s3 ∧ (∀ i, i < k → g (f i) = i) ∧ env = [.v d, .own (.lst (row g n)), s2, s3])
    (fun i x env hx hst => by
      obtain ⟨g, s2, s3, k2, k3, hg, e⟩ := hst
      rw [Nat.zero_add] at *
      subst e
      rw [List.getElem?_map] at hx
      obtain ⟨j, hj, rfl⟩ := Option.map_eq_some_iff.mp hx
      have hi : i < n := by
        have := (List.getElem?_eq_some_iff.mp hj).1
        rwa [List.length_range] at this
      rw [List.getElem?_range hi] at hj
      cases hj
      have h5 := setix_row (g := g) (p := f i) (v := i) (F.pm.lt i hi)
      refine ⟨[.v d, .own (.lst (row g n)), .v (I i), .v (I (f i))], _, ?_, .inl ?_, fun y => if y = f i then i else g y, .v (I i), .v (I (f i)), rfl, rfl, fun k hk => ?_, rfl⟩
      · tm_at "ev"
      · exact v_setix (j := 1) rfl rfl rfl rfl rfl h5 rfl
      · show (if f k = f i then i else g (f k)) = k
        by_cases e : f k = f i
        · rw [if_pos e]
          exact (F.pm.inj k i (by omega) hi e).symm
        · rw [if_neg e]
          refine hg k ?_
          rcases Nat.lt_or_ge k i with h | h
          · exact h
          · exact absurd (show f k = f i by rw [show k = i by omega]) e)
    [.v d, .own (.lst (row (fun _ => 0) n)), .no, .no] ⟨_, _, _, rfl, rfl, fun _ h => absurd h (Nat.not_lt_zero _), rfl⟩
  rw [List.length_map, List.length_range, Nat.zero_add] at hg
  refine ⟨g, hg, ?_⟩
  have h3 := rep_row (n := n) (by omega)
  have h4 : itEnum d = some ((List.range n).map fun i => .tup [I i, I (f i)]) := by
    rcases F.eq with rfl | rfl
    · exact enum_row
    · exact enum_rowT
  unfold F_back_row m_back_row
  tm_at "ev"
theorem back_fg (F : Fg d f n) : ∃ g, (∀ i, i < n → g (f i) = i) ∧ F_back [.v d] = some (.rt (.v (.tup (row g n))) none) := by
  obtain ⟨g, hg, h2⟩ := back_row_fg F
  have h1 := need_figure_fg F
  refine ⟨g, hg, ?_⟩
  unfold F_back m_back
  tm_at "ev"
theorem surj (P : Pm f n) {y : Nat} (h : y < n) : ∃ i, i < n ∧ f i = y := by
  obtain ⟨L, _, hL⟩ := P.per h
  refine ⟨it f (L - 1) y, P.it_lt h _, ?_⟩
  have := hL.back
  rw [show L = (L - 1) + 1 by have := hL.pos; omega] at this
  exact this
theorem inv_row {g' : Nat → Nat} (P : Pm f n) (h : ∀ i, i < n → g (f i) = i) (h' : ∀ i, i < n → g' (f i) = i) : row g n = row g' n := row_eq fun y hy => by
  obtain ⟨i, hi, rfl⟩ := surj P hy
  rw [h i hi, h' i hi]
end
end Zl
end

section
set_option Elab.async false
set_option linter.all false
set_option maxRecDepth 100000
set_option maxHeartbeats 4000000
/-! Figures done many times. -/
namespace Zl
open PySem L2 Z Zb Za Zv
open Zp (it Pm Per Rel orb walk mins cycs isMin)
local macro_rules | `(tactic| tm_at "pf") => `(tactic| first | (with_reducible assumption) | omega | (with_reducible refine Zp.Pm.lt (by assumption) _ ?_; omega) | (with_reducible refine Nat.le_sub_one_of_lt (Zp.Pm.lt (by assumption) _ ?_); omega) | (simp only [List.length_map, List.length_range, List.length_cons, List.length_nil, List.length_append] at *; omega) | rfl)
local macro_rules | `(tactic| tm_at "io") => `(tactic| first | exact rfl | (with_reducible assumption) | (simp only [*]))
local macro_rules | `(tactic| tm_at "lf") => `(tactic| first
  | (with_reducible assumption)
  | with_reducible exact fEq_int _ _ | with_reducible exact fNe_int _ _
  | with_reducible exact len_row | with_reducible exact len_rowT | with_reducible exact len_mapT | with_reducible exact len_mapL
  | with_reducible exact add_N | with_reducible exact add_N1 | with_reducible exact add_1N | with_reducible exact sub_N (by tm_at "pf") | with_reducible exact sub_N1 (by tm_at "pf") | with_reducible exact mul2_N | with_reducible exact div2_N | with_reducible exact mod2_N | with_reducible exact mod_N (by tm_at "pf")
  | with_reducible exact fdiv2 | with_reducible exact fmod2
  | with_reducible exact ix_rowN (by tm_at "pf") | with_reducible exact ix_rowNT (by tm_at "pf")
  | with_reducible exact ix_row (by tm_at "pf") (by tm_at "pf") | with_reducible exact ix_rowT (by tm_at "pf") (by tm_at "pf")
  | with_reducible exact it_rngN (by tm_at "pf") | with_reducible exact it_rngZ (by tm_at "pf") (by tm_at "pf")
  | with_reducible exact rg_N (by tm_at "pf") | with_reducible exact rg_Z (by tm_at "pf") (by tm_at "pf")
  | with_reducible exact fmodN (by tm_at "pf")
  | ((with_reducible show _ ≤ _); tm_at "pf")
  | ((with_reducible show isIo _ = false); tm_at "io")
  | ((with_reducible show szOk _ = true); exact sz_of (by tm_at "pf"))
  | ((with_reducible show setSl _ _ _ = _); (first | with_reducible apply Zv.set0 | with_reducible apply Zv.set1 | with_reducible apply Zv.set2 | with_reducible apply Zv.set3 | with_reducible apply Zv.set4 | with_reducible apply Zv.set5 | with_reducible apply Zv.set6 | with_reducible apply Zv.set7 | with_reducible apply Zv.set8 | with_reducible apply Zv.set9 | with_reducible apply Zv.set10 | with_reducible apply Zv.set11 | with_reducible apply Zv.set12 | with_reducible apply Zv.set13 | with_reducible apply Zv.set14 | with_reducible apply Zv.set15 | with_reducible apply Zv.set16 | with_reducible apply Zv.set17); tm_at "io")
  | exact rfl
  | fail "leaf")
local macro_rules | `(tactic| tm_at "ev") => `(tactic| first
  | (with_reducible assumption)
  | (with_reducible exact v_c) | (with_reducible exact v_nil) | (with_reducible exact v_gs0)
  | ((with_reducible show mVar _ _ = _); exact rfl)
  | ((with_reducible show mPeek _ _ = _); exact rfl)
  | ((with_reducible show mTake _ _ = _); exact rfl)
  | ((with_reducible show mNext _ = _); exact rfl)
  | ((with_reducible show mCnt _ = _); exact rfl)
  | ((with_reducible show seqK (some (CO.rt _ _)) _ = _); exact rfl)
  | ((with_reducible show seqK (some (CO.ct _)) _ = _); exact rfl)
  | ((with_reducible show some _ = _); exact rfl)
  | ((first
      | with_reducible apply v_sq | with_reducible apply v_sk
      | with_reducible apply v_ifs
      | with_reducible apply c_t | with_reducible apply c_f | with_reducible apply c_n
      | ((with_reducible apply c_dt); (first | (with_reducible assumption) | omega)) | ((with_reducible apply c_df); (first | (with_reducible assumption) | omega))
      | ((with_reducible apply c_ht); (with_reducible assumption)) | ((with_reducible apply c_hf); (with_reducible assumption))
      | with_reducible apply v_drop | with_reducible apply v_ret | with_reducible apply v_set | with_reducible apply v_par | with_reducible apply v_tri
      | with_reducible apply v_unp | with_reducible apply v_gT | with_reducible apply v_gs | with_reducible apply v_gN
      | with_reducible apply v_for | with_reducible apply v_raise1
      | with_reducible apply v_tst | with_reducible apply v_not | with_reducible apply v_and | with_reducible apply v_or
      | with_reducible apply v_andV | with_reducible apply v_orV | with_reducible apply v_notV | with_reducible apply v_if
      | with_reducible apply v_R | with_reducible apply w_V | with_reducible apply v_op | with_reducible apply v_U | with_reducible apply v_G | with_reducible apply v_N
      | with_reducible apply v_rd2 | with_reducible apply v_opN | with_reducible apply v_ix | with_reducible apply v_sl | with_reducible apply v_part
      | with_reducible apply v_fld | with_reducible apply v_listRg | with_reducible apply v_tupRg | with_reducible apply v_it
      | with_reducible apply v_lc | with_reducible apply v_cons | with_reducible apply v_tup | with_reducible apply v_lst
      | with_reducible apply w_c0 | with_reducible apply w_c1 | with_reducible apply w_c2 | with_reducible apply w_c3
      | with_reducible apply w_c1d | with_reducible apply w_c2d | with_reducible apply w_k1 | with_reducible apply w_pen1 | with_reducible apply w_pen0
      | with_reducible exact e0_nil | with_reducible apply e0_v | with_reducible apply e0_io | with_reducible apply e0_no
      | with_reducible apply v_run | with_reducible apply v_runf | with_reducible apply v_runx
      | (intro _ _; dsimp only [List.set])
      | tm_at "lf") <;> tm_at "ev"))

local macro_rules | `(tactic| tm_at "lf") => `(tactic| first | with_reducible exact Fg.len (by assumption) | with_reducible exact Fg.its (by assumption) | with_reducible exact Fg.tup (by assumption) | with_reducible exact Fg.list (by assumption) | with_reducible exact Fg.ix (by assumption) (by tm_at "pf") | with_reducible exact le_t (by omega) | with_reducible exact ge_t (by omega))
local macro_rules | `(tactic| tm_at "ev") => `(tactic| (first | with_reducible apply w_c4) <;> tm_at "ev")
section
variable {d : D} {f g : Nat → Nat} {n : Nat}
theorem per_it (P : Pm f n) {x L : Nat} (hx : x < n) (h : Per f x L) (k : Nat) : Per f (it f k x) L := by
  have hc : ∀ j, it f j (it f k x) = it f k (it f j x) := fun j => by
    rw [← Zp.it_add, ← Zp.it_add, Nat.add_comm]
  refine ⟨h.pos, by rw [hc, h.back], fun j h1 h2 e => h.least j h1 h2 ?_⟩
  rw [hc] at e
  exact P.it_inj k (P.it_lt hx j) hx e
theorem orb_len (P : Pm f n) {x L : Nat} (h : Per f x L) (hL : L ≤ n) : (orb f n x).length = L := by
  rw [Zp.orb_eq h (by omega), List.length_map, List.length_range]
/-- where somebody is who does a figure so many times -/
def pw (f : Nat → Nat) (n : Nat) (t : Int) (y : Nat) : Nat := it f (t % ((orb f n y).length : Nat)).toNat y
theorem pw_at (P : Pm f n) {x L : Nat} (hx : x < n) (h : Per f x L) (hL : L ≤ n) (t : Int) (k : Nat) : pw f n t (it f k x) = it f ((((k : Nat) : Int) + t) % (L : Nat)).toNat x := by
  unfold pw
  rw [orb_len P (per_it P hx h k) hL, ← Zp.it_add]
  have hpos := h.pos
  obtain ⟨r, hr⟩ := Int.eq_ofNat_of_zero_le (Int.emod_nonneg t (show ((L : Nat) : Int) ≠ 0 by omega))
  have e : (((k : Nat) : Int) + t) % (L : Nat) = (((r + k) % L : Nat) : Int) := by
    rw [← Int.add_emod_emod, hr]
    show ((k : Int) + (r : Nat)) % (L : Nat) = _
    rw [Int.add_comm]
    rfl
  rw [e, hr]
  show it f (r + k) x = it f ((r + k) % L) x
  exact h.mod _
theorem ix_tupN {c : List Nat} {i : Nat} (h : i < c.length) : fIx (tupN c) (.int (i : Nat)) = some (I c[i]) := by
  refine L2.atI_nat ?_
  rw [List.getElem?_map, List.getElem?_eq_getElem h]
  rfl
theorem len_tupN {c : List Nat} : fLen (tupN c) = some (.int (c.length : Nat)) := len_mapT
theorem enum_tupN {c : List Nat} : itEnum (tupN c) = some ((List.range c.length).map fun i => .tup [I i, I (c.getD i 0)]) := by
  show some (enumD (c.map I)) = _
  have hc : c.map I = (List.range c.length).map fun i => I (c.getD i 0) := by
    apply List.ext_getElem
    · simp
    · intro i h1 h2
      rw [List.length_map] at h1
      simp only [List.getElem_map, List.getElem_range]
      rw [getD_at h1]
  unfold enumD
  rw [hc, List.length_map, List.length_range, List.zipWith_map_right, List.zipWith_self]
/-- one cycle -/
theorem power_in {t : Int} {s4 s5 : Sl} {x L : Nat} {g : Nat → Nat} {Dn : Nat → Prop} (P : Pm f n) (hx : x < n) (hL : Per f x L) (hLn : L ≤ n) (hg : ∀ y, Dn y → g y = pw f n t y) (k4 : NI s4) (k5 : NI s5) :
    ∃ g' s4' s5', NI s4' ∧ NI s5' ∧ (∀ y, Dn y ∨ Rel f x y → g' y = pw f n t y) ∧ b2_power_row [.v d, .v (.int t), .own (.lst (row g n)), .v (tupN (orb f n x)), s4, s5] = some (.nx [.v d, .v (.int t), .own (.lst (row g' n)), .v (tupN (orb f n x)), s4', s5']) := by
  have hlen := orb_len P hL hLn
  have hat : ∀ i, (hi : i < (orb f n x).length) → (orb f n x)[i] = it f i x := fun i hi => by
    simp only [Zp.orb_eq hL (show L ≤ n + 1 by omega), List.getElem_map, List.getElem_range]
  obtain ⟨env', w1, g', s4', s5', k4', k5', h1, h2, rfl⟩ := forL_inv (t := gT (gsCons (gN 4) (gsCons (gN 5) gsNil))) (b := b1_power_row) (ds := (List.range L).map fun i => .tup [I i, I ((orb f n x).getD i 0)]) (k := 0)
    (I := fun k env => ∃ g s4 s5, NI s4 ∧ NI s5 ∧ (∀ y, Dn y → g y = pw f n t y) ∧ (∀ i, i < k → g (it f i x) = pw f n t (it f i x)) ∧ env = [.v d, .v (.int t), .own (.lst (row g n)), .v (tupN (orb f n x)), s4, s5])
    (fun i q env hq hst => by
      obtain ⟨g, s4, s5, k4, k5, h1, h2, e⟩ := hst
      rw [Nat.zero_add] at *
      subst e
      rw [List.getElem?_map] at hq
      obtain ⟨j, hj, rfl⟩ := Option.map_eq_some_iff.mp hq
      have hi : i < L := by
        have := (List.getElem?_eq_some_iff.mp hj).1
        rwa [List.length_range] at this
      rw [List.getElem?_range hi] at hj
      cases hj
      have hi2 : i < (orb f n x).length := by omega
      have e1 : (orb f n x).getD i 0 = it f i x := by rw [getD_at hi2, hat i hi2]
      have hlt := P.it_lt hx i
      obtain ⟨r, hr⟩ := Int.eq_ofNat_of_zero_le (Int.emod_nonneg (((i : Nat) : Int) + t) (show ((L : Nat) : Int) ≠ 0 by omega))
      have hr2 : r < L := by
        have := Int.emod_lt_of_pos (((i : Nat) : Int) + t) (show (0 : Int) < (L : Nat) by omega)
        omega
      have e2 := pw_at P hx hL hLn t i
      rw [hr] at e2
      change pw f n t (it f i x) = it f r x at e2
      have h5 := setix_row (g := g) (p := it f i x) (v := it f r x) hlt
      have h6 : fIx (tupN (orb f n x)) (.int (r : Nat)) = some (I (it f r x)) := by
        rw [ix_tupN (by omega), hat]
      have h7 : fLen (tupN (orb f n x)) = some (.int (L : Nat)) := by rw [len_tupN, hlen]
      have h8 : fMod (.int (((i : Nat) : Int) + t)) (.int (L : Nat)) = some (.int (r : Nat)) := by rw [fmodN (by omega), hr]
      rw [e1]
      refine ⟨[.v d, .v (.int t), .own (.lst (row g n)), .v (tupN (orb f n x)), .v (I i), .v (I (it f i x))], _, ?_, .inl ?_, fun y => if y = it f i x then it f r x else g y, .v (I i), .v (I (it f i x)), rfl, rfl, fun y hy => ?_, fun k hk => ?_, rfl⟩
      · tm_at "ev"
      · unfold b1_power_row
        refine v_setix (j := 2) (e1 := [.v d, .v (.int t), .own (.lst (row g n)), .v (tupN (orb f n x)), .v (I i), .v (I (it f i x))]) ?_ rfl rfl rfl rfl h5 rfl
        tm_at "ev"
      · show (if y = it f i x then it f r x else g y) = _
        by_cases e : y = it f i x
        · rw [if_pos e, e, e2]
        · rw [if_neg e, h1 y hy]
      · show (if it f k x = it f i x then it f r x else g (it f k x)) = _
        by_cases e : it f k x = it f i x
        · rw [if_pos e, e, e2]
        · rw [if_neg e]
          refine h2 k ?_
          rcases Nat.lt_or_ge k i with h | h
          · exact h
          · exact absurd (show it f k x = it f i x by rw [show k = i by omega]) e)
    [.v d, .v (.int t), .own (.lst (row g n)), .v (tupN (orb f n x)), s4, s5] ⟨g, s4, s5, k4, k5, hg, fun _ h => absurd h (Nat.not_lt_zero _), rfl⟩
  rw [List.length_map, List.length_range, Nat.zero_add] at h2
  refine ⟨g', s4', s5', k4', k5', fun y hy => ?_, ?_⟩
  · rcases hy with hy | ⟨k, rfl⟩
    · exact h1 y hy
    · rw [hL.mod k]
      exact h2 _ (Nat.mod_lt _ (by have := hL.pos; omega))
  · unfold b2_power_row
    refine v_for (v_it (x := tupN (orb f n x)) rfl enum_tupN) ?_
    rw [hlen]
    exact w1
theorem power_row_fg {t : Int} (F : Fg d f n) : F_power_row [.v d, .v (.int t)] = some (.rt (.v (.tup (row (pw f n t) n))) none) := by
  obtain ⟨h2, h0, h8⟩ := F.ev
  have P := F.pm
  have hcy := cycles_of_fg F
  have hm : ∀ x ∈ mins f n, x < n := fun x hx => (Zp.mem_mins.mp hx).1
  obtain ⟨env', w1, g, s3, s4, s5, _, _, _, hg, rfl⟩ := forL_inv (t := gN 3) (b := b2_power_row) (ds := (cycs f n).map tupN) (k := 0)
    (I := fun k env => ∃ g s3 s4 s5, NI s3 ∧ NI s4 ∧ NI s5 ∧ (∀ y, (∃ m ∈ (mins f n).take k, Rel f m y) → g y = pw f n t y) ∧ env = [.v d, .v (.int t), .own (.lst (row g n)), s3, s4, s5])
    (fun i q env hq hst => by
      obtain ⟨g, s3, s4, s5, k3, k4, k5, hg, e⟩ := hst
      rw [Nat.zero_add] at *
      subst e
      rw [List.getElem?_map] at hq
      obtain ⟨c, hc, rfl⟩ := Option.map_eq_some_iff.mp hq
      unfold cycs at hc
      rw [List.getElem?_map] at hc
      obtain ⟨x, hx, rfl⟩ := Option.map_eq_some_iff.mp hc
      have hxn := hm x (List.mem_of_getElem? hx)
      obtain ⟨L, hLn, hL⟩ := P.per hxn
      obtain ⟨g', s4', s5', j4, j5, hg', hb⟩ := power_in (d := d) (t := t) P hxn hL hLn hg k4 k5
      refine ⟨[.v d, .v (.int t), .own (.lst (row g n)), .v (tupN (orb f n x)), s4, s5], _, Zv.set3 k3, .inl hb, g', _, s4', s5', rfl, j4, j5, fun y hy => hg' y ?_, rfl⟩
      obtain ⟨m, hm, hr⟩ := hy
      rw [List.take_succ, hx, List.mem_append] at hm
      rcases hm with hm | hm
      · exact .inl ⟨m, hm, hr⟩
      · rw [show m = x by simpa using hm] at hr
        exact .inr hr)
    [.v d, .v (.int t), .own (.lst (row (fun _ => 0) n)), .no, .no, .no] ⟨fun _ => 0, .no, .no, .no, rfl, rfl, rfl, (fun y hy => by
      obtain ⟨m, hm, _⟩ := hy
      rw [List.take_zero] at hm
      cases hm), rfl⟩
  have h3 := rep_row (n := n) (by omega)
  have he : row g n = row (pw f n t) n := row_eq fun y hy => hg y (by
    obtain ⟨m, h1, _, h3, h4⟩ := P.min_ex y hy
    refine ⟨m, ?_, h4⟩
    rw [Nat.zero_add, List.length_map]
    unfold cycs
    rw [List.length_map, List.take_length]
    exact Zp.mem_mins.mpr ⟨h1, h3⟩)
  rw [he] at w1
  unfold F_power_row m_power_row
  tm_at "ev"
theorem is_integer_N {t : Int} : F_is_integer [.v (.int t)] = some (.rt (.v (.bl true)) none) := rfl
theorem is_within_ok {lo hi t : Int} (h1 : lo ≤ t) (h2 : t ≤ hi) : F_is_within [.v (.int t), .v (.int lo), .v (.int hi)] = some (.rt (.v (.bl true)) none) := by
  have h3 := is_integer_N (t := t)
  have h4 : fIsN (.int lo) .non = some (.bl false) := rfl
  have h5 : fIsN (.int hi) .non = some (.bl false) := rfl
  unfold F_is_within m_is_within
  tm_at "ev"
theorem need_within_ok {lo hi t : Int} {s : D} (h1 : lo ≤ t) (h2 : t ≤ hi) : F_need_within [.v (.int t), .v (.int lo), .v (.int hi), .v s] = some (.rt (.v .non) none) := by
  have h3 := is_within_ok h1 h2
  unfold F_need_within m_need_within
  refine v_runn rfl rfl (e1 := [.v (.int t), .v (.int lo), .v (.int hi), .v s]) ?_ rfl
  tm_at "ev"
theorem power_fg {t : Int} (F : Fg d f n) (h1 : -1000000000000 ≤ t) (h2 : t ≤ 1000000000000) : F_power [.v d, .v (.int t)] = some (.rt (.v (.tup (row (pw f n t) n))) none) := by
  have h3 := need_figure_fg F
  have h4 := power_row_fg F (t := t)
  have h5 := need_within_ok (s := .str (Str.ofString "times")) h1 h2
  unfold F_power m_power
  tm_at "ev"
end
end Zl
end

section
set_option Elab.async false
set_option linter.all false
set_option maxRecDepth 100000
namespace Zk02
open PySem L2 Z Za
def tab_LineError : List (Str × Bool) := [("BadFigure", true), ("BadNumber", true)]
def tab_BadFigure : List (Str × Bool) := [("BadFigure", true), ("BadNumber", false)]
def tab_BadNumber : List (Str × Bool) := [("BadFigure", false), ("BadNumber", true)]
def fl_value : Fl := ⟨["BadFigure"], []⟩
def fl_part : Fl := ⟨["BadNumber"], []⟩
/-- _law_pen: slots 0 script -/
def m__law_pen : MS := Za.m__law_pen
def F__law_pen : DF := Za.F__law_pen
/-- _law_draw: slots 0 pen 1 many 2 taken 3 cell 4 mixed 5 digit 6 great -/
def m__law_draw : MS := Zd.mDraw1 56821 3001 2147483563 2147483629 811 47017 2147483587
def F__law_draw : DF := Zd.fDraw1 56821 3001 2147483563 2147483629 811 47017 2147483587
/-- _law_figure: slots 0 pen 1 couples 2 left 3 found -/
def m__law_figure : MS := Ze.mFig F__law_draw
def F__law_figure : DF := Ze.fFig F__law_draw
/-- is_row: slots 0 value -/
abbrev m_is_row : MS := Zl.m_is_row
abbrev F_is_row : DF := Zl.F_is_row
/-- is_integer: slots 0 value -/
abbrev m_is_integer : MS := Zl.m_is_integer
abbrev F_is_integer : DF := Zl.F_is_integer
/-- is_figure: slots 0 value 1 couples 2 place -/
abbrev m_is_figure : MS := Zl.m_is_figure
abbrev F_is_figure : DF := Zl.F_is_figure
/-- _law_bent: slots 0 pen 1 figure 2 kind 3 found 4 at -/
def m__law_bent : MS := (mSeq (mPar 3 4 (mPair (mN fList (mPeek 1)) (mCall F__law_draw [] (xSl 0 (xV (mG fLen (mPeek 1)) xNil)))))
    (mSeq (mSet 2 (mCall F__law_draw [] (xSl 0 (xV (M.ret (.int 8)) xNil))))
    (mSeq (mIfS (mTst (mRd2 fEq (mPeek 2) (mR (M.ret (.int 0))))) (mSetIx 3 (mIx (mPeek 3) (mOp fMod (mOp fAdd (mVar 4) (M.ret (.int 1))) (mG fLen (mPeek 3)))) (mVar 4)) mNext)
    (mSeq (mIfS (mTst (mRd2 fEq (mPeek 2) (mR (M.ret (.int 1))))) (mSetIx 3 (mG fLen (mPeek 3)) (mVar 4)) mNext)
    (mSeq (mIfS (mTst (mRd2 fEq (mPeek 2) (mR (M.ret (.int 2))))) (mSetIx 3 (mU fNeg (M.ret (.int 1))) (mVar 4)) mNext)
    (mSeq (mIfS (mTst (mRd2 fEq (mPeek 2) (mR (M.ret (.int 3))))) (mSetIx 3 (mU fStrI (mIx (mPeek 3) (mVar 4))) (mVar 4)) mNext)
    (mSeq (mIfS (mTst (mRd2 fEq (mPeek 2) (mR (M.ret (.int 4))))) (mSet 3 (mSl (mPeek 3) (M.ret none) (mPart (mOp fSub (mG fLen (mPeek 3)) (M.ret (.int 1)))))) mNext)
    (mSeq (mIfS (mTst (mRd2 fEq (mPeek 2) (mR (M.ret (.int 5))))) (mSet 3 (mOpN fCat (mPeek 3) (mLst (mCons (mG fLen (mPeek 3)) mNil)))) mNext)
    (mSeq (mIfS (mTst (mRd2 fEq (mPeek 2) (mR (M.ret (.int 6))))) (mSetIx 3 (M.ret (.bl true)) (mM1 3 fIndex (M.ret (.int 1)))) mNext)
    (mSeq (mIfS (mTst (mRd2 fEq (mPeek 2) (mR (M.ret (.int 7))))) (mSetIx 3 (M.ret .non) (mVar 4)) mNext)
    (mRet (mR (mIf (mTst (mRd2 fEq (mCall F__law_draw [] (xSl 0 (xV (M.ret (.int 2)) xNil))) (mR (M.ret (.int 0))))) (mG fTuple (mPeek 3)) (mVar 3))))))))))))))
def F__law_bent : DF := mkF 2 5 m__law_bent
/-- need_figure: slots 0 value -/
abbrev m_need_figure : MS := Zl.m_need_figure
abbrev F_need_figure : DF := Zl.F_need_figure
/-- joined_rows: slots 0 one 1 other 2 place -/
abbrev m_joined_rows : MS := Zl.m_joined_rows
abbrev F_joined_rows : DF := Zl.F_joined_rows
/-- then: slots 0 one 1 other -/
abbrev m_then : MS := Zl.m_then
abbrev F_then : DF := Zl.F_then
/-- back_row: slots 0 row 1 found 2 place 3 goal -/
abbrev m_back_row : MS := Zl.m_back_row
abbrev F_back_row : DF := Zl.F_back_row
/-- back: slots 0 figure -/
abbrev m_back : MS := Zl.m_back
abbrev F_back : DF := Zl.F_back
/-- is_within: slots 0 value 1 least 2 most -/
abbrev m_is_within : MS := Zl.m_is_within
abbrev F_is_within : DF := Zl.F_is_within
/-- need_within: slots 0 value 1 least 2 most 3 part -/
abbrev m_need_within : MS := Zl.m_need_within
abbrev F_need_within : DF := Zl.F_need_within
/-- cycles_of: slots 0 row 1 first 2 found 3 seen 4 cycle 5 place -/
abbrev m_cycles_of : MS := Zl.m_cycles_of
abbrev F_cycles_of : DF := Zl.F_cycles_of
/-- power_row: slots 0 row 1 times 2 found 3 cycle 4 at 5 place -/
abbrev m_power_row : MS := Zl.m_power_row
abbrev F_power_row : DF := Zl.F_power_row
/-- power: slots 0 figure 1 times -/
abbrev m_power : MS := Zl.m_power
abbrev F_power : DF := Zl.F_power
/-- cycles: slots 0 figure -/
abbrev m_cycles : MS := Zl.m_cycles
abbrev F_cycles : DF := Zl.F_cycles
/-- order: slots 0 figure 1 found 2 cycle -/
abbrev m_order : MS := Zl.m_order
abbrev F_order : DF := Zl.F_order
/-- exchanges: slots 0 figure 1 found 2 cycle 3 place -/
abbrev m_exchanges : MS := Zl.m_exchanges
abbrev F_exchanges : DF := Zl.F_exchanges
/-- _law_refused: slots 0 value 1 found 2 name 3 e 4 word 5 kept -/
def h1__law_refused : MS := (mSet 4 (mR (M.ret (.str (Str.ofString "other")))))
def h2__law_refused : MS := (mPar 4 5 (mPair (mR (M.ret (.str (Str.ofString "figure")))) (mR (mFld fl_value "value" (mPeek 3)))))
def y3__law_refused : MS := (mSeq (mIfS (mTst (mRd2 fEq (mPeek 2) (mR (M.ret (.str (Str.ofString "then")))))) (mDrop (mCall F_then [] (xV (mVar 0) (xV (mTup (mCons (M.ret (.int 1)) (mCons (M.ret (.int 0)) mNil))) xNil)))) mNext)
    (mSeq (mIfS (mTst (mRd2 fEq (mPeek 2) (mR (M.ret (.str (Str.ofString "other")))))) (mDrop (mCall F_then [] (xV (mTup (mCons (M.ret (.int 1)) (mCons (M.ret (.int 0)) mNil))) (xV (mVar 0) xNil)))) mNext)
    (mSeq (mIfS (mTst (mRd2 fEq (mPeek 2) (mR (M.ret (.str (Str.ofString "back")))))) (mDrop (mCall F_back [] (xV (mVar 0) xNil))) mNext)
    (mSeq (mIfS (mTst (mRd2 fEq (mPeek 2) (mR (M.ret (.str (Str.ofString "power")))))) (mDrop (mCall F_power [] (xV (mVar 0) (xV (mOp fPow (M.ret (.int 10)) (M.ret (.int 13))) xNil)))) mNext)
    (mSeq (mIfS (mTst (mRd2 fEq (mPeek 2) (mR (M.ret (.str (Str.ofString "cycles")))))) (mDrop (mCall F_cycles [] (xV (mVar 0) xNil))) mNext)
    (mSeq (mIfS (mTst (mRd2 fEq (mPeek 2) (mR (M.ret (.str (Str.ofString "order")))))) (mDrop (mCall F_order [] (xV (mVar 0) xNil))) mNext)
    (mIfS (mTst (mRd2 fEq (mPeek 2) (mR (M.ret (.str (Str.ofString "exchanges")))))) (mDrop (mCall F_exchanges [] (xV (mVar 0) xNil))) mNext)))))))
def b4__law_refused : MS := (mSeq (mUnp (gT (gsCons (gN 4) (gsCons (gN 5) gsNil))) (mTup (mCons (M.ret (.str (Str.ofString "none"))) (mCons (M.ret .non) mNil))))
    (mSeq (mTry y3__law_refused [(tabP tab_BadFigure, some 3, h2__law_refused), (tabP tab_LineError, none, h1__law_refused)])
    (mIfS (mOr (mTst (mRd2 fNe (mPeek 4) (mR (M.ret (.str (Str.ofString "figure")))))) (mTst (mRd2 fNe (mR (mG fReprD (mPeek 5))) (mR (mG fReprD (mPeek 0)))))) (mDrop (mM1 1 fApp (mVar 2))) mNext)))
def m__law_refused : MS := (mSeq (mSet 1 (mLst mNil))
    (mSeq (mFor (mIt items (mTup (mCons (M.ret (.str (Str.ofString "then"))) (mCons (M.ret (.str (Str.ofString "other"))) (mCons (M.ret (.str (Str.ofString "back"))) (mCons (M.ret (.str (Str.ofString "power"))) (mCons (M.ret (.str (Str.ofString "cycles"))) (mCons (M.ret (.str (Str.ofString "order"))) (mCons (M.ret (.str (Str.ofString "exchanges"))) mNil))))))))) (gN 2) b4__law_refused)
    (mRet (mTake 1))))
def F__law_refused : DF := mkF 1 6 m__law_refused
/-- still: slots 0 couples -/
abbrev m_still : MS := Zl.m_still
abbrev F_still : DF := Zl.F_still
/-- crossed: slots 0 couples 1 place -/
abbrev m_crossed : MS := Zl.m_crossed
abbrev F_crossed : DF := Zl.F_crossed
/-- upended: slots 0 couples 1 place -/
abbrev m_upended : MS := Zl.m_upended
abbrev F_upended : DF := Zl.F_upended
/-- _law_number_refused: slots 0 value 1 found 2 name 3 word 4 e -/
def h1__law_number_refused : MS := (mSet 3 (mR (M.ret (.str (Str.ofString "other")))))
def h2__law_number_refused : MS := (mSet 3 (mR (mFld fl_part "part" (mPeek 4))))
def y3__law_number_refused : MS := (mSeq (mIfS (mTst (mRd2 fEq (mPeek 2) (mR (M.ret (.str (Str.ofString "still")))))) (mDrop (mCall F_still [] (xV (mVar 0) xNil))) mNext)
    (mSeq (mIfS (mTst (mRd2 fEq (mPeek 2) (mR (M.ret (.str (Str.ofString "crossed")))))) (mDrop (mCall F_crossed [] (xV (mVar 0) xNil))) mNext)
    (mSeq (mIfS (mTst (mRd2 fEq (mPeek 2) (mR (M.ret (.str (Str.ofString "upended")))))) (mDrop (mCall F_upended [] (xV (mVar 0) xNil))) mNext)
    (mIfS (mTst (mRd2 fEq (mPeek 2) (mR (M.ret (.str (Str.ofString "power")))))) (mDrop (mCall F_power [] (xV (mTup (mCons (M.ret (.int 1)) (mCons (M.ret (.int 0)) mNil))) (xV (mIf (mOr (mNot (mTst (mG (fIsi "int") (mPeek 0)))) (mTst (mG (fIsi "bool") (mPeek 0)))) (mVar 0) (mOp fAdd (mOp fAdd (mOp fPow (M.ret (.int 10)) (M.ret (.int 12))) (M.ret (.int 1))) (mU fAbs (mVar 0)))) xNil)))) mNext))))
def b4__law_number_refused : MS := (mSeq (mSet 3 (mR (M.ret (.str (Str.ofString "none")))))
    (mSeq (mTry y3__law_number_refused [(tabP tab_BadNumber, some 4, h2__law_number_refused), (tabP tab_LineError, none, h1__law_number_refused)])
    (mDrop (mM1 1 fApp (mVar 3)))))
def m__law_number_refused : MS := (mSeq (mSet 1 (mLst mNil))
    (mSeq (mFor (mIt items (mTup (mCons (M.ret (.str (Str.ofString "still"))) (mCons (M.ret (.str (Str.ofString "crossed"))) (mCons (M.ret (.str (Str.ofString "upended"))) (mCons (M.ret (.str (Str.ofString "power"))) mNil)))))) (gN 2) b4__law_number_refused)
    (mRet (mR (mRd2 fEq (mPeek 1) (mLst (mCons (M.ret (.str (Str.ofString "couples"))) (mCons (M.ret (.str (Str.ofString "couples"))) (mCons (M.ret (.str (Str.ofString "couples"))) (mCons (M.ret (.str (Str.ofString "times"))) mNil))))))))))
def F__law_number_refused : DF := mkF 1 5 m__law_number_refused
/-- law: slots 0 script 1 pen 2 couples 3 value 4 figure 5 told 6 bent 7 row 8 position 9 flat 10 across 11 end 12 side 13 place -/
def b1_law : MS := (mIfS (mOr (mNot (mTst (mG (fIsi "tuple") (mPeek 7)))) (mTst (mRd2 fNe (mR (mG fLen (mPeek 7))) (mR (mOp fMul (M.ret (.int 2)) (mVar 2)))))) (mRet (mR (M.ret (.bl false)))) mNext)
def b2_law : MS := (mSeq (mSet 13 (mR (mOp fAdd (mOp fMul (M.ret (.int 2)) (mVar 8)) (mVar 12))))
    (mIfS (mOr (mTst (mRd2 fNe (mR (mIx (mPeek 9) (mVar 13))) (mPeek 13))) (mOr (mTst (mRd2 fNe (mR (mIx (mPeek 10) (mVar 13))) (mR (mOp fSub (mOp fAdd (mOp fMul (M.ret (.int 2)) (mVar 8)) (M.ret (.int 1))) (mVar 12))))) (mTst (mRd2 fNe (mR (mIx (mPeek 11) (mVar 13))) (mR (mOp fAdd (mOp fMul (M.ret (.int 2)) (mOp fSub (mOp fSub (mVar 2) (M.ret (.int 1))) (mVar 8))) (mVar 12))))))) (mRet (mR (M.ret (.bl false)))) mNext))
def b3_law : MS := (mFor (mIt items (mTup (mCons (M.ret (.int 0)) (mCons (M.ret (.int 1)) mNil)))) (gN 12) b2_law)
def b4_law : MS := (mSeq (mSet 4 (mCall F__law_figure [] (xSl 1 (xV (mVar 2) xNil))))
    (mSeq (mSet 5 (mR (mIf (mTst (mRd2 fEq (mCall F__law_draw [] (xSl 1 (xV (M.ret (.int 2)) xNil))) (mR (M.ret (.int 0))))) (mVar 4) (mG fTuple (mPeek 4)))))
    (mSeq (mIfS (mOr (mTst (mOp fNotB (mV (mCall F_is_figure [.non] (xV (mVar 5) xNil))) (M.ret (.bl true)))) (mOr (mTst (mOp fNotB (mV (mCall F_is_figure [] (xV (mVar 5) (xV (mVar 2) xNil)))) (M.ret (.bl true)))) (mTst (mOp fNotB (mV (mCall F_is_figure [] (mKw 1 1 [0, 1] [] (mCons (mVar 5) mNil) (mCons (mOp fAdd (M.ret (.int 1)) (mOp fMod (mVar 2) (M.ret (.int 4)))) mNil)))) (M.ret (.bl false)))))) (mRet (mR (M.ret (.bl false)))) mNext)
    (mSeq (mSet 6 (mCall F__law_bent [] (xSl 1 (xV (mVar 4) xNil))))
    (mSeq (mIfS (mOr (mTst (mOp fNotB (mV (mCall F_is_figure [.non] (xV (mVar 6) xNil))) (M.ret (.bl false)))) (mOr (mTst (mOp fNotB (mV (mCall F_is_figure [] (xV (mVar 6) (xV (mVar 2) xNil)))) (M.ret (.bl false)))) (mTst (mRd2 fNe (mCall F__law_refused [] (xV (mVar 6) xNil)) (mLst mNil))))) (mRet (mR (M.ret (.bl false)))) mNext)
    (mSeq (mTri 9 10 11 (mCons (mV (mCall F_still [] (xV (mVar 2) xNil))) (mCons (mV (mCall F_crossed [] (xV (mVar 2) xNil))) (mCons (mV (mCall F_upended [] (xV (mVar 2) xNil))) mNil))))
    (mSeq (mIfS (mTst (mRd2 fNe (mLst (mCons (mV (mCall F_still [] (mKw 0 1 [0] [] mNil (mCons (mVar 2) mNil)))) (mCons (mV (mCall F_crossed [] (mKw 0 1 [0] [] mNil (mCons (mVar 2) mNil)))) (mCons (mV (mCall F_upended [] (mKw 0 1 [0] [] mNil (mCons (mVar 2) mNil)))) mNil)))) (mLst (mCons (mVar 9) (mCons (mVar 10) (mCons (mVar 11) mNil)))))) (mRet (mR (M.ret (.bl false)))) mNext)
    (mSeq (mFor (mIt items (mTup (mCons (mVar 9) (mCons (mVar 10) (mCons (mVar 11) mNil))))) (gN 7) b1_law)
    (mFor (mIt itR1 (mVar 2)) (gN 8) b3_law)))))))))
def b5_law : MS := (mIfS (mNot (mTst (mV (mCall F__law_number_refused [] (xV (mVar 3) xNil))))) (mRet (mR (M.ret (.bl false)))) mNext)
def b6_law : MS := (mIfS (mTst (mRd2 fNe (mCall F__law_refused [] (xV (mVar 3) xNil)) (mLst mNil))) (mRet (mR (M.ret (.bl false)))) mNext)
def m_law : MS := (mSeq (mSet 1 (mCall F__law_pen [] (xV (mVar 0) xNil)))
    (mSeq (mFor (mIt items (mTup (mCons (M.ret (.int 1)) (mCons (M.ret (.int 2)) (mCons (M.ret (.int 3)) (mCons (M.ret (.int 4)) mNil)))))) (gN 2) b4_law)
    (mSeq (mIfS (mOr (mTst (mOp fNotB (mV (mCall F_is_figure [.non] (xV (mTup (mCons (M.ret (.int 0)) (mCons (M.ret (.int 1)) (mCons (M.ret (.int 2)) (mCons (M.ret (.int 3)) (mCons (M.ret (.int 4)) (mCons (M.ret (.int 5)) (mCons (M.ret (.int 6)) (mCons (M.ret (.int 7)) (mCons (M.ret (.int 8)) (mCons (M.ret (.int 9)) mNil))))))))))) xNil))) (M.ret (.bl false)))) (mOr (mTst (mOp fNotB (mV (mCall F_is_figure [.non] (xV (mTup mNil) xNil))) (M.ret (.bl false)))) (mTst (mOp fNotB (mV (mCall F_is_figure [.non] (xV (M.ret (.str (Str.ofString "01"))) xNil))) (M.ret (.bl false)))))) (mRet (mR (M.ret (.bl false)))) mNext)
    (mSeq (mFor (mIt items (mTup (mCons (M.ret (.int 0)) (mCons (M.ret (.int 5)) (mCons (mU fNeg (M.ret (.int 1))) (mCons (mOp fPow (M.ret (.int 10)) (M.ret (.int 20))) (mCons (M.ret (.bl true)) (mCons (M.ret .non) (mCons (M.ret (.str (Str.ofString "2"))) (mCons (mTup (mCons (M.ret (.int 2)) mNil)) mNil)))))))))) (gN 3) b5_law)
    (mSeq (mFor (mIt items (mTup (mCons (M.ret .non) (mCons (M.ret (.int 3)) (mCons (M.ret (.str (Str.ofString "figure"))) (mCons (mV (mDctC [(.inr (Str.ofString "a"))] [(.int 1)])) (mCons (mTup mNil) (mCons (mV (mLst (mCons (M.ret (.int 0)) mNil))) (mCons (mTup (mCons (M.ret (.int 0)) (mCons (M.ret (.int 1)) (mCons (M.ret (.int 2)) (mCons (M.ret (.int 3)) (mCons (M.ret (.int 4)) (mCons (M.ret (.int 5)) (mCons (M.ret (.int 6)) (mCons (M.ret (.int 7)) (mCons (M.ret (.int 8)) (mCons (M.ret (.int 9)) mNil))))))))))) mNil))))))))) (gN 3) b6_law)
    (mRet (mR (mAndV (mRd2 fEq (mR (mG fReprD (mCall F_power [] (xV (mTup (mCons (M.ret (.int 1)) (mCons (M.ret (.int 0)) mNil))) (xV (mOp fPow (M.ret (.int 10)) (M.ret (.int 12))) xNil))))) (mR (mG fReprD (mCall F_still [] (xV (M.ret (.int 1)) xNil))))) (mRd2 fEq (mR (mG fReprD (mCall F_power [] (xV (mV (mLst (mCons (M.ret (.int 1)) (mCons (M.ret (.int 0)) mNil)))) (xV (mOp fAdd (mU fNeg (mOp fPow (M.ret (.int 10)) (M.ret (.int 12)))) (M.ret (.int 1))) xNil))))) (mR (mG fReprD (mCall F_crossed [] (xV (M.ret (.int 1)) xNil)))))))))))))
def F_law : DF := mkF 1 14 m_law
end Zk02
end

section
set_option Elab.async false
set_option linter.all false
set_option maxRecDepth 100000
set_option maxHeartbeats 4000000
namespace Zk02
open PySem L2 Z Za
def topS (i : Nat) : Stmt := PySem.Challenge.pw_everyline_k02_figures_and_what_is_none.main.body.getD i (.Pass ⟨0, 0, 0, 0⟩)
structure Tx (K : PySem.W.Frag) (mg : Str → Option Value) (C_LineError C_BadFigure C_BadNumber : Addr) : Prop where
  g_LineError : mg "LineError" = some (.ref C_LineError)
  g_BadFigure : mg "BadFigure" = some (.ref C_BadFigure)
  g_BadNumber : mg "BadNumber" = some (.ref C_BadNumber)
  h_LineError : TabOk K mg (.ref C_LineError) tab_LineError
  h_BadFigure : TabOk K mg (.ref C_BadFigure) tab_BadFigure
  h_BadNumber : TabOk K mg (.ref C_BadNumber) tab_BadNumber
  x_value : XOk K mg "value" fl_value.ex
  x_part : XOk K mg "part" fl_part.ex
  i_value : IOk K mg "value" fl_value.ins
  i_part : IOk K mg "part" fl_part.ins
  z_abs : mg "abs" = none
  z_all : mg "all" = none
  z_bool : mg "bool" = none
  z_enumerate : mg "enumerate" = none
  z_int : mg "int" = none
  z_isinstance : mg "isinstance" = none
  z_len : mg "len" = none
  z_list : mg "list" = none
  z_range : mg "range" = none
  z_repr : mg "repr" = none
  z_sorted : mg "sorted" = none
  z_str : mg "str" = none
  z_tuple : mg "tuple" = none
  i_lcm : mg "lcm" = some (.builtin "math.lcm")
  c_GREATEST : ∃ t, mg "GREATEST" = some (.int 4 t)
  c_LARGEST : ∃ t, mg "LARGEST" = some (.int 1000000000000 t)
abbrev i_BadFigure : Stmt := inClass (topS 3) 0
abbrev nf_BadFigure (cc c : Addr) : NdefX.NF := NdefX.NF.of i_BadFigure "__init__" "BadFigure.__init__" [(("__class__" : Str), cc)] c
theorem eS_BadFigure : NdefX.NScope ["self", "value", "__class__"] ["self", "value"] ["__class__"] (C8.fnScope i_BadFigure) := NdefX.nscope_by (by decide +kernel)
abbrev i_BadNumber : Stmt := inClass (topS 4) 0
abbrev nf_BadNumber (cc c : Addr) : NdefX.NF := NdefX.NF.of i_BadNumber "__init__" "BadNumber.__init__" [(("__class__" : Str), cc)] c
theorem eS_BadNumber : NdefX.NScope ["self", "part", "__class__"] ["self", "part"] ["__class__"] (C8.fnScope i_BadNumber) := NdefX.nscope_by (by decide +kernel)
section
variable {P : Program} {w : World} {K : PySem.W.Frag} {mg : Str → Option Value} {base : Heap} {C_LineError C_BadFigure C_BadNumber : Addr}
abbrev s__law_pen : Stmt := topS 29
theorem sc__law_pen : FnScope ["script"] ["script"] (defScope s__law_pen) := ⟨rfl, rfl, rfl, by decide +kernel, rfl, by decide +kernel, by decide +kernel⟩
theorem ok__law_pen (T : Tx K mg C_LineError C_BadFigure C_BadNumber) {f : Addr} {od an : Option Addr} {sl : Array (Option Value)} {oc kV dc pm cd ct : Value}
    (l : K.lookup f = some ⟨oc, od, .func (PySem.W.fnOf "_law_pen" "_law_pen" (defArgs s__law_pen) (defBody s__law_pen) (defScope s__law_pen) .none kV dc pm an cd ct), sl⟩) (c : PySem.W.codeIn K cd "_law_pen" = true) :
    FnG P w K mg base (L2N.CX P w) 1 f (PySem.W.fnOf "_law_pen" "_law_pen" (defArgs s__law_pen) (defBody s__law_pen) (defScope s__law_pen) .none kV dc pm an cd ct) ["script"] (spM K mg F__law_pen) :=
  fg_body (m := m__law_pen) l c sc__law_pen (fun A fr s H E hr => by
    have sc := sc__law_pen
    have po := passes_of (X := cxOf (L2N.CX P w) P w K mg base ["script"] "_law_pen" (defScope s__law_pen) f cd A fr s H E) rfl
    exact (sss_one (ss_ret (sr_lst (sa_cons (sv_r (sr_list (sr_slice (sr_peek (pv 0)) sp_none (sp_some sv_int)) T.z_list)) (sa_cons sv_int (sa_cons sv_int sa_nil))))))) fun _ _ h => mkF_ok h
abbrev s__law_draw : Stmt := topS 30
theorem sc__law_draw : FnScope ["pen", "many", "taken", "cell", "mixed", "digit", "great"] ["pen", "many"] (defScope s__law_draw) := ⟨rfl, rfl, rfl, by decide +kernel, rfl, by decide +kernel, by decide +kernel⟩
theorem ok__law_draw (T : Tx K mg C_LineError C_BadFigure C_BadNumber) {f : Addr} {od an : Option Addr} {sl : Array (Option Value)} {oc kV dc pm cd ct : Value}
    (l : K.lookup f = some ⟨oc, od, .func (PySem.W.fnOf "_law_draw" "_law_draw" (defArgs s__law_draw) (defBody s__law_draw) (defScope s__law_draw) .none kV dc pm an cd ct), sl⟩) (c : PySem.W.codeIn K cd "_law_draw" = true) :
    FnG P w K mg base (L2N.CX P w) 1 f (PySem.W.fnOf "_law_draw" "_law_draw" (defArgs s__law_draw) (defBody s__law_draw) (defScope s__law_draw) .none kV dc pm an cd ct) ["pen", "many"] (spM K mg F__law_draw) :=
  fg_body (m := m__law_draw) l c sc__law_draw (fun A fr s H E hr => by
    have sc := sc__law_draw
    have po := passes_of (X := cxOf (L2N.CX P w) P w K mg base ["pen", "many", "taken", "cell", "mixed", "digit", "great"] "_law_draw" (defScope s__law_draw) f cd A fr s H E) rfl
    exact (sss_cons (ss_if (st_gt (sv_ix (sr_peek (pv 0)) sv_int) sv_int) (sss_cons (ss_set (j := 5) (sr_v (sv_mod (sv_toInt (sv_ix (sr_peek (pv 0)) sv_int) T.z_int) (sv_var (pv 1)))) sc.nd rfl (by first | exact Or.inl rfl | exact Or.inr rfl) (.inl rfl))
    (sss_cons (ss_setIx (sv_div (sv_toInt (sv_ix (sr_peek (pv 0)) sv_int) T.z_int) (sv_var (pv 1))) (pv 0) sv_int)
    (sss_one (ss_ret (sr_take (pv 5)))))) sss_nil)
    (sss_cons (ss_set (j := 2) (sr_v (sv_ix (sr_peek (pv 0)) sv_int)) sc.nd rfl (by first | exact Or.inl rfl | exact Or.inr rfl) (.inl rfl))
    (sss_cons (ss_setIx (sv_add (sv_var (pv 2)) sv_int) (pv 0) sv_int)
    (sss_cons (ss_set (j := 3) (sr_v (sv_add (sv_mul sv_int (sv_var (pv 2))) sv_int)) sc.nd rfl (by first | exact Or.inl rfl | exact Or.inr rfl) (.inl rfl))
    (sss_cons (ss_if (st_ne hr.hu (sr_v (sv_ix (sr_peek (pv 0)) sv_int)) (sr_lst sa_nil)) (sss_one (ss_set (j := 3) (sr_v (sv_ix (sr_v (sv_ix (sr_peek (pv 0)) sv_int)) (sv_mod (sv_toInt (sv_var (pv 2)) T.z_int) (sv_len (sr_v (sv_ix (sr_peek (pv 0)) sv_int)) T.z_len)))) sc.nd rfl (by first | exact Or.inl rfl | exact Or.inr rfl) (.inl rfl))) sss_nil)
    (sss_cons (ss_if (st_w (sw_and (st_lt (sv_var (pv 2)) (sv_len (sr_v (sv_ix (sr_peek (pv 0)) sv_int)) T.z_len)) (sw_and1 (st_ge (sv_abs (sv_var (pv 3)) T.z_abs) (sv_pow sv_int sv_int))))) (sss_cons (ss_set (j := 6) (sr_v (sv_add (sv_mul sv_int (sv_sub (sv_abs (sv_var (pv 3)) T.z_abs) (sv_pow sv_int sv_int))) (sv_toInt (sv_lt (sv_var (pv 3)) sv_int) T.z_int))) sc.nd rfl (by first | exact Or.inl rfl | exact Or.inr rfl) (.inl rfl))
    (sss_cons (ss_setIx (sv_div (sv_toInt (sv_var (pv 6)) T.z_int) (sv_var (pv 1))) (pv 0) sv_int)
    (sss_one (ss_ret (sr_v (sv_mod (sv_toInt (sv_var (pv 6)) T.z_int) (sv_var (pv 1)))))))) sss_nil)
    (sss_cons (ss_set (j := 4) (sr_v (sv_mod (sv_toInt (sv_pow (sv_add (sv_add (sv_mod (sv_toInt (sv_var (pv 3)) T.z_int) sv_int) (sv_mul sv_int (sv_var (pv 2)))) sv_int) sv_int) T.z_int) sv_int)) sc.nd rfl (by first | exact Or.inl rfl | exact Or.inr rfl) (.inl rfl))
    (sss_cons (ss_set (j := 4) (sr_v (sv_mod (sv_toInt (sv_pow (sv_add (sv_add (sv_mul (sv_var (pv 4)) (sv_add (sv_mul sv_int (sv_var (pv 2))) sv_int)) (sv_mul (sv_mul sv_int (sv_var (pv 2))) (sv_var (pv 2)))) sv_int) sv_int) T.z_int) sv_int)) sc.nd rfl (by first | exact Or.inl rfl | exact Or.inr rfl) (.inl rfl))
    (sss_one (ss_ret (sr_v (sv_mod (sv_toInt (sv_div (sv_var (pv 4)) sv_int) T.z_int) (sv_var (pv 1))))))))))))))) fun _ _ h => mkF_ok h
abbrev s__law_figure : Stmt := topS 32
theorem sc__law_figure : FnScope ["pen", "couples", "left", "found"] ["pen", "couples"] (defScope s__law_figure) := ⟨rfl, rfl, rfl, by decide +kernel, rfl, by decide +kernel, by decide +kernel⟩
theorem ok__law_figure {a__law_draw : Addr} {d__law_draw : FuncData} (C__law_draw : Cal P w K mg base "_law_draw" 1 a__law_draw d__law_draw ["pen", "many"] F__law_draw) (T : Tx K mg C_LineError C_BadFigure C_BadNumber) {f : Addr} {od an : Option Addr} {sl : Array (Option Value)} {oc kV dc pm cd ct : Value}
    (l : K.lookup f = some ⟨oc, od, .func (PySem.W.fnOf "_law_figure" "_law_figure" (defArgs s__law_figure) (defBody s__law_figure) (defScope s__law_figure) .none kV dc pm an cd ct), sl⟩) (c : PySem.W.codeIn K cd "_law_figure" = true) :
    FnG P w K mg base (L2N.CX P w) 2 f (PySem.W.fnOf "_law_figure" "_law_figure" (defArgs s__law_figure) (defBody s__law_figure) (defScope s__law_figure) .none kV dc pm an cd ct) ["pen", "couples"] (spM K mg F__law_figure) :=
  fg_body (m := m__law_figure) l c sc__law_figure (fun A fr s H E hr => by
    have sc := sc__law_figure
    have po := passes_of (X := cxOf (L2N.CX P w) P w K mg base ["pen", "couples", "left", "found"] "_law_figure" (defScope s__law_figure) f cd A fr s H E) rfl
    exact (sss_cons (ss_par (i := 2) (j := 3) (sp_pair (sr_listRg rfl (sv_mul sv_int (sv_var (pv 1))) T.z_list T.z_range) (sr_lst sa_nil)) rfl sc.nd rfl rfl (by decide) rfl rfl (by first | rfl | kernel_rfl))
    (sss_cons (ss_while po (st_lt (sv_len (sr_peek (pv 3)) T.z_len) (sv_mul sv_int (sv_var (pv 1)))) (sss_one (ss_expr (sv_append (pv 3) (sv_popAt (pv 2) (sv_r (sr_cal C__law_draw hr (sx_sl (pv 0) (sx_v (sv_len (sr_peek (pv 2)) T.z_len) sx_nil)))))))))
    (sss_one (ss_ret (sr_take (pv 3))))))) fun _ _ h => mkF_ok h
abbrev s_is_row : Stmt := topS 8
theorem sc_is_row : FnScope ["value"] ["value"] (defScope s_is_row) := ⟨rfl, rfl, rfl, by decide +kernel, rfl, by decide +kernel, by decide +kernel⟩
theorem ok_is_row (T : Tx K mg C_LineError C_BadFigure C_BadNumber) {f : Addr} {od an : Option Addr} {sl : Array (Option Value)} {oc kV dc pm cd ct : Value}
    (l : K.lookup f = some ⟨oc, od, .func (PySem.W.fnOf "is_row" "is_row" (defArgs s_is_row) (defBody s_is_row) (defScope s_is_row) .none kV dc pm an cd ct), sl⟩) (c : PySem.W.codeIn K cd "is_row" = true) :
    FnG P w K mg base (L2N.CX P w) 1 f (PySem.W.fnOf "is_row" "is_row" (defArgs s_is_row) (defBody s_is_row) (defScope s_is_row) .none kV dc pm an cd ct) ["value"] (spM K mg F_is_row) :=
  fg_body (m := m_is_row) l c sc_is_row (fun A fr s H E hr => by
    have sc := sc_is_row
    have po := passes_of (X := cxOf (L2N.CX P w) P w K mg base ["value"] "is_row" (defScope s_is_row) f cd A fr s H E) rfl
    exact (sss_one (ss_ret (sr_v (sv_isi2 (sr_peek (pv 0)) T.z_isinstance T.z_list (by decide +kernel) T.z_tuple (by decide +kernel)))))) fun _ _ h => mkF_ok h
abbrev s_is_integer : Stmt := topS 6
theorem sc_is_integer : FnScope ["value"] ["value"] (defScope s_is_integer) := ⟨rfl, rfl, rfl, by decide +kernel, rfl, by decide +kernel, by decide +kernel⟩
theorem ok_is_integer (T : Tx K mg C_LineError C_BadFigure C_BadNumber) {f : Addr} {od an : Option Addr} {sl : Array (Option Value)} {oc kV dc pm cd ct : Value}
    (l : K.lookup f = some ⟨oc, od, .func (PySem.W.fnOf "is_integer" "is_integer" (defArgs s_is_integer) (defBody s_is_integer) (defScope s_is_integer) .none kV dc pm an cd ct), sl⟩) (c : PySem.W.codeIn K cd "is_integer" = true) :
    FnG P w K mg base (L2N.CX P w) 1 f (PySem.W.fnOf "is_integer" "is_integer" (defArgs s_is_integer) (defBody s_is_integer) (defScope s_is_integer) .none kV dc pm an cd ct) ["value"] (spM K mg F_is_integer) :=
  fg_body (m := m_is_integer) l c sc_is_integer (fun A fr s H E hr => by
    have sc := sc_is_integer
    have po := passes_of (X := cxOf (L2N.CX P w) P w K mg base ["value"] "is_integer" (defScope s_is_integer) f cd A fr s H E) rfl
    exact (sss_one (ss_ret (sr_v (sv_andV (sv_isi (sr_peek (pv 0)) T.z_isinstance T.z_int (by decide +kernel)) (sv_one (sv_notV (sv_isi (sr_peek (pv 0)) T.z_isinstance T.z_bool (by decide +kernel))))))))) fun _ _ h => mkF_ok h
abbrev s_is_figure : Stmt := topS 13
theorem sc_is_figure : FnScope ["value", "couples", "place"] ["value", "couples"] (defScope s_is_figure) := ⟨rfl, rfl, rfl, by decide +kernel, rfl, by decide +kernel, by decide +kernel⟩
theorem ok_is_figure {a_is_row : Addr} {d_is_row : FuncData} (C_is_row : Cal P w K mg base "is_row" 1 a_is_row d_is_row ["value"] F_is_row) {a_is_integer : Addr} {d_is_integer : FuncData} (C_is_integer : Cal P w K mg base "is_integer" 1 a_is_integer d_is_integer ["value"] F_is_integer) (T : Tx K mg C_LineError C_BadFigure C_BadNumber) {f : Addr} {od an : Option Addr} {sl : Array (Option Value)} {oc dV kV dc pm cd ct : Value}
    (l : K.lookup f = some ⟨oc, od, .func (PySem.W.fnOf "is_figure" "is_figure" (defArgs s_is_figure) (defBody s_is_figure) (defScope s_is_figure) dV kV dc pm an cd ct), sl⟩) (c : PySem.W.codeIn K cd "is_figure" = true) :
    FnG P w K mg base (L2N.CX P w) 2 f (PySem.W.fnOf "is_figure" "is_figure" (defArgs s_is_figure) (defBody s_is_figure) (defScope s_is_figure) dV kV dc pm an cd ct) ["value", "couples"] (spM K mg F_is_figure) :=
  fg_body (m := m_is_figure) l c sc_is_figure (fun A fr s H E hr => by
    have sc := sc_is_figure
    have po := passes_of (X := cxOf (L2N.CX P w) P w K mg base ["value", "couples", "place"] "is_figure" (defScope s_is_figure) f cd A fr s H E) rfl
    exact (sss_cons (ss_if (st_w (sw_or (st_not (st_v (sv_r (sr_cal C_is_row hr (sx_v (sv_var (pv 0)) sx_nil))))) (sw_or1 (st_notIn (sr_v (sv_len (sr_peek (pv 0)) T.z_len)) (sr_v (sv_tup (sa_cons sv_int (sa_cons sv_int (sa_cons sv_int (sa_cons sv_int sa_nil)))))) (by with_unfolding_all rfl))))) (sss_one (ss_ret (sr_v sv_bl))) sss_nil)
    (sss_cons (ss_if (st_w (sw_and (st_notN (sr_peek (pv 1)) (sr_v sv_non)) (sw_and1 (st_ne hr.hu (sr_v (sv_mul sv_int (sv_var (pv 1)))) (sr_v (sv_len (sr_peek (pv 0)) T.z_len)))))) (sss_one (ss_ret (sr_v sv_bl))) sss_nil)
    (sss_cons (ss_if (st_not (st_v (sv_all rfl (sr_lc (own := [("place", 2)]) (js := [2]) rfl sc.nd (si_seq (sv_var (pv 0))) (blkOk_by (sc := defScope s_is_figure) (by (show blkC ["value", "couples", "place"] _ _ _ = true); decide +kernel)) (fun _ _ _ _ _ => (sg_name sc.nd rfl (by first | exact Or.inl rfl | exact Or.inr rfl) (by first | exact .inl rfl | exact .inr rfl))) (fun _ _ _ _ _ => sif_nil) (fun _ _ _ _ _ => (sv_r (sr_cal C_is_integer hr (sx_v (sv_var (pv 2)) sx_nil)))) (by decide)) T.z_all))) (sss_one (ss_ret (sr_v sv_bl))) sss_nil)
    (sss_one (ss_ret (sr_v (sv_eq hr.hu (sr_sorted (sr_peek (pv 0)) T.z_sorted) (sr_listRg rfl (sv_len (sr_peek (pv 0)) T.z_len) T.z_list T.z_range))))))))) fun _ _ h => mkF_ok h
abbrev s__law_bent : Stmt := topS 33
theorem sc__law_bent : FnScope ["pen", "figure", "kind", "found", "at"] ["pen", "figure"] (defScope s__law_bent) := ⟨rfl, rfl, rfl, by decide +kernel, rfl, by decide +kernel, by decide +kernel⟩
theorem ok__law_bent {a__law_draw : Addr} {d__law_draw : FuncData} (C__law_draw : Cal P w K mg base "_law_draw" 1 a__law_draw d__law_draw ["pen", "many"] F__law_draw) (T : Tx K mg C_LineError C_BadFigure C_BadNumber) {f : Addr} {od an : Option Addr} {sl : Array (Option Value)} {oc kV dc pm cd ct : Value}
    (l : K.lookup f = some ⟨oc, od, .func (PySem.W.fnOf "_law_bent" "_law_bent" (defArgs s__law_bent) (defBody s__law_bent) (defScope s__law_bent) .none kV dc pm an cd ct), sl⟩) (c : PySem.W.codeIn K cd "_law_bent" = true) :
    FnG P w K mg base (L2N.CX P w) 2 f (PySem.W.fnOf "_law_bent" "_law_bent" (defArgs s__law_bent) (defBody s__law_bent) (defScope s__law_bent) .none kV dc pm an cd ct) ["pen", "figure"] (spM K mg F__law_bent) :=
  fg_body (m := m__law_bent) l c sc__law_bent (fun A fr s H E hr => by
    have sc := sc__law_bent
    have po := passes_of (X := cxOf (L2N.CX P w) P w K mg base ["pen", "figure", "kind", "found", "at"] "_law_bent" (defScope s__law_bent) f cd A fr s H E) rfl
    exact (sss_cons (ss_par (i := 3) (j := 4) (sp_pair (sr_list (sr_peek (pv 1)) T.z_list) (sr_cal C__law_draw hr (sx_sl (pv 0) (sx_v (sv_len (sr_peek (pv 1)) T.z_len) sx_nil)))) rfl sc.nd rfl rfl (by decide) rfl rfl (by first | rfl | kernel_rfl))
    (sss_cons (ss_set (j := 2) (sr_cal C__law_draw hr (sx_sl (pv 0) (sx_v sv_int sx_nil))) sc.nd rfl (by first | exact Or.inl rfl | exact Or.inr rfl) (.inl rfl))
    (sss_cons (ss_if (st_eq hr.hu (sr_peek (pv 2)) (sr_v sv_int)) (sss_one (ss_setIx (sv_ix (sr_peek (pv 3)) (sv_mod (sv_add (sv_var (pv 4)) sv_int) (sv_len (sr_peek (pv 3)) T.z_len))) (pv 3) (sv_var (pv 4)))) sss_nil)
    (sss_cons (ss_if (st_eq hr.hu (sr_peek (pv 2)) (sr_v sv_int)) (sss_one (ss_setIx (sv_len (sr_peek (pv 3)) T.z_len) (pv 3) (sv_var (pv 4)))) sss_nil)
    (sss_cons (ss_if (st_eq hr.hu (sr_peek (pv 2)) (sr_v sv_int)) (sss_one (ss_setIx (sv_negF sv_int) (pv 3) (sv_var (pv 4)))) sss_nil)
    (sss_cons (ss_if (st_eq hr.hu (sr_peek (pv 2)) (sr_v sv_int)) (sss_one (ss_setIx (sv_toStr (sv_ix (sr_peek (pv 3)) (sv_var (pv 4))) T.z_str) (pv 3) (sv_var (pv 4)))) sss_nil)
    (sss_cons (ss_if (st_eq hr.hu (sr_peek (pv 2)) (sr_v sv_int)) (sss_one (ss_set (j := 3) (sr_slice (sr_peek (pv 3)) sp_none (sp_some (sv_sub (sv_len (sr_peek (pv 3)) T.z_len) sv_int))) sc.nd rfl (by first | exact Or.inl rfl | exact Or.inr rfl) (.inl rfl))) sss_nil)
    (sss_cons (ss_if (st_eq hr.hu (sr_peek (pv 2)) (sr_v sv_int)) (sss_one (ss_set (j := 3) (sr_cat (sr_peek (pv 3)) (sr_lst (sa_cons (sv_len (sr_peek (pv 3)) T.z_len) sa_nil))) sc.nd rfl (by first | exact Or.inl rfl | exact Or.inr rfl) (.inl rfl))) sss_nil)
    (sss_cons (ss_if (st_eq hr.hu (sr_peek (pv 2)) (sr_v sv_int)) (sss_one (ss_setIx sv_bl (pv 3) (sv_index (pv 3) sv_int))) sss_nil)
    (sss_cons (ss_if (st_eq hr.hu (sr_peek (pv 2)) (sr_v sv_int)) (sss_one (ss_setIx sv_non (pv 3) (sv_var (pv 4)))) sss_nil)
    (sss_one (ss_ret (sr_v (sv_if (st_eq hr.hu (sr_cal C__law_draw hr (sx_sl (pv 0) (sx_v sv_int sx_nil))) (sr_v sv_int)) (sv_tuple (sr_peek (pv 3)) T.z_tuple) (sv_var (pv 3))))))))))))))))) fun _ _ h => mkF_ok h
abbrev s_need_figure : Stmt := topS 14
theorem sc_need_figure : FnScope ["value"] ["value"] (defScope s_need_figure) := ⟨rfl, rfl, rfl, by decide +kernel, rfl, by decide +kernel, by decide +kernel⟩
theorem ok_need_figure {a_is_figure_1 : Addr} {d_is_figure_1 : FuncData} (C_is_figure_1 : CalD P w K mg base "is_figure" 2 a_is_figure_1 d_is_figure_1 ["value", "couples"] F_is_figure [.non] [.non]) {I_BadFigure : Addr} {D_BadFigure : FuncData} (K_BadFigure : ErrK P w K mg base "BadFigure" C_BadFigure I_BadFigure D_BadFigure ["self", "value"] ["value"]) (T : Tx K mg C_LineError C_BadFigure C_BadNumber) {f : Addr} {od an : Option Addr} {sl : Array (Option Value)} {oc kV dc pm cd ct : Value}
    (l : K.lookup f = some ⟨oc, od, .func (PySem.W.fnOf "need_figure" "need_figure" (defArgs s_need_figure) (defBody s_need_figure) (defScope s_need_figure) .none kV dc pm an cd ct), sl⟩) (c : PySem.W.codeIn K cd "need_figure" = true) :
    FnG P w K mg base (L2N.CX P w) 3 f (PySem.W.fnOf "need_figure" "need_figure" (defArgs s_need_figure) (defBody s_need_figure) (defScope s_need_figure) .none kV dc pm an cd ct) ["value"] (spM K mg F_need_figure) :=
  fg_body (m := m_need_figure) l c sc_need_figure (fun A fr s H E hr => by
    have sc := sc_need_figure
    have po := passes_of (X := cxOf (L2N.CX P w) P w K mg base ["value"] "need_figure" (defScope s_need_figure) f cd A fr s H E) rfl
    exact (sss_one (ss_if (st_not (st_v (sv_r (sr_calD C_is_figure_1 hr (sx_v (sv_var (pv 0)) sx_nil))))) (sss_one (ss_raise K_BadFigure hr rfl (sa_cons (sv_var (pv 0)) sa_nil))) sss_nil))) fun _ _ h => mkF_ok h
abbrev s_joined_rows : Stmt := topS 18
theorem sc_joined_rows : FnScope ["one", "other", "place"] ["one", "other"] (defScope s_joined_rows) := ⟨rfl, rfl, rfl, by decide +kernel, rfl, by decide +kernel, by decide +kernel⟩
theorem ok_joined_rows (T : Tx K mg C_LineError C_BadFigure C_BadNumber) {f : Addr} {od an : Option Addr} {sl : Array (Option Value)} {oc kV dc pm cd ct : Value}
    (l : K.lookup f = some ⟨oc, od, .func (PySem.W.fnOf "joined_rows" "joined_rows" (defArgs s_joined_rows) (defBody s_joined_rows) (defScope s_joined_rows) .none kV dc pm an cd ct), sl⟩) (c : PySem.W.codeIn K cd "joined_rows" = true) :
    FnG P w K mg base (L2N.CX P w) 1 f (PySem.W.fnOf "joined_rows" "joined_rows" (defArgs s_joined_rows) (defBody s_joined_rows) (defScope s_joined_rows) .none kV dc pm an cd ct) ["one", "other"] (spM K mg F_joined_rows) :=
  fg_body (m := m_joined_rows) l c sc_joined_rows (fun A fr s H E hr => by
    have sc := sc_joined_rows
    have po := passes_of (X := cxOf (L2N.CX P w) P w K mg base ["one", "other", "place"] "joined_rows" (defScope s_joined_rows) f cd A fr s H E) rfl
    exact (sss_one (ss_ret (sr_v (sv_tuple (sr_lc (own := [("place", 2)]) (js := [2]) rfl sc.nd (si_seq (sv_var (pv 0))) (blkOk_by (sc := defScope s_joined_rows) (by (show blkC ["one", "other", "place"] _ _ _ = true); decide +kernel)) (fun _ _ _ _ _ => (sg_name sc.nd rfl (by first | exact Or.inl rfl | exact Or.inr rfl) (by first | exact .inl rfl | exact .inr rfl))) (fun _ _ _ _ _ => sif_nil) (fun _ _ _ _ _ => (sv_ix (sr_peek (pv 1)) (sv_var (pv 2)))) (by decide)) T.z_tuple))))) fun _ _ h => mkF_ok h
abbrev s_then : Stmt := topS 22
theorem sc_then : FnScope ["one", "other"] ["one", "other"] (defScope s_then) := ⟨rfl, rfl, rfl, by decide +kernel, rfl, by decide +kernel, by decide +kernel⟩
theorem ok_then {a_need_figure : Addr} {d_need_figure : FuncData} (C_need_figure : Cal P w K mg base "need_figure" 3 a_need_figure d_need_figure ["value"] F_need_figure) {a_joined_rows : Addr} {d_joined_rows : FuncData} (C_joined_rows : Cal P w K mg base "joined_rows" 1 a_joined_rows d_joined_rows ["one", "other"] F_joined_rows) {I_BadFigure : Addr} {D_BadFigure : FuncData} (K_BadFigure : ErrK P w K mg base "BadFigure" C_BadFigure I_BadFigure D_BadFigure ["self", "value"] ["value"]) (T : Tx K mg C_LineError C_BadFigure C_BadNumber) {f : Addr} {od an : Option Addr} {sl : Array (Option Value)} {oc kV dc pm cd ct : Value}
    (l : K.lookup f = some ⟨oc, od, .func (PySem.W.fnOf "then" "then" (defArgs s_then) (defBody s_then) (defScope s_then) .none kV dc pm an cd ct), sl⟩) (c : PySem.W.codeIn K cd "then" = true) :
    FnG P w K mg base (L2N.CX P w) 4 f (PySem.W.fnOf "then" "then" (defArgs s_then) (defBody s_then) (defScope s_then) .none kV dc pm an cd ct) ["one", "other"] (spM K mg F_then) :=
  fg_body (m := m_then) l c sc_then (fun A fr s H E hr => by
    have sc := sc_then
    have po := passes_of (X := cxOf (L2N.CX P w) P w K mg base ["one", "other"] "then" (defScope s_then) f cd A fr s H E) rfl
    exact (sss_cons (ss_exprR (sr_cal C_need_figure hr (sx_v (sv_var (pv 0)) sx_nil)))
    (sss_cons (ss_exprR (sr_cal C_need_figure hr (sx_v (sv_var (pv 1)) sx_nil)))
    (sss_cons (ss_if (st_ne hr.hu (sr_v (sv_len (sr_peek (pv 0)) T.z_len)) (sr_v (sv_len (sr_peek (pv 1)) T.z_len))) (sss_one (ss_raise K_BadFigure hr rfl (sa_cons (sv_var (pv 1)) sa_nil))) sss_nil)
    (sss_one (ss_ret (sr_cal C_joined_rows hr (sx_v (sv_var (pv 0)) (sx_v (sv_var (pv 1)) sx_nil))))))))) fun _ _ h => mkF_ok h
abbrev s_back_row : Stmt := topS 19
theorem sc_back_row : FnScope ["row", "found", "place", "goal"] ["row"] (defScope s_back_row) := ⟨rfl, rfl, rfl, by decide +kernel, rfl, by decide +kernel, by decide +kernel⟩
theorem ok_back_row (T : Tx K mg C_LineError C_BadFigure C_BadNumber) {f : Addr} {od an : Option Addr} {sl : Array (Option Value)} {oc kV dc pm cd ct : Value}
    (l : K.lookup f = some ⟨oc, od, .func (PySem.W.fnOf "back_row" "back_row" (defArgs s_back_row) (defBody s_back_row) (defScope s_back_row) .none kV dc pm an cd ct), sl⟩) (c : PySem.W.codeIn K cd "back_row" = true) :
    FnG P w K mg base (L2N.CX P w) 1 f (PySem.W.fnOf "back_row" "back_row" (defArgs s_back_row) (defBody s_back_row) (defScope s_back_row) .none kV dc pm an cd ct) ["row"] (spM K mg F_back_row) :=
  fg_body (m := m_back_row) l c sc_back_row (fun A fr s H E hr => by
    have sc := sc_back_row
    have po := passes_of (X := cxOf (L2N.CX P w) P w K mg base ["row", "found", "place", "goal"] "back_row" (defScope s_back_row) f cd A fr s H E) rfl
    exact (sss_cons (ss_set (j := 1) (sr_rep (sr_lst (sa_cons sv_int sa_nil)) (sv_len (sr_peek (pv 0)) T.z_len)) sc.nd rfl (by first | exact Or.inl rfl | exact Or.inr rfl) (.inl rfl))
    (sss_cons (ss_for po rfl (si_enum (sv_var (pv 0)) T.z_enumerate) (sg_tup rfl (sgs_cons (sg_name sc.nd rfl (by first | exact Or.inl rfl | exact Or.inr rfl) (by first | exact .inl rfl | exact .inr rfl)) (sgs_cons (sg_name sc.nd rfl (by first | exact Or.inl rfl | exact Or.inr rfl) (by first | exact .inl rfl | exact .inr rfl)) sgs_nil)) (fun _ _ _ h => gs2_len h)) (sss_one (ss_setIx (sv_var (pv 2)) (pv 1) (sv_var (pv 3)))))
    (sss_one (ss_ret (sr_v (sv_tuple (sr_peek (pv 1)) T.z_tuple))))))) fun _ _ h => mkF_ok h
abbrev s_back : Stmt := topS 23
theorem sc_back : FnScope ["figure"] ["figure"] (defScope s_back) := ⟨rfl, rfl, rfl, by decide +kernel, rfl, by decide +kernel, by decide +kernel⟩
theorem ok_back {a_need_figure : Addr} {d_need_figure : FuncData} (C_need_figure : Cal P w K mg base "need_figure" 3 a_need_figure d_need_figure ["value"] F_need_figure) {a_back_row : Addr} {d_back_row : FuncData} (C_back_row : Cal P w K mg base "back_row" 1 a_back_row d_back_row ["row"] F_back_row) (T : Tx K mg C_LineError C_BadFigure C_BadNumber) {f : Addr} {od an : Option Addr} {sl : Array (Option Value)} {oc kV dc pm cd ct : Value}
    (l : K.lookup f = some ⟨oc, od, .func (PySem.W.fnOf "back" "back" (defArgs s_back) (defBody s_back) (defScope s_back) .none kV dc pm an cd ct), sl⟩) (c : PySem.W.codeIn K cd "back" = true) :
    FnG P w K mg base (L2N.CX P w) 4 f (PySem.W.fnOf "back" "back" (defArgs s_back) (defBody s_back) (defScope s_back) .none kV dc pm an cd ct) ["figure"] (spM K mg F_back) :=
  fg_body (m := m_back) l c sc_back (fun A fr s H E hr => by
    have sc := sc_back
    have po := passes_of (X := cxOf (L2N.CX P w) P w K mg base ["figure"] "back" (defScope s_back) f cd A fr s H E) rfl
    exact (sss_cons (ss_exprR (sr_cal C_need_figure hr (sx_v (sv_var (pv 0)) sx_nil)))
    (sss_one (ss_ret (sr_cal C_back_row hr (sx_v (sv_var (pv 0)) sx_nil)))))) fun _ _ h => mkF_ok h
abbrev s_is_within : Stmt := topS 7
theorem sc_is_within : FnScope ["value", "least", "most"] ["value", "least", "most"] (defScope s_is_within) := ⟨rfl, rfl, rfl, by decide +kernel, rfl, by decide +kernel, by decide +kernel⟩
theorem ok_is_within {a_is_integer : Addr} {d_is_integer : FuncData} (C_is_integer : Cal P w K mg base "is_integer" 1 a_is_integer d_is_integer ["value"] F_is_integer) (T : Tx K mg C_LineError C_BadFigure C_BadNumber) {f : Addr} {od an : Option Addr} {sl : Array (Option Value)} {oc kV dc pm cd ct : Value}
    (l : K.lookup f = some ⟨oc, od, .func (PySem.W.fnOf "is_within" "is_within" (defArgs s_is_within) (defBody s_is_within) (defScope s_is_within) .none kV dc pm an cd ct), sl⟩) (c : PySem.W.codeIn K cd "is_within" = true) :
    FnG P w K mg base (L2N.CX P w) 2 f (PySem.W.fnOf "is_within" "is_within" (defArgs s_is_within) (defBody s_is_within) (defScope s_is_within) .none kV dc pm an cd ct) ["value", "least", "most"] (spM K mg F_is_within) :=
  fg_body (m := m_is_within) l c sc_is_within (fun A fr s H E hr => by
    have sc := sc_is_within
    have po := passes_of (X := cxOf (L2N.CX P w) P w K mg base ["value", "least", "most"] "is_within" (defScope s_is_within) f cd A fr s H E) rfl
    exact (sss_cons (ss_if (st_not (st_v (sv_r (sr_cal C_is_integer hr (sx_v (sv_var (pv 0)) sx_nil))))) (sss_one (ss_ret (sr_v sv_bl))) sss_nil)
    (sss_one (ss_ret (sr_v (sv_andV (sv_orV (sv_isN (sr_peek (pv 1)) (sr_v sv_non)) (sv_one (sv_ge (sv_var (pv 0)) (sv_var (pv 1))))) (sv_one (sv_orV (sv_isN (sr_peek (pv 2)) (sr_v sv_non)) (sv_one (sv_le (sv_var (pv 0)) (sv_var (pv 2)))))))))))) fun _ _ h => mkF_ok h
abbrev s_need_within : Stmt := topS 9
theorem sc_need_within : FnScope ["value", "least", "most", "part"] ["value", "least", "most", "part"] (defScope s_need_within) := ⟨rfl, rfl, rfl, by decide +kernel, rfl, by decide +kernel, by decide +kernel⟩
theorem ok_need_within {a_is_within : Addr} {d_is_within : FuncData} (C_is_within : Cal P w K mg base "is_within" 2 a_is_within d_is_within ["value", "least", "most"] F_is_within) {I_BadNumber : Addr} {D_BadNumber : FuncData} (K_BadNumber : ErrK P w K mg base "BadNumber" C_BadNumber I_BadNumber D_BadNumber ["self", "part"] ["part"]) (T : Tx K mg C_LineError C_BadFigure C_BadNumber) {f : Addr} {od an : Option Addr} {sl : Array (Option Value)} {oc kV dc pm cd ct : Value}
    (l : K.lookup f = some ⟨oc, od, .func (PySem.W.fnOf "need_within" "need_within" (defArgs s_need_within) (defBody s_need_within) (defScope s_need_within) .none kV dc pm an cd ct), sl⟩) (c : PySem.W.codeIn K cd "need_within" = true) :
    FnG P w K mg base (L2N.CX P w) 3 f (PySem.W.fnOf "need_within" "need_within" (defArgs s_need_within) (defBody s_need_within) (defScope s_need_within) .none kV dc pm an cd ct) ["value", "least", "most", "part"] (spM K mg F_need_within) :=
  fg_body (m := m_need_within) l c sc_need_within (fun A fr s H E hr => by
    have sc := sc_need_within
    have po := passes_of (X := cxOf (L2N.CX P w) P w K mg base ["value", "least", "most", "part"] "need_within" (defScope s_need_within) f cd A fr s H E) rfl
    exact (sss_one (ss_if (st_not (st_v (sv_r (sr_cal C_is_within hr (sx_v (sv_var (pv 0)) (sx_v (sv_var (pv 1)) (sx_v (sv_var (pv 2)) sx_nil))))))) (sss_one (ss_raise K_BadNumber hr rfl (sa_cons (sv_var (pv 3)) sa_nil))) sss_nil))) fun _ _ h => mkF_ok h
abbrev s_cycles_of : Stmt := topS 20
theorem sc_cycles_of : FnScope ["row", "first", "found", "seen", "cycle", "place"] ["row"] (defScope s_cycles_of) := ⟨rfl, rfl, rfl, by decide +kernel, rfl, by decide +kernel, by decide +kernel⟩
theorem ok_cycles_of (T : Tx K mg C_LineError C_BadFigure C_BadNumber) {f : Addr} {od an : Option Addr} {sl : Array (Option Value)} {oc kV dc pm cd ct : Value}
    (l : K.lookup f = some ⟨oc, od, .func (PySem.W.fnOf "cycles_of" "cycles_of" (defArgs s_cycles_of) (defBody s_cycles_of) (defScope s_cycles_of) .none kV dc pm an cd ct), sl⟩) (c : PySem.W.codeIn K cd "cycles_of" = true) :
    FnG P w K mg base (L2N.CX P w) 1 f (PySem.W.fnOf "cycles_of" "cycles_of" (defArgs s_cycles_of) (defBody s_cycles_of) (defScope s_cycles_of) .none kV dc pm an cd ct) ["row"] (spM K mg F_cycles_of) :=
  fg_body (m := m_cycles_of) l c sc_cycles_of (fun A fr s H E hr => by
    have sc := sc_cycles_of
    have po := passes_of (X := cxOf (L2N.CX P w) P w K mg base ["row", "first", "found", "seen", "cycle", "place"] "cycles_of" (defScope s_cycles_of) f cd A fr s H E) rfl
    exact (sss_cons (ss_par (i := 2) (j := 3) (sp_pair (sr_lst sa_nil) (sr_rep (sr_lst (sa_cons sv_bl sa_nil)) (sv_len (sr_peek (pv 0)) T.z_len))) rfl sc.nd rfl rfl (by decide) rfl rfl (by first | rfl | kernel_rfl))
    (sss_cons (ss_for po rfl (si_range1 (sv_len (sr_peek (pv 0)) T.z_len) T.z_range) (sg_name sc.nd rfl (by first | exact Or.inl rfl | exact Or.inr rfl) (by first | exact .inl rfl | exact .inr rfl)) (sss_cons (ss_if (st_v (sv_ix (sr_peek (pv 3)) (sv_var (pv 1)))) (sss_one ss_continue) sss_nil)
    (sss_cons (ss_par (i := 4) (j := 5) (sp_pair (sr_lst sa_nil) (sr_v (sv_var (pv 1)))) rfl sc.nd rfl rfl (by decide) rfl rfl (by first | rfl | kernel_rfl))
    (sss_cons (ss_while po (st_not (st_v (sv_ix (sr_peek (pv 3)) (sv_var (pv 5))))) (sss_cons (ss_setIx sv_bl (pv 3) (sv_var (pv 5)))
    (sss_cons (ss_expr (sv_append (pv 4) (sv_var (pv 5))))
    (sss_one (ss_set (j := 5) (sr_v (sv_ix (sr_peek (pv 0)) (sv_var (pv 5)))) sc.nd rfl (by first | exact Or.inl rfl | exact Or.inr rfl) (.inl rfl))))))
    (sss_one (ss_expr (sv_append (pv 2) (sv_tuple (sr_peek (pv 4)) T.z_tuple))))))))
    (sss_one (ss_ret (sr_v (sv_tuple (sr_peek (pv 2)) T.z_tuple))))))) fun _ _ h => mkF_ok h
abbrev s_power_row : Stmt := topS 21
theorem sc_power_row : FnScope ["row", "times", "found", "cycle", "at", "place"] ["row", "times"] (defScope s_power_row) := ⟨rfl, rfl, rfl, by decide +kernel, rfl, by decide +kernel, by decide +kernel⟩
theorem ok_power_row {a_cycles_of : Addr} {d_cycles_of : FuncData} (C_cycles_of : Cal P w K mg base "cycles_of" 1 a_cycles_of d_cycles_of ["row"] F_cycles_of) (T : Tx K mg C_LineError C_BadFigure C_BadNumber) {f : Addr} {od an : Option Addr} {sl : Array (Option Value)} {oc kV dc pm cd ct : Value}
    (l : K.lookup f = some ⟨oc, od, .func (PySem.W.fnOf "power_row" "power_row" (defArgs s_power_row) (defBody s_power_row) (defScope s_power_row) .none kV dc pm an cd ct), sl⟩) (c : PySem.W.codeIn K cd "power_row" = true) :
    FnG P w K mg base (L2N.CX P w) 2 f (PySem.W.fnOf "power_row" "power_row" (defArgs s_power_row) (defBody s_power_row) (defScope s_power_row) .none kV dc pm an cd ct) ["row", "times"] (spM K mg F_power_row) :=
  fg_body (m := m_power_row) l c sc_power_row (fun A fr s H E hr => by
    have sc := sc_power_row
    have po := passes_of (X := cxOf (L2N.CX P w) P w K mg base ["row", "times", "found", "cycle", "at", "place"] "power_row" (defScope s_power_row) f cd A fr s H E) rfl
    exact (sss_cons (ss_set (j := 2) (sr_rep (sr_lst (sa_cons sv_int sa_nil)) (sv_len (sr_peek (pv 0)) T.z_len)) sc.nd rfl (by first | exact Or.inl rfl | exact Or.inr rfl) (.inl rfl))
    (sss_cons (ss_for po rfl (si_seq (sv_r (sr_cal C_cycles_of hr (sx_v (sv_var (pv 0)) sx_nil)))) (sg_name sc.nd rfl (by first | exact Or.inl rfl | exact Or.inr rfl) (by first | exact .inl rfl | exact .inr rfl)) (sss_one (ss_for po rfl (si_enum (sv_var (pv 3)) T.z_enumerate) (sg_tup rfl (sgs_cons (sg_name sc.nd rfl (by first | exact Or.inl rfl | exact Or.inr rfl) (by first | exact .inl rfl | exact .inr rfl)) (sgs_cons (sg_name sc.nd rfl (by first | exact Or.inl rfl | exact Or.inr rfl) (by first | exact .inl rfl | exact .inr rfl)) sgs_nil)) (fun _ _ _ h => gs2_len h)) (sss_one (ss_setIx (sv_ix (sr_peek (pv 3)) (sv_mod (sv_add (sv_var (pv 4)) (sv_var (pv 1))) (sv_len (sr_peek (pv 3)) T.z_len))) (pv 2) (sv_var (pv 5)))))))
    (sss_one (ss_ret (sr_v (sv_tuple (sr_peek (pv 2)) T.z_tuple))))))) fun _ _ h => mkF_ok h
abbrev s_power : Stmt := topS 24
theorem sc_power : FnScope ["figure", "times"] ["figure", "times"] (defScope s_power) := ⟨rfl, rfl, rfl, by decide +kernel, rfl, by decide +kernel, by decide +kernel⟩
theorem ok_power {a_need_figure : Addr} {d_need_figure : FuncData} (C_need_figure : Cal P w K mg base "need_figure" 3 a_need_figure d_need_figure ["value"] F_need_figure) {a_need_within : Addr} {d_need_within : FuncData} (C_need_within : Cal P w K mg base "need_within" 3 a_need_within d_need_within ["value", "least", "most", "part"] F_need_within) {a_power_row : Addr} {d_power_row : FuncData} (C_power_row : Cal P w K mg base "power_row" 2 a_power_row d_power_row ["row", "times"] F_power_row) (T : Tx K mg C_LineError C_BadFigure C_BadNumber) {f : Addr} {od an : Option Addr} {sl : Array (Option Value)} {oc kV dc pm cd ct : Value}
    (l : K.lookup f = some ⟨oc, od, .func (PySem.W.fnOf "power" "power" (defArgs s_power) (defBody s_power) (defScope s_power) .none kV dc pm an cd ct), sl⟩) (c : PySem.W.codeIn K cd "power" = true) :
    FnG P w K mg base (L2N.CX P w) 4 f (PySem.W.fnOf "power" "power" (defArgs s_power) (defBody s_power) (defScope s_power) .none kV dc pm an cd ct) ["figure", "times"] (spM K mg F_power) :=
  fg_body (m := m_power) l c sc_power (fun A fr s H E hr => by
    have sc := sc_power
    have po := passes_of (X := cxOf (L2N.CX P w) P w K mg base ["figure", "times"] "power" (defScope s_power) f cd A fr s H E) rfl
    exact (sss_cons (ss_exprR (sr_cal C_need_figure hr (sx_v (sv_var (pv 0)) sx_nil)))
    (sss_cons (ss_exprR (sr_cal C_need_within hr (sx_v (sv_var (pv 1)) (sx_v (sv_negF (sv_glob T.c_LARGEST.choose_spec (v := .int 1000000000000) ⟨_, rfl⟩ (fun _ => .int _))) (sx_v (sv_glob T.c_LARGEST.choose_spec (v := .int 1000000000000) ⟨_, rfl⟩ (fun _ => .int _)) (sx_v sv_str sx_nil))))))
    (sss_one (ss_ret (sr_cal C_power_row hr (sx_v (sv_var (pv 0)) (sx_v (sv_var (pv 1)) sx_nil)))))))) fun _ _ h => mkF_ok h
abbrev s_cycles : Stmt := topS 25
theorem sc_cycles : FnScope ["figure"] ["figure"] (defScope s_cycles) := ⟨rfl, rfl, rfl, by decide +kernel, rfl, by decide +kernel, by decide +kernel⟩
theorem ok_cycles {a_need_figure : Addr} {d_need_figure : FuncData} (C_need_figure : Cal P w K mg base "need_figure" 3 a_need_figure d_need_figure ["value"] F_need_figure) {a_cycles_of : Addr} {d_cycles_of : FuncData} (C_cycles_of : Cal P w K mg base "cycles_of" 1 a_cycles_of d_cycles_of ["row"] F_cycles_of) (T : Tx K mg C_LineError C_BadFigure C_BadNumber) {f : Addr} {od an : Option Addr} {sl : Array (Option Value)} {oc kV dc pm cd ct : Value}
    (l : K.lookup f = some ⟨oc, od, .func (PySem.W.fnOf "cycles" "cycles" (defArgs s_cycles) (defBody s_cycles) (defScope s_cycles) .none kV dc pm an cd ct), sl⟩) (c : PySem.W.codeIn K cd "cycles" = true) :
    FnG P w K mg base (L2N.CX P w) 4 f (PySem.W.fnOf "cycles" "cycles" (defArgs s_cycles) (defBody s_cycles) (defScope s_cycles) .none kV dc pm an cd ct) ["figure"] (spM K mg F_cycles) :=
  fg_body (m := m_cycles) l c sc_cycles (fun A fr s H E hr => by
    have sc := sc_cycles
    have po := passes_of (X := cxOf (L2N.CX P w) P w K mg base ["figure"] "cycles" (defScope s_cycles) f cd A fr s H E) rfl
    exact (sss_cons (ss_exprR (sr_cal C_need_figure hr (sx_v (sv_var (pv 0)) sx_nil)))
    (sss_one (ss_ret (sr_cal C_cycles_of hr (sx_v (sv_var (pv 0)) sx_nil)))))) fun _ _ h => mkF_ok h
abbrev s_order : Stmt := topS 26
theorem sc_order : FnScope ["figure", "found", "cycle"] ["figure"] (defScope s_order) := ⟨rfl, rfl, rfl, by decide +kernel, rfl, by decide +kernel, by decide +kernel⟩
theorem ok_order {a_need_figure : Addr} {d_need_figure : FuncData} (C_need_figure : Cal P w K mg base "need_figure" 3 a_need_figure d_need_figure ["value"] F_need_figure) {a_cycles_of : Addr} {d_cycles_of : FuncData} (C_cycles_of : Cal P w K mg base "cycles_of" 1 a_cycles_of d_cycles_of ["row"] F_cycles_of) (T : Tx K mg C_LineError C_BadFigure C_BadNumber) {f : Addr} {od an : Option Addr} {sl : Array (Option Value)} {oc kV dc pm cd ct : Value}
    (l : K.lookup f = some ⟨oc, od, .func (PySem.W.fnOf "order" "order" (defArgs s_order) (defBody s_order) (defScope s_order) .none kV dc pm an cd ct), sl⟩) (c : PySem.W.codeIn K cd "order" = true) :
    FnG P w K mg base (L2N.CX P w) 4 f (PySem.W.fnOf "order" "order" (defArgs s_order) (defBody s_order) (defScope s_order) .none kV dc pm an cd ct) ["figure"] (spM K mg F_order) :=
  fg_body (m := m_order) l c sc_order (fun A fr s H E hr => by
    have sc := sc_order
    have po := passes_of (X := cxOf (L2N.CX P w) P w K mg base ["figure", "found", "cycle"] "order" (defScope s_order) f cd A fr s H E) rfl
    exact (sss_cons (ss_exprR (sr_cal C_need_figure hr (sx_v (sv_var (pv 0)) sx_nil)))
    (sss_cons (ss_set (j := 1) (sr_v sv_int) sc.nd rfl (by first | exact Or.inl rfl | exact Or.inr rfl) (.inl rfl))
    (sss_cons (ss_for po rfl (si_seq (sv_r (sr_cal C_cycles_of hr (sx_v (sv_var (pv 0)) sx_nil)))) (sg_name sc.nd rfl (by first | exact Or.inl rfl | exact Or.inr rfl) (by first | exact .inl rfl | exact .inr rfl)) (sss_one (ss_set (j := 1) (sr_v (sv_lcm (sv_var (pv 1)) (sv_len (sr_peek (pv 2)) T.z_len) T.i_lcm)) sc.nd rfl (by first | exact Or.inl rfl | exact Or.inr rfl) (.inl rfl))))
    (sss_one (ss_ret (sr_take (pv 1)))))))) fun _ _ h => mkF_ok h
abbrev s_exchanges : Stmt := topS 27
theorem sc_exchanges : FnScope ["figure", "found", "cycle", "place"] ["figure"] (defScope s_exchanges) := ⟨rfl, rfl, rfl, by decide +kernel, rfl, by decide +kernel, by decide +kernel⟩
theorem ok_exchanges {a_need_figure : Addr} {d_need_figure : FuncData} (C_need_figure : Cal P w K mg base "need_figure" 3 a_need_figure d_need_figure ["value"] F_need_figure) {a_cycles_of : Addr} {d_cycles_of : FuncData} (C_cycles_of : Cal P w K mg base "cycles_of" 1 a_cycles_of d_cycles_of ["row"] F_cycles_of) (T : Tx K mg C_LineError C_BadFigure C_BadNumber) {f : Addr} {od an : Option Addr} {sl : Array (Option Value)} {oc kV dc pm cd ct : Value}
    (l : K.lookup f = some ⟨oc, od, .func (PySem.W.fnOf "exchanges" "exchanges" (defArgs s_exchanges) (defBody s_exchanges) (defScope s_exchanges) .none kV dc pm an cd ct), sl⟩) (c : PySem.W.codeIn K cd "exchanges" = true) :
    FnG P w K mg base (L2N.CX P w) 4 f (PySem.W.fnOf "exchanges" "exchanges" (defArgs s_exchanges) (defBody s_exchanges) (defScope s_exchanges) .none kV dc pm an cd ct) ["figure"] (spM K mg F_exchanges) :=
  fg_body (m := m_exchanges) l c sc_exchanges (fun A fr s H E hr => by
    have sc := sc_exchanges
    have po := passes_of (X := cxOf (L2N.CX P w) P w K mg base ["figure", "found", "cycle", "place"] "exchanges" (defScope s_exchanges) f cd A fr s H E) rfl
    exact (sss_cons (ss_exprR (sr_cal C_need_figure hr (sx_v (sv_var (pv 0)) sx_nil)))
    (sss_cons (ss_set (j := 1) (sr_lst sa_nil) sc.nd rfl (by first | exact Or.inl rfl | exact Or.inr rfl) (.inl rfl))
    (sss_cons (ss_for po rfl (si_seq (sv_r (sr_cal C_cycles_of hr (sx_v (sv_var (pv 0)) sx_nil)))) (sg_name sc.nd rfl (by first | exact Or.inl rfl | exact Or.inr rfl) (by first | exact .inl rfl | exact .inr rfl)) (sss_one (ss_for po rfl (si_seq (sv_r (sr_slice (sr_peek (pv 2)) (sp_some sv_int) sp_none))) (sg_name sc.nd rfl (by first | exact Or.inl rfl | exact Or.inr rfl) (by first | exact .inl rfl | exact .inr rfl)) (sss_one (ss_expr (sv_append (pv 1) (sv_tup (sa_cons (sv_ix (sr_peek (pv 2)) sv_int) (sa_cons (sv_var (pv 3)) sa_nil)))))))))
    (sss_one (ss_ret (sr_v (sv_tuple (sr_peek (pv 1)) T.z_tuple)))))))) fun _ _ h => mkF_ok h
abbrev s__law_refused : Stmt := topS 34
theorem sc__law_refused : FnScope ["value", "found", "name", "e", "word", "kept"] ["value"] (defScope s__law_refused) := ⟨rfl, rfl, rfl, by decide +kernel, rfl, by decide +kernel, by decide +kernel⟩
theorem ok__law_refused {a_then : Addr} {d_then : FuncData} (C_then : Cal P w K mg base "then" 4 a_then d_then ["one", "other"] F_then) {a_back : Addr} {d_back : FuncData} (C_back : Cal P w K mg base "back" 4 a_back d_back ["figure"] F_back) {a_power : Addr} {d_power : FuncData} (C_power : Cal P w K mg base "power" 4 a_power d_power ["figure", "times"] F_power) {a_cycles : Addr} {d_cycles : FuncData} (C_cycles : Cal P w K mg base "cycles" 4 a_cycles d_cycles ["figure"] F_cycles) {a_order : Addr} {d_order : FuncData} (C_order : Cal P w K mg base "order" 4 a_order d_order ["figure"] F_order) {a_exchanges : Addr} {d_exchanges : FuncData} (C_exchanges : Cal P w K mg base "exchanges" 4 a_exchanges d_exchanges ["figure"] F_exchanges) (T : Tx K mg C_LineError C_BadFigure C_BadNumber) {f : Addr} {od an : Option Addr} {sl : Array (Option Value)} {oc kV dc pm cd ct : Value}
    (l : K.lookup f = some ⟨oc, od, .func (PySem.W.fnOf "_law_refused" "_law_refused" (defArgs s__law_refused) (defBody s__law_refused) (defScope s__law_refused) .none kV dc pm an cd ct), sl⟩) (c : PySem.W.codeIn K cd "_law_refused" = true) :
    FnG P w K mg base (L2N.CX P w) 5 f (PySem.W.fnOf "_law_refused" "_law_refused" (defArgs s__law_refused) (defBody s__law_refused) (defScope s__law_refused) .none kV dc pm an cd ct) ["value"] (spM K mg F__law_refused) :=
  fg_body (m := m__law_refused) l c sc__law_refused (fun A fr s H E hr => by
    have sc := sc__law_refused
    have po := passes_of (X := cxOf (L2N.CX P w) P w K mg base ["value", "found", "name", "e", "word", "kept"] "_law_refused" (defScope s__law_refused) f cd A fr s H E) rfl
    exact (sss_cons (ss_set (j := 1) (sr_lst sa_nil) sc.nd rfl (by first | exact Or.inl rfl | exact Or.inr rfl) (.inl rfl))
    (sss_cons (ss_for po rfl (si_seq (sv_tup (sa_cons sv_str (sa_cons sv_str (sa_cons sv_str (sa_cons sv_str (sa_cons sv_str (sa_cons sv_str (sa_cons sv_str sa_nil))))))))) (sg_name sc.nd rfl (by first | exact Or.inl rfl | exact Or.inr rfl) (by first | exact .inl rfl | exact .inr rfl)) (sss_cons (ss_unp (sv_tup (sa_cons sv_str (sa_cons sv_non sa_nil))) (sg_tup rfl (sgs_cons (sg_name sc.nd rfl (by first | exact Or.inl rfl | exact Or.inr rfl) (by first | exact .inl rfl | exact .inr rfl)) (sgs_cons (sg_name sc.nd rfl (by first | exact Or.inl rfl | exact Or.inr rfl) (by first | exact .inl rfl | exact .inr rfl)) sgs_nil)) (fun _ _ _ h => gs2_len h)))
    (sss_cons (ss_try sc.nd (fun pn xe po => (sss_cons (ss_if (st_eq hr.hu (sr_peek (pv 2)) (sr_v sv_str)) (sss_one (ss_exprR (sr_cal C_then hr (sx_v (sv_var (pv 0)) (sx_v (sv_tup (sa_cons sv_int (sa_cons sv_int sa_nil))) sx_nil))))) sss_nil)
    (sss_cons (ss_if (st_eq hr.hu (sr_peek (pv 2)) (sr_v sv_str)) (sss_one (ss_exprR (sr_cal C_then hr (sx_v (sv_tup (sa_cons sv_int (sa_cons sv_int sa_nil))) (sx_v (sv_var (pv 0)) sx_nil))))) sss_nil)
    (sss_cons (ss_if (st_eq hr.hu (sr_peek (pv 2)) (sr_v sv_str)) (sss_one (ss_exprR (sr_cal C_back hr (sx_v (sv_var (pv 0)) sx_nil)))) sss_nil)
    (sss_cons (ss_if (st_eq hr.hu (sr_peek (pv 2)) (sr_v sv_str)) (sss_one (ss_exprR (sr_cal C_power hr (sx_v (sv_var (pv 0)) (sx_v (sv_pow sv_int sv_int) sx_nil))))) sss_nil)
    (sss_cons (ss_if (st_eq hr.hu (sr_peek (pv 2)) (sr_v sv_str)) (sss_one (ss_exprR (sr_cal C_cycles hr (sx_v (sv_var (pv 0)) sx_nil)))) sss_nil)
    (sss_cons (ss_if (st_eq hr.hu (sr_peek (pv 2)) (sr_v sv_str)) (sss_one (ss_exprR (sr_cal C_order hr (sx_v (sv_var (pv 0)) sx_nil)))) sss_nil)
    (sss_one (ss_if (st_eq hr.hu (sr_peek (pv 2)) (sr_v sv_str)) (sss_one (ss_exprR (sr_cal C_exchanges hr (sx_v (sv_var (pv 0)) sx_nil)))) sss_nil))))))))) (.as_ (i := 3) (names_own T.g_BadFigure) T.h_BadFigure.at rfl rfl (fun a pn => (sus_par (i := 4) (j := 5) (sp_pair (sr_v sv_str) (sr_v (sv_fld (sr_peek (pv 3)) T.x_value T.i_value))) sc.nd rfl rfl (by decide) rfl rfl (by first | rfl | kernel_rfl))) (.only (names_own T.g_LineError) T.h_LineError.at (fun a pn => (sus_of (sss_one (ss_set (j := 4) (sr_v sv_str) sc.nd rfl (by first | exact Or.inl rfl | exact Or.inr rfl) (.inl rfl))))) .nil)))
    (sss_one (ss_if (st_w (sw_or (st_ne hr.hu (sr_peek (pv 4)) (sr_v sv_str)) (sw_or1 (st_ne hr.hu (sr_v (sv_reprD hr (sr_peek (pv 5)) T.z_repr)) (sr_v (sv_reprD hr (sr_peek (pv 0)) T.z_repr)))))) (sss_one (ss_expr (sv_append (pv 1) (sv_var (pv 2))))) sss_nil)))))
    (sss_one (ss_ret (sr_take (pv 1))))))) fun _ _ h => mkF_ok h
abbrev s_still : Stmt := topS 15
theorem sc_still : FnScope ["couples"] ["couples"] (defScope s_still) := ⟨rfl, rfl, rfl, by decide +kernel, rfl, by decide +kernel, by decide +kernel⟩
theorem ok_still {a_need_within : Addr} {d_need_within : FuncData} (C_need_within : Cal P w K mg base "need_within" 3 a_need_within d_need_within ["value", "least", "most", "part"] F_need_within) (T : Tx K mg C_LineError C_BadFigure C_BadNumber) {f : Addr} {od an : Option Addr} {sl : Array (Option Value)} {oc kV dc pm cd ct : Value}
    (l : K.lookup f = some ⟨oc, od, .func (PySem.W.fnOf "still" "still" (defArgs s_still) (defBody s_still) (defScope s_still) .none kV dc pm an cd ct), sl⟩) (c : PySem.W.codeIn K cd "still" = true) :
    FnG P w K mg base (L2N.CX P w) 4 f (PySem.W.fnOf "still" "still" (defArgs s_still) (defBody s_still) (defScope s_still) .none kV dc pm an cd ct) ["couples"] (spM K mg F_still) :=
  fg_body (m := m_still) l c sc_still (fun A fr s H E hr => by
    have sc := sc_still
    have po := passes_of (X := cxOf (L2N.CX P w) P w K mg base ["couples"] "still" (defScope s_still) f cd A fr s H E) rfl
    exact (sss_cons (ss_exprR (sr_cal C_need_within hr (sx_v (sv_var (pv 0)) (sx_v sv_int (sx_v (sv_glob T.c_GREATEST.choose_spec (v := .int 4) ⟨_, rfl⟩ (fun _ => .int _)) (sx_v sv_str sx_nil))))))
    (sss_one (ss_ret (sr_v (sv_tupRg rfl (sv_mul sv_int (sv_var (pv 0))) T.z_tuple T.z_range)))))) fun _ _ h => mkF_ok h
abbrev s_crossed : Stmt := topS 16
theorem sc_crossed : FnScope ["couples", "place"] ["couples"] (defScope s_crossed) := ⟨rfl, rfl, rfl, by decide +kernel, rfl, by decide +kernel, by decide +kernel⟩
theorem ok_crossed {a_need_within : Addr} {d_need_within : FuncData} (C_need_within : Cal P w K mg base "need_within" 3 a_need_within d_need_within ["value", "least", "most", "part"] F_need_within) (T : Tx K mg C_LineError C_BadFigure C_BadNumber) {f : Addr} {od an : Option Addr} {sl : Array (Option Value)} {oc kV dc pm cd ct : Value}
    (l : K.lookup f = some ⟨oc, od, .func (PySem.W.fnOf "crossed" "crossed" (defArgs s_crossed) (defBody s_crossed) (defScope s_crossed) .none kV dc pm an cd ct), sl⟩) (c : PySem.W.codeIn K cd "crossed" = true) :
    FnG P w K mg base (L2N.CX P w) 4 f (PySem.W.fnOf "crossed" "crossed" (defArgs s_crossed) (defBody s_crossed) (defScope s_crossed) .none kV dc pm an cd ct) ["couples"] (spM K mg F_crossed) :=
  fg_body (m := m_crossed) l c sc_crossed (fun A fr s H E hr => by
    have sc := sc_crossed
    have po := passes_of (X := cxOf (L2N.CX P w) P w K mg base ["couples", "place"] "crossed" (defScope s_crossed) f cd A fr s H E) rfl
    exact (sss_cons (ss_exprR (sr_cal C_need_within hr (sx_v (sv_var (pv 0)) (sx_v sv_int (sx_v (sv_glob T.c_GREATEST.choose_spec (v := .int 4) ⟨_, rfl⟩ (fun _ => .int _)) (sx_v sv_str sx_nil))))))
    (sss_one (ss_ret (sr_v (sv_tuple (sr_lc (own := [("place", 1)]) (js := [1]) rfl sc.nd (si_range1 (sv_mul sv_int (sv_var (pv 0))) T.z_range) (blkOk_by (sc := defScope s_crossed) (by (show blkC ["couples", "place"] _ _ _ = true); decide +kernel)) (fun _ _ _ _ _ => (sg_name sc.nd rfl (by first | exact Or.inl rfl | exact Or.inr rfl) (by first | exact .inl rfl | exact .inr rfl))) (fun _ _ _ _ _ => sif_nil) (fun _ _ _ _ _ => (sv_sub (sv_add (sv_var (pv 1)) sv_int) (sv_mul sv_int (sv_mod (sv_var (pv 1)) sv_int)))) (by decide)) T.z_tuple)))))) fun _ _ h => mkF_ok h
abbrev s_upended : Stmt := topS 17
theorem sc_upended : FnScope ["couples", "place"] ["couples"] (defScope s_upended) := ⟨rfl, rfl, rfl, by decide +kernel, rfl, by decide +kernel, by decide +kernel⟩
theorem ok_upended {a_need_within : Addr} {d_need_within : FuncData} (C_need_within : Cal P w K mg base "need_within" 3 a_need_within d_need_within ["value", "least", "most", "part"] F_need_within) (T : Tx K mg C_LineError C_BadFigure C_BadNumber) {f : Addr} {od an : Option Addr} {sl : Array (Option Value)} {oc kV dc pm cd ct : Value}
    (l : K.lookup f = some ⟨oc, od, .func (PySem.W.fnOf "upended" "upended" (defArgs s_upended) (defBody s_upended) (defScope s_upended) .none kV dc pm an cd ct), sl⟩) (c : PySem.W.codeIn K cd "upended" = true) :
    FnG P w K mg base (L2N.CX P w) 4 f (PySem.W.fnOf "upended" "upended" (defArgs s_upended) (defBody s_upended) (defScope s_upended) .none kV dc pm an cd ct) ["couples"] (spM K mg F_upended) :=
  fg_body (m := m_upended) l c sc_upended (fun A fr s H E hr => by
    have sc := sc_upended
    have po := passes_of (X := cxOf (L2N.CX P w) P w K mg base ["couples", "place"] "upended" (defScope s_upended) f cd A fr s H E) rfl
    exact (sss_cons (ss_exprR (sr_cal C_need_within hr (sx_v (sv_var (pv 0)) (sx_v sv_int (sx_v (sv_glob T.c_GREATEST.choose_spec (v := .int 4) ⟨_, rfl⟩ (fun _ => .int _)) (sx_v sv_str sx_nil))))))
    (sss_one (ss_ret (sr_v (sv_tuple (sr_lc (own := [("place", 1)]) (js := [1]) rfl sc.nd (si_range1 (sv_mul sv_int (sv_var (pv 0))) T.z_range) (blkOk_by (sc := defScope s_upended) (by (show blkC ["couples", "place"] _ _ _ = true); decide +kernel)) (fun _ _ _ _ _ => (sg_name sc.nd rfl (by first | exact Or.inl rfl | exact Or.inr rfl) (by first | exact .inl rfl | exact .inr rfl))) (fun _ _ _ _ _ => sif_nil) (fun _ _ _ _ _ => (sv_add (sv_mul sv_int (sv_sub (sv_sub (sv_var (pv 0)) sv_int) (sv_div (sv_var (pv 1)) sv_int))) (sv_mod (sv_var (pv 1)) sv_int))) (by decide)) T.z_tuple)))))) fun _ _ h => mkF_ok h
abbrev s__law_number_refused : Stmt := topS 35
theorem sc__law_number_refused : FnScope ["value", "found", "name", "word", "e"] ["value"] (defScope s__law_number_refused) := ⟨rfl, rfl, rfl, by decide +kernel, rfl, by decide +kernel, by decide +kernel⟩
theorem ok__law_number_refused {a_still : Addr} {d_still : FuncData} (C_still : Cal P w K mg base "still" 4 a_still d_still ["couples"] F_still) {a_crossed : Addr} {d_crossed : FuncData} (C_crossed : Cal P w K mg base "crossed" 4 a_crossed d_crossed ["couples"] F_crossed) {a_upended : Addr} {d_upended : FuncData} (C_upended : Cal P w K mg base "upended" 4 a_upended d_upended ["couples"] F_upended) {a_power : Addr} {d_power : FuncData} (C_power : Cal P w K mg base "power" 4 a_power d_power ["figure", "times"] F_power) (T : Tx K mg C_LineError C_BadFigure C_BadNumber) {f : Addr} {od an : Option Addr} {sl : Array (Option Value)} {oc kV dc pm cd ct : Value}
    (l : K.lookup f = some ⟨oc, od, .func (PySem.W.fnOf "_law_number_refused" "_law_number_refused" (defArgs s__law_number_refused) (defBody s__law_number_refused) (defScope s__law_number_refused) .none kV dc pm an cd ct), sl⟩) (c : PySem.W.codeIn K cd "_law_number_refused" = true) :
    FnG P w K mg base (L2N.CX P w) 5 f (PySem.W.fnOf "_law_number_refused" "_law_number_refused" (defArgs s__law_number_refused) (defBody s__law_number_refused) (defScope s__law_number_refused) .none kV dc pm an cd ct) ["value"] (spM K mg F__law_number_refused) :=
  fg_body (m := m__law_number_refused) l c sc__law_number_refused (fun A fr s H E hr => by
    have sc := sc__law_number_refused
    have po := passes_of (X := cxOf (L2N.CX P w) P w K mg base ["value", "found", "name", "word", "e"] "_law_number_refused" (defScope s__law_number_refused) f cd A fr s H E) rfl
    exact (sss_cons (ss_set (j := 1) (sr_lst sa_nil) sc.nd rfl (by first | exact Or.inl rfl | exact Or.inr rfl) (.inl rfl))
    (sss_cons (ss_for po rfl (si_seq (sv_tup (sa_cons sv_str (sa_cons sv_str (sa_cons sv_str (sa_cons sv_str sa_nil)))))) (sg_name sc.nd rfl (by first | exact Or.inl rfl | exact Or.inr rfl) (by first | exact .inl rfl | exact .inr rfl)) (sss_cons (ss_set (j := 3) (sr_v sv_str) sc.nd rfl (by first | exact Or.inl rfl | exact Or.inr rfl) (.inl rfl))
    (sss_cons (ss_try sc.nd (fun pn xe po => (sss_cons (ss_if (st_eq hr.hu (sr_peek (pv 2)) (sr_v sv_str)) (sss_one (ss_exprR (sr_cal C_still hr (sx_v (sv_var (pv 0)) sx_nil)))) sss_nil)
    (sss_cons (ss_if (st_eq hr.hu (sr_peek (pv 2)) (sr_v sv_str)) (sss_one (ss_exprR (sr_cal C_crossed hr (sx_v (sv_var (pv 0)) sx_nil)))) sss_nil)
    (sss_cons (ss_if (st_eq hr.hu (sr_peek (pv 2)) (sr_v sv_str)) (sss_one (ss_exprR (sr_cal C_upended hr (sx_v (sv_var (pv 0)) sx_nil)))) sss_nil)
    (sss_one (ss_if (st_eq hr.hu (sr_peek (pv 2)) (sr_v sv_str)) (sss_one (ss_exprR (sr_cal C_power hr (sx_v (sv_tup (sa_cons sv_int (sa_cons sv_int sa_nil))) (sx_v (sv_if (st_w (sw_or (st_not (st_v (sv_isi (sr_peek (pv 0)) T.z_isinstance T.z_int (by decide +kernel)))) (sw_or1 (st_v (sv_isi (sr_peek (pv 0)) T.z_isinstance T.z_bool (by decide +kernel)))))) (sv_var (pv 0)) (sv_add (sv_add (sv_pow sv_int sv_int) sv_int) (sv_abs (sv_var (pv 0)) T.z_abs))) sx_nil))))) sss_nil)))))) (.as_ (i := 4) (names_own T.g_BadNumber) T.h_BadNumber.at rfl rfl (fun a pn => (sus_of (sss_one (ss_set (j := 3) (sr_v (sv_fld (sr_peek (pv 4)) T.x_part T.i_part)) sc.nd rfl (by first | exact Or.inl rfl | exact Or.inr rfl) (.inl rfl))))) (.only (names_own T.g_LineError) T.h_LineError.at (fun a pn => (sus_of (sss_one (ss_set (j := 3) (sr_v sv_str) sc.nd rfl (by first | exact Or.inl rfl | exact Or.inr rfl) (.inl rfl))))) .nil)))
    (sss_one (ss_expr (sv_append (pv 1) (sv_var (pv 3))))))))
    (sss_one (ss_ret (sr_v (sv_eq hr.hu (sr_peek (pv 1)) (sr_lst (sa_cons sv_str (sa_cons sv_str (sa_cons sv_str (sa_cons sv_str sa_nil)))))))))))) fun _ _ h => mkF_ok h
abbrev s_law : Stmt := topS 36
theorem sc_law : FnScope ["script", "pen", "couples", "value", "figure", "told", "bent", "row", "position", "flat", "across", "end", "side", "place"] ["script"] (defScope s_law) := ⟨rfl, rfl, rfl, by decide +kernel, rfl, by decide +kernel, by decide +kernel⟩
theorem ok_law {a__law_pen : Addr} {d__law_pen : FuncData} (C__law_pen : Cal P w K mg base "_law_pen" 1 a__law_pen d__law_pen ["script"] F__law_pen) {a__law_figure : Addr} {d__law_figure : FuncData} (C__law_figure : Cal P w K mg base "_law_figure" 2 a__law_figure d__law_figure ["pen", "couples"] F__law_figure) {a__law_draw : Addr} {d__law_draw : FuncData} (C__law_draw : Cal P w K mg base "_law_draw" 1 a__law_draw d__law_draw ["pen", "many"] F__law_draw) {a_is_figure_1 : Addr} {d_is_figure_1 : FuncData} (C_is_figure_1 : CalD P w K mg base "is_figure" 2 a_is_figure_1 d_is_figure_1 ["value", "couples"] F_is_figure [.non] [.non]) {a_is_figure : Addr} {d_is_figure : FuncData} (C_is_figure : Cal P w K mg base "is_figure" 2 a_is_figure d_is_figure ["value", "couples"] F_is_figure) {a_is_figure_1_couples : Addr} {d_is_figure_1_couples : FuncData} (C_is_figure_1_couples : CalK P w K mg base "is_figure" 2 a_is_figure_1_couples d_is_figure_1_couples ["value", "couples"] F_is_figure 1 ["couples"] [0, 1] [] []) {a__law_bent : Addr} {d__law_bent : FuncData} (C__law_bent : Cal P w K mg base "_law_bent" 2 a__law_bent d__law_bent ["pen", "figure"] F__law_bent) {a__law_refused : Addr} {d__law_refused : FuncData} (C__law_refused : Cal P w K mg base "_law_refused" 5 a__law_refused d__law_refused ["value"] F__law_refused) {a_still : Addr} {d_still : FuncData} (C_still : Cal P w K mg base "still" 4 a_still d_still ["couples"] F_still) {a_crossed : Addr} {d_crossed : FuncData} (C_crossed : Cal P w K mg base "crossed" 4 a_crossed d_crossed ["couples"] F_crossed) {a_upended : Addr} {d_upended : FuncData} (C_upended : Cal P w K mg base "upended" 4 a_upended d_upended ["couples"] F_upended) {a_still_0_couples : Addr} {d_still_0_couples : FuncData} (C_still_0_couples : CalK P w K mg base "still" 4 a_still_0_couples d_still_0_couples ["couples"] F_still 0 ["couples"] [0] [] []) {a_crossed_0_couples : Addr} {d_crossed_0_couples : FuncData} (C_crossed_0_couples : CalK P w K mg base "crossed" 4 a_crossed_0_couples d_crossed_0_couples ["couples"] F_crossed 0 ["couples"] [0] [] []) {a_upended_0_couples : Addr} {d_upended_0_couples : FuncData} (C_upended_0_couples : CalK P w K mg base "upended" 4 a_upended_0_couples d_upended_0_couples ["couples"] F_upended 0 ["couples"] [0] [] []) {a__law_number_refused : Addr} {d__law_number_refused : FuncData} (C__law_number_refused : Cal P w K mg base "_law_number_refused" 5 a__law_number_refused d__law_number_refused ["value"] F__law_number_refused) {a_power : Addr} {d_power : FuncData} (C_power : Cal P w K mg base "power" 4 a_power d_power ["figure", "times"] F_power) (T : Tx K mg C_LineError C_BadFigure C_BadNumber) {f : Addr} {od an : Option Addr} {sl : Array (Option Value)} {oc kV dc pm cd ct : Value}
    (l : K.lookup f = some ⟨oc, od, .func (PySem.W.fnOf "law" "law" (defArgs s_law) (defBody s_law) (defScope s_law) .none kV dc pm an cd ct), sl⟩) (c : PySem.W.codeIn K cd "law" = true) :
    FnG P w K mg base (L2N.CX P w) 6 f (PySem.W.fnOf "law" "law" (defArgs s_law) (defBody s_law) (defScope s_law) .none kV dc pm an cd ct) ["script"] (spM K mg F_law) :=
  fg_body (m := m_law) l c sc_law (fun A fr s H E hr => by
    have sc := sc_law
    have po := passes_of (X := cxOf (L2N.CX P w) P w K mg base ["script", "pen", "couples", "value", "figure", "told", "bent", "row", "position", "flat", "across", "end", "side", "place"] "law" (defScope s_law) f cd A fr s H E) rfl
    exact (sss_cons (ss_set (j := 1) (sr_cal C__law_pen hr (sx_v (sv_var (pv 0)) sx_nil)) sc.nd rfl (by first | exact Or.inl rfl | exact Or.inr rfl) (.inl rfl))
    (sss_cons (ss_for po rfl (si_seq (sv_tup (sa_cons sv_int (sa_cons sv_int (sa_cons sv_int (sa_cons sv_int sa_nil)))))) (sg_name sc.nd rfl (by first | exact Or.inl rfl | exact Or.inr rfl) (by first | exact .inl rfl | exact .inr rfl)) (sss_cons (ss_set (j := 4) (sr_cal C__law_figure hr (sx_sl (pv 1) (sx_v (sv_var (pv 2)) sx_nil))) sc.nd rfl (by first | exact Or.inl rfl | exact Or.inr rfl) (.inl rfl))
    (sss_cons (ss_set (j := 5) (sr_v (sv_if (st_eq hr.hu (sr_cal C__law_draw hr (sx_sl (pv 1) (sx_v sv_int sx_nil))) (sr_v sv_int)) (sv_var (pv 4)) (sv_tuple (sr_peek (pv 4)) T.z_tuple))) sc.nd rfl (by first | exact Or.inl rfl | exact Or.inr rfl) (.inl rfl))
    (sss_cons (ss_if (st_w (sw_or (st_notB (sv_r (sr_calD C_is_figure_1 hr (sx_v (sv_var (pv 5)) sx_nil))) sv_bl) (sw_or (st_notB (sv_r (sr_cal C_is_figure hr (sx_v (sv_var (pv 5)) (sx_v (sv_var (pv 2)) sx_nil)))) sv_bl) (sw_or1 (st_notB (sv_r (sr_kw C_is_figure_1_couples hr (sa_cons (sv_var (pv 5)) sa_nil) (sk_cons (sv_add sv_int (sv_mod (sv_var (pv 2)) sv_int)) sk_nil))) sv_bl))))) (sss_one (ss_ret (sr_v sv_bl))) sss_nil)
    (sss_cons (ss_set (j := 6) (sr_cal C__law_bent hr (sx_sl (pv 1) (sx_v (sv_var (pv 4)) sx_nil))) sc.nd rfl (by first | exact Or.inl rfl | exact Or.inr rfl) (.inl rfl))
    (sss_cons (ss_if (st_w (sw_or (st_notB (sv_r (sr_calD C_is_figure_1 hr (sx_v (sv_var (pv 6)) sx_nil))) sv_bl) (sw_or (st_notB (sv_r (sr_cal C_is_figure hr (sx_v (sv_var (pv 6)) (sx_v (sv_var (pv 2)) sx_nil)))) sv_bl) (sw_or1 (st_ne hr.hu (sr_cal C__law_refused hr (sx_v (sv_var (pv 6)) sx_nil)) (sr_lst sa_nil)))))) (sss_one (ss_ret (sr_v sv_bl))) sss_nil)
    (sss_cons (ss_par3 (i := 9) (j := 10) (l := 11) (sa_cons (sv_r (sr_cal C_still hr (sx_v (sv_var (pv 2)) sx_nil))) (sa_cons (sv_r (sr_cal C_crossed hr (sx_v (sv_var (pv 2)) sx_nil))) (sa_cons (sv_r (sr_cal C_upended hr (sx_v (sv_var (pv 2)) sx_nil))) sa_nil))) rfl sc.nd rfl rfl rfl (by decide) (by decide) (by decide) rfl rfl rfl (by first | rfl | kernel_rfl))
    (sss_cons (ss_if (st_ne hr.hu (sr_lst (sa_cons (sv_r (sr_kw0 C_still_0_couples hr (sk_cons (sv_var (pv 2)) sk_nil))) (sa_cons (sv_r (sr_kw0 C_crossed_0_couples hr (sk_cons (sv_var (pv 2)) sk_nil))) (sa_cons (sv_r (sr_kw0 C_upended_0_couples hr (sk_cons (sv_var (pv 2)) sk_nil))) sa_nil)))) (sr_lst (sa_cons (sv_var (pv 9)) (sa_cons (sv_var (pv 10)) (sa_cons (sv_var (pv 11)) sa_nil))))) (sss_one (ss_ret (sr_v sv_bl))) sss_nil)
    (sss_cons (ss_for po rfl (si_seq (sv_tup (sa_cons (sv_var (pv 9)) (sa_cons (sv_var (pv 10)) (sa_cons (sv_var (pv 11)) sa_nil))))) (sg_name sc.nd rfl (by first | exact Or.inl rfl | exact Or.inr rfl) (by first | exact .inl rfl | exact .inr rfl)) (sss_one (ss_if (st_w (sw_or (st_not (st_v (sv_isi (sr_peek (pv 7)) T.z_isinstance T.z_tuple (by decide +kernel)))) (sw_or1 (st_ne hr.hu (sr_v (sv_len (sr_peek (pv 7)) T.z_len)) (sr_v (sv_mul sv_int (sv_var (pv 2)))))))) (sss_one (ss_ret (sr_v sv_bl))) sss_nil)))
    (sss_one (ss_for po rfl (si_range1 (sv_var (pv 2)) T.z_range) (sg_name sc.nd rfl (by first | exact Or.inl rfl | exact Or.inr rfl) (by first | exact .inl rfl | exact .inr rfl)) (sss_one (ss_for po rfl (si_seq (sv_tup (sa_cons sv_int (sa_cons sv_int sa_nil)))) (sg_name sc.nd rfl (by first | exact Or.inl rfl | exact Or.inr rfl) (by first | exact .inl rfl | exact .inr rfl)) (sss_cons (ss_set (j := 13) (sr_v (sv_add (sv_mul sv_int (sv_var (pv 8))) (sv_var (pv 12)))) sc.nd rfl (by first | exact Or.inl rfl | exact Or.inr rfl) (.inl rfl))
    (sss_one (ss_if (st_w (sw_or (st_ne hr.hu (sr_v (sv_ix (sr_peek (pv 9)) (sv_var (pv 13)))) (sr_peek (pv 13))) (sw_or (st_ne hr.hu (sr_v (sv_ix (sr_peek (pv 10)) (sv_var (pv 13)))) (sr_v (sv_sub (sv_add (sv_mul sv_int (sv_var (pv 8))) sv_int) (sv_var (pv 12))))) (sw_or1 (st_ne hr.hu (sr_v (sv_ix (sr_peek (pv 11)) (sv_var (pv 13)))) (sr_v (sv_add (sv_mul sv_int (sv_sub (sv_sub (sv_var (pv 2)) sv_int) (sv_var (pv 8)))) (sv_var (pv 12))))))))) (sss_one (ss_ret (sr_v sv_bl))) sss_nil))))))))))))))))
    (sss_cons (ss_if (st_w (sw_or (st_notB (sv_r (sr_calD C_is_figure_1 hr (sx_v (sv_tup (sa_cons sv_int (sa_cons sv_int (sa_cons sv_int (sa_cons sv_int (sa_cons sv_int (sa_cons sv_int (sa_cons sv_int (sa_cons sv_int (sa_cons sv_int (sa_cons sv_int sa_nil))))))))))) sx_nil))) sv_bl) (sw_or (st_notB (sv_r (sr_calD C_is_figure_1 hr (sx_v (sv_tup sa_nil) sx_nil))) sv_bl) (sw_or1 (st_notB (sv_r (sr_calD C_is_figure_1 hr (sx_v sv_str sx_nil))) sv_bl))))) (sss_one (ss_ret (sr_v sv_bl))) sss_nil)
    (sss_cons (ss_for po rfl (si_seq (sv_tup (sa_cons sv_int (sa_cons sv_int (sa_cons (sv_negF sv_int) (sa_cons (sv_pow sv_int sv_int) (sa_cons sv_bl (sa_cons sv_non (sa_cons sv_str (sa_cons (sv_tup (sa_cons sv_int sa_nil)) sa_nil)))))))))) (sg_name sc.nd rfl (by first | exact Or.inl rfl | exact Or.inr rfl) (by first | exact .inl rfl | exact .inr rfl)) (sss_one (ss_if (st_not (st_v (sv_r (sr_cal C__law_number_refused hr (sx_v (sv_var (pv 3)) sx_nil))))) (sss_one (ss_ret (sr_v sv_bl))) sss_nil)))
    (sss_cons (ss_for po rfl (si_seq (sv_tup (sa_cons sv_non (sa_cons sv_int (sa_cons sv_str (sa_cons (sv_r (sr_dctC (kvs := [((.inr (Str.ofString "a")), (.int 1))]) (ds := [(.int 1)]) (pps_cons pe_str pe_int pps_nil) (fun _ _ _ q => q) rfl (fun _ => (.cons (.int _) .nil)) rfl (by decide) rfl rfl (by simp) (by decide))) (sa_cons (sv_tup sa_nil) (sa_cons (sv_r (sr_lst (sa_cons sv_int sa_nil))) (sa_cons (sv_tup (sa_cons sv_int (sa_cons sv_int (sa_cons sv_int (sa_cons sv_int (sa_cons sv_int (sa_cons sv_int (sa_cons sv_int (sa_cons sv_int (sa_cons sv_int (sa_cons sv_int sa_nil))))))))))) sa_nil))))))))) (sg_name sc.nd rfl (by first | exact Or.inl rfl | exact Or.inr rfl) (by first | exact .inl rfl | exact .inr rfl)) (sss_one (ss_if (st_ne hr.hu (sr_cal C__law_refused hr (sx_v (sv_var (pv 3)) sx_nil)) (sr_lst sa_nil)) (sss_one (ss_ret (sr_v sv_bl))) sss_nil)))
    (sss_one (ss_ret (sr_v (sv_andV (sv_eq hr.hu (sr_v (sv_reprD hr (sr_cal C_power hr (sx_v (sv_tup (sa_cons sv_int (sa_cons sv_int sa_nil))) (sx_v (sv_pow sv_int sv_int) sx_nil))) T.z_repr)) (sr_v (sv_reprD hr (sr_cal C_still hr (sx_v sv_int sx_nil)) T.z_repr))) (sv_one (sv_eq hr.hu (sr_v (sv_reprD hr (sr_cal C_power hr (sx_v (sv_r (sr_lst (sa_cons sv_int (sa_cons sv_int sa_nil)))) (sx_v (sv_add (sv_negF (sv_pow sv_int sv_int)) sv_int) sx_nil))) T.z_repr)) (sr_v (sv_reprD hr (sr_cal C_crossed hr (sx_v sv_int sx_nil)) T.z_repr)))))))))))))) fun _ _ h => mkF_ok h
end
theorem all_mk {l : PySem.W.OpenLaw} {w : World} {K : PySem.W.Frag} {h : Heap} {mg : Str → Option Value} {fa : Addr} (X : K.In h) (G : h.Ns mainGlobals mg) (hfa : mg "law" = some (.ref fa))
    {f__law_pen : Addr} {od__law_pen an__law_pen : Option Addr} {sl__law_pen : Array (Option Value)} {oc__law_pen kV__law_pen dc__law_pen pm__law_pen cd__law_pen ct__law_pen : Value}
    {f__law_draw : Addr} {od__law_draw an__law_draw : Option Addr} {sl__law_draw : Array (Option Value)} {oc__law_draw kV__law_draw dc__law_draw pm__law_draw cd__law_draw ct__law_draw : Value}
    {f__law_figure : Addr} {od__law_figure an__law_figure : Option Addr} {sl__law_figure : Array (Option Value)} {oc__law_figure kV__law_figure dc__law_figure pm__law_figure cd__law_figure ct__law_figure : Value}
    {f_is_row : Addr} {od_is_row an_is_row : Option Addr} {sl_is_row : Array (Option Value)} {oc_is_row kV_is_row dc_is_row pm_is_row cd_is_row ct_is_row : Value}
    {f_is_integer : Addr} {od_is_integer an_is_integer : Option Addr} {sl_is_integer : Array (Option Value)} {oc_is_integer kV_is_integer dc_is_integer pm_is_integer cd_is_integer ct_is_integer : Value}
    {f_is_figure : Addr} {od_is_figure an_is_figure : Option Addr} {sl_is_figure : Array (Option Value)} {oc_is_figure kV_is_figure dc_is_figure pm_is_figure cd_is_figure ct_is_figure : Value}
    {T_is_figure : Addr} {ou_is_figure : Value} {ov_is_figure : Option Addr} {ow_is_figure : Array (Option Value)} {on_is_figure : Nat} 
    {f__law_bent : Addr} {od__law_bent an__law_bent : Option Addr} {sl__law_bent : Array (Option Value)} {oc__law_bent kV__law_bent dc__law_bent pm__law_bent cd__law_bent ct__law_bent : Value}
    {f_need_figure : Addr} {od_need_figure an_need_figure : Option Addr} {sl_need_figure : Array (Option Value)} {oc_need_figure kV_need_figure dc_need_figure pm_need_figure cd_need_figure ct_need_figure : Value}
    {f_joined_rows : Addr} {od_joined_rows an_joined_rows : Option Addr} {sl_joined_rows : Array (Option Value)} {oc_joined_rows kV_joined_rows dc_joined_rows pm_joined_rows cd_joined_rows ct_joined_rows : Value}
    {f_then : Addr} {od_then an_then : Option Addr} {sl_then : Array (Option Value)} {oc_then kV_then dc_then pm_then cd_then ct_then : Value}
    {f_back_row : Addr} {od_back_row an_back_row : Option Addr} {sl_back_row : Array (Option Value)} {oc_back_row kV_back_row dc_back_row pm_back_row cd_back_row ct_back_row : Value}
    {f_back : Addr} {od_back an_back : Option Addr} {sl_back : Array (Option Value)} {oc_back kV_back dc_back pm_back cd_back ct_back : Value}
    {f_is_within : Addr} {od_is_within an_is_within : Option Addr} {sl_is_within : Array (Option Value)} {oc_is_within kV_is_within dc_is_within pm_is_within cd_is_within ct_is_within : Value}
    {f_need_within : Addr} {od_need_within an_need_within : Option Addr} {sl_need_within : Array (Option Value)} {oc_need_within kV_need_within dc_need_within pm_need_within cd_need_within ct_need_within : Value}
    {f_cycles_of : Addr} {od_cycles_of an_cycles_of : Option Addr} {sl_cycles_of : Array (Option Value)} {oc_cycles_of kV_cycles_of dc_cycles_of pm_cycles_of cd_cycles_of ct_cycles_of : Value}
    {f_power_row : Addr} {od_power_row an_power_row : Option Addr} {sl_power_row : Array (Option Value)} {oc_power_row kV_power_row dc_power_row pm_power_row cd_power_row ct_power_row : Value}
    {f_power : Addr} {od_power an_power : Option Addr} {sl_power : Array (Option Value)} {oc_power kV_power dc_power pm_power cd_power ct_power : Value}
    {f_cycles : Addr} {od_cycles an_cycles : Option Addr} {sl_cycles : Array (Option Value)} {oc_cycles kV_cycles dc_cycles pm_cycles cd_cycles ct_cycles : Value}
    {f_order : Addr} {od_order an_order : Option Addr} {sl_order : Array (Option Value)} {oc_order kV_order dc_order pm_order cd_order ct_order : Value}
    {f_exchanges : Addr} {od_exchanges an_exchanges : Option Addr} {sl_exchanges : Array (Option Value)} {oc_exchanges kV_exchanges dc_exchanges pm_exchanges cd_exchanges ct_exchanges : Value}
    {f__law_refused : Addr} {od__law_refused an__law_refused : Option Addr} {sl__law_refused : Array (Option Value)} {oc__law_refused kV__law_refused dc__law_refused pm__law_refused cd__law_refused ct__law_refused : Value}
    {f_still : Addr} {od_still an_still : Option Addr} {sl_still : Array (Option Value)} {oc_still kV_still dc_still pm_still cd_still ct_still : Value}
    {f_crossed : Addr} {od_crossed an_crossed : Option Addr} {sl_crossed : Array (Option Value)} {oc_crossed kV_crossed dc_crossed pm_crossed cd_crossed ct_crossed : Value}
    {f_upended : Addr} {od_upended an_upended : Option Addr} {sl_upended : Array (Option Value)} {oc_upended kV_upended dc_upended pm_upended cd_upended ct_upended : Value}
    {f__law_number_refused : Addr} {od__law_number_refused an__law_number_refused : Option Addr} {sl__law_number_refused : Array (Option Value)} {oc__law_number_refused kV__law_number_refused dc__law_number_refused pm__law_number_refused cd__law_number_refused ct__law_number_refused : Value}
    {f_law : Addr} {od_law an_law : Option Addr} {sl_law : Array (Option Value)} {oc_law kV_law dc_law pm_law cd_law ct_law : Value}
    {C_LineError C_BadFigure C_BadNumber : Addr}
    {nm_BadFigure q_BadFigure : Str} {N_BadFigure I_BadFigure cc_BadFigure cda_BadFigure : Addr} {bs_BadFigure bm_BadFigure sub_BadFigure : List Value} {sn_BadFigure : List Str} {ab_BadFigure : Bool} {col_BadFigure : Option Bool} {dd_BadFigure : Option Addr} {k0_BadFigure k1_BadFigure k2_BadFigure k3_BadFigure k5_BadFigure : Option Value} {doc_BadFigure pm_BadFigure ctv_BadFigure oc_BadFigure cl1_BadFigure cl2_BadFigure : Value} {od_BadFigure cd1_BadFigure cd2_BadFigure : Option Addr} {sl_BadFigure sl1_BadFigure sl2_BadFigure : Array (Option Value)} {vs_BadFigure : Array Value} {file_BadFigure : Str} {tf_BadFigure : Tok}
    {nm_BadNumber q_BadNumber : Str} {N_BadNumber I_BadNumber cc_BadNumber cda_BadNumber : Addr} {bs_BadNumber bm_BadNumber sub_BadNumber : List Value} {sn_BadNumber : List Str} {ab_BadNumber : Bool} {col_BadNumber : Option Bool} {dd_BadNumber : Option Addr} {k0_BadNumber k1_BadNumber k2_BadNumber k3_BadNumber k5_BadNumber : Option Value} {doc_BadNumber pm_BadNumber ctv_BadNumber oc_BadNumber cl1_BadNumber cl2_BadNumber : Value} {od_BadNumber cd1_BadNumber cd2_BadNumber : Option Addr} {sl_BadNumber sl1_BadNumber sl2_BadNumber : Array (Option Value)} {vs_BadNumber : Array Value} {file_BadNumber : Str} {tf_BadNumber : Tok}
    {tk_GREATEST : Tok}
    {tk_LARGEST : Tok}
    (a__law_pen : PySem.W.nsIn K mainGlobals "_law_pen" = some (some (.ref f__law_pen)))
    (l__law_pen : K.lookup f__law_pen = some ⟨oc__law_pen, od__law_pen, .func (PySem.W.fnOf "_law_pen" "_law_pen" (defArgs s__law_pen) (defBody s__law_pen) (defScope s__law_pen) .none kV__law_pen dc__law_pen pm__law_pen an__law_pen cd__law_pen ct__law_pen), sl__law_pen⟩)
    (c__law_pen : PySem.W.codeIn K cd__law_pen "_law_pen" = true)
    (k__law_pen : PySem.W.keepIn K (.ref f__law_pen) = true)
    (a__law_draw : PySem.W.nsIn K mainGlobals "_law_draw" = some (some (.ref f__law_draw)))
    (l__law_draw : K.lookup f__law_draw = some ⟨oc__law_draw, od__law_draw, .func (PySem.W.fnOf "_law_draw" "_law_draw" (defArgs s__law_draw) (defBody s__law_draw) (defScope s__law_draw) .none kV__law_draw dc__law_draw pm__law_draw an__law_draw cd__law_draw ct__law_draw), sl__law_draw⟩)
    (c__law_draw : PySem.W.codeIn K cd__law_draw "_law_draw" = true)
    (k__law_draw : PySem.W.keepIn K (.ref f__law_draw) = true)
    (a__law_figure : PySem.W.nsIn K mainGlobals "_law_figure" = some (some (.ref f__law_figure)))
    (l__law_figure : K.lookup f__law_figure = some ⟨oc__law_figure, od__law_figure, .func (PySem.W.fnOf "_law_figure" "_law_figure" (defArgs s__law_figure) (defBody s__law_figure) (defScope s__law_figure) .none kV__law_figure dc__law_figure pm__law_figure an__law_figure cd__law_figure ct__law_figure), sl__law_figure⟩)
    (c__law_figure : PySem.W.codeIn K cd__law_figure "_law_figure" = true)
    (k__law_figure : PySem.W.keepIn K (.ref f__law_figure) = true)
    (a_is_row : PySem.W.nsIn K mainGlobals "is_row" = some (some (.ref f_is_row)))
    (l_is_row : K.lookup f_is_row = some ⟨oc_is_row, od_is_row, .func (PySem.W.fnOf "is_row" "is_row" (defArgs s_is_row) (defBody s_is_row) (defScope s_is_row) .none kV_is_row dc_is_row pm_is_row an_is_row cd_is_row ct_is_row), sl_is_row⟩)
    (c_is_row : PySem.W.codeIn K cd_is_row "is_row" = true)
    (k_is_row : PySem.W.keepIn K (.ref f_is_row) = true)
    (a_is_integer : PySem.W.nsIn K mainGlobals "is_integer" = some (some (.ref f_is_integer)))
    (l_is_integer : K.lookup f_is_integer = some ⟨oc_is_integer, od_is_integer, .func (PySem.W.fnOf "is_integer" "is_integer" (defArgs s_is_integer) (defBody s_is_integer) (defScope s_is_integer) .none kV_is_integer dc_is_integer pm_is_integer an_is_integer cd_is_integer ct_is_integer), sl_is_integer⟩)
    (c_is_integer : PySem.W.codeIn K cd_is_integer "is_integer" = true)
    (k_is_integer : PySem.W.keepIn K (.ref f_is_integer) = true)
    (a_is_figure : PySem.W.nsIn K mainGlobals "is_figure" = some (some (.ref f_is_figure)))
    (l_is_figure : K.lookup f_is_figure = some ⟨oc_is_figure, od_is_figure, .func (PySem.W.fnOf "is_figure" "is_figure" (defArgs s_is_figure) (defBody s_is_figure) (defScope s_is_figure) (.ref T_is_figure) kV_is_figure dc_is_figure pm_is_figure an_is_figure cd_is_figure ct_is_figure), sl_is_figure⟩)
    (c_is_figure : PySem.W.codeIn K cd_is_figure "is_figure" = true)
    (k_is_figure : PySem.W.keepIn K (.ref f_is_figure) = true)
    (e_is_figure : K.lookup T_is_figure = some ⟨ou_is_figure, ov_is_figure, .seq #[.none] on_is_figure, ow_is_figure⟩)
    (a__law_bent : PySem.W.nsIn K mainGlobals "_law_bent" = some (some (.ref f__law_bent)))
    (l__law_bent : K.lookup f__law_bent = some ⟨oc__law_bent, od__law_bent, .func (PySem.W.fnOf "_law_bent" "_law_bent" (defArgs s__law_bent) (defBody s__law_bent) (defScope s__law_bent) .none kV__law_bent dc__law_bent pm__law_bent an__law_bent cd__law_bent ct__law_bent), sl__law_bent⟩)
    (c__law_bent : PySem.W.codeIn K cd__law_bent "_law_bent" = true)
    (k__law_bent : PySem.W.keepIn K (.ref f__law_bent) = true)
    (a_need_figure : PySem.W.nsIn K mainGlobals "need_figure" = some (some (.ref f_need_figure)))
    (l_need_figure : K.lookup f_need_figure = some ⟨oc_need_figure, od_need_figure, .func (PySem.W.fnOf "need_figure" "need_figure" (defArgs s_need_figure) (defBody s_need_figure) (defScope s_need_figure) .none kV_need_figure dc_need_figure pm_need_figure an_need_figure cd_need_figure ct_need_figure), sl_need_figure⟩)
    (c_need_figure : PySem.W.codeIn K cd_need_figure "need_figure" = true)
    (k_need_figure : PySem.W.keepIn K (.ref f_need_figure) = true)
    (a_joined_rows : PySem.W.nsIn K mainGlobals "joined_rows" = some (some (.ref f_joined_rows)))
    (l_joined_rows : K.lookup f_joined_rows = some ⟨oc_joined_rows, od_joined_rows, .func (PySem.W.fnOf "joined_rows" "joined_rows" (defArgs s_joined_rows) (defBody s_joined_rows) (defScope s_joined_rows) .none kV_joined_rows dc_joined_rows pm_joined_rows an_joined_rows cd_joined_rows ct_joined_rows), sl_joined_rows⟩)
    (c_joined_rows : PySem.W.codeIn K cd_joined_rows "joined_rows" = true)
    (k_joined_rows : PySem.W.keepIn K (.ref f_joined_rows) = true)
    (a_then : PySem.W.nsIn K mainGlobals "then" = some (some (.ref f_then)))
    (l_then : K.lookup f_then = some ⟨oc_then, od_then, .func (PySem.W.fnOf "then" "then" (defArgs s_then) (defBody s_then) (defScope s_then) .none kV_then dc_then pm_then an_then cd_then ct_then), sl_then⟩)
    (c_then : PySem.W.codeIn K cd_then "then" = true)
    (k_then : PySem.W.keepIn K (.ref f_then) = true)
    (a_back_row : PySem.W.nsIn K mainGlobals "back_row" = some (some (.ref f_back_row)))
    (l_back_row : K.lookup f_back_row = some ⟨oc_back_row, od_back_row, .func (PySem.W.fnOf "back_row" "back_row" (defArgs s_back_row) (defBody s_back_row) (defScope s_back_row) .none kV_back_row dc_back_row pm_back_row an_back_row cd_back_row ct_back_row), sl_back_row⟩)
    (c_back_row : PySem.W.codeIn K cd_back_row "back_row" = true)
    (k_back_row : PySem.W.keepIn K (.ref f_back_row) = true)
    (a_back : PySem.W.nsIn K mainGlobals "back" = some (some (.ref f_back)))
    (l_back : K.lookup f_back = some ⟨oc_back, od_back, .func (PySem.W.fnOf "back" "back" (defArgs s_back) (defBody s_back) (defScope s_back) .none kV_back dc_back pm_back an_back cd_back ct_back), sl_back⟩)
    (c_back : PySem.W.codeIn K cd_back "back" = true)
    (k_back : PySem.W.keepIn K (.ref f_back) = true)
    (a_is_within : PySem.W.nsIn K mainGlobals "is_within" = some (some (.ref f_is_within)))
    (l_is_within : K.lookup f_is_within = some ⟨oc_is_within, od_is_within, .func (PySem.W.fnOf "is_within" "is_within" (defArgs s_is_within) (defBody s_is_within) (defScope s_is_within) .none kV_is_within dc_is_within pm_is_within an_is_within cd_is_within ct_is_within), sl_is_within⟩)
    (c_is_within : PySem.W.codeIn K cd_is_within "is_within" = true)
    (k_is_within : PySem.W.keepIn K (.ref f_is_within) = true)
    (a_need_within : PySem.W.nsIn K mainGlobals "need_within" = some (some (.ref f_need_within)))
    (l_need_within : K.lookup f_need_within = some ⟨oc_need_within, od_need_within, .func (PySem.W.fnOf "need_within" "need_within" (defArgs s_need_within) (defBody s_need_within) (defScope s_need_within) .none kV_need_within dc_need_within pm_need_within an_need_within cd_need_within ct_need_within), sl_need_within⟩)
    (c_need_within : PySem.W.codeIn K cd_need_within "need_within" = true)
    (k_need_within : PySem.W.keepIn K (.ref f_need_within) = true)
    (a_cycles_of : PySem.W.nsIn K mainGlobals "cycles_of" = some (some (.ref f_cycles_of)))
    (l_cycles_of : K.lookup f_cycles_of = some ⟨oc_cycles_of, od_cycles_of, .func (PySem.W.fnOf "cycles_of" "cycles_of" (defArgs s_cycles_of) (defBody s_cycles_of) (defScope s_cycles_of) .none kV_cycles_of dc_cycles_of pm_cycles_of an_cycles_of cd_cycles_of ct_cycles_of), sl_cycles_of⟩)
    (c_cycles_of : PySem.W.codeIn K cd_cycles_of "cycles_of" = true)
    (k_cycles_of : PySem.W.keepIn K (.ref f_cycles_of) = true)
    (a_power_row : PySem.W.nsIn K mainGlobals "power_row" = some (some (.ref f_power_row)))
    (l_power_row : K.lookup f_power_row = some ⟨oc_power_row, od_power_row, .func (PySem.W.fnOf "power_row" "power_row" (defArgs s_power_row) (defBody s_power_row) (defScope s_power_row) .none kV_power_row dc_power_row pm_power_row an_power_row cd_power_row ct_power_row), sl_power_row⟩)
    (c_power_row : PySem.W.codeIn K cd_power_row "power_row" = true)
    (k_power_row : PySem.W.keepIn K (.ref f_power_row) = true)
    (a_power : PySem.W.nsIn K mainGlobals "power" = some (some (.ref f_power)))
    (l_power : K.lookup f_power = some ⟨oc_power, od_power, .func (PySem.W.fnOf "power" "power" (defArgs s_power) (defBody s_power) (defScope s_power) .none kV_power dc_power pm_power an_power cd_power ct_power), sl_power⟩)
    (c_power : PySem.W.codeIn K cd_power "power" = true)
    (k_power : PySem.W.keepIn K (.ref f_power) = true)
    (a_cycles : PySem.W.nsIn K mainGlobals "cycles" = some (some (.ref f_cycles)))
    (l_cycles : K.lookup f_cycles = some ⟨oc_cycles, od_cycles, .func (PySem.W.fnOf "cycles" "cycles" (defArgs s_cycles) (defBody s_cycles) (defScope s_cycles) .none kV_cycles dc_cycles pm_cycles an_cycles cd_cycles ct_cycles), sl_cycles⟩)
    (c_cycles : PySem.W.codeIn K cd_cycles "cycles" = true)
    (k_cycles : PySem.W.keepIn K (.ref f_cycles) = true)
    (a_order : PySem.W.nsIn K mainGlobals "order" = some (some (.ref f_order)))
    (l_order : K.lookup f_order = some ⟨oc_order, od_order, .func (PySem.W.fnOf "order" "order" (defArgs s_order) (defBody s_order) (defScope s_order) .none kV_order dc_order pm_order an_order cd_order ct_order), sl_order⟩)
    (c_order : PySem.W.codeIn K cd_order "order" = true)
    (k_order : PySem.W.keepIn K (.ref f_order) = true)
    (a_exchanges : PySem.W.nsIn K mainGlobals "exchanges" = some (some (.ref f_exchanges)))
    (l_exchanges : K.lookup f_exchanges = some ⟨oc_exchanges, od_exchanges, .func (PySem.W.fnOf "exchanges" "exchanges" (defArgs s_exchanges) (defBody s_exchanges) (defScope s_exchanges) .none kV_exchanges dc_exchanges pm_exchanges an_exchanges cd_exchanges ct_exchanges), sl_exchanges⟩)
    (c_exchanges : PySem.W.codeIn K cd_exchanges "exchanges" = true)
    (k_exchanges : PySem.W.keepIn K (.ref f_exchanges) = true)
    (a__law_refused : PySem.W.nsIn K mainGlobals "_law_refused" = some (some (.ref f__law_refused)))
    (l__law_refused : K.lookup f__law_refused = some ⟨oc__law_refused, od__law_refused, .func (PySem.W.fnOf "_law_refused" "_law_refused" (defArgs s__law_refused) (defBody s__law_refused) (defScope s__law_refused) .none kV__law_refused dc__law_refused pm__law_refused an__law_refused cd__law_refused ct__law_refused), sl__law_refused⟩)
    (c__law_refused : PySem.W.codeIn K cd__law_refused "_law_refused" = true)
    (k__law_refused : PySem.W.keepIn K (.ref f__law_refused) = true)
    (a_still : PySem.W.nsIn K mainGlobals "still" = some (some (.ref f_still)))
    (l_still : K.lookup f_still = some ⟨oc_still, od_still, .func (PySem.W.fnOf "still" "still" (defArgs s_still) (defBody s_still) (defScope s_still) .none kV_still dc_still pm_still an_still cd_still ct_still), sl_still⟩)
    (c_still : PySem.W.codeIn K cd_still "still" = true)
    (k_still : PySem.W.keepIn K (.ref f_still) = true)
    (a_crossed : PySem.W.nsIn K mainGlobals "crossed" = some (some (.ref f_crossed)))
    (l_crossed : K.lookup f_crossed = some ⟨oc_crossed, od_crossed, .func (PySem.W.fnOf "crossed" "crossed" (defArgs s_crossed) (defBody s_crossed) (defScope s_crossed) .none kV_crossed dc_crossed pm_crossed an_crossed cd_crossed ct_crossed), sl_crossed⟩)
    (c_crossed : PySem.W.codeIn K cd_crossed "crossed" = true)
    (k_crossed : PySem.W.keepIn K (.ref f_crossed) = true)
    (a_upended : PySem.W.nsIn K mainGlobals "upended" = some (some (.ref f_upended)))
    (l_upended : K.lookup f_upended = some ⟨oc_upended, od_upended, .func (PySem.W.fnOf "upended" "upended" (defArgs s_upended) (defBody s_upended) (defScope s_upended) .none kV_upended dc_upended pm_upended an_upended cd_upended ct_upended), sl_upended⟩)
    (c_upended : PySem.W.codeIn K cd_upended "upended" = true)
    (k_upended : PySem.W.keepIn K (.ref f_upended) = true)
    (a__law_number_refused : PySem.W.nsIn K mainGlobals "_law_number_refused" = some (some (.ref f__law_number_refused)))
    (l__law_number_refused : K.lookup f__law_number_refused = some ⟨oc__law_number_refused, od__law_number_refused, .func (PySem.W.fnOf "_law_number_refused" "_law_number_refused" (defArgs s__law_number_refused) (defBody s__law_number_refused) (defScope s__law_number_refused) .none kV__law_number_refused dc__law_number_refused pm__law_number_refused an__law_number_refused cd__law_number_refused ct__law_number_refused), sl__law_number_refused⟩)
    (c__law_number_refused : PySem.W.codeIn K cd__law_number_refused "_law_number_refused" = true)
    (k__law_number_refused : PySem.W.keepIn K (.ref f__law_number_refused) = true)
    (a_law : PySem.W.nsIn K mainGlobals "law" = some (some (.ref f_law)))
    (l_law : K.lookup f_law = some ⟨oc_law, od_law, .func (PySem.W.fnOf "law" "law" (defArgs s_law) (defBody s_law) (defScope s_law) .none kV_law dc_law pm_law an_law cd_law ct_law), sl_law⟩)
    (c_law : PySem.W.codeIn K cd_law "law" = true)
    (k_law : PySem.W.keepIn K (.ref f_law) = true)
    (a_LineError : PySem.W.nsIn K mainGlobals "LineError" = some (some (.ref C_LineError)))
    (a_BadFigure : PySem.W.nsIn K mainGlobals "BadFigure" = some (some (.ref C_BadFigure)))
    (a_BadNumber : PySem.W.nsIn K mainGlobals "BadNumber" = some (some (.ref C_BadNumber)))
    (cls_BadFigure : K.lookup C_BadFigure = some (excClassObj nm_BadFigure q_BadFigure C_BadFigure N_BadFigure bs_BadFigure bm_BadFigure true sn_BadFigure sub_BadFigure ab_BadFigure col_BadFigure dd_BadFigure k0_BadFigure k1_BadFigure k2_BadFigure k3_BadFigure k5_BadFigure "ValueError.__new__"))
    (rf_BadFigure : PySem.HandSPX.refsVE bm_BadFigure = true)
    (sa_BadFigure : PySem.W.findIn K (.ref C_BadFigure) "__setattr__" = some (some (.builtin "object.__setattr__")))
    (exC_BadFigure : PySem.W.subIn K (.ref C_BadFigure) (.type "BaseException") = some true)
    (tyC_BadFigure : PySem.W.typeIn K (.ref C_BadFigure) = some (.type "type"))
    (kC_BadFigure : PySem.W.keepIn K (.ref C_BadFigure) = true)
    (ga_BadFigure : PySem.W.findIn K (.ref C_BadFigure) "__getattribute__" = some (some (.builtin "BaseException.__getattribute__")))
    (gg_BadFigure : PySem.W.findIn K (.ref C_BadFigure) "__getattr__" = some none)
    (hd_BadFigure : PySem.W.hasDictIn K C_BadFigure = true)
    (iC_BadFigure : PySem.W.findIn K (.ref C_BadFigure) "__init__" = some (some (.ref I_BadFigure)))
    (lI_BadFigure : K.lookup I_BadFigure = some ⟨oc_BadFigure, od_BadFigure, .func ((nf_BadFigure cc_BadFigure cda_BadFigure).fd doc_BadFigure pm_BadFigure ctv_BadFigure), sl_BadFigure⟩)
    (tI_BadFigure : PySem.W.typeIn K (.ref I_BadFigure) = some (.type "function"))
    (lC_BadFigure : K.lookup cda_BadFigure = some ⟨cl1_BadFigure, cd1_BadFigure, .fields vs_BadFigure, sl1_BadFigure⟩)
    (vs_BadFigure_ : vs_BadFigure[2]? = some (.str file_BadFigure tf_BadFigure))
    (hf_BadFigure : ((l.prog.main.file : Str) == file_BadFigure) = true)
    (ce_BadFigure : K.lookup cc_BadFigure = some ⟨cl2_BadFigure, cd2_BadFigure, .cell (some (.ref C_BadFigure)), sl2_BadFigure⟩)
    (hm_BadFigure : PySem.W.ks_superIn K C_BadFigure C_BadFigure "__init__" = some (some (.builtin "ValueError.__init__")))
    (hB_BadFigure : PySem.W.subIn K (.ref C_BadFigure) (.type "ValueError") = some true)
    (hs_BadFigure : PySem.W.mroIn K C_BadFigure (.ref C_BadFigure) = some true)
    (cI_BadFigure : PySem.W.codeIn K (.ref cda_BadFigure) "BadFigure.__init__" = true)
    (no_BadFigure_value : PySem.W.findIn K (.ref C_BadFigure) "value" = some none)
    (cls_BadNumber : K.lookup C_BadNumber = some (excClassObj nm_BadNumber q_BadNumber C_BadNumber N_BadNumber bs_BadNumber bm_BadNumber true sn_BadNumber sub_BadNumber ab_BadNumber col_BadNumber dd_BadNumber k0_BadNumber k1_BadNumber k2_BadNumber k3_BadNumber k5_BadNumber "ValueError.__new__"))
    (rf_BadNumber : PySem.HandSPX.refsVE bm_BadNumber = true)
    (sa_BadNumber : PySem.W.findIn K (.ref C_BadNumber) "__setattr__" = some (some (.builtin "object.__setattr__")))
    (exC_BadNumber : PySem.W.subIn K (.ref C_BadNumber) (.type "BaseException") = some true)
    (tyC_BadNumber : PySem.W.typeIn K (.ref C_BadNumber) = some (.type "type"))
    (kC_BadNumber : PySem.W.keepIn K (.ref C_BadNumber) = true)
    (ga_BadNumber : PySem.W.findIn K (.ref C_BadNumber) "__getattribute__" = some (some (.builtin "BaseException.__getattribute__")))
    (gg_BadNumber : PySem.W.findIn K (.ref C_BadNumber) "__getattr__" = some none)
    (hd_BadNumber : PySem.W.hasDictIn K C_BadNumber = true)
    (iC_BadNumber : PySem.W.findIn K (.ref C_BadNumber) "__init__" = some (some (.ref I_BadNumber)))
    (lI_BadNumber : K.lookup I_BadNumber = some ⟨oc_BadNumber, od_BadNumber, .func ((nf_BadNumber cc_BadNumber cda_BadNumber).fd doc_BadNumber pm_BadNumber ctv_BadNumber), sl_BadNumber⟩)
    (tI_BadNumber : PySem.W.typeIn K (.ref I_BadNumber) = some (.type "function"))
    (lC_BadNumber : K.lookup cda_BadNumber = some ⟨cl1_BadNumber, cd1_BadNumber, .fields vs_BadNumber, sl1_BadNumber⟩)
    (vs_BadNumber_ : vs_BadNumber[2]? = some (.str file_BadNumber tf_BadNumber))
    (hf_BadNumber : ((l.prog.main.file : Str) == file_BadNumber) = true)
    (ce_BadNumber : K.lookup cc_BadNumber = some ⟨cl2_BadNumber, cd2_BadNumber, .cell (some (.ref C_BadNumber)), sl2_BadNumber⟩)
    (hm_BadNumber : PySem.W.ks_superIn K C_BadNumber C_BadNumber "__init__" = some (some (.builtin "ValueError.__init__")))
    (hB_BadNumber : PySem.W.subIn K (.ref C_BadNumber) (.type "ValueError") = some true)
    (hs_BadNumber : PySem.W.mroIn K C_BadNumber (.ref C_BadNumber) = some true)
    (cI_BadNumber : PySem.W.codeIn K (.ref cda_BadNumber) "BadNumber.__init__" = true)
    (no_BadNumber_part : PySem.W.findIn K (.ref C_BadNumber) "part" = some none)
    (exC_LineError : PySem.W.subIn K (.ref C_LineError) (.type "BaseException") = some true)
    (tyC_LineError : PySem.W.typeIn K (.ref C_LineError) = some (.type "type"))
    (hd_LineError : PySem.W.hasDictIn K C_LineError = true)
    (m_BadFigure_LineError : PySem.W.subIn K (.ref C_BadFigure) (.ref C_LineError) = some true)
    (m_BadNumber_LineError : PySem.W.subIn K (.ref C_BadNumber) (.ref C_LineError) = some true)
    (m_BadFigure_BadFigure : PySem.W.subIn K (.ref C_BadFigure) (.ref C_BadFigure) = some true)
    (m_BadNumber_BadFigure : PySem.W.subIn K (.ref C_BadNumber) (.ref C_BadFigure) = some false)
    (m_BadFigure_BadNumber : PySem.W.subIn K (.ref C_BadFigure) (.ref C_BadNumber) = some false)
    (m_BadNumber_BadNumber : PySem.W.subIn K (.ref C_BadNumber) (.ref C_BadNumber) = some true)
    (ho : PySem.W.nsIn K cStatics "thirdparty.any" = some none)
    (gs : PySem.W.nsIn K mainGlobals "super" = some none)
    (htop : (l.prog.main.scope.names.lookup ("super" : Str)).isSome = false)
    (z_abs : PySem.W.nsIn K mainGlobals "abs" = some none)
    (z_all : PySem.W.nsIn K mainGlobals "all" = some none)
    (z_bool : PySem.W.nsIn K mainGlobals "bool" = some none)
    (z_enumerate : PySem.W.nsIn K mainGlobals "enumerate" = some none)
    (z_int : PySem.W.nsIn K mainGlobals "int" = some none)
    (z_isinstance : PySem.W.nsIn K mainGlobals "isinstance" = some none)
    (z_len : PySem.W.nsIn K mainGlobals "len" = some none)
    (z_list : PySem.W.nsIn K mainGlobals "list" = some none)
    (z_range : PySem.W.nsIn K mainGlobals "range" = some none)
    (z_repr : PySem.W.nsIn K mainGlobals "repr" = some none)
    (z_sorted : PySem.W.nsIn K mainGlobals "sorted" = some none)
    (z_str : PySem.W.nsIn K mainGlobals "str" = some none)
    (z_tuple : PySem.W.nsIn K mainGlobals "tuple" = some none)
    (i_GREATEST : PySem.W.nsIn K mainGlobals "GREATEST" = some (some (.int 4 tk_GREATEST)))
    (i_LARGEST : PySem.W.nsIn K mainGlobals "LARGEST" = some (some (.int 1000000000000 tk_LARGEST)))
    (i_lcm : PySem.W.nsIn K mainGlobals "lcm" = some (some (.builtin "math.lcm")))
    : ∃ fd : FuncData, (∀ (s : Shared) (v : Value), BindsTo s fd ⟨[v], []⟩ [("script", v)]) ∧ ∀ base : Heap, K.In base → base.Ns mainGlobals mg → FnG l.prog w K mg base (L2N.CX l.prog w) 6 fa fd ["script"] (spM K mg F_law) := by
  have e := hfa.symm.trans (PySem.W.mg_of X G a_law)
  have e2 : fa = f_law := by
    cases e
    rfl
  rw [e2]
  have X_BadFigure : ErrX K mg "BadFigure" C_BadFigure := errX (PySem.W.mg_of X G a_BadFigure) cls_BadFigure rf_BadFigure sa_BadFigure exC_BadFigure tyC_BadFigure kC_BadFigure ga_BadFigure gg_BadFigure hd_BadFigure
  have X_BadNumber : ErrX K mg "BadNumber" C_BadNumber := errX (PySem.W.mg_of X G a_BadNumber) cls_BadNumber rf_BadNumber sa_BadNumber exC_BadNumber tyC_BadNumber kC_BadNumber ga_BadNumber gg_BadNumber hd_BadNumber
  have T : Tx K mg C_LineError C_BadFigure C_BadNumber := ⟨PySem.W.mg_of X G a_LineError, PySem.W.mg_of X G a_BadFigure, PySem.W.mg_of X G a_BadNumber, (.cons (PySem.W.mg_of X G a_BadFigure) (PySem.W.exm_ref exC_LineError hd_LineError tyC_LineError m_BadFigure_LineError) (.cons (PySem.W.mg_of X G a_BadNumber) (PySem.W.exm_ref exC_LineError hd_LineError tyC_LineError m_BadNumber_LineError) .nil)), (.cons (PySem.W.mg_of X G a_BadFigure) (PySem.W.exm_ref exC_BadFigure hd_BadFigure tyC_BadFigure m_BadFigure_BadFigure) (.cons (PySem.W.mg_of X G a_BadNumber) (PySem.W.exm_ref exC_BadFigure hd_BadFigure tyC_BadFigure m_BadNumber_BadFigure) .nil)), (.cons (PySem.W.mg_of X G a_BadFigure) (PySem.W.exm_ref exC_BadNumber hd_BadNumber tyC_BadNumber m_BadFigure_BadNumber) (.cons (PySem.W.mg_of X G a_BadNumber) (PySem.W.exm_ref exC_BadNumber hd_BadNumber tyC_BadNumber m_BadNumber_BadNumber) .nil)), (.cons (PySem.W.mg_of X G a_BadFigure) X_BadFigure.X no_BadFigure_value .nil), (.cons (PySem.W.mg_of X G a_BadNumber) X_BadNumber.X no_BadNumber_part .nil), .nil, .nil, PySem.W.mg_none_of X G z_abs, PySem.W.mg_none_of X G z_all, PySem.W.mg_none_of X G z_bool, PySem.W.mg_none_of X G z_enumerate, PySem.W.mg_none_of X G z_int, PySem.W.mg_none_of X G z_isinstance, PySem.W.mg_none_of X G z_len, PySem.W.mg_none_of X G z_list, PySem.W.mg_none_of X G z_range, PySem.W.mg_none_of X G z_repr, PySem.W.mg_none_of X G z_sorted, PySem.W.mg_none_of X G z_str, PySem.W.mg_none_of X G z_tuple, PySem.W.mg_of X G i_lcm, ⟨_, PySem.W.mg_of X G i_GREATEST⟩, ⟨_, PySem.W.mg_of X G i_LARGEST⟩⟩
  refine ⟨_, fun s v => BindsTo.of_eq (fd := PySem.W.fnOf "law" "law" (defArgs s_law) (defBody s_law) (defScope s_law) .none kV_law dc_law pm_law an_law cd_law ct_law) rfl, fun base _ _ => ?_⟩
  have K_BadFigure : ErrK l.prog w K mg base "BadFigure" C_BadFigure I_BadFigure ((nf_BadFigure cc_BadFigure cda_BadFigure).fd doc_BadFigure pm_BadFigure ctv_BadFigure) ["self", "value"] ["value"] := errK1 X_BadFigure (errC X_BadFigure (PySem.W.mg_none_of X G gs) lI_BadFigure rfl lC_BadFigure vs_BadFigure_ hf_BadFigure ce_BadFigure ho hm_BadFigure hB_BadFigure hs_BadFigure htop) iC_BadFigure tI_BadFigure no_BadFigure_value lI_BadFigure cI_BadFigure ⟨rfl, ⟨_, rfl, rfl⟩, ⟨_, fun _ _ => rfl⟩⟩ rfl eS_BadFigure (.all fun us hl => match us, hl with | [_, _], _ => rfl)
  have K_BadNumber : ErrK l.prog w K mg base "BadNumber" C_BadNumber I_BadNumber ((nf_BadNumber cc_BadNumber cda_BadNumber).fd doc_BadNumber pm_BadNumber ctv_BadNumber) ["self", "part"] ["part"] := errK1 X_BadNumber (errC X_BadNumber (PySem.W.mg_none_of X G gs) lI_BadNumber rfl lC_BadNumber vs_BadNumber_ hf_BadNumber ce_BadNumber ho hm_BadNumber hB_BadNumber hs_BadNumber htop) iC_BadNumber tI_BadNumber no_BadNumber_part lI_BadNumber cI_BadNumber ⟨rfl, ⟨_, rfl, rfl⟩, ⟨_, fun _ _ => rfl⟩⟩ rfl eS_BadNumber (.all fun us hl => match us, hl with | [_, _], _ => rfl)
  have G__law_pen : FnG l.prog w K mg base (L2N.CX l.prog w) 1 f__law_pen (PySem.W.fnOf "_law_pen" "_law_pen" (defArgs s__law_pen) (defBody s__law_pen) (defScope s__law_pen) .none kV__law_pen dc__law_pen pm__law_pen an__law_pen cd__law_pen ct__law_pen) ["script"] (spM K mg F__law_pen) := ok__law_pen T l__law_pen c__law_pen
  have C__law_pen : Cal l.prog w K mg base "_law_pen" 1 f__law_pen _ ["script"] F__law_pen := ⟨PySem.W.mg_of X G a__law_pen, k__law_pen, .all fun us hl => match us, hl with | [_], _ => rfl, G__law_pen⟩
  have G__law_draw : FnG l.prog w K mg base (L2N.CX l.prog w) 1 f__law_draw (PySem.W.fnOf "_law_draw" "_law_draw" (defArgs s__law_draw) (defBody s__law_draw) (defScope s__law_draw) .none kV__law_draw dc__law_draw pm__law_draw an__law_draw cd__law_draw ct__law_draw) ["pen", "many"] (spM K mg F__law_draw) := ok__law_draw T l__law_draw c__law_draw
  have C__law_draw : Cal l.prog w K mg base "_law_draw" 1 f__law_draw _ ["pen", "many"] F__law_draw := ⟨PySem.W.mg_of X G a__law_draw, k__law_draw, .all fun us hl => match us, hl with | [_, _], _ => rfl, G__law_draw⟩
  have G__law_figure : FnG l.prog w K mg base (L2N.CX l.prog w) 2 f__law_figure (PySem.W.fnOf "_law_figure" "_law_figure" (defArgs s__law_figure) (defBody s__law_figure) (defScope s__law_figure) .none kV__law_figure dc__law_figure pm__law_figure an__law_figure cd__law_figure ct__law_figure) ["pen", "couples"] (spM K mg F__law_figure) := ok__law_figure C__law_draw T l__law_figure c__law_figure
  have C__law_figure : Cal l.prog w K mg base "_law_figure" 2 f__law_figure _ ["pen", "couples"] F__law_figure := ⟨PySem.W.mg_of X G a__law_figure, k__law_figure, .all fun us hl => match us, hl with | [_, _], _ => rfl, G__law_figure⟩
  have G_is_row : FnG l.prog w K mg base (L2N.CX l.prog w) 1 f_is_row (PySem.W.fnOf "is_row" "is_row" (defArgs s_is_row) (defBody s_is_row) (defScope s_is_row) .none kV_is_row dc_is_row pm_is_row an_is_row cd_is_row ct_is_row) ["value"] (spM K mg F_is_row) := ok_is_row T l_is_row c_is_row
  have C_is_row : Cal l.prog w K mg base "is_row" 1 f_is_row _ ["value"] F_is_row := ⟨PySem.W.mg_of X G a_is_row, k_is_row, .all fun us hl => match us, hl with | [_], _ => rfl, G_is_row⟩
  have G_is_integer : FnG l.prog w K mg base (L2N.CX l.prog w) 1 f_is_integer (PySem.W.fnOf "is_integer" "is_integer" (defArgs s_is_integer) (defBody s_is_integer) (defScope s_is_integer) .none kV_is_integer dc_is_integer pm_is_integer an_is_integer cd_is_integer ct_is_integer) ["value"] (spM K mg F_is_integer) := ok_is_integer T l_is_integer c_is_integer
  have C_is_integer : Cal l.prog w K mg base "is_integer" 1 f_is_integer _ ["value"] F_is_integer := ⟨PySem.W.mg_of X G a_is_integer, k_is_integer, .all fun us hl => match us, hl with | [_], _ => rfl, G_is_integer⟩
  have G_is_figure : FnG l.prog w K mg base (L2N.CX l.prog w) 2 f_is_figure (PySem.W.fnOf "is_figure" "is_figure" (defArgs s_is_figure) (defBody s_is_figure) (defScope s_is_figure) (.ref T_is_figure) kV_is_figure dc_is_figure pm_is_figure an_is_figure cd_is_figure ct_is_figure) ["value", "couples"] (spM K mg F_is_figure) := ok_is_figure C_is_row C_is_integer T l_is_figure c_is_figure
  have C_is_figure_1 : CalD l.prog w K mg base "is_figure" 2 f_is_figure _ ["value", "couples"] F_is_figure [.non] [.non] := ⟨PySem.W.mg_of X G a_is_figure, k_is_figure, ⟨[Value.none], (.cons rfl .nil), fun s us X0 hl => match us, (show us.length = 1 from Nat.add_right_cancel ((List.length_append (as := us)).symm.trans hl)) with | [_], _ => PySem.W.binds_K X0 rfl e_is_figure rfl rfl rfl⟩, fun _ => (.cons .non .nil), G_is_figure⟩
  have C_is_figure : Cal l.prog w K mg base "is_figure" 2 f_is_figure _ ["value", "couples"] F_is_figure := ⟨PySem.W.mg_of X G a_is_figure, k_is_figure, fun s us X0 hl => match us, hl with | [_, _], _ => PySem.W.binds_K X0 rfl e_is_figure rfl rfl rfl, G_is_figure⟩
  have C_is_figure_1_couples : CalK l.prog w K mg base "is_figure" 2 f_is_figure _ ["value", "couples"] F_is_figure 1 ["couples"] [0, 1] [] [] := ⟨PySem.W.mg_of X G a_is_figure, k_is_figure, ⟨[], .nil, fun s us ws X0 h1 h2 => match us, ws, h1, h2 with | [_], [_], _, _ => PySem.W.binds_K X0 rfl e_is_figure rfl rfl rfl⟩, fun _ => .nil, G_is_figure⟩
  have G__law_bent : FnG l.prog w K mg base (L2N.CX l.prog w) 2 f__law_bent (PySem.W.fnOf "_law_bent" "_law_bent" (defArgs s__law_bent) (defBody s__law_bent) (defScope s__law_bent) .none kV__law_bent dc__law_bent pm__law_bent an__law_bent cd__law_bent ct__law_bent) ["pen", "figure"] (spM K mg F__law_bent) := ok__law_bent C__law_draw T l__law_bent c__law_bent
  have C__law_bent : Cal l.prog w K mg base "_law_bent" 2 f__law_bent _ ["pen", "figure"] F__law_bent := ⟨PySem.W.mg_of X G a__law_bent, k__law_bent, .all fun us hl => match us, hl with | [_, _], _ => rfl, G__law_bent⟩
  have G_need_figure : FnG l.prog w K mg base (L2N.CX l.prog w) 3 f_need_figure (PySem.W.fnOf "need_figure" "need_figure" (defArgs s_need_figure) (defBody s_need_figure) (defScope s_need_figure) .none kV_need_figure dc_need_figure pm_need_figure an_need_figure cd_need_figure ct_need_figure) ["value"] (spM K mg F_need_figure) := ok_need_figure C_is_figure_1 K_BadFigure T l_need_figure c_need_figure
  have C_need_figure : Cal l.prog w K mg base "need_figure" 3 f_need_figure _ ["value"] F_need_figure := ⟨PySem.W.mg_of X G a_need_figure, k_need_figure, .all fun us hl => match us, hl with | [_], _ => rfl, G_need_figure⟩
  have G_joined_rows : FnG l.prog w K mg base (L2N.CX l.prog w) 1 f_joined_rows (PySem.W.fnOf "joined_rows" "joined_rows" (defArgs s_joined_rows) (defBody s_joined_rows) (defScope s_joined_rows) .none kV_joined_rows dc_joined_rows pm_joined_rows an_joined_rows cd_joined_rows ct_joined_rows) ["one", "other"] (spM K mg F_joined_rows) := ok_joined_rows T l_joined_rows c_joined_rows
  have C_joined_rows : Cal l.prog w K mg base "joined_rows" 1 f_joined_rows _ ["one", "other"] F_joined_rows := ⟨PySem.W.mg_of X G a_joined_rows, k_joined_rows, .all fun us hl => match us, hl with | [_, _], _ => rfl, G_joined_rows⟩
  have G_then : FnG l.prog w K mg base (L2N.CX l.prog w) 4 f_then (PySem.W.fnOf "then" "then" (defArgs s_then) (defBody s_then) (defScope s_then) .none kV_then dc_then pm_then an_then cd_then ct_then) ["one", "other"] (spM K mg F_then) := ok_then C_need_figure C_joined_rows K_BadFigure T l_then c_then
  have C_then : Cal l.prog w K mg base "then" 4 f_then _ ["one", "other"] F_then := ⟨PySem.W.mg_of X G a_then, k_then, .all fun us hl => match us, hl with | [_, _], _ => rfl, G_then⟩
  have G_back_row : FnG l.prog w K mg base (L2N.CX l.prog w) 1 f_back_row (PySem.W.fnOf "back_row" "back_row" (defArgs s_back_row) (defBody s_back_row) (defScope s_back_row) .none kV_back_row dc_back_row pm_back_row an_back_row cd_back_row ct_back_row) ["row"] (spM K mg F_back_row) := ok_back_row T l_back_row c_back_row
  have C_back_row : Cal l.prog w K mg base "back_row" 1 f_back_row _ ["row"] F_back_row := ⟨PySem.W.mg_of X G a_back_row, k_back_row, .all fun us hl => match us, hl with | [_], _ => rfl, G_back_row⟩
  have G_back : FnG l.prog w K mg base (L2N.CX l.prog w) 4 f_back (PySem.W.fnOf "back" "back" (defArgs s_back) (defBody s_back) (defScope s_back) .none kV_back dc_back pm_back an_back cd_back ct_back) ["figure"] (spM K mg F_back) := ok_back C_need_figure C_back_row T l_back c_back
  have C_back : Cal l.prog w K mg base "back" 4 f_back _ ["figure"] F_back := ⟨PySem.W.mg_of X G a_back, k_back, .all fun us hl => match us, hl with | [_], _ => rfl, G_back⟩
  have G_is_within : FnG l.prog w K mg base (L2N.CX l.prog w) 2 f_is_within (PySem.W.fnOf "is_within" "is_within" (defArgs s_is_within) (defBody s_is_within) (defScope s_is_within) .none kV_is_within dc_is_within pm_is_within an_is_within cd_is_within ct_is_within) ["value", "least", "most"] (spM K mg F_is_within) := ok_is_within C_is_integer T l_is_within c_is_within
  have C_is_within : Cal l.prog w K mg base "is_within" 2 f_is_within _ ["value", "least", "most"] F_is_within := ⟨PySem.W.mg_of X G a_is_within, k_is_within, .all fun us hl => match us, hl with | [_, _, _], _ => rfl, G_is_within⟩
  have G_need_within : FnG l.prog w K mg base (L2N.CX l.prog w) 3 f_need_within (PySem.W.fnOf "need_within" "need_within" (defArgs s_need_within) (defBody s_need_within) (defScope s_need_within) .none kV_need_within dc_need_within pm_need_within an_need_within cd_need_within ct_need_within) ["value", "least", "most", "part"] (spM K mg F_need_within) := ok_need_within C_is_within K_BadNumber T l_need_within c_need_within
  have C_need_within : Cal l.prog w K mg base "need_within" 3 f_need_within _ ["value", "least", "most", "part"] F_need_within := ⟨PySem.W.mg_of X G a_need_within, k_need_within, .all fun us hl => match us, hl with | [_, _, _, _], _ => rfl, G_need_within⟩
  have G_cycles_of : FnG l.prog w K mg base (L2N.CX l.prog w) 1 f_cycles_of (PySem.W.fnOf "cycles_of" "cycles_of" (defArgs s_cycles_of) (defBody s_cycles_of) (defScope s_cycles_of) .none kV_cycles_of dc_cycles_of pm_cycles_of an_cycles_of cd_cycles_of ct_cycles_of) ["row"] (spM K mg F_cycles_of) := ok_cycles_of T l_cycles_of c_cycles_of
  have C_cycles_of : Cal l.prog w K mg base "cycles_of" 1 f_cycles_of _ ["row"] F_cycles_of := ⟨PySem.W.mg_of X G a_cycles_of, k_cycles_of, .all fun us hl => match us, hl with | [_], _ => rfl, G_cycles_of⟩
  have G_power_row : FnG l.prog w K mg base (L2N.CX l.prog w) 2 f_power_row (PySem.W.fnOf "power_row" "power_row" (defArgs s_power_row) (defBody s_power_row) (defScope s_power_row) .none kV_power_row dc_power_row pm_power_row an_power_row cd_power_row ct_power_row) ["row", "times"] (spM K mg F_power_row) := ok_power_row C_cycles_of T l_power_row c_power_row
  have C_power_row : Cal l.prog w K mg base "power_row" 2 f_power_row _ ["row", "times"] F_power_row := ⟨PySem.W.mg_of X G a_power_row, k_power_row, .all fun us hl => match us, hl with | [_, _], _ => rfl, G_power_row⟩
  have G_power : FnG l.prog w K mg base (L2N.CX l.prog w) 4 f_power (PySem.W.fnOf "power" "power" (defArgs s_power) (defBody s_power) (defScope s_power) .none kV_power dc_power pm_power an_power cd_power ct_power) ["figure", "times"] (spM K mg F_power) := ok_power C_need_figure C_need_within C_power_row T l_power c_power
  have C_power : Cal l.prog w K mg base "power" 4 f_power _ ["figure", "times"] F_power := ⟨PySem.W.mg_of X G a_power, k_power, .all fun us hl => match us, hl with | [_, _], _ => rfl, G_power⟩
  have G_cycles : FnG l.prog w K mg base (L2N.CX l.prog w) 4 f_cycles (PySem.W.fnOf "cycles" "cycles" (defArgs s_cycles) (defBody s_cycles) (defScope s_cycles) .none kV_cycles dc_cycles pm_cycles an_cycles cd_cycles ct_cycles) ["figure"] (spM K mg F_cycles) := ok_cycles C_need_figure C_cycles_of T l_cycles c_cycles
  have C_cycles : Cal l.prog w K mg base "cycles" 4 f_cycles _ ["figure"] F_cycles := ⟨PySem.W.mg_of X G a_cycles, k_cycles, .all fun us hl => match us, hl with | [_], _ => rfl, G_cycles⟩
  have G_order : FnG l.prog w K mg base (L2N.CX l.prog w) 4 f_order (PySem.W.fnOf "order" "order" (defArgs s_order) (defBody s_order) (defScope s_order) .none kV_order dc_order pm_order an_order cd_order ct_order) ["figure"] (spM K mg F_order) := ok_order C_need_figure C_cycles_of T l_order c_order
  have C_order : Cal l.prog w K mg base "order" 4 f_order _ ["figure"] F_order := ⟨PySem.W.mg_of X G a_order, k_order, .all fun us hl => match us, hl with | [_], _ => rfl, G_order⟩
  have G_exchanges : FnG l.prog w K mg base (L2N.CX l.prog w) 4 f_exchanges (PySem.W.fnOf "exchanges" "exchanges" (defArgs s_exchanges) (defBody s_exchanges) (defScope s_exchanges) .none kV_exchanges dc_exchanges pm_exchanges an_exchanges cd_exchanges ct_exchanges) ["figure"] (spM K mg F_exchanges) := ok_exchanges C_need_figure C_cycles_of T l_exchanges c_exchanges
  have C_exchanges : Cal l.prog w K mg base "exchanges" 4 f_exchanges _ ["figure"] F_exchanges := ⟨PySem.W.mg_of X G a_exchanges, k_exchanges, .all fun us hl => match us, hl with | [_], _ => rfl, G_exchanges⟩
  have G__law_refused : FnG l.prog w K mg base (L2N.CX l.prog w) 5 f__law_refused (PySem.W.fnOf "_law_refused" "_law_refused" (defArgs s__law_refused) (defBody s__law_refused) (defScope s__law_refused) .none kV__law_refused dc__law_refused pm__law_refused an__law_refused cd__law_refused ct__law_refused) ["value"] (spM K mg F__law_refused) := ok__law_refused C_then C_back C_power C_cycles C_order C_exchanges T l__law_refused c__law_refused
  have C__law_refused : Cal l.prog w K mg base "_law_refused" 5 f__law_refused _ ["value"] F__law_refused := ⟨PySem.W.mg_of X G a__law_refused, k__law_refused, .all fun us hl => match us, hl with | [_], _ => rfl, G__law_refused⟩
  have G_still : FnG l.prog w K mg base (L2N.CX l.prog w) 4 f_still (PySem.W.fnOf "still" "still" (defArgs s_still) (defBody s_still) (defScope s_still) .none kV_still dc_still pm_still an_still cd_still ct_still) ["couples"] (spM K mg F_still) := ok_still C_need_within T l_still c_still
  have C_still : Cal l.prog w K mg base "still" 4 f_still _ ["couples"] F_still := ⟨PySem.W.mg_of X G a_still, k_still, .all fun us hl => match us, hl with | [_], _ => rfl, G_still⟩
  have C_still_0_couples : CalK l.prog w K mg base "still" 4 f_still _ ["couples"] F_still 0 ["couples"] [0] [] [] := ⟨PySem.W.mg_of X G a_still, k_still, ⟨[], .nil, fun s us ws X0 h1 h2 => match us, ws, h1, h2 with | [], [_], _, _ => .of_eq rfl⟩, fun _ => .nil, G_still⟩
  have G_crossed : FnG l.prog w K mg base (L2N.CX l.prog w) 4 f_crossed (PySem.W.fnOf "crossed" "crossed" (defArgs s_crossed) (defBody s_crossed) (defScope s_crossed) .none kV_crossed dc_crossed pm_crossed an_crossed cd_crossed ct_crossed) ["couples"] (spM K mg F_crossed) := ok_crossed C_need_within T l_crossed c_crossed
  have C_crossed : Cal l.prog w K mg base "crossed" 4 f_crossed _ ["couples"] F_crossed := ⟨PySem.W.mg_of X G a_crossed, k_crossed, .all fun us hl => match us, hl with | [_], _ => rfl, G_crossed⟩
  have C_crossed_0_couples : CalK l.prog w K mg base "crossed" 4 f_crossed _ ["couples"] F_crossed 0 ["couples"] [0] [] [] := ⟨PySem.W.mg_of X G a_crossed, k_crossed, ⟨[], .nil, fun s us ws X0 h1 h2 => match us, ws, h1, h2 with | [], [_], _, _ => .of_eq rfl⟩, fun _ => .nil, G_crossed⟩
  have G_upended : FnG l.prog w K mg base (L2N.CX l.prog w) 4 f_upended (PySem.W.fnOf "upended" "upended" (defArgs s_upended) (defBody s_upended) (defScope s_upended) .none kV_upended dc_upended pm_upended an_upended cd_upended ct_upended) ["couples"] (spM K mg F_upended) := ok_upended C_need_within T l_upended c_upended
  have C_upended : Cal l.prog w K mg base "upended" 4 f_upended _ ["couples"] F_upended := ⟨PySem.W.mg_of X G a_upended, k_upended, .all fun us hl => match us, hl with | [_], _ => rfl, G_upended⟩
  have C_upended_0_couples : CalK l.prog w K mg base "upended" 4 f_upended _ ["couples"] F_upended 0 ["couples"] [0] [] [] := ⟨PySem.W.mg_of X G a_upended, k_upended, ⟨[], .nil, fun s us ws X0 h1 h2 => match us, ws, h1, h2 with | [], [_], _, _ => .of_eq rfl⟩, fun _ => .nil, G_upended⟩
  have G__law_number_refused : FnG l.prog w K mg base (L2N.CX l.prog w) 5 f__law_number_refused (PySem.W.fnOf "_law_number_refused" "_law_number_refused" (defArgs s__law_number_refused) (defBody s__law_number_refused) (defScope s__law_number_refused) .none kV__law_number_refused dc__law_number_refused pm__law_number_refused an__law_number_refused cd__law_number_refused ct__law_number_refused) ["value"] (spM K mg F__law_number_refused) := ok__law_number_refused C_still C_crossed C_upended C_power T l__law_number_refused c__law_number_refused
  have C__law_number_refused : Cal l.prog w K mg base "_law_number_refused" 5 f__law_number_refused _ ["value"] F__law_number_refused := ⟨PySem.W.mg_of X G a__law_number_refused, k__law_number_refused, .all fun us hl => match us, hl with | [_], _ => rfl, G__law_number_refused⟩
  have G_law : FnG l.prog w K mg base (L2N.CX l.prog w) 6 f_law (PySem.W.fnOf "law" "law" (defArgs s_law) (defBody s_law) (defScope s_law) .none kV_law dc_law pm_law an_law cd_law ct_law) ["script"] (spM K mg F_law) := ok_law C__law_pen C__law_figure C__law_draw C_is_figure_1 C_is_figure C_is_figure_1_couples C__law_bent C__law_refused C_still C_crossed C_upended C_still_0_couples C_crossed_0_couples C_upended_0_couples C__law_number_refused C_power T l_law c_law
  exact G_law
end Zk02
end

section
set_option Elab.async false
set_option linter.all false
set_option maxRecDepth 100000
set_option maxHeartbeats 4000000
/-! k02: what is a figure, of any row. -/
namespace Zl
open PySem L2 Z Zb Za Zv
open Zp (it Pm Per orb walk mins cycs isMin)
local macro_rules | `(tactic| tm_at "pf") => `(tactic| first | (with_reducible assumption) | omega | (with_reducible refine Zp.Pm.lt (by assumption) _ ?_; omega) | (with_reducible refine Nat.le_sub_one_of_lt (Zp.Pm.lt (by assumption) _ ?_); omega) | (simp only [List.length_map, List.length_range, List.length_cons, List.length_nil, List.length_append] at *; omega) | rfl)
local macro_rules | `(tactic| tm_at "io") => `(tactic| first | exact rfl | (with_reducible assumption) | (simp only [*]))
local macro_rules | `(tactic| tm_at "lf") => `(tactic| first
  | (with_reducible assumption)
  | with_reducible exact fEq_int _ _ | with_reducible exact fNe_int _ _
  | with_reducible exact len_row | with_reducible exact len_rowT | with_reducible exact len_mapT | with_reducible exact len_mapL
  | with_reducible exact add_N | with_reducible exact add_N1 | with_reducible exact add_1N | with_reducible exact sub_N (by tm_at "pf") | with_reducible exact sub_N1 (by tm_at "pf") | with_reducible exact mul2_N | with_reducible exact div2_N | with_reducible exact mod2_N | with_reducible exact mod_N (by tm_at "pf")
  | with_reducible exact fdiv2 | with_reducible exact fmod2
  | with_reducible exact ix_rowN (by tm_at "pf") | with_reducible exact ix_rowNT (by tm_at "pf")
  | with_reducible exact ix_row (by tm_at "pf") (by tm_at "pf") | with_reducible exact ix_rowT (by tm_at "pf") (by tm_at "pf")
  | with_reducible exact it_rngN (by tm_at "pf") | with_reducible exact it_rngZ (by tm_at "pf") (by tm_at "pf")
  | with_reducible exact rg_N (by tm_at "pf") | with_reducible exact rg_Z (by tm_at "pf") (by tm_at "pf")
  | with_reducible exact fmodN (by tm_at "pf")
  | ((with_reducible show _ ≤ _); tm_at "pf")
  | ((with_reducible show isIo _ = false); tm_at "io")
  | ((with_reducible show szOk _ = true); exact sz_of (by tm_at "pf"))
  | ((with_reducible show setSl _ _ _ = _); (first | with_reducible apply Zv.set0 | with_reducible apply Zv.set1 | with_reducible apply Zv.set2 | with_reducible apply Zv.set3 | with_reducible apply Zv.set4 | with_reducible apply Zv.set5 | with_reducible apply Zv.set6 | with_reducible apply Zv.set7 | with_reducible apply Zv.set8 | with_reducible apply Zv.set9 | with_reducible apply Zv.set10 | with_reducible apply Zv.set11 | with_reducible apply Zv.set12 | with_reducible apply Zv.set13 | with_reducible apply Zv.set14 | with_reducible apply Zv.set15 | with_reducible apply Zv.set16 | with_reducible apply Zv.set17); tm_at "io")
  | exact rfl
  | fail "leaf")
local macro_rules | `(tactic| tm_at "ev") => `(tactic| first
  | (with_reducible assumption)
  | (with_reducible exact v_c) | (with_reducible exact v_nil) | (with_reducible exact v_gs0)
  | ((with_reducible show mVar _ _ = _); exact rfl)
  | ((with_reducible show mPeek _ _ = _); exact rfl)
  | ((with_reducible show mTake _ _ = _); exact rfl)
  | ((with_reducible show mNext _ = _); exact rfl)
  | ((with_reducible show mCnt _ = _); exact rfl)
  | ((with_reducible show seqK (some (CO.rt _ _)) _ = _); exact rfl)
  | ((with_reducible show seqK (some (CO.ct _)) _ = _); exact rfl)
  | ((with_reducible show some _ = _); exact rfl)
  | ((first
      | with_reducible apply v_sq | with_reducible apply v_sk
      | with_reducible apply v_ifs
      | with_reducible apply c_t | with_reducible apply c_f | with_reducible apply c_n
      | ((with_reducible apply c_dt); (first | (with_reducible assumption) | omega | (dsimp only <;> omega))) | ((with_reducible apply c_df); (first | (with_reducible assumption) | omega | (dsimp only <;> omega)))
      | ((with_reducible apply c_ht); (with_reducible assumption)) | ((with_reducible apply c_hf); (with_reducible assumption))
      | with_reducible apply v_drop | with_reducible apply v_ret | with_reducible apply v_set | with_reducible apply v_par | with_reducible apply v_tri
      | with_reducible apply v_unp | with_reducible apply v_gT | with_reducible apply v_gs | with_reducible apply v_gN
      | with_reducible apply v_for | with_reducible apply v_raise1
      | with_reducible apply v_tst | with_reducible apply v_not | with_reducible apply v_and | with_reducible apply v_or
      | with_reducible apply v_andV | with_reducible apply v_orV | with_reducible apply v_notV | with_reducible apply v_if
      | with_reducible apply v_R | with_reducible apply w_V | with_reducible apply v_op | with_reducible apply v_U | with_reducible apply v_G | with_reducible apply v_N
      | with_reducible apply v_rd2 | with_reducible apply v_opN | with_reducible apply v_ix | with_reducible apply v_sl | with_reducible apply v_part
      | with_reducible apply v_fld | with_reducible apply v_listRg | with_reducible apply v_tupRg | with_reducible apply v_it
      | with_reducible apply v_lc | with_reducible apply v_cons | with_reducible apply v_tup | with_reducible apply v_lst
      | with_reducible apply w_c0 | with_reducible apply w_c1 | with_reducible apply w_c2 | with_reducible apply w_c3
      | with_reducible apply w_c1d | with_reducible apply w_c2d | with_reducible apply w_k1 | with_reducible apply w_pen1 | with_reducible apply w_pen0
      | with_reducible exact e0_nil | with_reducible apply e0_v | with_reducible apply e0_io | with_reducible apply e0_no
      | with_reducible apply v_run | with_reducible apply v_runf | with_reducible apply v_runx
      | (intro _ _; dsimp only [List.set])
      | tm_at "lf") <;> tm_at "ev"))

theorem mod4_N {a : Nat} : fMod (.int (a : Nat)) (.int 4) = some (.int ((a % 4 : Nat) : Int)) := mod_N (m := 4) (by decide)
theorem exi {α : Type} {p q : α → Prop} {e : α} (h : p e) (k : q e) : ∃ e, p e ∧ q e := ⟨e, h, k⟩
def isI : D → Bool
  | .int _ => true
  | _ => false
def simple : D → Bool
  | .int _ => true
  | .bl _ => true
  | .str _ => true
  | .non => true
  | _ => false
theorem is_integer_any {d : D} (h : simple d = true) : F_is_integer [.v d] = some (.rt (.v (.bl (isI d))) none) := by
  cases d <;> first | rfl | cases h
/-- a row of these parts -/
def Row (d : D) (ds : List D) : Prop := d = .lst ds ∨ d = .tup ds
section
variable {d : D} {ds : List D} {c : Nat} {x : D}
theorem Row.len (h : Row d ds) : fLen d = some (.int (ds.length : Nat)) := by rcases h with rfl | rfl <;> rfl
theorem Row.row (h : Row d ds) : F_is_row [.v d] = some (.rt (.v (.bl true)) none) := by rcases h with rfl | rfl <;> rfl
theorem as_map : ds = (List.range ds.length).map fun i => ds.getD i .non := by
  apply List.ext_getElem
  · simp
  · intro i h1 h2
    simp only [List.getElem_map, List.getElem_range]
    rw [List.getD_eq_getElem?_getD, List.getElem?_eq_getElem h1]
    rfl
theorem Row.its (h : Row d ds) : items d = some ((List.range ds.length).map fun i => ds.getD i .non) := by
  rw [← as_map]
  rcases h with rfl | rfl <;> rfl
theorem in_no (h : ds.length ≠ 2 ∧ ds.length ≠ 4 ∧ ds.length ≠ 6 ∧ ds.length ≠ 8) : fIn true (.int (ds.length : Nat)) (.tup [.int 2, .int 4, .int 6, .int 8]) = some (.bl true) := by
  show inB true _ _ = _
  unfold inB
  rw [if_pos (by rfl), if_pos rfl]
  have : inV (D.int (ds.length : Nat)).v ([D.int 2, D.int 4, D.int 6, D.int 8].map D.v) = false := by
    obtain ⟨h1, h2, h3, h4⟩ := h
    have a1 : ¬ ((ds.length : Nat) : Int) = 2 := by omega
    have a2 : ¬ ((ds.length : Nat) : Int) = 4 := by omega
    have a3 : ¬ ((ds.length : Nat) : Int) = 6 := by omega
    have a4 : ¬ ((ds.length : Nat) : Int) = 8 := by omega
    have b : ∀ y : Int, ¬ ((ds.length : Nat) : Int) = y → (y == ((ds.length : Nat) : Int)) = false := fun y hy => beq_false_of_ne fun e => hy e.symm
    have b' : ∀ y : Int, ¬ ((ds.length : Nat) : Int) = y → (((ds.length : Nat) : Int) == y) = false := fun y hy => beq_false_of_ne hy
    simp [inV, D.v, eqV, b _ a1, b _ a2, b _ a3, b _ a4, b' _ a1, b' _ a2, b' _ a3, b' _ a4, a1, a2, a3, a4]
  rw [this]
  rfl
theorem in_yes (h : ds.length = 2 ∨ ds.length = 4 ∨ ds.length = 6 ∨ ds.length = 8) : fIn true (.int (ds.length : Nat)) (.tup [.int 2, .int 4, .int 6, .int 8]) = some (.bl false) := by
  rcases h with e | e | e | e <;> rw [e] <;> rfl
theorem bad_len (h : Row d ds) (hl : ds.length ≠ 2 ∧ ds.length ≠ 4 ∧ ds.length ≠ 6 ∧ ds.length ≠ 8) : F_is_figure [.v d, .v x] = some (.rt (.v (.bl false)) none) := by
  have h1 := h.len
  have h2 := h.row
  have h3 := in_no hl
  unfold F_is_figure m_is_figure
  tm_at "ev"
theorem all_bl {n : Nat} {b : Nat → Bool} : fAll (.lst ((List.range n).map fun i => .bl (b i))) = some (.bl ((List.range n).all b)) := by
  have : ∀ l : List Nat, allOf blOf (l.map fun i => D.bl (b i)) = some (l.map b) := fun l => by
    induction l with
    | nil => rfl
    | cons a l ih =>
      rw [List.map_cons, allOf, ih]
      rfl
  show ((allOf blOf ((List.range n).map fun i => D.bl (b i))).bind fun bs => some (D.bl (bs.all id))) = some (D.bl ((List.range n).all b))
  rw [this]
  show some (D.bl (((List.range n).map b).all id)) = _
  rw [List.all_map]
  rfl
/-- asked of so many couples, or of none -/
def Of (x : D) (n : Nat) : Prop := x = .non ∨ ∃ c : Nat, x = I c ∧ 2 * c = n
def AllSimple (ds : List D) : Prop := ∀ i, i < ds.length → simple (ds.getD i .non) = true
theorem is_integer_at {i : Nat} (hs : AllSimple ds) (hi : i < ds.length) : F_is_integer [.v (ds.getD i .non)] = some (.rt (.v (.bl (isI (ds.getD i .non)))) none) := is_integer_any (hs i hi)
local macro_rules | `(tactic| tm_at "lf") => `(tactic| with_reducible exact is_integer_at (by assumption) (by assumption))
theorem bad_part (h : Row d ds) (hl : ds.length = 2 ∨ ds.length = 4 ∨ ds.length = 6 ∨ ds.length = 8) (hx : Of x ds.length) (hs : AllSimple ds) (hb : ∃ i, i < ds.length ∧ isI (ds.getD i .non) = false) : F_is_figure [.v d, .v x] = some (.rt (.v (.bl false)) none) := by
  have h1 := h.len
  have h2 := h.row
  have h3 := in_yes hl
  have h4 := h.its
  have h5 := all_bl (n := ds.length) (b := fun i => isI (ds.getD i .non))
  have h6 : ((List.range ds.length).all fun i => isI (ds.getD i .non)) = false := by
    obtain ⟨i, hi, e⟩ := hb
    rw [List.all_eq_false]
    exact ⟨i, List.mem_range.mpr hi, by rw [e]; decide⟩
  rw [h6] at h5
  unfold F_is_figure m_is_figure e1_is_figure
  rcases hx with rfl | ⟨c, rfl, hc⟩
  · tm_at "ev"
  · tm_at "ev"
theorem sorted_row {ns : List Int} (h : Row d (ns.map .int)) : fSorted d = some (.lst ((isort ns).map .int)) := by
  have : allOf inOf (ns.map D.int) = some ns := by
    clear h
    induction ns with
    | nil => rfl
    | cons a l ih => rw [List.map_cons, allOf, ih]; rfl
  rcases h with rfl | rfl
  · show ((allOf inOf (ns.map D.int)).bind fun ns => some (D.lst ((isort ns).map .int))) = _
    rw [this]
    rfl
  · show ((allOf inOf (ns.map D.int)).bind fun ns => some (D.lst ((isort ns).map .int))) = _
    rw [this]
    rfl
theorem all_simple_ints {ns : List Int} : AllSimple (ns.map .int) := fun i hi => by
  rw [List.getD_eq_getElem?_getD, List.getElem?_eq_getElem hi, List.getElem_map]
  rfl
/-- of ints: what is_figure says -/
theorem fig_ints {ns : List Int} (h : Row d (ns.map .int)) (hl : ns.length = 2 ∨ ns.length = 4 ∨ ns.length = 6 ∨ ns.length = 8) (hx : Of x ns.length) : F_is_figure [.v d, .v x] = some (.rt (.v (.bl (decide (isort ns = (List.range ns.length).map fun i => ((i : Nat) : Int))))) none) := by
  have hlen : (ns.map D.int).length = ns.length := List.length_map _
  have h1 := h.len
  have h2 := h.row
  have h3 := in_yes (ds := ns.map .int) (by rw [hlen]; exact hl)
  have h4 := h.its
  have hs := all_simple_ints (ns := ns)
  have h5 := all_bl (n := (ns.map D.int).length) (b := fun i => isI ((ns.map D.int).getD i .non))
  have h6 : ((List.range (ns.map D.int).length).all fun i => isI ((ns.map D.int).getD i .non)) = true := by
    rw [List.all_eq_true]
    intro i hi
    have hi := List.mem_range.mp hi
    rw [List.getD_eq_getElem?_getD, List.getElem?_eq_getElem hi, List.getElem_map]
    rfl
  rw [h6] at h5
  have h7 := sorted_row h
  have h8 : fRg (.int ((ns.map D.int).length : Nat)) = some (((List.range ns.length).map fun i => ((i : Nat) : Int)).map .int) := by
    rw [hlen, rg_N (by omega), List.map_map]
    rfl
  have h9 := fEq_lints (isort ns) ((List.range ns.length).map fun i => ((i : Nat) : Int))
  have hc : ∀ c : Nat, 2 * c = ns.length → 2 * c = (ns.map D.int).length := fun c h => by rw [hlen]; exact h
  unfold F_is_figure m_is_figure e1_is_figure
  rcases hx with rfl | ⟨c, rfl, hc'⟩
  · tm_at "ev"
  · have := hc c hc'
    tm_at "ev"
end
end Zl
end

section
set_option Elab.async false
set_option linter.all false
set_option maxRecDepth 100000
set_option maxHeartbeats 4000000
/-! k02: bent figures. -/
namespace Zv
open PySem L2 Z Zb Za
section
variable {j : Nat} {e e1 e2 e3 : Z.Env} {x i r : D} {ds ds' : List D} {mx mi m : M D}
theorem v_setixO (h : mx e = some (.ok x e1)) (hl : isL e1[j]? = true) (h2 : mi e1 = some (.ok i e2)) (hs : e2[j]? = some (.own (.lst ds))) (hf : fSetIx i x ds = some ((), ds')) (he : e2.set j (.own (.lst ds')) = e3) : mSetIx j mx mi e = some (.nx e3) := v_setix h hl h2 hs rfl hf he
theorem v_m1O {f : D → List D → Option (D × List D)} (hl : isL e[j]? = true) (h : m e = some (.ok x e1)) (hs : e1[j]? = some (.own (.lst ds))) (hf : f x ds = some (r, ds')) (he : e1.set j (.own (.lst ds')) = e2) : mM1 j f m e = some (.ok r e2) := v_m1 hl h hs rfl hf he
end
end Zv
namespace Zl
open PySem L2 Z Zb Za Zv
open Zp (it Pm Per orb walk mins cycs isMin)
section
variable {d : D} {ds : List D} {x : D} {f : Nat → Nat} {n a : Nat}
theorem notB_ints {ns : List Int} (h : Row d (ns.map .int)) (hl : ns.length = 2 ∨ ns.length = 4 ∨ ns.length = 6 ∨ ns.length = 8) (hx : Of x ns.length) (hb : isort ns ≠ (List.range ns.length).map fun i => ((i : Nat) : Int)) : F_is_figure [.v d, .v x] = some (.rt (.v (.bl false)) none) := by
  rw [fig_ints h hl hx, decide_eq_false hb]
theorem out_ne {ns : List Int} {z : Int} (h : z ∈ ns) (hz : z < 0 ∨ (ns.length : Int) ≤ z) : isort ns ≠ (List.range ns.length).map fun i => ((i : Nat) : Int) := fun e => by
  have h1 := (isort_perm ns).mem_iff.mpr h
  rw [e] at h1
  obtain ⟨i, hi, rfl⟩ := List.mem_map.mp h1
  have := List.mem_range.mp hi
  omega
theorem dup_ne {ns : List Int} (h : ¬ ns.Nodup) : isort ns ≠ (List.range ns.length).map fun i => ((i : Nat) : Int) := fun e => by
  refine h ((isort_perm ns).nodup_iff.mp ?_)
  rw [e]
  unfold List.Nodup
  rw [List.pairwise_map]
  refine List.Pairwise.imp ?_ List.pairwise_lt_range
  intro a b hab e
  omega
/-- one part put in -/
def putD (f : Nat → Nat) (n a : Nat) (X : D) : List D := (List.range n).map fun i => if i = a then X else I (f i)
theorem put_set (X : D) : (row f n).set a X = putD f n a X := set_map
theorem setix_put {X : D} (h : a < n) : fSetIx (.int (a : Nat)) X (row f n) = some ((), putD f n a X) := by
  unfold fSetIx
  dsimp only
  rw [show (row f n).length = n by unfold row; rw [List.length_map, List.length_range], ix_nat h, ← put_set]
  rfl
theorem put_len (X : D) : (putD f n a X).length = n := by unfold putD; rw [List.length_map, List.length_range]
theorem put_at (X : D) {i : Nat} (h : i < n) : (putD f n a X).getD i .non = if i = a then X else I (f i) := by
  unfold putD
  rw [List.getD_eq_getElem?_getD, List.getElem?_map, List.getElem?_range h]
  rfl
theorem put_int (z : Int) : putD f n a (.int z) = ((List.range n).map fun i => if i = a then z else ((f i : Nat) : Int)).map .int := by
  unfold putD
  rw [List.map_map]
  refine List.map_congr_left fun i _ => ?_
  show (if i = a then D.int z else I (f i)) = D.int (if i = a then z else ((f i : Nat) : Int))
  by_cases e : i = a
  · rw [if_pos e, if_pos e]
  · rw [if_neg e, if_neg e]
/-- one part of another kind -/
theorem put_bad {X : D} (h : Row d (putD f n a X)) (hn : n = 2 ∨ n = 4 ∨ n = 6 ∨ n = 8) (ha : a < n) (hX : simple X = true) (hI : isI X = false) (hx : Of x n) : F_is_figure [.v d, .v x] = some (.rt (.v (.bl false)) none) := by
  refine bad_part h (by rw [put_len]; exact hn) (by rw [put_len]; exact hx) (fun i hi => ?_) ⟨a, by rw [put_len]; exact ha, ?_⟩
  · rw [put_len] at hi
    rw [put_at X hi]
    by_cases e : i = a
    · rw [if_pos e]; exact hX
    · rw [if_neg e]; rfl
  · rw [put_at X ha, if_pos rfl]
    exact hI
theorem put_out {z : Int} (h : Row d (putD f n a (.int z))) (hn : n = 2 ∨ n = 4 ∨ n = 6 ∨ n = 8) (ha : a < n) (hz : z < 0 ∨ (n : Int) ≤ z) (hx : Of x n) : F_is_figure [.v d, .v x] = some (.rt (.v (.bl false)) none) := by
  rw [put_int] at h
  have hl : ((List.range n).map fun i => if i = a then z else ((f i : Nat) : Int)).length = n := by rw [List.length_map, List.length_range]
  refine notB_ints h (by rw [hl]; exact hn) (by rw [hl]; exact hx) (out_ne (z := z) (List.mem_map.mpr ⟨a, List.mem_range.mpr ha, if_pos rfl⟩) (by rw [hl]; exact hz))
theorem put_dup {b : Nat} (h : Row d (putD f n a (I (f b)))) (hn : n = 2 ∨ n = 4 ∨ n = 6 ∨ n = 8) (ha : a < n) (hb : b < n) (hab : b ≠ a) (hx : Of x n) : F_is_figure [.v d, .v x] = some (.rt (.v (.bl false)) none) := by
  have h : Row d (putD f n a (.int (f b : Nat))) := h
  rw [put_int] at h
  have hl : ((List.range n).map fun i => if i = a then ((f b : Nat) : Int) else ((f i : Nat) : Int)).length = n := by rw [List.length_map, List.length_range]
  refine notB_ints h (by rw [hl]; exact hn) (by rw [hl]; exact hx) (dup_ne fun hd => ?_)
  have hp := List.pairwise_iff_getElem.mp hd
  rcases Nat.lt_or_gt_of_ne hab with h1 | h1
  · refine hp b a (by rw [hl]; exact hb) (by rw [hl]; exact ha) h1 ?_
    simp only [List.getElem_map, List.getElem_range]
    rw [if_neg hab]; simp
  · refine hp a b (by rw [hl]; exact ha) (by rw [hl]; exact hb) h1 ?_
    simp only [List.getElem_map, List.getElem_range]
    rw [if_neg hab]; simp
end
end Zl
end

section
set_option Elab.async false
set_option linter.all false
set_option maxRecDepth 100000
set_option maxHeartbeats 4000000
/-! k02: the law's bent figures. -/
namespace Zl
open PySem L2 Z Zb Za Zv
open Zp (it Pm Per orb walk mins cycs isMin)
theorem sm_from {n : Nat} : ∀ {ts : List Str} {k a : Nat} {acc : Str}, Sm a acc → (∀ t ∈ ts, Sm n t) → Sm (a + (n + 2) * ts.length) (textFrom k acc ts)
  | [], _, _, _, h, _ => h.mono (by omega)
  | t :: ts, k, a, acc, h, ht => by
    have h1 : Sm 2 (Str.ofString (if k > 0 then ", " else "" : String)) := by
      by_cases e : k > 0
      · rw [if_pos e]
        exact sm_lit (by decide +kernel)
      · rw [if_neg e]
        exact sm_lit (by decide +kernel)
    have h2 := sm_from (k := k + 1) (sm_app (sm_app h h1) (ht t List.mem_cons_self)) (fun x hx => ht x (List.mem_cons_of_mem _ hx))
    refine Sm.mono h2 ?_
    rw [List.length_cons, Nat.mul_add]
    omega
theorem sm_list {n : Nat} {ts : List Str} (h : ∀ t ∈ ts, Sm n t) : Sm ((n + 2) * ts.length + 2) (listText ts) := by
  have h1 : Sm 1 (Str.ofString "[") := sm_lit (by decide +kernel)
  have h2 : Sm 1 (Str.ofString "]") := sm_lit (by decide +kernel)
  exact (sm_app (sm_from (k := 0) h1 h) h2).mono (by omega)
theorem sh_lst {n : Nat} {ds : List D} (h : ∀ d ∈ ds, Sh n d) : Sh ((n + 2) * ds.length + 2) (.lst ds) := by
  obtain ⟨h1, h2, h3⟩ := sh_all h
  refine ⟨?_, ?_⟩
  · simp only [D.py, PyData.shown]
    rw [← h3]
    exact sm_list h1
  · simp only [D.py, PyData.showable, h2]
def notDct : D → Bool
  | .dct _ _ => false
  | _ => true
theorem reprD_of {n k : Nat} {d : D} (h : Sh n d) (hn : n ≤ 1000000) (hg : Gk k d) (hk : k ≤ 64) (hd : notDct d = true) : ∃ s, fReprD d = some (.str s) ∧ Gk 0 (.str s) := by
  refine ⟨d.py.shown, ?_, gk_str h.1.2⟩
  have e1 : d.puq = gd d := by cases d <;> first | rfl | cases hd
  have e2 : d.pyd = d.py := by cases d <;> first | rfl | cases hd
  unfold fReprD szRp
  rw [e1, e2, hg.gd hk, h.2, decide_eq_true (Nat.le_trans h.1.1 hn), decide_eq_true (Nat.le_trans hg.2.2 hk)]
  rfl
/-- what repr shows shortly -/
def Ok (d : D) : Prop := Sh 40 d ∧ Gk 0 d
theorem repr_rowD {d : D} {ds : List D} (h : Row d ds) (hl : ds.length ≤ 100) (ho : ∀ x ∈ ds, Ok x) : ∃ s, fReprD d = some (.str s) ∧ Gk 0 (.str s) := by
  rcases h with rfl | rfl
  · exact reprD_of (sh_lst fun x hx => (ho x hx).1) (by omega) (gk_lst fun x hx => (ho x hx).2) (by omega) rfl
  · exact reprD_of (sh_tup fun x hx => (ho x hx).1) (by omega) (gk_tup fun x hx => (ho x hx).2) (by omega) rfl
theorem ok_nat {i : Nat} (h : i < 1000) : Ok (I i) := ⟨(sh_nat i h).mono (by omega), gk_int _⟩
theorem ok_m1 : Ok (.int (-1)) := ⟨⟨sm_lit (by decide +kernel), by decide +kernel⟩, gk_int _⟩
theorem ok_non : Ok .non := ⟨⟨sm_lit (by decide +kernel), by decide +kernel⟩, gk_non⟩
theorem ok_true : Ok (.bl true) := ⟨⟨sm_lit (by decide +kernel), by decide +kernel⟩, gk_bl _⟩
theorem str_small (i : Nat) (h : i < 8) : ∃ s, fStrI (I i) = some (.str s) ∧ Ok (.str s) := by
  have : i = 0 ∨ i = 1 ∨ i = 2 ∨ i = 3 ∨ i = 4 ∨ i = 5 ∨ i = 6 ∨ i = 7 := by omega
  rcases this with rfl | rfl | rfl | rfl | rfl | rfl | rfl | rfl
  all_goals
    refine ⟨_, rfl, ⟨sm_lit ?_, ?_⟩, gk_str ?_⟩ <;> decide +kernel
/-- a value that is no figure, also of so many couples, and that repr shows -/
structure BadC (d : D) (c : Nat) : Prop where
  a : F_is_figure [.v d, .v .non] = some (.rt (.v (.bl false)) none)
  b : F_is_figure [.v d, .v (I c)] = some (.rt (.v (.bl false)) none)
  r : ∃ s, fReprD d = some (.str s) ∧ Gk 0 (.str s)
section
variable {f : Nat → Nat} {n a c : Nat} {d X : D}
theorem ok_put (P : Pm f n) (hn : n ≤ 100) (hX : Ok X) : ∀ x ∈ putD f n a X, Ok x := fun x hx => by
  obtain ⟨i, hi, rfl⟩ := List.mem_map.mp hx
  by_cases e : i = a
  · rw [if_pos e]; exact hX
  · rw [if_neg e]
    have := P.lt i (List.mem_range.mp hi)
    exact ok_nat (by omega)
theorem badC_bad (P : Pm f n) (h : Row d (putD f n a X)) (hn : n = 2 ∨ n = 4 ∨ n = 6 ∨ n = 8) (hc : 2 * c = n) (ha : a < n) (hX : simple X = true) (hI : isI X = false) (ho : Ok X) : BadC d c :=
  ⟨put_bad h hn ha hX hI (.inl rfl), put_bad h hn ha hX hI (.inr ⟨c, rfl, hc⟩), repr_rowD h (by rw [put_len]; omega) (ok_put P (by omega) ho)⟩
theorem badC_out {z : Int} (P : Pm f n) (h : Row d (putD f n a (.int z))) (hn : n = 2 ∨ n = 4 ∨ n = 6 ∨ n = 8) (hc : 2 * c = n) (ha : a < n) (hz : z < 0 ∨ (n : Int) ≤ z) (ho : Ok (.int z)) : BadC d c :=
  ⟨put_out h hn ha hz (.inl rfl), put_out h hn ha hz (.inr ⟨c, rfl, hc⟩), repr_rowD h (by rw [put_len]; omega) (ok_put P (by omega) ho)⟩
theorem badC_dup {b : Nat} (P : Pm f n) (h : Row d (putD f n a (I (f b)))) (hn : n = 2 ∨ n = 4 ∨ n = 6 ∨ n = 8) (hc : 2 * c = n) (ha : a < n) (hb : b < n) (hab : b ≠ a) : BadC d c :=
  ⟨put_dup h hn ha hb hab (.inl rfl), put_dup h hn ha hb hab (.inr ⟨c, rfl, hc⟩), repr_rowD h (by rw [put_len]; omega) (ok_put P (by omega) (ok_nat (by have := P.lt b hb; omega)))⟩
theorem badC_len {ds : List D} (h : Row d ds) (hl : ds.length ≠ 2 ∧ ds.length ≠ 4 ∧ ds.length ≠ 6 ∧ ds.length ≠ 8) (h9 : ds.length ≤ 100) (ho : ∀ x ∈ ds, Ok x) : BadC d c :=
  ⟨bad_len h hl, bad_len h hl, repr_rowD h h9 ho⟩
theorem ok_row (P : Pm f n) (hn : n ≤ 100) : ∀ x ∈ row f n, Ok x := fun x hx => by
  obtain ⟨i, hi, rfl⟩ := List.mem_map.mp hx
  have := P.lt i (List.mem_range.mp hi)
  exact ok_nat (by omega)
theorem cut_last (hn : n = 2 ∨ n = 4 ∨ n = 6 ∨ n = 8) : fSl none (some ((n - 1 : Nat) : Int)) (.lst (row f n)) = some (.fr (.lst (row f (n - 1)))) := by
  show some (Rs.fr (.lst (cut (row f n) none (some ((n - 1 : Nat) : Int))))) = _
  unfold cut
  have hl : (row f n).length = n := by unfold row; rw [List.length_map, List.length_range]
  rw [hl, HT.sIx_none, HT.sIx_nat, List.drop_zero, Nat.sub_zero, Nat.min_eq_left (by omega)]
  unfold row
  rw [← List.map_take, List.take_range, Nat.min_eq_left (by omega)]
theorem cat_one (hn : n ≤ 100) : fCat (.lst (row f n)) (.lst [I n]) = some (.lst (row f n ++ [I n])) := by
  show (if szOk ((row f n).length + [I n].length) then some (D.lst (row f n ++ [I n])) else none) = _
  rw [if_pos (sz_of (by unfold row; rw [List.length_map, List.length_range]; show n + 1 ≤ 1000000; omega))]
theorem index_row {p : Nat} (P : Pm f n) (hp : p < n) (h1 : f p = 1) : fIndex (.int 1) (row f n) = some (I p, row f n) := by
  unfold fIndex
  have e1 : (row f n).all D.flat = true := by
    rw [List.all_eq_true]
    intro x hx
    obtain ⟨i, hi, rfl⟩ := List.mem_map.mp hx
    rfl
  have e2 : ((row f n).map D.v).all flatV = true := by
    rw [List.all_eq_true]
    intro x hx
    obtain ⟨y, hy, rfl⟩ := List.mem_map.mp hx
    obtain ⟨i, hi, rfl⟩ := List.mem_map.mp hy
    rfl
  have e3 : ((row f n).map D.v).findIdx? (fun z => eqV z (D.int 1).v) = some p := by
    rw [List.findIdx?_eq_some_iff_getElem]
    have hl : ((row f n).map D.v).length = n := by unfold row; rw [List.length_map, List.length_map, List.length_range]
    refine ⟨by rw [hl]; exact hp, ?_, fun j hj => ?_⟩
    · simp only [row, List.getElem_map, List.getElem_range]
      rw [h1]
      rfl
    · have hjn : j < n := by omega
      simp only [row, List.getElem_map, List.getElem_range]
      have hne : f j ≠ 1 := fun e => by
        have := P.inj j p hjn hp (by rw [e, h1])
        omega
      have : ¬ ((f j : Nat) : Int) = 1 := by omega
      simp [D.v, eqV, this]
  rw [e1, e2, e3]
  rfl
end
end Zl
end

section
set_option Elab.async false
set_option linter.all false
set_option maxRecDepth 100000
set_option maxHeartbeats 4000000
/-! k02: what _law_bent makes. -/
namespace Zk02
open PySem L2 Z Zb Za Zv Zl
open Zp (it Pm Per orb walk mins cycs isMin)
local macro_rules | `(tactic| tm_at "pf") => `(tactic| first | (with_reducible assumption) | omega | (with_reducible refine Zp.Pm.lt (by assumption) _ ?_; omega) | (with_reducible refine Nat.le_sub_one_of_lt (Zp.Pm.lt (by assumption) _ ?_); omega) | (simp only [List.length_map, List.length_range, List.length_cons, List.length_nil, List.length_append] at *; omega) | rfl)
local macro_rules | `(tactic| tm_at "io") => `(tactic| first | exact rfl | (with_reducible assumption) | (simp only [*]))
local macro_rules | `(tactic| tm_at "lf") => `(tactic| first
  | (with_reducible assumption)
  | with_reducible exact fEq_int _ _ | with_reducible exact fNe_int _ _
  | with_reducible exact len_row | with_reducible exact len_rowT | with_reducible exact len_mapT | with_reducible exact len_mapL
  | with_reducible exact add_N | with_reducible exact add_N1 | with_reducible exact add_1N | with_reducible exact sub_N (by tm_at "pf") | with_reducible exact sub_N1 (by tm_at "pf") | with_reducible exact mul2_N | with_reducible exact div2_N | with_reducible exact mod2_N | with_reducible exact mod_N (by tm_at "pf")
  | with_reducible exact fdiv2 | with_reducible exact fmod2
  | with_reducible exact ix_rowN (by tm_at "pf") | with_reducible exact ix_rowNT (by tm_at "pf")
  | with_reducible exact ix_row (by tm_at "pf") (by tm_at "pf") | with_reducible exact ix_rowT (by tm_at "pf") (by tm_at "pf")
  | with_reducible exact it_rngN (by tm_at "pf") | with_reducible exact it_rngZ (by tm_at "pf") (by tm_at "pf")
  | with_reducible exact rg_N (by tm_at "pf") | with_reducible exact rg_Z (by tm_at "pf") (by tm_at "pf")
  | with_reducible exact fmodN (by tm_at "pf")
  | ((with_reducible show _ ≤ _); tm_at "pf")
  | ((with_reducible show isIo _ = false); tm_at "io")
  | ((with_reducible show szOk _ = true); exact sz_of (by tm_at "pf"))
  | ((with_reducible show setSl _ _ _ = _); (first | with_reducible apply Zv.set0 | with_reducible apply Zv.set1 | with_reducible apply Zv.set2 | with_reducible apply Zv.set3 | with_reducible apply Zv.set4 | with_reducible apply Zv.set5 | with_reducible apply Zv.set6 | with_reducible apply Zv.set7 | with_reducible apply Zv.set8 | with_reducible apply Zv.set9 | with_reducible apply Zv.set10 | with_reducible apply Zv.set11 | with_reducible apply Zv.set12 | with_reducible apply Zv.set13 | with_reducible apply Zv.set14 | with_reducible apply Zv.set15 | with_reducible apply Zv.set16 | with_reducible apply Zv.set17); tm_at "io")
  | exact rfl
  | fail "leaf")
local macro_rules | `(tactic| tm_at "ev") => `(tactic| first
  | (with_reducible assumption)
  | (with_reducible exact v_c) | (with_reducible exact v_nil) | (with_reducible exact v_gs0)
  | ((with_reducible show mVar _ _ = _); exact rfl)
  | ((with_reducible show mPeek _ _ = _); exact rfl)
  | ((with_reducible show mTake _ _ = _); exact rfl)
  | ((with_reducible show mNext _ = _); exact rfl)
  | ((with_reducible show mCnt _ = _); exact rfl)
  | ((with_reducible show seqK (some (CO.rt _ _)) _ = _); exact rfl)
  | ((with_reducible show seqK (some (CO.ct _)) _ = _); exact rfl)
  | ((with_reducible show some _ = _); exact rfl)
  | ((first
      | with_reducible apply v_sq | with_reducible apply v_sk
      | with_reducible apply v_ifs
      | with_reducible apply c_t | with_reducible apply c_f | with_reducible apply c_n
      | ((with_reducible apply c_dt); (first | (with_reducible assumption) | omega | (dsimp only <;> omega))) | ((with_reducible apply c_df); (first | (with_reducible assumption) | omega | (dsimp only <;> omega)))
      | ((with_reducible apply c_ht); (with_reducible assumption)) | ((with_reducible apply c_hf); (with_reducible assumption))
      | with_reducible apply v_drop | with_reducible apply v_ret | with_reducible apply v_set | with_reducible apply v_par | with_reducible apply v_tri
      | with_reducible apply v_unp | with_reducible apply v_gT | with_reducible apply v_gs | with_reducible apply v_gN
      | with_reducible apply v_for | with_reducible apply v_raise1
      | with_reducible apply v_tst | with_reducible apply v_not | with_reducible apply v_and | with_reducible apply v_or
      | with_reducible apply v_andV | with_reducible apply v_orV | with_reducible apply v_notV | with_reducible apply v_if
      | with_reducible apply v_R | with_reducible apply w_V | with_reducible apply v_op | with_reducible apply v_U | with_reducible apply v_G | with_reducible apply v_N
      | with_reducible apply v_rd2 | with_reducible apply v_opN | with_reducible apply v_ix | with_reducible apply v_sl | with_reducible apply v_part
      | with_reducible apply v_fld | with_reducible apply v_listRg | with_reducible apply v_tupRg | with_reducible apply v_it
      | with_reducible apply v_lc | with_reducible apply v_cons | with_reducible apply v_tup | with_reducible apply v_lst
      | with_reducible apply w_c0 | with_reducible apply w_c1 | with_reducible apply w_c2 | with_reducible apply w_c3
      | with_reducible apply w_c1d | with_reducible apply w_c2d | with_reducible apply w_k1 | with_reducible apply w_pen1 | with_reducible apply w_pen0
      | with_reducible exact e0_nil | with_reducible apply e0_v | with_reducible apply e0_io | with_reducible apply e0_no
      | with_reducible apply v_run | with_reducible apply v_runf | with_reducible apply v_runx
      | (intro _ _; dsimp only [List.set])
      | tm_at "lf") <;> tm_at "ev"))

local macro_rules | `(tactic| tm_at "ev") => `(tactic| (first | with_reducible apply v_setixO | with_reducible apply v_m1O | with_reducible apply w_c4 | with_reducible apply w_k2r | with_reducible apply w_k2 | with_reducible exact ls0 | with_reducible apply lsS) <;> tm_at "ev")
theorem dr : Ze.Dr F__law_draw := Ze.dr1 ⟨by decide⟩
section
variable {f : Nat → Nat} {n a c : Nat}
abbrev mLast : M D := (mIf (mTst (mRd2 fEq (mCall F__law_draw [] (xSl 0 (xV (M.ret (.int 2)) xNil))) (mR (M.ret (.int 0))))) (mG fTuple (mPeek 3)) (mVar 3))
theorem last_step {ns : List Int} {k : Nat} {P : D} {ds : List D} {s1 s2 s4 : Sl} (hP : Pen ns k P) (hk : k ≤ 10000) : ∃ d P' s3, Row d ds ∧ Pen ns (k + 1) P' ∧ mLast [.io P, s1, s2, .own (.lst ds), s4] = some (.ok d [.io P', s1, s2, s3, s4]) := by
  obtain ⟨r, P1, rl, p1, q1⟩ := hP.drawn dr 2
  change F__law_draw [.io P, .v (.int 2)] = _ at q1
  have h1 : fTuple (.lst ds) = some (.tup ds) := rfl
  by_cases hr : r = 0
  · refine ⟨.tup ds, P1, .own (.lst ds), .inr rfl, p1, ?_⟩
    unfold mLast
    tm_at "ev"
  · refine ⟨.lst ds, P1, .v (.lst ds), .inl rfl, p1, ?_⟩
    unfold mLast
    tm_at "ev"
theorem bent {ns : List Int} {k : Nat} {P : D} (Pf : Pm f n) (hn : n = 2 ∨ n = 4 ∨ n = 6 ∨ n = 8) (hc : 2 * c = n) (hP : Pen ns k P) (hk : k ≤ 1000) :
    ∃ d P', BadC d c ∧ Pen ns (k + 3) P' ∧ F__law_bent [.io P, .v (.lst (row f n))] = some (.rt (.v d) (some P')) := by
  obtain ⟨a, P1, al, p1, q1⟩ := hP.drawn dr n
  obtain ⟨kd, P2, kl, p2, q2⟩ := p1.drawn dr 8
  change F__law_draw [.io P1, .v (.int 8)] = _ at q2
  have hmod : (a + 1) % n < n := Nat.mod_lt _ (by omega)
  have hne : (a + 1) % n ≠ a := fun e => by
    rcases Nat.lt_or_ge (a + 1) n with h | h
    · rw [Nat.mod_eq_of_lt h] at e; omega
    · rw [show a + 1 = n by omega, Nat.mod_self] at e; omega
  have hlist : fList (.lst (row f n)) = some (.lst (row f n)) := rfl
  have hk8 : kd = 0 ∨ kd = 1 ∨ kd = 2 ∨ kd = 3 ∨ kd = 4 ∨ kd = 5 ∨ kd = 6 ∨ kd = 7 := by omega
  have F := fg_lst Pf hn
  have hlen := F.len
  unfold F__law_bent m__law_bent
  rcases hk8 with hk | hk | hk | hk | hk | hk | hk | hk
  · have h5 := setix_put (f := f) (X := I (f ((a + 1) % n))) al
    obtain ⟨d, P', s3, hr, p3, q3⟩ := last_step (ds := putD f n a (I (f ((a + 1) % n)))) (s1 := .v (.lst (row f n))) (s2 := .v (I kd)) (s4 := .v (I a)) p2 (by omega)
    refine ⟨d, P', badC_dup Pf hr hn hc al hmod hne, p3, ?_⟩
    tm_at "ev"
  · have h5 := setix_put (f := f) (X := I n) al
    obtain ⟨d, P', s3, hr, p3, q3⟩ := last_step (ds := putD f n a (I n)) (s1 := .v (.lst (row f n))) (s2 := .v (I kd)) (s4 := .v (I a)) p2 (by omega)
    refine ⟨d, P', badC_out Pf hr hn hc al (.inr (Int.le_refl _)) (ok_nat (by omega)), p3, ?_⟩
    tm_at "ev"
  · have h5 := setix_put (f := f) (X := .int (-1)) al
    obtain ⟨d, P', s3, hr, p3, q3⟩ := last_step (ds := putD f n a (.int (-1))) (s1 := .v (.lst (row f n))) (s2 := .v (I kd)) (s4 := .v (I a)) p2 (by omega)
    refine ⟨d, P', badC_out Pf hr hn hc al (.inl (by decide)) ok_m1, p3, ?_⟩
    tm_at "ev"
  · obtain ⟨s, hs, ho⟩ := str_small (f a) (by have := Pf.lt a al; omega)
    have h5 := setix_put (f := f) (X := .str s) al
    obtain ⟨d, P', s3, hr, p3, q3⟩ := last_step (ds := putD f n a (.str s)) (s1 := .v (.lst (row f n))) (s2 := .v (I kd)) (s4 := .v (I a)) p2 (by omega)
    refine ⟨d, P', badC_bad Pf hr hn hc al rfl rfl ho, p3, ?_⟩
    tm_at "ev"
  · have h5 := cut_last (f := f) hn
    have hll : (row f (n - 1)).length = n - 1 := by unfold row; rw [List.length_map, List.length_range]
    have hsub : ∀ x ∈ row f (n - 1), x ∈ row f n := fun x hx => by
      obtain ⟨i, hi, rfl⟩ := List.mem_map.mp hx
      exact List.mem_map.mpr ⟨i, List.mem_range.mpr (by have := List.mem_range.mp hi; omega), rfl⟩
    obtain ⟨d, P', s3, hr, p3, q3⟩ := last_step (ds := row f (n - 1)) (s1 := .v (.lst (row f n))) (s2 := .v (I kd)) (s4 := .v (I a)) p2 (by omega)
    refine ⟨d, P', badC_len hr (by rw [hll]; omega) (by rw [hll]; omega) (fun x hx => ok_row Pf (by omega) x (hsub x hx)), p3, ?_⟩
    tm_at "ev"
  · have h5 := cat_one (f := f) (n := n) (by omega)
    have hll : (row f n ++ [I n]).length = n + 1 := by rw [List.length_append]; unfold row; rw [List.length_map, List.length_range]; rfl
    have hok : ∀ x ∈ row f n ++ [I n], Ok x := fun x hx => by
      rcases List.mem_append.mp hx with hx | hx
      · exact ok_row Pf (by omega) x hx
      · rw [List.mem_singleton.mp hx]
        exact ok_nat (by omega)
    obtain ⟨d, P', s3, hr, p3, q3⟩ := last_step (ds := row f n ++ [I n]) (s1 := .v (.lst (row f n))) (s2 := .v (I kd)) (s4 := .v (I a)) p2 (by omega)
    refine ⟨d, P', badC_len hr (by rw [hll]; omega) (by rw [hll]; omega) hok, p3, ?_⟩
    tm_at "ev"
  · obtain ⟨p, pl, hp1⟩ := surj Pf (y := 1) (by omega)
    have h6 := index_row Pf pl hp1
    have h5 := setix_put (f := f) (X := .bl true) pl
    obtain ⟨d, P', s3, hr, p3, q3⟩ := last_step (ds := putD f n p (.bl true)) (s1 := .v (.lst (row f n))) (s2 := .v (I kd)) (s4 := .v (I a)) p2 (by omega)
    refine ⟨d, P', badC_bad Pf hr hn hc pl rfl rfl ok_true, p3, ?_⟩
    tm_at "ev"
  · have h5 := setix_put (f := f) (X := .non) al
    obtain ⟨d, P', s3, hr, p3, q3⟩ := last_step (ds := putD f n a (.non)) (s1 := .v (.lst (row f n))) (s2 := .v (I kd)) (s4 := .v (I a)) p2 (by omega)
    refine ⟨d, P', badC_bad Pf hr hn hc al rfl rfl ok_non, p3, ?_⟩
    tm_at "ev"
end
end Zk02
end

section
set_option Elab.async false
set_option linter.all false
set_option maxRecDepth 100000
set_option maxHeartbeats 4000000
/-! k02: what refuses a value that is no figure. -/
namespace Zl
open PySem L2 Z Zb Za Zv
theorem str_f {s t : Str} (h : (PyData.strOk s && PyData.strOk t && !decide (s = t)) = true) : fEq (.str s) (.str t) = some (.bl false) := by
  simp only [Bool.and_eq_true, Bool.not_eq_true', decide_eq_false_iff_not] at h
  rw [fEq_gk (gk_str h.1.1) (gk_str h.1.2) (by decide) (by decide)]
  refine congrArg (fun b => some (D.bl b)) ?_
  simp only [D.py, PyData.eqv]
  simpa using h.2
theorem str_t {s : Str} (h : PyData.strOk s = true) : fEq (.str s) (.str s) = some (.bl true) := fEq_self (gk_str h) (by decide)
theorem str_n {s : Str} (h : PyData.strOk s = true) : fNe (.str s) (.str s) = some (.bl false) := fNe_self (gk_str h) (by decide)
section
variable {d d' x : D} {f : Nat → Nat} {n : Nat}
theorem then_b1 (h : Bad d) : F_then [.v d, .v d'] = some (.ex "BadFigure" ["value"] [d] none) := by
  unfold F_then m_then
  exact v_runx (e1 := [.v d, .v d']) rfl rfl (v_seq_ex (v_drop_ex (v_c1x rfl h.need))) rfl
theorem then_b2 (F : Fg d f n) (h : Bad d') : F_then [.v d, .v d'] = some (.ex "BadFigure" ["value"] [d'] none) := by
  unfold F_then m_then
  exact v_runx (e1 := [.v d, .v d']) rfl rfl (v_seq (v_drop (v_c1 rfl (need_figure_fg F))) (v_seq_ex (v_drop_ex (v_c1x rfl h.need)))) rfl
theorem back_b (h : Bad d) : F_back [.v d] = some (.ex "BadFigure" ["value"] [d] none) := by
  unfold F_back m_back
  exact v_runx (e1 := [.v d]) rfl rfl (v_seq_ex (v_drop_ex (v_c1x rfl h.need))) rfl
theorem power_b (h : Bad d) : F_power [.v d, .v x] = some (.ex "BadFigure" ["value"] [d] none) := by
  unfold F_power m_power
  exact v_runx (e1 := [.v d, .v x]) rfl rfl (v_seq_ex (v_drop_ex (v_c1x rfl h.need))) rfl
theorem cycles_b (h : Bad d) : F_cycles [.v d] = some (.ex "BadFigure" ["value"] [d] none) := by
  unfold F_cycles m_cycles
  exact v_runx (e1 := [.v d]) rfl rfl (v_seq_ex (v_drop_ex (v_c1x rfl h.need))) rfl
theorem order_b (h : Bad d) : F_order [.v d] = some (.ex "BadFigure" ["value"] [d] none) := by
  unfold F_order m_order
  exact v_runx (e1 := [.v d, .no, .no]) rfl rfl (v_seq_ex (v_drop_ex (v_c1x rfl h.need))) rfl
theorem exchanges_b (h : Bad d) : F_exchanges [.v d] = some (.ex "BadFigure" ["value"] [d] none) := by
  unfold F_exchanges m_exchanges
  exact v_runx (e1 := [.v d, .no, .no, .no]) rfl rfl (v_seq_ex (v_drop_ex (v_c1x rfl h.need))) rfl
theorem fg10 : Fg (.tup [.int 1, .int 0]) (fun i => 1 - i) 2 := ⟨⟨fun i hi => by omega, fun i j _ _ _ => by omega⟩, .inl rfl, .inr rfl⟩
end
end Zl
namespace Zk02
open PySem L2 Z Zb Za Zv Zl
open Zp (it Pm Per orb walk mins cycs isMin)
local macro_rules | `(tactic| tm_at "pf") => `(tactic| first | (with_reducible assumption) | omega | (with_reducible refine Zp.Pm.lt (by assumption) _ ?_; omega) | (with_reducible refine Nat.le_sub_one_of_lt (Zp.Pm.lt (by assumption) _ ?_); omega) | (simp only [List.length_map, List.length_range, List.length_cons, List.length_nil, List.length_append] at *; omega) | rfl)
local macro_rules | `(tactic| tm_at "io") => `(tactic| first | exact rfl | (with_reducible assumption) | (simp only [*]))
local macro_rules | `(tactic| tm_at "lf") => `(tactic| first
  | (with_reducible assumption)
  | with_reducible exact fEq_int _ _ | with_reducible exact fNe_int _ _
  | with_reducible exact len_row | with_reducible exact len_rowT | with_reducible exact len_mapT | with_reducible exact len_mapL
  | with_reducible exact add_N | with_reducible exact add_N1 | with_reducible exact add_1N | with_reducible exact sub_N (by tm_at "pf") | with_reducible exact sub_N1 (by tm_at "pf") | with_reducible exact mul2_N | with_reducible exact div2_N | with_reducible exact mod2_N | with_reducible exact mod_N (by tm_at "pf")
  | with_reducible exact fdiv2 | with_reducible exact fmod2
  | with_reducible exact ix_rowN (by tm_at "pf") | with_reducible exact ix_rowNT (by tm_at "pf")
  | with_reducible exact ix_row (by tm_at "pf") (by tm_at "pf") | with_reducible exact ix_rowT (by tm_at "pf") (by tm_at "pf")
  | with_reducible exact it_rngN (by tm_at "pf") | with_reducible exact it_rngZ (by tm_at "pf") (by tm_at "pf")
  | with_reducible exact rg_N (by tm_at "pf") | with_reducible exact rg_Z (by tm_at "pf") (by tm_at "pf")
  | with_reducible exact fmodN (by tm_at "pf")
  | ((with_reducible show _ ≤ _); tm_at "pf")
  | ((with_reducible show isIo _ = false); tm_at "io")
  | ((with_reducible show szOk _ = true); exact sz_of (by tm_at "pf"))
  | ((with_reducible show setSl _ _ _ = _); (first | with_reducible apply Zv.set0 | with_reducible apply Zv.set1 | with_reducible apply Zv.set2 | with_reducible apply Zv.set3 | with_reducible apply Zv.set4 | with_reducible apply Zv.set5 | with_reducible apply Zv.set6 | with_reducible apply Zv.set7 | with_reducible apply Zv.set8 | with_reducible apply Zv.set9 | with_reducible apply Zv.set10 | with_reducible apply Zv.set11 | with_reducible apply Zv.set12 | with_reducible apply Zv.set13 | with_reducible apply Zv.set14 | with_reducible apply Zv.set15 | with_reducible apply Zv.set16 | with_reducible apply Zv.set17); tm_at "io")
  | exact rfl
  | fail "leaf")
local macro_rules | `(tactic| tm_at "ev") => `(tactic| first
  | (with_reducible assumption)
  | (with_reducible exact v_c) | (with_reducible exact v_nil) | (with_reducible exact v_gs0)
  | ((with_reducible show mVar _ _ = _); exact rfl)
  | ((with_reducible show mPeek _ _ = _); exact rfl)
  | ((with_reducible show mTake _ _ = _); exact rfl)
  | ((with_reducible show mNext _ = _); exact rfl)
  | ((with_reducible show mCnt _ = _); exact rfl)
  | ((with_reducible show seqK (some (CO.rt _ _)) _ = _); exact rfl)
  | ((with_reducible show seqK (some (CO.ct _)) _ = _); exact rfl)
  | ((with_reducible show some _ = _); exact rfl)
  | ((first
      | with_reducible apply v_sq | with_reducible apply v_sk
      | with_reducible apply v_ifs
      | with_reducible apply c_t | with_reducible apply c_f | with_reducible apply c_n
      | ((with_reducible apply c_dt); (first | (with_reducible assumption) | omega | (dsimp only <;> omega))) | ((with_reducible apply c_df); (first | (with_reducible assumption) | omega | (dsimp only <;> omega)))
      | ((with_reducible apply c_ht); (with_reducible assumption)) | ((with_reducible apply c_hf); (with_reducible assumption))
      | with_reducible apply v_drop | with_reducible apply v_ret | with_reducible apply v_set | with_reducible apply v_par | with_reducible apply v_tri
      | with_reducible apply v_unp | with_reducible apply v_gT | with_reducible apply v_gs | with_reducible apply v_gN
      | with_reducible apply v_for | with_reducible apply v_raise1
      | with_reducible apply v_tst | with_reducible apply v_not | with_reducible apply v_and | with_reducible apply v_or
      | with_reducible apply v_andV | with_reducible apply v_orV | with_reducible apply v_notV | with_reducible apply v_if
      | with_reducible apply v_R | with_reducible apply w_V | with_reducible apply v_op | with_reducible apply v_U | with_reducible apply v_G | with_reducible apply v_N
      | with_reducible apply v_rd2 | with_reducible apply v_opN | with_reducible apply v_ix | with_reducible apply v_sl | with_reducible apply v_part
      | with_reducible apply v_fld | with_reducible apply v_listRg | with_reducible apply v_tupRg | with_reducible apply v_it
      | with_reducible apply v_lc | with_reducible apply v_cons | with_reducible apply v_tup | with_reducible apply v_lst
      | with_reducible apply w_c0 | with_reducible apply w_c1 | with_reducible apply w_c2 | with_reducible apply w_c3
      | with_reducible apply w_c1d | with_reducible apply w_c2d | with_reducible apply w_k1 | with_reducible apply w_pen1 | with_reducible apply w_pen0
      | with_reducible exact e0_nil | with_reducible apply e0_v | with_reducible apply e0_io | with_reducible apply e0_no
      | with_reducible apply v_run | with_reducible apply v_runf | with_reducible apply v_runx
      | (intro _ _; dsimp only [List.set])
      | tm_at "lf") <;> tm_at "ev"))

local macro_rules | `(tactic| tm_at "lf") => `(tactic| first | with_reducible exact str_f (by decide +kernel) | with_reducible exact str_t (by decide +kernel) | with_reducible exact str_n (by decide +kernel))
local macro_rules | `(tactic| tm_at "ev") => `(tactic| (first | with_reducible apply v_setixO | with_reducible apply v_m1O | with_reducible apply w_c4 | with_reducible exact ls0 | with_reducible apply lsS) <;> tm_at "ev")
section
variable {d : D} {s : Str} {s3 s4 s5 : Sl}
theorem ref_0 (h : Bad d) (hr : fReprD d = some (.str s)) (hg : Gk 0 (.str s)) (k3 : NI s3) (k4 : NI s4) (k5 : NI s5) :
    b4__law_refused [.v d, .own (.lst []), .v (.str (Str.ofString "then")), s3, s4, s5] = some (.nx [.v d, .own (.lst []), .v (.str (Str.ofString "then")), .no, .v (.str (Str.ofString "figure")), .v d]) := by
  have hx : mDrop (mCall F_then [] (xV (mVar 0) (xV (mTup (mCons (M.ret (.int 1)) (mCons (M.ret (.int 0)) mNil))) xNil))) [.v d, .own (.lst []), .v (.str (Str.ofString "then")), s3, .v (.str (Str.ofString "none")), .v .non] = some (.ex "BadFigure" ["value"] [d] [.v d, .own (.lst []), .v (.str (Str.ofString "then")), s3, .v (.str (Str.ofString "none")), .v .non]) := v_drop_ex (v_c2x rfl rfl (then_b1 h))
  have hy : y3__law_refused [.v d, .own (.lst []), .v (.str (Str.ofString "then")), s3, .v (.str (Str.ofString "none")), .v .non] = some (.ex "BadFigure" ["value"] [d] [.v d, .own (.lst []), .v (.str (Str.ofString "then")), s3, .v (.str (Str.ofString "none")), .v .non]) := by
    unfold y3__law_refused
    tm_at "ev"
  have ht : mTry y3__law_refused [(tabP tab_BadFigure, some 3, h2__law_refused), (tabP tab_LineError, none, h1__law_refused)] [.v d, .own (.lst []), .v (.str (Str.ofString "then")), s3, .v (.str (Str.ofString "none")), .v .non] = some (.nx [.v d, .own (.lst []), .v (.str (Str.ofString "then")), .no, .v (.str (Str.ofString "figure")), .v d]) := by
    refine v_try_ex hy ?_
    refine v_hd rfl (Zv.set3 k3) (o1 := some (.nx [.v d, .own (.lst []), .v (.str (Str.ofString "then")), .v (.exc "BadFigure" ["value"] [d]), .v (.str (Str.ofString "figure")), .v d])) ?_ rfl
    unfold h2__law_refused
    tm_at "ev"
  have hn := fNe_self hg (by decide)
  unfold b4__law_refused
  tm_at "ev"
theorem ref_1 (h : Bad d) (hr : fReprD d = some (.str s)) (hg : Gk 0 (.str s)) (k3 : NI s3) (k4 : NI s4) (k5 : NI s5) :
    b4__law_refused [.v d, .own (.lst []), .v (.str (Str.ofString "other")), s3, s4, s5] = some (.nx [.v d, .own (.lst []), .v (.str (Str.ofString "other")), .no, .v (.str (Str.ofString "figure")), .v d]) := by
  have hx : mDrop (mCall F_then [] (xV (mTup (mCons (M.ret (.int 1)) (mCons (M.ret (.int 0)) mNil))) (xV (mVar 0) xNil))) [.v d, .own (.lst []), .v (.str (Str.ofString "other")), s3, .v (.str (Str.ofString "none")), .v .non] = some (.ex "BadFigure" ["value"] [d] [.v d, .own (.lst []), .v (.str (Str.ofString "other")), s3, .v (.str (Str.ofString "none")), .v .non]) := v_drop_ex (v_c2x rfl rfl (then_b2 fg10 h))
  have hy : y3__law_refused [.v d, .own (.lst []), .v (.str (Str.ofString "other")), s3, .v (.str (Str.ofString "none")), .v .non] = some (.ex "BadFigure" ["value"] [d] [.v d, .own (.lst []), .v (.str (Str.ofString "other")), s3, .v (.str (Str.ofString "none")), .v .non]) := by
    unfold y3__law_refused
    tm_at "ev"
  have ht : mTry y3__law_refused [(tabP tab_BadFigure, some 3, h2__law_refused), (tabP tab_LineError, none, h1__law_refused)] [.v d, .own (.lst []), .v (.str (Str.ofString "other")), s3, .v (.str (Str.ofString "none")), .v .non] = some (.nx [.v d, .own (.lst []), .v (.str (Str.ofString "other")), .no, .v (.str (Str.ofString "figure")), .v d]) := by
    refine v_try_ex hy ?_
    refine v_hd rfl (Zv.set3 k3) (o1 := some (.nx [.v d, .own (.lst []), .v (.str (Str.ofString "other")), .v (.exc "BadFigure" ["value"] [d]), .v (.str (Str.ofString "figure")), .v d])) ?_ rfl
    unfold h2__law_refused
    tm_at "ev"
  have hn := fNe_self hg (by decide)
  unfold b4__law_refused
  tm_at "ev"
theorem ref_2 (h : Bad d) (hr : fReprD d = some (.str s)) (hg : Gk 0 (.str s)) (k3 : NI s3) (k4 : NI s4) (k5 : NI s5) :
    b4__law_refused [.v d, .own (.lst []), .v (.str (Str.ofString "back")), s3, s4, s5] = some (.nx [.v d, .own (.lst []), .v (.str (Str.ofString "back")), .no, .v (.str (Str.ofString "figure")), .v d]) := by
  have hx : mDrop (mCall F_back [] (xV (mVar 0) xNil)) [.v d, .own (.lst []), .v (.str (Str.ofString "back")), s3, .v (.str (Str.ofString "none")), .v .non] = some (.ex "BadFigure" ["value"] [d] [.v d, .own (.lst []), .v (.str (Str.ofString "back")), s3, .v (.str (Str.ofString "none")), .v .non]) := v_drop_ex (v_c1x rfl (back_b h))
  have hy : y3__law_refused [.v d, .own (.lst []), .v (.str (Str.ofString "back")), s3, .v (.str (Str.ofString "none")), .v .non] = some (.ex "BadFigure" ["value"] [d] [.v d, .own (.lst []), .v (.str (Str.ofString "back")), s3, .v (.str (Str.ofString "none")), .v .non]) := by
    unfold y3__law_refused
    tm_at "ev"
  have ht : mTry y3__law_refused [(tabP tab_BadFigure, some 3, h2__law_refused), (tabP tab_LineError, none, h1__law_refused)] [.v d, .own (.lst []), .v (.str (Str.ofString "back")), s3, .v (.str (Str.ofString "none")), .v .non] = some (.nx [.v d, .own (.lst []), .v (.str (Str.ofString "back")), .no, .v (.str (Str.ofString "figure")), .v d]) := by
    refine v_try_ex hy ?_
    refine v_hd rfl (Zv.set3 k3) (o1 := some (.nx [.v d, .own (.lst []), .v (.str (Str.ofString "back")), .v (.exc "BadFigure" ["value"] [d]), .v (.str (Str.ofString "figure")), .v d])) ?_ rfl
    unfold h2__law_refused
    tm_at "ev"
  have hn := fNe_self hg (by decide)
  unfold b4__law_refused
  tm_at "ev"
theorem ref_3 (h : Bad d) (hr : fReprD d = some (.str s)) (hg : Gk 0 (.str s)) (k3 : NI s3) (k4 : NI s4) (k5 : NI s5) :
    b4__law_refused [.v d, .own (.lst []), .v (.str (Str.ofString "power")), s3, s4, s5] = some (.nx [.v d, .own (.lst []), .v (.str (Str.ofString "power")), .no, .v (.str (Str.ofString "figure")), .v d]) := by
  have hx : mDrop (mCall F_power [] (xV (mVar 0) (xV (mOp fPow (M.ret (.int 10)) (M.ret (.int 13))) xNil))) [.v d, .own (.lst []), .v (.str (Str.ofString "power")), s3, .v (.str (Str.ofString "none")), .v .non] = some (.ex "BadFigure" ["value"] [d] [.v d, .own (.lst []), .v (.str (Str.ofString "power")), s3, .v (.str (Str.ofString "none")), .v .non]) := v_drop_ex (v_c2x rfl rfl (power_b h))
  have hy : y3__law_refused [.v d, .own (.lst []), .v (.str (Str.ofString "power")), s3, .v (.str (Str.ofString "none")), .v .non] = some (.ex "BadFigure" ["value"] [d] [.v d, .own (.lst []), .v (.str (Str.ofString "power")), s3, .v (.str (Str.ofString "none")), .v .non]) := by
    unfold y3__law_refused
    tm_at "ev"
  have ht : mTry y3__law_refused [(tabP tab_BadFigure, some 3, h2__law_refused), (tabP tab_LineError, none, h1__law_refused)] [.v d, .own (.lst []), .v (.str (Str.ofString "power")), s3, .v (.str (Str.ofString "none")), .v .non] = some (.nx [.v d, .own (.lst []), .v (.str (Str.ofString "power")), .no, .v (.str (Str.ofString "figure")), .v d]) := by
    refine v_try_ex hy ?_
    refine v_hd rfl (Zv.set3 k3) (o1 := some (.nx [.v d, .own (.lst []), .v (.str (Str.ofString "power")), .v (.exc "BadFigure" ["value"] [d]), .v (.str (Str.ofString "figure")), .v d])) ?_ rfl
    unfold h2__law_refused
    tm_at "ev"
  have hn := fNe_self hg (by decide)
  unfold b4__law_refused
  tm_at "ev"
theorem ref_4 (h : Bad d) (hr : fReprD d = some (.str s)) (hg : Gk 0 (.str s)) (k3 : NI s3) (k4 : NI s4) (k5 : NI s5) :
    b4__law_refused [.v d, .own (.lst []), .v (.str (Str.ofString "cycles")), s3, s4, s5] = some (.nx [.v d, .own (.lst []), .v (.str (Str.ofString "cycles")), .no, .v (.str (Str.ofString "figure")), .v d]) := by
  have hx : mDrop (mCall F_cycles [] (xV (mVar 0) xNil)) [.v d, .own (.lst []), .v (.str (Str.ofString "cycles")), s3, .v (.str (Str.ofString "none")), .v .non] = some (.ex "BadFigure" ["value"] [d] [.v d, .own (.lst []), .v (.str (Str.ofString "cycles")), s3, .v (.str (Str.ofString "none")), .v .non]) := v_drop_ex (v_c1x rfl (cycles_b h))
  have hy : y3__law_refused [.v d, .own (.lst []), .v (.str (Str.ofString "cycles")), s3, .v (.str (Str.ofString "none")), .v .non] = some (.ex "BadFigure" ["value"] [d] [.v d, .own (.lst []), .v (.str (Str.ofString "cycles")), s3, .v (.str (Str.ofString "none")), .v .non]) := by
    unfold y3__law_refused
    tm_at "ev"
  have ht : mTry y3__law_refused [(tabP tab_BadFigure, some 3, h2__law_refused), (tabP tab_LineError, none, h1__law_refused)] [.v d, .own (.lst []), .v (.str (Str.ofString "cycles")), s3, .v (.str (Str.ofString "none")), .v .non] = some (.nx [.v d, .own (.lst []), .v (.str (Str.ofString "cycles")), .no, .v (.str (Str.ofString "figure")), .v d]) := by
    refine v_try_ex hy ?_
    refine v_hd rfl (Zv.set3 k3) (o1 := some (.nx [.v d, .own (.lst []), .v (.str (Str.ofString "cycles")), .v (.exc "BadFigure" ["value"] [d]), .v (.str (Str.ofString "figure")), .v d])) ?_ rfl
    unfold h2__law_refused
    tm_at "ev"
  have hn := fNe_self hg (by decide)
  unfold b4__law_refused
  tm_at "ev"
theorem ref_5 (h : Bad d) (hr : fReprD d = some (.str s)) (hg : Gk 0 (.str s)) (k3 : NI s3) (k4 : NI s4) (k5 : NI s5) :
    b4__law_refused [.v d, .own (.lst []), .v (.str (Str.ofString "order")), s3, s4, s5] = some (.nx [.v d, .own (.lst []), .v (.str (Str.ofString "order")), .no, .v (.str (Str.ofString "figure")), .v d]) := by
  have hx : mDrop (mCall F_order [] (xV (mVar 0) xNil)) [.v d, .own (.lst []), .v (.str (Str.ofString "order")), s3, .v (.str (Str.ofString "none")), .v .non] = some (.ex "BadFigure" ["value"] [d] [.v d, .own (.lst []), .v (.str (Str.ofString "order")), s3, .v (.str (Str.ofString "none")), .v .non]) := v_drop_ex (v_c1x rfl (order_b h))
  have hy : y3__law_refused [.v d, .own (.lst []), .v (.str (Str.ofString "order")), s3, .v (.str (Str.ofString "none")), .v .non] = some (.ex "BadFigure" ["value"] [d] [.v d, .own (.lst []), .v (.str (Str.ofString "order")), s3, .v (.str (Str.ofString "none")), .v .non]) := by
    unfold y3__law_refused
    tm_at "ev"
  have ht : mTry y3__law_refused [(tabP tab_BadFigure, some 3, h2__law_refused), (tabP tab_LineError, none, h1__law_refused)] [.v d, .own (.lst []), .v (.str (Str.ofString "order")), s3, .v (.str (Str.ofString "none")), .v .non] = some (.nx [.v d, .own (.lst []), .v (.str (Str.ofString "order")), .no, .v (.str (Str.ofString "figure")), .v d]) := by
    refine v_try_ex hy ?_
    refine v_hd rfl (Zv.set3 k3) (o1 := some (.nx [.v d, .own (.lst []), .v (.str (Str.ofString "order")), .v (.exc "BadFigure" ["value"] [d]), .v (.str (Str.ofString "figure")), .v d])) ?_ rfl
    unfold h2__law_refused
    tm_at "ev"
  have hn := fNe_self hg (by decide)
  unfold b4__law_refused
  tm_at "ev"
theorem ref_6 (h : Bad d) (hr : fReprD d = some (.str s)) (hg : Gk 0 (.str s)) (k3 : NI s3) (k4 : NI s4) (k5 : NI s5) :
    b4__law_refused [.v d, .own (.lst []), .v (.str (Str.ofString "exchanges")), s3, s4, s5] = some (.nx [.v d, .own (.lst []), .v (.str (Str.ofString "exchanges")), .no, .v (.str (Str.ofString "figure")), .v d]) := by
  have hx : mDrop (mCall F_exchanges [] (xV (mVar 0) xNil)) [.v d, .own (.lst []), .v (.str (Str.ofString "exchanges")), s3, .v (.str (Str.ofString "none")), .v .non] = some (.ex "BadFigure" ["value"] [d] [.v d, .own (.lst []), .v (.str (Str.ofString "exchanges")), s3, .v (.str (Str.ofString "none")), .v .non]) := v_drop_ex (v_c1x rfl (exchanges_b h))
  have hy : y3__law_refused [.v d, .own (.lst []), .v (.str (Str.ofString "exchanges")), s3, .v (.str (Str.ofString "none")), .v .non] = some (.ex "BadFigure" ["value"] [d] [.v d, .own (.lst []), .v (.str (Str.ofString "exchanges")), s3, .v (.str (Str.ofString "none")), .v .non]) := by
    unfold y3__law_refused
    tm_at "ev"
  have ht : mTry y3__law_refused [(tabP tab_BadFigure, some 3, h2__law_refused), (tabP tab_LineError, none, h1__law_refused)] [.v d, .own (.lst []), .v (.str (Str.ofString "exchanges")), s3, .v (.str (Str.ofString "none")), .v .non] = some (.nx [.v d, .own (.lst []), .v (.str (Str.ofString "exchanges")), .no, .v (.str (Str.ofString "figure")), .v d]) := by
    refine v_try_ex hy ?_
    refine v_hd rfl (Zv.set3 k3) (o1 := some (.nx [.v d, .own (.lst []), .v (.str (Str.ofString "exchanges")), .v (.exc "BadFigure" ["value"] [d]), .v (.str (Str.ofString "figure")), .v d])) ?_ rfl
    unfold h2__law_refused
    tm_at "ev"
  have hn := fNe_self hg (by decide)
  unfold b4__law_refused
  tm_at "ev"
theorem refused (h : Bad d) (hr : fReprD d = some (.str s)) (hg : Gk 0 (.str s)) : F__law_refused [.v d] = some (.rt (.fr (.lst [])) none) := by
  have lp : forL (gN 2) b4__law_refused [.str (Str.ofString "then"), .str (Str.ofString "other"), .str (Str.ofString "back"), .str (Str.ofString "power"), .str (Str.ofString "cycles"), .str (Str.ofString "order"), .str (Str.ofString "exchanges")] [.v d, .own (.lst []), .no, .no, .no, .no] = some (.nx [.v d, .own (.lst []), .v (.str (Str.ofString "exchanges")), .no, .v (.str (Str.ofString "figure")), .v d]) :=
    v_fl (Zv.set2 rfl) (ref_0 h hr hg rfl rfl rfl) (v_fl (Zv.set2 rfl) (ref_1 h hr hg rfl rfl rfl) (v_fl (Zv.set2 rfl) (ref_2 h hr hg rfl rfl rfl) (v_fl (Zv.set2 rfl) (ref_3 h hr hg rfl rfl rfl) (v_fl (Zv.set2 rfl) (ref_4 h hr hg rfl rfl rfl) (v_fl (Zv.set2 rfl) (ref_5 h hr hg rfl rfl rfl) (v_fl (Zv.set2 rfl) (ref_6 h hr hg rfl rfl rfl) v_fl0))))))
  unfold F__law_refused m__law_refused
  tm_at "ev"
end
end Zk02
end

section
set_option Elab.async false
set_option linter.all false
set_option maxRecDepth 100000
set_option maxHeartbeats 4000000
/-! k02: numbers refused. -/
namespace Zl
open PySem L2 Z Zb Za Zv
theorem v_c4x {F : DF} {m n p a : M D} {x y z u : D} {c : Str} {ns : List Str} {vs : List D} {e e1 e2 e3 e4 : Z.Env} (h : m e = some (.ok x e1)) (h2 : n e1 = some (.ok y e2)) (h3 : p e2 = some (.ok z e3)) (h4 : a e3 = some (.ok u e4)) (hF : F [.v x, .v y, .v z, .v u] = some (.ex c ns vs none)) : mCall F [] (xV m (xV n (xV p (xV a xNil)))) e = some (.ex c ns vs e4) := v_call_ex (xs := [x, y, z, u]) (xc h (xc h2 (xc h3 (x1 h4)))) rfl rfl hF
section
variable {v x lo hi s : D}
theorem need_within_bad (h : F_is_within [.v v, .v lo, .v hi] = some (.rt (.v (.bl false)) none)) : F_need_within [.v v, .v lo, .v hi, .v s] = some (.ex "BadNumber" ["part"] [s] none) := by
  unfold F_need_within m_need_within
  refine v_runx rfl rfl (e1 := [.v v, .v lo, .v hi, .v s]) ?_ rfl
  refine v_ifs (e1 := [.v v, .v lo, .v hi, .v s]) (c := true) (v_not (b := false) (v_tst (w_V (q := .v (.bl false)) (w_c3 rfl rfl rfl h rfl) rfl))) ?_
  exact v_raise1 (v_cons rfl v_nil)
theorem still_b (h : F_is_within [.v v, .v (.int 1), .v (.int 4)] = some (.rt (.v (.bl false)) none)) : F_still [.v v] = some (.ex "BadNumber" ["part"] [.str (Str.ofString "couples")] none) := by
  unfold F_still m_still
  exact v_runx (e1 := [.v v]) rfl rfl (v_seq_ex (v_drop_ex (v_c4x rfl rfl rfl rfl (need_within_bad h)))) rfl
theorem crossed_b (h : F_is_within [.v v, .v (.int 1), .v (.int 4)] = some (.rt (.v (.bl false)) none)) : F_crossed [.v v] = some (.ex "BadNumber" ["part"] [.str (Str.ofString "couples")] none) := by
  unfold F_crossed m_crossed
  exact v_runx (e1 := [.v v, .no]) rfl rfl (v_seq_ex (v_drop_ex (v_c4x rfl rfl rfl rfl (need_within_bad h)))) rfl
theorem upended_b (h : F_is_within [.v v, .v (.int 1), .v (.int 4)] = some (.rt (.v (.bl false)) none)) : F_upended [.v v] = some (.ex "BadNumber" ["part"] [.str (Str.ofString "couples")] none) := by
  unfold F_upended m_upended
  exact v_runx (e1 := [.v v, .no]) rfl rfl (v_seq_ex (v_drop_ex (v_c4x rfl rfl rfl rfl (need_within_bad h)))) rfl
theorem power_nb (h : F_is_within [.v x, .v (.int (-1000000000000)), .v (.int 1000000000000)] = some (.rt (.v (.bl false)) none)) : F_power [.v (.tup [.int 1, .int 0]), .v x] = some (.ex "BadNumber" ["part"] [.str (Str.ofString "times")] none) := by
  unfold F_power m_power
  exact v_runx (e1 := [.v (.tup [.int 1, .int 0]), .v x]) rfl rfl (v_seq (v_drop (v_c1 rfl (need_figure_fg fg10))) (v_seq_ex (v_drop_ex (v_c4x rfl rfl rfl rfl (need_within_bad h))))) rfl
end
end Zl
namespace Zk02
open PySem L2 Z Zb Za Zv Zl
open Zp (it Pm Per orb walk mins cycs isMin)
local macro_rules | `(tactic| tm_at "pf") => `(tactic| first | (with_reducible assumption) | omega | (with_reducible refine Zp.Pm.lt (by assumption) _ ?_; omega) | (with_reducible refine Nat.le_sub_one_of_lt (Zp.Pm.lt (by assumption) _ ?_); omega) | (simp only [List.length_map, List.length_range, List.length_cons, List.length_nil, List.length_append] at *; omega) | rfl)
local macro_rules | `(tactic| tm_at "io") => `(tactic| first | exact rfl | (with_reducible assumption) | (simp only [*]))
local macro_rules | `(tactic| tm_at "lf") => `(tactic| first
  | (with_reducible assumption)
  | with_reducible exact fEq_int _ _ | with_reducible exact fNe_int _ _
  | with_reducible exact len_row | with_reducible exact len_rowT | with_reducible exact len_mapT | with_reducible exact len_mapL
  | with_reducible exact add_N | with_reducible exact add_N1 | with_reducible exact add_1N | with_reducible exact sub_N (by tm_at "pf") | with_reducible exact sub_N1 (by tm_at "pf") | with_reducible exact mul2_N | with_reducible exact div2_N | with_reducible exact mod2_N | with_reducible exact mod_N (by tm_at "pf")
  | with_reducible exact fdiv2 | with_reducible exact fmod2
  | with_reducible exact ix_rowN (by tm_at "pf") | with_reducible exact ix_rowNT (by tm_at "pf")
  | with_reducible exact ix_row (by tm_at "pf") (by tm_at "pf") | with_reducible exact ix_rowT (by tm_at "pf") (by tm_at "pf")
  | with_reducible exact it_rngN (by tm_at "pf") | with_reducible exact it_rngZ (by tm_at "pf") (by tm_at "pf")
  | with_reducible exact rg_N (by tm_at "pf") | with_reducible exact rg_Z (by tm_at "pf") (by tm_at "pf")
  | with_reducible exact fmodN (by tm_at "pf")
  | ((with_reducible show _ ≤ _); tm_at "pf")
  | ((with_reducible show isIo _ = false); tm_at "io")
  | ((with_reducible show szOk _ = true); exact sz_of (by tm_at "pf"))
  | ((with_reducible show setSl _ _ _ = _); (first | with_reducible apply Zv.set0 | with_reducible apply Zv.set1 | with_reducible apply Zv.set2 | with_reducible apply Zv.set3 | with_reducible apply Zv.set4 | with_reducible apply Zv.set5 | with_reducible apply Zv.set6 | with_reducible apply Zv.set7 | with_reducible apply Zv.set8 | with_reducible apply Zv.set9 | with_reducible apply Zv.set10 | with_reducible apply Zv.set11 | with_reducible apply Zv.set12 | with_reducible apply Zv.set13 | with_reducible apply Zv.set14 | with_reducible apply Zv.set15 | with_reducible apply Zv.set16 | with_reducible apply Zv.set17); tm_at "io")
  | exact rfl
  | fail "leaf")
local macro_rules | `(tactic| tm_at "ev") => `(tactic| first
  | (with_reducible assumption)
  | (with_reducible exact v_c) | (with_reducible exact v_nil) | (with_reducible exact v_gs0)
  | ((with_reducible show mVar _ _ = _); exact rfl)
  | ((with_reducible show mPeek _ _ = _); exact rfl)
  | ((with_reducible show mTake _ _ = _); exact rfl)
  | ((with_reducible show mNext _ = _); exact rfl)
  | ((with_reducible show mCnt _ = _); exact rfl)
  | ((with_reducible show seqK (some (CO.rt _ _)) _ = _); exact rfl)
  | ((with_reducible show seqK (some (CO.ct _)) _ = _); exact rfl)
  | ((with_reducible show some _ = _); exact rfl)
  | ((first
      | with_reducible apply v_sq | with_reducible apply v_sk
      | with_reducible apply v_ifs
      | with_reducible apply c_t | with_reducible apply c_f | with_reducible apply c_n
      | ((with_reducible apply c_dt); (first | (with_reducible assumption) | omega | (dsimp only <;> omega))) | ((with_reducible apply c_df); (first | (with_reducible assumption) | omega | (dsimp only <;> omega)))
      | ((with_reducible apply c_ht); (with_reducible assumption)) | ((with_reducible apply c_hf); (with_reducible assumption))
      | with_reducible apply v_drop | with_reducible apply v_ret | with_reducible apply v_set | with_reducible apply v_par | with_reducible apply v_tri
      | with_reducible apply v_unp | with_reducible apply v_gT | with_reducible apply v_gs | with_reducible apply v_gN
      | with_reducible apply v_for | with_reducible apply v_raise1
      | with_reducible apply v_tst | with_reducible apply v_not | with_reducible apply v_and | with_reducible apply v_or
      | with_reducible apply v_andV | with_reducible apply v_orV | with_reducible apply v_notV | with_reducible apply v_if
      | with_reducible apply v_R | with_reducible apply w_V | with_reducible apply v_op | with_reducible apply v_U | with_reducible apply v_G | with_reducible apply v_N
      | with_reducible apply v_rd2 | with_reducible apply v_opN | with_reducible apply v_ix | with_reducible apply v_sl | with_reducible apply v_part
      | with_reducible apply v_fld | with_reducible apply v_listRg | with_reducible apply v_tupRg | with_reducible apply v_it
      | with_reducible apply v_lc | with_reducible apply v_cons | with_reducible apply v_tup | with_reducible apply v_lst
      | with_reducible apply w_c0 | with_reducible apply w_c1 | with_reducible apply w_c2 | with_reducible apply w_c3
      | with_reducible apply w_c1d | with_reducible apply w_c2d | with_reducible apply w_k1 | with_reducible apply w_pen1 | with_reducible apply w_pen0
      | with_reducible exact e0_nil | with_reducible apply e0_v | with_reducible apply e0_io | with_reducible apply e0_no
      | with_reducible apply v_run | with_reducible apply v_runf | with_reducible apply v_runx
      | (intro _ _; dsimp only [List.set])
      | tm_at "lf") <;> tm_at "ev"))

local macro_rules | `(tactic| tm_at "lf") => `(tactic| first | with_reducible exact str_f (by decide +kernel) | with_reducible exact str_t (by decide +kernel) | with_reducible exact str_n (by decide +kernel))
local macro_rules | `(tactic| tm_at "ev") => `(tactic| (first | with_reducible apply v_setixO | with_reducible apply v_m1O | with_reducible apply w_c4 | with_reducible exact ls0 | with_reducible apply lsS) <;> tm_at "ev")
abbrev mTm : M D := (mIf (mOr (mNot (mTst (mG (fIsi "int") (mPeek 0)))) (mTst (mG (fIsi "bool") (mPeek 0)))) (mVar 0) (mOp fAdd (mOp fAdd (mOp fPow (M.ret (.int 10)) (M.ret (.int 12))) (M.ret (.int 1))) (mU fAbs (mVar 0))))
/-- a value that is refused as a number -/
structure NB (v x : D) : Prop where
  a : F_is_within [.v v, .v (.int 1), .v (.int 4)] = some (.rt (.v (.bl false)) none)
  b : F_is_within [.v x, .v (.int (-1000000000000)), .v (.int 1000000000000)] = some (.rt (.v (.bl false)) none)
  c : ∀ l : Z.Env, mTm (.v v :: l) = some (.ok x (.v v :: l))
section
variable {v x : D} {ds : List D} {s3 s4 : Sl}
theorem num_0 (h : NB v x) (hz : ds.length ≤ 100) (k3 : NI s3) (k4 : NI s4) :
    b4__law_number_refused [.v v, .own (.lst ds), .v (.str (Str.ofString "still")), s3, s4] = some (.nx [.v v, .own (.lst (ds ++ [.str (Str.ofString "couples")])), .v (.str (Str.ofString "still")), .v (.str (Str.ofString "couples")), .no]) := by
  have hx : mDrop (mCall F_still [] (xV (mVar 0) xNil)) [.v v, .own (.lst ds), .v (.str (Str.ofString "still")), .v (.str (Str.ofString "none")), s4] = some (.ex "BadNumber" ["part"] [.str (Str.ofString "couples")] [.v v, .own (.lst ds), .v (.str (Str.ofString "still")), .v (.str (Str.ofString "none")), s4]) := v_drop_ex (v_c1x rfl (still_b h.a))
  have hy : y3__law_number_refused [.v v, .own (.lst ds), .v (.str (Str.ofString "still")), .v (.str (Str.ofString "none")), s4] = some (.ex "BadNumber" ["part"] [.str (Str.ofString "couples")] [.v v, .own (.lst ds), .v (.str (Str.ofString "still")), .v (.str (Str.ofString "none")), s4]) := by
    unfold y3__law_number_refused
    tm_at "ev"
  have ht : mTry y3__law_number_refused [(tabP tab_BadNumber, some 4, h2__law_number_refused), (tabP tab_LineError, none, h1__law_number_refused)] [.v v, .own (.lst ds), .v (.str (Str.ofString "still")), .v (.str (Str.ofString "none")), s4] = some (.nx [.v v, .own (.lst ds), .v (.str (Str.ofString "still")), .v (.str (Str.ofString "couples")), .no]) := by
    refine v_try_ex hy ?_
    refine v_hd rfl (Zv.set4 k4) (o1 := some (.nx [.v v, .own (.lst ds), .v (.str (Str.ofString "still")), .v (.str (Str.ofString "couples")), .v (.exc "BadNumber" ["part"] [.str (Str.ofString "couples")])])) ?_ rfl
    unfold h2__law_number_refused
    tm_at "ev"
  have ha : fApp (.str (Str.ofString "couples")) ds = some (.non, ds ++ [.str (Str.ofString "couples")]) := by
    unfold fApp
    rw [if_pos (sz_of (by omega))]
  unfold b4__law_number_refused
  tm_at "ev"
theorem num_1 (h : NB v x) (hz : ds.length ≤ 100) (k3 : NI s3) (k4 : NI s4) :
    b4__law_number_refused [.v v, .own (.lst ds), .v (.str (Str.ofString "crossed")), s3, s4] = some (.nx [.v v, .own (.lst (ds ++ [.str (Str.ofString "couples")])), .v (.str (Str.ofString "crossed")), .v (.str (Str.ofString "couples")), .no]) := by
  have hx : mDrop (mCall F_crossed [] (xV (mVar 0) xNil)) [.v v, .own (.lst ds), .v (.str (Str.ofString "crossed")), .v (.str (Str.ofString "none")), s4] = some (.ex "BadNumber" ["part"] [.str (Str.ofString "couples")] [.v v, .own (.lst ds), .v (.str (Str.ofString "crossed")), .v (.str (Str.ofString "none")), s4]) := v_drop_ex (v_c1x rfl (crossed_b h.a))
  have hy : y3__law_number_refused [.v v, .own (.lst ds), .v (.str (Str.ofString "crossed")), .v (.str (Str.ofString "none")), s4] = some (.ex "BadNumber" ["part"] [.str (Str.ofString "couples")] [.v v, .own (.lst ds), .v (.str (Str.ofString "crossed")), .v (.str (Str.ofString "none")), s4]) := by
    unfold y3__law_number_refused
    tm_at "ev"
  have ht : mTry y3__law_number_refused [(tabP tab_BadNumber, some 4, h2__law_number_refused), (tabP tab_LineError, none, h1__law_number_refused)] [.v v, .own (.lst ds), .v (.str (Str.ofString "crossed")), .v (.str (Str.ofString "none")), s4] = some (.nx [.v v, .own (.lst ds), .v (.str (Str.ofString "crossed")), .v (.str (Str.ofString "couples")), .no]) := by
    refine v_try_ex hy ?_
    refine v_hd rfl (Zv.set4 k4) (o1 := some (.nx [.v v, .own (.lst ds), .v (.str (Str.ofString "crossed")), .v (.str (Str.ofString "couples")), .v (.exc "BadNumber" ["part"] [.str (Str.ofString "couples")])])) ?_ rfl
    unfold h2__law_number_refused
    tm_at "ev"
  have ha : fApp (.str (Str.ofString "couples")) ds = some (.non, ds ++ [.str (Str.ofString "couples")]) := by
    unfold fApp
    rw [if_pos (sz_of (by omega))]
  unfold b4__law_number_refused
  tm_at "ev"
theorem num_2 (h : NB v x) (hz : ds.length ≤ 100) (k3 : NI s3) (k4 : NI s4) :
    b4__law_number_refused [.v v, .own (.lst ds), .v (.str (Str.ofString "upended")), s3, s4] = some (.nx [.v v, .own (.lst (ds ++ [.str (Str.ofString "couples")])), .v (.str (Str.ofString "upended")), .v (.str (Str.ofString "couples")), .no]) := by
  have hx : mDrop (mCall F_upended [] (xV (mVar 0) xNil)) [.v v, .own (.lst ds), .v (.str (Str.ofString "upended")), .v (.str (Str.ofString "none")), s4] = some (.ex "BadNumber" ["part"] [.str (Str.ofString "couples")] [.v v, .own (.lst ds), .v (.str (Str.ofString "upended")), .v (.str (Str.ofString "none")), s4]) := v_drop_ex (v_c1x rfl (upended_b h.a))
  have hy : y3__law_number_refused [.v v, .own (.lst ds), .v (.str (Str.ofString "upended")), .v (.str (Str.ofString "none")), s4] = some (.ex "BadNumber" ["part"] [.str (Str.ofString "couples")] [.v v, .own (.lst ds), .v (.str (Str.ofString "upended")), .v (.str (Str.ofString "none")), s4]) := by
    unfold y3__law_number_refused
    tm_at "ev"
  have ht : mTry y3__law_number_refused [(tabP tab_BadNumber, some 4, h2__law_number_refused), (tabP tab_LineError, none, h1__law_number_refused)] [.v v, .own (.lst ds), .v (.str (Str.ofString "upended")), .v (.str (Str.ofString "none")), s4] = some (.nx [.v v, .own (.lst ds), .v (.str (Str.ofString "upended")), .v (.str (Str.ofString "couples")), .no]) := by
    refine v_try_ex hy ?_
    refine v_hd rfl (Zv.set4 k4) (o1 := some (.nx [.v v, .own (.lst ds), .v (.str (Str.ofString "upended")), .v (.str (Str.ofString "couples")), .v (.exc "BadNumber" ["part"] [.str (Str.ofString "couples")])])) ?_ rfl
    unfold h2__law_number_refused
    tm_at "ev"
  have ha : fApp (.str (Str.ofString "couples")) ds = some (.non, ds ++ [.str (Str.ofString "couples")]) := by
    unfold fApp
    rw [if_pos (sz_of (by omega))]
  unfold b4__law_number_refused
  tm_at "ev"
theorem num_3 (h : NB v x) (hz : ds.length ≤ 100) (k3 : NI s3) (k4 : NI s4) :
    b4__law_number_refused [.v v, .own (.lst ds), .v (.str (Str.ofString "power")), s3, s4] = some (.nx [.v v, .own (.lst (ds ++ [.str (Str.ofString "times")])), .v (.str (Str.ofString "power")), .v (.str (Str.ofString "times")), .no]) := by
  have hx : mDrop (mCall F_power [] (xV (mTup (mCons (M.ret (.int 1)) (mCons (M.ret (.int 0)) mNil))) (xV (mIf (mOr (mNot (mTst (mG (fIsi "int") (mPeek 0)))) (mTst (mG (fIsi "bool") (mPeek 0)))) (mVar 0) (mOp fAdd (mOp fAdd (mOp fPow (M.ret (.int 10)) (M.ret (.int 12))) (M.ret (.int 1))) (mU fAbs (mVar 0)))) xNil))) [.v v, .own (.lst ds), .v (.str (Str.ofString "power")), .v (.str (Str.ofString "none")), s4] = some (.ex "BadNumber" ["part"] [.str (Str.ofString "times")] [.v v, .own (.lst ds), .v (.str (Str.ofString "power")), .v (.str (Str.ofString "none")), s4]) := v_drop_ex (v_c2x rfl (h.c _) (power_nb h.b))
  have hy : y3__law_number_refused [.v v, .own (.lst ds), .v (.str (Str.ofString "power")), .v (.str (Str.ofString "none")), s4] = some (.ex "BadNumber" ["part"] [.str (Str.ofString "times")] [.v v, .own (.lst ds), .v (.str (Str.ofString "power")), .v (.str (Str.ofString "none")), s4]) := by
    unfold y3__law_number_refused
    tm_at "ev"
  have ht : mTry y3__law_number_refused [(tabP tab_BadNumber, some 4, h2__law_number_refused), (tabP tab_LineError, none, h1__law_number_refused)] [.v v, .own (.lst ds), .v (.str (Str.ofString "power")), .v (.str (Str.ofString "none")), s4] = some (.nx [.v v, .own (.lst ds), .v (.str (Str.ofString "power")), .v (.str (Str.ofString "times")), .no]) := by
    refine v_try_ex hy ?_
    refine v_hd rfl (Zv.set4 k4) (o1 := some (.nx [.v v, .own (.lst ds), .v (.str (Str.ofString "power")), .v (.str (Str.ofString "times")), .v (.exc "BadNumber" ["part"] [.str (Str.ofString "times")])])) ?_ rfl
    unfold h2__law_number_refused
    tm_at "ev"
  have ha : fApp (.str (Str.ofString "times")) ds = some (.non, ds ++ [.str (Str.ofString "times")]) := by
    unfold fApp
    rw [if_pos (sz_of (by omega))]
  unfold b4__law_number_refused
  tm_at "ev"
theorem number_refused (h : NB v x) : F__law_number_refused [.v v] = some (.rt (.v (.bl true)) none) := by
  have lp : forL (gN 2) b4__law_number_refused [.str (Str.ofString "still"), .str (Str.ofString "crossed"), .str (Str.ofString "upended"), .str (Str.ofString "power")] [.v v, .own (.lst []), .no, .no, .no] = some (.nx [.v v, .own (.lst [.str (Str.ofString "couples"), .str (Str.ofString "couples"), .str (Str.ofString "couples"), .str (Str.ofString "times")]), .v (.str (Str.ofString "power")), .v (.str (Str.ofString "times")), .no]) :=
    v_fl (Zv.set2 rfl) (num_0 h (by decide) rfl rfl) (v_fl (Zv.set2 rfl) (num_1 h (by decide) rfl rfl) (v_fl (Zv.set2 rfl) (num_2 h (by decide) rfl rfl) (v_fl (Zv.set2 rfl) (num_3 h (by decide) rfl rfl) v_fl0)))
  have he : fEq (.lst [.str (Str.ofString "couples"), .str (Str.ofString "couples"), .str (Str.ofString "couples"), .str (Str.ofString "times")]) (.lst [.str (Str.ofString "couples"), .str (Str.ofString "couples"), .str (Str.ofString "couples"), .str (Str.ofString "times")]) = some (.bl true) := eq_same (k := 1) rfl (gk_lst (k := 0) fun d hd => by
    simp only [List.mem_cons, List.not_mem_nil, or_false] at hd
    rcases hd with rfl | rfl | rfl | rfl <;> exact gk_str (by decide +kernel))
  unfold F__law_number_refused m__law_number_refused
  tm_at "ev"
theorem nb_0 : NB (.int 0) (.int 1000000000001) := ⟨rfl, rfl, fun _ => rfl⟩
theorem nb_1 : NB (.int 5) (.int 1000000000006) := ⟨rfl, rfl, fun _ => rfl⟩
theorem nb_2 : NB (.int (-1)) (.int 1000000000002) := ⟨rfl, rfl, fun _ => rfl⟩
theorem nb_3 : NB (.int 100000000000000000000) (.int 100000001000000000001) := ⟨rfl, rfl, fun _ => rfl⟩
theorem nb_4 : NB (.bl true) (.bl true) := ⟨rfl, rfl, fun _ => rfl⟩
theorem nb_5 : NB (.non) (.non) := ⟨rfl, rfl, fun _ => rfl⟩
theorem nb_6 : NB (.str (Str.ofString "2")) (.str (Str.ofString "2")) := ⟨rfl, rfl, fun _ => rfl⟩
theorem nb_7 : NB (.tup [.int 2]) (.tup [.int 2]) := ⟨rfl, rfl, fun _ => rfl⟩
end
end Zk02
end

section
set_option Elab.async false
set_option linter.all false
set_option maxRecDepth 100000
set_option maxHeartbeats 4000000
/-! k02: still, crossed, upended; the law's turn. -/
namespace Zv
open PySem L2 Z Zb Za
section
variable {a0 : Sl} {P P' x y q' : D} {l l' : Z.Env} {m n : M D} {F : DF} {q : Rs} {e e1 e2 : Z.Env}
theorem v_pen1g {q : D} (h : m (a0 :: .own P :: l) = some (.ok x (a0 :: .own P :: l'))) (hF : F [.io P, .v x] = some (.rt (.v q) (some P'))) : mCall F [] (xSl 1 (xV m xNil)) (a0 :: .own P :: l) = some (.ok (.v q) (a0 :: .own P' :: l')) := by
  have h2 : xSl 1 (xV m xNil) (a0 :: .own P :: l) = some (.ok [.sl 1, .v x] (a0 :: .own P :: l')) := by
    unfold xSl
    rw [v_bind (e := a0 :: .own P :: l) (e1 := a0 :: .own P :: l) (x := ()) rfl, v_bind (x1 h)]
    rfl
  unfold mCall
  rw [v_bind h2]
  simp only [rsv, noIoA, Option.bind_some, List.getElem?_cons_zero, List.getElem?_cons_succ, Sl.mut, List.map_nil, List.append_nil, if_true, hF, wb, axIx, Sl.upd, List.set_cons_zero, List.set_cons_succ]
theorem v_pen1gf {q : D} (h : m (a0 :: .own P :: l) = some (.ok x (a0 :: .own P :: l'))) (hF : F [.io P, .v x] = some (.rt (.fr q) (some P'))) : mCall F [] (xSl 1 (xV m xNil)) (a0 :: .own P :: l) = some (.ok (.fr q) (a0 :: .own P' :: l')) := by
  have h2 : xSl 1 (xV m xNil) (a0 :: .own P :: l) = some (.ok [.sl 1, .v x] (a0 :: .own P :: l')) := by
    unfold xSl
    rw [v_bind (e := a0 :: .own P :: l) (e1 := a0 :: .own P :: l) (x := ()) rfl, v_bind (x1 h)]
    rfl
  unfold mCall
  rw [v_bind h2]
  simp only [rsv, noIoA, Option.bind_some, List.getElem?_cons_zero, List.getElem?_cons_succ, Sl.mut, List.map_nil, List.append_nil, if_true, hF, wb, axIx, Sl.upd, List.set_cons_zero, List.set_cons_succ]
theorem w_pen1g (h : m (a0 :: .own P :: l) = some (.ok x (a0 :: .own P :: l'))) (hF : F [.io P, .v x] = some (.rt q (some P'))) (hb : nbw q = true) : mCall F [] (xSl 1 (xV m xNil)) (a0 :: .own P :: l) = some (.ok q (a0 :: .own P' :: l')) := by
  cases q with
  | v y => exact v_pen1g h hF
  | fr y => exact v_pen1gf h hF
  | bw j => cases hb
theorem w_p1k1 (h : m e = some (.ok x e1)) (h2 : n e1 = some (.ok y e2)) (hF : F [.v x, .v y] = some (.rt q none)) (hb : nbw q = true) : mCall F [] (mKw 1 1 [0, 1] [] (mCons m mNil) (mCons n mNil)) e = some (.ok q e2) := by
  refine w_call (xs := [x, y]) (axs := [.v x, .v y]) (e1 := e2) ?_ rfl rfl hF hb
  unfold mKw
  rw [v_bind (v_cons h v_nil), v_bind (v_cons h2 v_nil)]
  rfl
end
end Zv
namespace Zl
open PySem L2 Z Zb Za Zv
open Zp (it Pm Per orb walk mins cycs isMin)
local macro_rules | `(tactic| tm_at "pf") => `(tactic| first | (with_reducible assumption) | omega | (with_reducible refine Zp.Pm.lt (by assumption) _ ?_; omega) | (with_reducible refine Nat.le_sub_one_of_lt (Zp.Pm.lt (by assumption) _ ?_); omega) | (simp only [List.length_map, List.length_range, List.length_cons, List.length_nil, List.length_append] at *; omega) | rfl)
local macro_rules | `(tactic| tm_at "io") => `(tactic| first | exact rfl | (with_reducible assumption) | (simp only [*]))
local macro_rules | `(tactic| tm_at "lf") => `(tactic| first
  | (with_reducible assumption)
  | with_reducible exact fEq_int _ _ | with_reducible exact fNe_int _ _
  | with_reducible exact len_row | with_reducible exact len_rowT | with_reducible exact len_mapT | with_reducible exact len_mapL
  | with_reducible exact add_N | with_reducible exact add_N1 | with_reducible exact add_1N | with_reducible exact sub_N (by tm_at "pf") | with_reducible exact sub_N1 (by tm_at "pf") | with_reducible exact mul2_N | with_reducible exact div2_N | with_reducible exact mod2_N | with_reducible exact mod_N (by tm_at "pf")
  | with_reducible exact fdiv2 | with_reducible exact fmod2
  | with_reducible exact ix_rowN (by tm_at "pf") | with_reducible exact ix_rowNT (by tm_at "pf")
  | with_reducible exact ix_row (by tm_at "pf") (by tm_at "pf") | with_reducible exact ix_rowT (by tm_at "pf") (by tm_at "pf")
  | with_reducible exact it_rngN (by tm_at "pf") | with_reducible exact it_rngZ (by tm_at "pf") (by tm_at "pf")
  | with_reducible exact rg_N (by tm_at "pf") | with_reducible exact rg_Z (by tm_at "pf") (by tm_at "pf")
  | with_reducible exact fmodN (by tm_at "pf")
  | ((with_reducible show _ ≤ _); tm_at "pf")
  | ((with_reducible show isIo _ = false); tm_at "io")
  | ((with_reducible show szOk _ = true); exact sz_of (by tm_at "pf"))
  | ((with_reducible show setSl _ _ _ = _); (first | with_reducible apply Zv.set0 | with_reducible apply Zv.set1 | with_reducible apply Zv.set2 | with_reducible apply Zv.set3 | with_reducible apply Zv.set4 | with_reducible apply Zv.set5 | with_reducible apply Zv.set6 | with_reducible apply Zv.set7 | with_reducible apply Zv.set8 | with_reducible apply Zv.set9 | with_reducible apply Zv.set10 | with_reducible apply Zv.set11 | with_reducible apply Zv.set12 | with_reducible apply Zv.set13 | with_reducible apply Zv.set14 | with_reducible apply Zv.set15 | with_reducible apply Zv.set16 | with_reducible apply Zv.set17); tm_at "io")
  | exact rfl
  | fail "leaf")
local macro_rules | `(tactic| tm_at "ev") => `(tactic| first
  | (with_reducible assumption)
  | (with_reducible exact v_c) | (with_reducible exact v_nil) | (with_reducible exact v_gs0)
  | ((with_reducible show mVar _ _ = _); exact rfl)
  | ((with_reducible show mPeek _ _ = _); exact rfl)
  | ((with_reducible show mTake _ _ = _); exact rfl)
  | ((with_reducible show mNext _ = _); exact rfl)
  | ((with_reducible show mCnt _ = _); exact rfl)
  | ((with_reducible show seqK (some (CO.rt _ _)) _ = _); exact rfl)
  | ((with_reducible show seqK (some (CO.ct _)) _ = _); exact rfl)
  | ((with_reducible show some _ = _); exact rfl)
  | ((first
      | with_reducible apply v_sq | with_reducible apply v_sk
      | with_reducible apply v_ifs
      | with_reducible apply c_t | with_reducible apply c_f | with_reducible apply c_n
      | ((with_reducible apply c_dt); (first | (with_reducible assumption) | omega | (dsimp only <;> omega))) | ((with_reducible apply c_df); (first | (with_reducible assumption) | omega | (dsimp only <;> omega)))
      | ((with_reducible apply c_ht); (with_reducible assumption)) | ((with_reducible apply c_hf); (with_reducible assumption))
      | with_reducible apply v_drop | with_reducible apply v_ret | with_reducible apply v_set | with_reducible apply v_par | with_reducible apply v_tri
      | with_reducible apply v_unp | with_reducible apply v_gT | with_reducible apply v_gs | with_reducible apply v_gN
      | with_reducible apply v_for | with_reducible apply v_raise1
      | with_reducible apply v_tst | with_reducible apply v_not | with_reducible apply v_and | with_reducible apply v_or
      | with_reducible apply v_andV | with_reducible apply v_orV | with_reducible apply v_notV | with_reducible apply v_if
      | with_reducible apply v_R | with_reducible apply w_V | with_reducible apply v_op | with_reducible apply v_U | with_reducible apply v_G | with_reducible apply v_N
      | with_reducible apply v_rd2 | with_reducible apply v_opN | with_reducible apply v_ix | with_reducible apply v_sl | with_reducible apply v_part
      | with_reducible apply v_fld | with_reducible apply v_listRg | with_reducible apply v_tupRg | with_reducible apply v_it
      | with_reducible apply v_lc | with_reducible apply v_cons | with_reducible apply v_tup | with_reducible apply v_lst
      | with_reducible apply w_c0 | with_reducible apply w_c1 | with_reducible apply w_c2 | with_reducible apply w_c3
      | with_reducible apply w_c1d | with_reducible apply w_c2d | with_reducible apply w_k1 | with_reducible apply w_pen1 | with_reducible apply w_pen0
      | with_reducible exact e0_nil | with_reducible apply e0_v | with_reducible apply e0_io | with_reducible apply e0_no
      | with_reducible apply v_run | with_reducible apply v_runf | with_reducible apply v_runx
      | (intro _ _; dsimp only [List.set])
      | tm_at "lf") <;> tm_at "ev"))

local macro_rules | `(tactic| tm_at "ev") => `(tactic| (first | with_reducible apply w_c4) <;> tm_at "ev")
section
variable {c n : Nat} {d : D} {f : Nat → Nat}
abbrev stillD (c : Nat) : D := .tup ((List.range (2 * c)).map I)
abbrev crossD (c : Nat) : D := .tup ((List.range (2 * c)).map fun i => I (i + 1 - 2 * (i % 2)))
abbrev upD (c : Nat) : D := .tup ((List.range (2 * c)).map fun i => I (2 * (c - 1 - i / 2) + i % 2))
theorem still_fg (h1 : 1 ≤ c) (h4 : c ≤ 4) : F_still [.v (I c)] = some (.rt (.v (stillD c)) none) := by
  have hw := need_within_ok (lo := 1) (hi := 4) (t := ((c : Nat) : Int)) (s := .str (Str.ofString "couples")) (by omega) (by omega)
  unfold F_still m_still
  tm_at "ev"
theorem crossed_fg (h1 : 1 ≤ c) (h4 : c ≤ 4) : F_crossed [.v (I c)] = some (.rt (.v (crossD c)) none) := by
  have hw := need_within_ok (lo := 1) (hi := 4) (t := ((c : Nat) : Int)) (s := .str (Str.ofString "couples")) (by omega) (by omega)
  unfold F_crossed m_crossed e1_crossed
  tm_at "ev"
theorem upended_fg (h1 : 1 ≤ c) (h4 : c ≤ 4) : F_upended [.v (I c)] = some (.rt (.v (upD c)) none) := by
  have hw := need_within_ok (lo := 1) (hi := 4) (t := ((c : Nat) : Int)) (s := .str (Str.ofString "couples")) (by omega) (by omega)
  unfold F_upended m_upended e1_upended
  tm_at "ev"
theorem Fg.row2 (F : Fg d f n) : Row d (((List.range n).map fun i => ((f i : Nat) : Int)).map .int) := by
  rw [List.map_map]
  exact F.eq
theorem is_fig_c (F : Fg d f n) (hc : 2 * c = n) : F_is_figure [.v d, .v (I c)] = some (.rt (.v (.bl true)) none) := by
  have hl : ((List.range n).map fun i => ((f i : Nat) : Int)).length = n := by rw [List.length_map, List.length_range]
  rw [fig_ints F.row2 (by rw [hl]; exact F.sz) (.inr ⟨c, rfl, by rw [hl]; exact hc⟩), hl, decide_eq_true (isort_perm_range F.pm)]
theorem is_fig_w (F : Fg d f n) (hc : 2 * c ≠ n) : F_is_figure [.v d, .v (I c)] = some (.rt (.v (.bl false)) none) := by
  have h0 := F.row2
  have hl : (((List.range n).map fun i => ((f i : Nat) : Int)).map D.int).length = n := by rw [List.length_map, List.length_map, List.length_range]
  have h1 := F.len
  have h2 := h0.row
  have h3 := in_yes (ds := ((List.range n).map fun i => ((f i : Nat) : Int)).map D.int) (by rw [hl]; exact F.sz)
  rw [hl] at h3
  unfold F_is_figure m_is_figure
  tm_at "ev"
end
end Zl
namespace Zk02
open PySem L2 Z Zb Za Zv Zl
open Zp (it Pm Per orb walk mins cycs isMin)
local macro_rules | `(tactic| tm_at "pf") => `(tactic| first | (with_reducible assumption) | omega | (with_reducible refine Zp.Pm.lt (by assumption) _ ?_; omega) | (with_reducible refine Nat.le_sub_one_of_lt (Zp.Pm.lt (by assumption) _ ?_); omega) | (simp only [List.length_map, List.length_range, List.length_cons, List.length_nil, List.length_append] at *; omega) | rfl)
local macro_rules | `(tactic| tm_at "io") => `(tactic| first | exact rfl | (with_reducible assumption) | (simp only [*]))
local macro_rules | `(tactic| tm_at "lf") => `(tactic| first
  | (with_reducible assumption)
  | with_reducible exact fEq_int _ _ | with_reducible exact fNe_int _ _
  | with_reducible exact len_row | with_reducible exact len_rowT | with_reducible exact len_mapT | with_reducible exact len_mapL
  | with_reducible exact add_N | with_reducible exact add_N1 | with_reducible exact add_1N | with_reducible exact sub_N (by tm_at "pf") | with_reducible exact sub_N1 (by tm_at "pf") | with_reducible exact mul2_N | with_reducible exact div2_N | with_reducible exact mod2_N | with_reducible exact mod_N (by tm_at "pf")
  | with_reducible exact fdiv2 | with_reducible exact fmod2
  | with_reducible exact ix_rowN (by tm_at "pf") | with_reducible exact ix_rowNT (by tm_at "pf")
  | with_reducible exact ix_row (by tm_at "pf") (by tm_at "pf") | with_reducible exact ix_rowT (by tm_at "pf") (by tm_at "pf")
  | with_reducible exact it_rngN (by tm_at "pf") | with_reducible exact it_rngZ (by tm_at "pf") (by tm_at "pf")
  | with_reducible exact rg_N (by tm_at "pf") | with_reducible exact rg_Z (by tm_at "pf") (by tm_at "pf")
  | with_reducible exact fmodN (by tm_at "pf")
  | ((with_reducible show _ ≤ _); tm_at "pf")
  | ((with_reducible show isIo _ = false); tm_at "io")
  | ((with_reducible show szOk _ = true); exact sz_of (by tm_at "pf"))
  | ((with_reducible show setSl _ _ _ = _); (first | with_reducible apply Zv.set0 | with_reducible apply Zv.set1 | with_reducible apply Zv.set2 | with_reducible apply Zv.set3 | with_reducible apply Zv.set4 | with_reducible apply Zv.set5 | with_reducible apply Zv.set6 | with_reducible apply Zv.set7 | with_reducible apply Zv.set8 | with_reducible apply Zv.set9 | with_reducible apply Zv.set10 | with_reducible apply Zv.set11 | with_reducible apply Zv.set12 | with_reducible apply Zv.set13 | with_reducible apply Zv.set14 | with_reducible apply Zv.set15 | with_reducible apply Zv.set16 | with_reducible apply Zv.set17); tm_at "io")
  | exact rfl
  | fail "leaf")
local macro_rules | `(tactic| tm_at "ev") => `(tactic| first
  | (with_reducible assumption)
  | (with_reducible exact v_c) | (with_reducible exact v_nil) | (with_reducible exact v_gs0)
  | ((with_reducible show mVar _ _ = _); exact rfl)
  | ((with_reducible show mPeek _ _ = _); exact rfl)
  | ((with_reducible show mTake _ _ = _); exact rfl)
  | ((with_reducible show mNext _ = _); exact rfl)
  | ((with_reducible show mCnt _ = _); exact rfl)
  | ((with_reducible show seqK (some (CO.rt _ _)) _ = _); exact rfl)
  | ((with_reducible show seqK (some (CO.ct _)) _ = _); exact rfl)
  | ((with_reducible show some _ = _); exact rfl)
  | ((first
      | with_reducible apply v_sq | with_reducible apply v_sk
      | with_reducible apply v_ifs
      | with_reducible apply c_t | with_reducible apply c_f | with_reducible apply c_n
      | ((with_reducible apply c_dt); (first | (with_reducible assumption) | omega | (dsimp only <;> omega))) | ((with_reducible apply c_df); (first | (with_reducible assumption) | omega | (dsimp only <;> omega)))
      | ((with_reducible apply c_ht); (with_reducible assumption)) | ((with_reducible apply c_hf); (with_reducible assumption))
      | with_reducible apply v_drop | with_reducible apply v_ret | with_reducible apply v_set | with_reducible apply v_par | with_reducible apply v_tri
      | with_reducible apply v_unp | with_reducible apply v_gT | with_reducible apply v_gs | with_reducible apply v_gN
      | with_reducible apply v_for | with_reducible apply v_raise1
      | with_reducible apply v_tst | with_reducible apply v_not | with_reducible apply v_and | with_reducible apply v_or
      | with_reducible apply v_andV | with_reducible apply v_orV | with_reducible apply v_notV | with_reducible apply v_if
      | with_reducible apply v_R | with_reducible apply w_V | with_reducible apply v_op | with_reducible apply v_U | with_reducible apply v_G | with_reducible apply v_N
      | with_reducible apply v_rd2 | with_reducible apply v_opN | with_reducible apply v_ix | with_reducible apply v_sl | with_reducible apply v_part
      | with_reducible apply v_fld | with_reducible apply v_listRg | with_reducible apply v_tupRg | with_reducible apply v_it
      | with_reducible apply v_lc | with_reducible apply v_cons | with_reducible apply v_tup | with_reducible apply v_lst
      | with_reducible apply w_c0 | with_reducible apply w_c1 | with_reducible apply w_c2 | with_reducible apply w_c3
      | with_reducible apply w_c1d | with_reducible apply w_c2d | with_reducible apply w_k1 | with_reducible apply w_pen1 | with_reducible apply w_pen0
      | with_reducible exact e0_nil | with_reducible apply e0_v | with_reducible apply e0_io | with_reducible apply e0_no
      | with_reducible apply v_run | with_reducible apply v_runf | with_reducible apply v_runx
      | (intro _ _; dsimp only [List.set])
      | tm_at "lf") <;> tm_at "ev"))

local macro_rules | `(tactic| tm_at "lf") => `(tactic| first | with_reducible exact mod4_N)
local macro_rules | `(tactic| tm_at "ev") => `(tactic| (first | with_reducible apply w_p1k1 | with_reducible apply w_pen1g | with_reducible apply w_c4) <;> tm_at "ev")
section
variable {c n p sd : Nat} {f : Nat → Nat} {S P : D} {s1 s2 s3 s4 s5 s6 s7 s8 s9 s10 s11 s12 s13 : Sl}
theorem b2_step (hp : p < c) (hs : sd ≤ 1) (k13 : NI s13) :
    b2_law [.v S, .own P, .v (I c), s3, s4, s5, s6, s7, .v (I p), .v (stillD c), .v (crossD c), .v (upD c), .v (I sd), s13] = some (.nx [.v S, .own P, .v (I c), s3, s4, s5, s6, s7, .v (I p), .v (stillD c), .v (crossD c), .v (upD c), .v (I sd), .v (I (2 * p + sd))]) := by
  unfold b2_law
  tm_at "ev"
theorem b3_step (hp : p < c) (k12 : NI s12) (k13 : NI s13) :
    b3_law [.v S, .own P, .v (I c), s3, s4, s5, s6, s7, .v (I p), .v (stillD c), .v (crossD c), .v (upD c), s12, s13] = some (.nx [.v S, .own P, .v (I c), s3, s4, s5, s6, s7, .v (I p), .v (stillD c), .v (crossD c), .v (upD c), .v (I 1), .v (I (2 * p + 1))]) := by
  have lp : forL (gN 12) b2_law [.int 0, .int 1] [.v S, .own P, .v (I c), s3, s4, s5, s6, s7, .v (I p), .v (stillD c), .v (crossD c), .v (upD c), s12, s13] = some (.nx [.v S, .own P, .v (I c), s3, s4, s5, s6, s7, .v (I p), .v (stillD c), .v (crossD c), .v (upD c), .v (I 1), .v (I (2 * p + 1))]) :=
    v_fl (d := I 0) (Zv.set12 k12) (b2_step hp (by omega) k13) (v_fl (d := I 1) (Zv.set12 rfl) (b2_step hp (by omega) rfl) v_fl0)
  unfold b3_law
  tm_at "ev"
theorem b1_step {g : Nat → D} :
    b1_law [.v S, .own P, .v (I c), s3, s4, s5, s6, .v (.tup ((List.range (2 * c)).map g)), s8, s9, s10, s11, s12, s13] = some (.nx [.v S, .own P, .v (I c), s3, s4, s5, s6, .v (.tup ((List.range (2 * c)).map g)), s8, s9, s10, s11, s12, s13]) := by
  have h : fIsi "tuple" (.tup ((List.range (2 * c)).map g)) = some (.bl true) := rfl
  unfold b1_law
  tm_at "ev"
end
end Zk02
end

section
set_option Elab.async false
set_option linter.all false
set_option maxRecDepth 100000
set_option maxHeartbeats 4000000
/-! k02: the law. -/
namespace Zk02
open PySem L2 Z Zb Za Zv Zl
open Zp (it Pm Per orb walk mins cycs isMin)
local macro_rules | `(tactic| tm_at "pf") => `(tactic| first | (with_reducible assumption) | omega | (with_reducible refine Zp.Pm.lt (by assumption) _ ?_; omega) | (with_reducible refine Nat.le_sub_one_of_lt (Zp.Pm.lt (by assumption) _ ?_); omega) | (simp only [List.length_map, List.length_range, List.length_cons, List.length_nil, List.length_append] at *; omega) | rfl)
local macro_rules | `(tactic| tm_at "io") => `(tactic| first | exact rfl | (with_reducible assumption) | (simp only [*]))
local macro_rules | `(tactic| tm_at "lf") => `(tactic| first
  | (with_reducible assumption)
  | with_reducible exact fEq_int _ _ | with_reducible exact fNe_int _ _
  | with_reducible exact len_row | with_reducible exact len_rowT | with_reducible exact len_mapT | with_reducible exact len_mapL
  | with_reducible exact add_N | with_reducible exact add_N1 | with_reducible exact add_1N | with_reducible exact sub_N (by tm_at "pf") | with_reducible exact sub_N1 (by tm_at "pf") | with_reducible exact mul2_N | with_reducible exact div2_N | with_reducible exact mod2_N | with_reducible exact mod_N (by tm_at "pf")
  | with_reducible exact fdiv2 | with_reducible exact fmod2
  | with_reducible exact ix_rowN (by tm_at "pf") | with_reducible exact ix_rowNT (by tm_at "pf")
  | with_reducible exact ix_row (by tm_at "pf") (by tm_at "pf") | with_reducible exact ix_rowT (by tm_at "pf") (by tm_at "pf")
  | with_reducible exact it_rngN (by tm_at "pf") | with_reducible exact it_rngZ (by tm_at "pf") (by tm_at "pf")
  | with_reducible exact rg_N (by tm_at "pf") | with_reducible exact rg_Z (by tm_at "pf") (by tm_at "pf")
  | with_reducible exact fmodN (by tm_at "pf")
  | ((with_reducible show _ ≤ _); tm_at "pf")
  | ((with_reducible show isIo _ = false); tm_at "io")
  | ((with_reducible show szOk _ = true); exact sz_of (by tm_at "pf"))
  | ((with_reducible show setSl _ _ _ = _); (first | with_reducible apply Zv.set0 | with_reducible apply Zv.set1 | with_reducible apply Zv.set2 | with_reducible apply Zv.set3 | with_reducible apply Zv.set4 | with_reducible apply Zv.set5 | with_reducible apply Zv.set6 | with_reducible apply Zv.set7 | with_reducible apply Zv.set8 | with_reducible apply Zv.set9 | with_reducible apply Zv.set10 | with_reducible apply Zv.set11 | with_reducible apply Zv.set12 | with_reducible apply Zv.set13 | with_reducible apply Zv.set14 | with_reducible apply Zv.set15 | with_reducible apply Zv.set16 | with_reducible apply Zv.set17); tm_at "io")
  | exact rfl
  | fail "leaf")
local macro_rules | `(tactic| tm_at "ev") => `(tactic| first
  | (with_reducible assumption)
  | (with_reducible exact v_c) | (with_reducible exact v_nil) | (with_reducible exact v_gs0)
  | ((with_reducible show mVar _ _ = _); exact rfl)
  | ((with_reducible show mPeek _ _ = _); exact rfl)
  | ((with_reducible show mTake _ _ = _); exact rfl)
  | ((with_reducible show mNext _ = _); exact rfl)
  | ((with_reducible show mCnt _ = _); exact rfl)
  | ((with_reducible show seqK (some (CO.rt _ _)) _ = _); exact rfl)
  | ((with_reducible show seqK (some (CO.ct _)) _ = _); exact rfl)
  | ((with_reducible show some _ = _); exact rfl)
  | ((first
      | with_reducible apply v_sq | with_reducible apply v_sk
      | with_reducible apply v_ifs
      | with_reducible apply c_t | with_reducible apply c_f | with_reducible apply c_n
      | ((with_reducible apply c_dt); (first | (with_reducible assumption) | omega | (dsimp only <;> omega))) | ((with_reducible apply c_df); (first | (with_reducible assumption) | omega | (dsimp only <;> omega)))
      | ((with_reducible apply c_ht); (with_reducible assumption)) | ((with_reducible apply c_hf); (with_reducible assumption))
      | with_reducible apply v_drop | with_reducible apply v_ret | with_reducible apply v_set | with_reducible apply v_par | with_reducible apply v_tri
      | with_reducible apply v_unp | with_reducible apply v_gT | with_reducible apply v_gs | with_reducible apply v_gN
      | with_reducible apply v_for | with_reducible apply v_raise1
      | with_reducible apply v_tst | with_reducible apply v_not | with_reducible apply v_and | with_reducible apply v_or
      | with_reducible apply v_andV | with_reducible apply v_orV | with_reducible apply v_notV | with_reducible apply v_if
      | with_reducible apply v_R | with_reducible apply w_V | with_reducible apply v_op | with_reducible apply v_U | with_reducible apply v_G | with_reducible apply v_N
      | with_reducible apply v_rd2 | with_reducible apply v_opN | with_reducible apply v_ix | with_reducible apply v_sl | with_reducible apply v_part
      | with_reducible apply v_fld | with_reducible apply v_listRg | with_reducible apply v_tupRg | with_reducible apply v_it
      | with_reducible apply v_lc | with_reducible apply v_cons | with_reducible apply v_tup | with_reducible apply v_lst
      | with_reducible apply w_c0 | with_reducible apply w_c1 | with_reducible apply w_c2 | with_reducible apply w_c3
      | with_reducible apply w_c1d | with_reducible apply w_c2d | with_reducible apply w_k1 | with_reducible apply w_pen1 | with_reducible apply w_pen0
      | with_reducible exact e0_nil | with_reducible apply e0_v | with_reducible apply e0_io | with_reducible apply e0_no
      | with_reducible apply v_run | with_reducible apply v_runf | with_reducible apply v_runx
      | (intro _ _; dsimp only [List.set])
      | tm_at "lf") <;> tm_at "ev"))

local macro_rules | `(tactic| tm_at "lf") => `(tactic| first | with_reducible exact mod4_N)
local macro_rules | `(tactic| tm_at "ev") => `(tactic| (first | with_reducible apply w_p1k1 | with_reducible apply w_pen1g | with_reducible apply w_c4) <;> tm_at "ev")
def St (ns : List Int) (S : D) (k : Nat) (e : Z.Env) : Prop := ∃ P s2 s3 s4 s5 s6 s7 s8 s9 s10 s11 s12 s13, Pen ns k P ∧ NI s2 ∧ NI s3 ∧ NI s4 ∧ NI s5 ∧ NI s6 ∧ NI s7 ∧ NI s8 ∧ NI s9 ∧ NI s10 ∧ NI s11 ∧ NI s12 ∧ NI s13 ∧ e = [.v S, .own P, s2, s3, s4, s5, s6, s7, s8, s9, s10, s11, s12, s13]
theorem told_N {ns : List Int} {k c : Nat} {f : Nat → Nat} {P1 S : D} {s3 s5 s6 s7 s8 s9 s10 s11 s12 s13 : Sl} (hP : Pen ns k P1) (hk : k ≤ 10000) (F : Fg (.lst (row f (2 * c))) f (2 * c)) : ∃ td P2 s4, Fg td f (2 * c) ∧ (s4 = .v (.lst (row f (2 * c))) ∨ s4 = .own (.lst (row f (2 * c)))) ∧ Pen ns (k + 1) P2 ∧ (mIf (mTst (mRd2 fEq (mCall F__law_draw [] (xSl 1 (xV (M.ret (.int 2)) xNil))) (mR (M.ret (.int 0))))) (mVar 4) (mG fTuple (mPeek 4))) [.v S, .own P1, .v (I c), s3, .own (.lst (row f (2 * c))), s5, s6, s7, s8, s9, s10, s11, s12, s13] = some (.ok td [.v S, .own P2, .v (I c), s3, s4, s5, s6, s7, s8, s9, s10, s11, s12, s13]) := by
  obtain ⟨r, P2, rl, p2, q2⟩ := hP.drawn dr 2
  change F__law_draw [.io P1, .v (.int 2)] = _ at q2
  have h1 : fTuple (.lst (row f (2 * c))) = some (.tup (row f (2 * c))) := rfl
  by_cases hr : r = 0
  · refine ⟨(.lst (row f (2 * c))), P2, .v (.lst (row f (2 * c))), F, .inl rfl, p2, ?_⟩
    tm_at "ev"
  · refine ⟨.tup (row f (2 * c)), P2, .own (.lst (row f (2 * c))), fg_tup F.pm F.sz, .inr rfl, p2, ?_⟩
    tm_at "ev"
theorem b4_step {ns : List Int} {S P : D} {k c : Nat} {s3 s4 s5 s6 s7 s8 s9 s10 s11 s12 s13 : Sl} (h1 : 1 ≤ c) (h4 : c ≤ 4) (hP : Pen ns k P) (hk : k ≤ 500) (k3 : NI s3) (k4 : NI s4) (k5 : NI s5) (k6 : NI s6) (k7 : NI s7) (k8 : NI s8) (k9 : NI s9) (k10 : NI s10) (k11 : NI s11) (k12 : NI s12) (k13 : NI s13) :
    ∃ e', b4_law [.v S, .own P, .v (I c), s3, s4, s5, s6, s7, s8, s9, s10, s11, s12, s13] = some (.nx e') ∧ St ns S (k + 50) e' := by
  obtain ⟨f, P1, Pf, p1, q1⟩ := hP.figure dr c
  change F__law_figure _ = _ at q1
  have F := fg_lst Pf (show 2 * c = 2 ∨ 2 * c = 4 ∨ 2 * c = 6 ∨ 2 * c = 8 by omega)
  obtain ⟨td, P2, s4', T, hs4, p2, q2⟩ := told_N (S := S) (s3 := s3) (s5 := s5) (s6 := s6) (s7 := s7) (s8 := s8) (s9 := s9) (s10 := s10) (s11 := s11) (s12 := s12) (s13 := s13) p1 (by omega) F
  obtain ⟨bd, P3, hB, p3, qb⟩ := bent Pf F.sz rfl p2 (by omega)
  have i1 := is_figure_fg T
  have i2 := is_fig_c T rfl
  have i3 := is_fig_w (c := 1 + c % 4) T (by omega)
  have i4 := hB.a
  have i5 := hB.b
  obtain ⟨s, hr, hg⟩ := hB.r
  have i6 := refused i4 hr hg
  have n1 : fNotB (.bl true) (.bl true) = some (.bl false) := rfl
  have n2 : fNotB (.bl false) (.bl false) = some (.bl false) := rfl
  have n3 : fNe (.lst []) (.lst []) = some (.bl false) := ne_same (k := 1) rfl (gk_lst (k := 0) fun d hd => by cases hd)
  have f1 := still_fg h1 h4
  have f2 := crossed_fg h1 h4
  have f3 := upended_fg h1 h4
  have n4 : fNe (.lst [stillD c, crossD c, upD c]) (.lst [stillD c, crossD c, upD c]) = some (.bl false) := ne_same (k := 2) rfl (gk_lst (k := 1) fun d hd => by
    simp only [List.mem_cons, List.not_mem_nil, or_false] at hd
    rcases hd with rfl | rfl | rfl
    · exact gk_tup (gk_mapI _ _ fun _ _ => gk_int _)
    · exact gk_tup (gk_mapI _ _ fun _ _ => gk_int _)
    · exact gk_tup (gk_mapI _ _ fun _ _ => gk_int _))
  have l1 : forL (gN 7) b1_law [stillD c, crossD c, upD c] [.v S, .own P3, .v (I c), s3, .v (.lst (row f (2 * c))), .v td, .v bd, s7, s8, .v (stillD c), .v (crossD c), .v (upD c), s12, s13] = some (.nx [.v S, .own P3, .v (I c), s3, .v (.lst (row f (2 * c))), .v td, .v bd, .v (upD c), s8, .v (stillD c), .v (crossD c), .v (upD c), s12, s13]) :=
    v_fl (Zv.set7 k7) b1_step (v_fl (Zv.set7 rfl) b1_step (v_fl (Zv.set7 rfl) b1_step v_fl0))
  obtain ⟨e8, l2, s8', s12', s13', j8, j12, j13, rfl⟩ := forL_inv (t := gN 8) (b := b3_law) (ds := (List.range c).map I) (k := 0)
    (I := fun i env => ∃ s8 s12 s13, NI s8 ∧ NI s12 ∧ NI s13 ∧ env = [.v S, .own P3, .v (I c), s3, .v (.lst (row f (2 * c))), .v td, .v bd, .v (upD c), s8, .v (stillD c), .v (crossD c), .v (upD c), s12, s13])
    (fun i q env hq hst => by
      obtain ⟨s8, s12, s13, k8, k12, k13, e⟩ := hst
      subst e
      rw [List.getElem?_map] at hq
      obtain ⟨j, hj, rfl⟩ := Option.map_eq_some_iff.mp hq
      have hi : i < c := by
        have := (List.getElem?_eq_some_iff.mp hj).1
        rwa [List.length_range] at this
      rw [List.getElem?_range hi] at hj
      cases hj
      exact ⟨_, _, Zv.set8 k8, .inl (b3_step hi k12 k13), .v (I i), _, _, rfl, rfl, rfl, rfl⟩)
    [.v S, .own P3, .v (I c), s3, .v (.lst (row f (2 * c))), .v td, .v bd, .v (upD c), s8, .v (stillD c), .v (crossD c), .v (upD c), s12, s13] ⟨_, _, _, k8, k12, k13, rfl⟩
  rcases hs4 with rfl | rfl
  · apply exi
    · unfold b4_law
      tm_at "ev"
    · exact ⟨P3, _, _, _, _, _, _, _, _, _, _, _, _, p3.mono (by omega), rfl, k3, rfl, rfl, rfl, rfl, j8, rfl, rfl, rfl, j12, j13, rfl⟩
  · have hv : mVar 4 [.v S, .own P2, .v (I c), s3, .own (.lst (row f (2 * c))), .v td, s6, s7, s8, s9, s10, s11, s12, s13] = some (.ok (.lst (row f (2 * c))) [.v S, .own P2, .v (I c), s3, .v (.lst (row f (2 * c))), .v td, s6, s7, s8, s9, s10, s11, s12, s13]) := rfl
    apply exi
    · unfold b4_law
      tm_at "ev"
    · exact ⟨P3, _, _, _, _, _, _, _, _, _, _, _, _, p3.mono (by omega), rfl, k3, rfl, rfl, rfl, rfl, j8, rfl, rfl, rfl, j12, j13, rfl⟩
theorem b5_step {S P v x : D} {s2 s4 s5 s6 s7 s8 s9 s10 s11 s12 s13 : Sl} (h : NB v x) : b5_law [.v S, .own P, s2, .v v, s4, s5, s6, s7, s8, s9, s10, s11, s12, s13] = some (.nx [.v S, .own P, s2, .v v, s4, s5, s6, s7, s8, s9, s10, s11, s12, s13]) := by
  have h1 := number_refused h
  unfold b5_law
  tm_at "ev"
theorem b6_step {S P v : D} {s2 s4 s5 s6 s7 s8 s9 s10 s11 s12 s13 : Sl} (h : Bad v) (hr : ∃ s, fReprD v = some (.str s) ∧ Gk 0 (.str s)) : b6_law [.v S, .own P, s2, .v v, s4, s5, s6, s7, s8, s9, s10, s11, s12, s13] = some (.nx [.v S, .own P, s2, .v v, s4, s5, s6, s7, s8, s9, s10, s11, s12, s13]) := by
  obtain ⟨s, hr, hg⟩ := hr
  have h1 := refused h hr hg
  have n3 : fNe (.lst []) (.lst []) = some (.bl false) := ne_same (k := 1) rfl (gk_lst (k := 0) fun d hd => by cases hd)
  unfold b6_law
  tm_at "ev"
theorem reprC {v : D} {s : Str} (h : (v.puq && v.pyd.showable && szRp v.pyd.shown.length && decide (v.pyd.depth ≤ 64)) = true) (e : v.pyd.shown = s) (hs : PyData.strOk s = true) : ∃ s, fReprD v = some (.str s) ∧ Gk 0 (.str s) := by
  refine ⟨v.pyd.shown, ?_, gk_str (by rw [e]; exact hs)⟩
  unfold fReprD
  rw [if_pos h]
theorem rp_0 : ∃ s, fReprD (.non) = some (.str s) ∧ Gk 0 (.str s) := reprC (by decide +kernel) rfl (by decide +kernel)
theorem bd_0 : Bad (.non) := rfl
theorem rp_1 : ∃ s, fReprD (.int 3) = some (.str s) ∧ Gk 0 (.str s) := reprC (by decide +kernel) rfl (by decide +kernel)
theorem bd_1 : Bad (.int 3) := rfl
theorem rp_2 : ∃ s, fReprD (.str (Str.ofString "figure")) = some (.str s) ∧ Gk 0 (.str s) := reprC (by decide +kernel) rfl (by decide +kernel)
theorem bd_2 : Bad (.str (Str.ofString "figure")) := rfl
theorem rp_3 : ∃ s, fReprD (.dct [.inr (Str.ofString "a")] [.int 1]) = some (.str s) ∧ Gk 0 (.str s) := reprC (by decide +kernel) rfl (by decide +kernel)
theorem bd_3 : Bad (.dct [.inr (Str.ofString "a")] [.int 1]) := rfl
theorem rp_4 : ∃ s, fReprD (.tup []) = some (.str s) ∧ Gk 0 (.str s) := reprC (by decide +kernel) rfl (by decide +kernel)
theorem bd_4 : Bad (.tup []) := rfl
theorem rp_5 : ∃ s, fReprD (.lst [.int 0]) = some (.str s) ∧ Gk 0 (.str s) := reprC (by decide +kernel) rfl (by decide +kernel)
theorem bd_5 : Bad (.lst [.int 0]) := rfl
theorem rp_6 : ∃ s, fReprD (.tup [.int 0, .int 1, .int 2, .int 3, .int 4, .int 5, .int 6, .int 7, .int 8, .int 9]) = some (.str s) ∧ Gk 0 (.str s) := reprC (by decide +kernel) rfl (by decide +kernel)
theorem bd_6 : Bad (.tup [.int 0, .int 1, .int 2, .int 3, .int 4, .int 5, .int 6, .int 7, .int 8, .int 9]) := rfl
theorem fg10l : Fg (.lst [.int 1, .int 0]) (fun i => 1 - i) 2 := ⟨fg10.pm, .inl rfl, .inl rfl⟩
theorem law_run {ns : List Int} (h : ns.length ≤ 63) : ∃ env, m_law [.v (.scr ns), .no, .no, .no, .no, .no, .no, .no, .no, .no, .no, .no, .no, .no] = some (.rt (.v (.bl true)) env) := by
  obtain ⟨P0, hP, hp⟩ := Zl.the_pen h
  change F__law_pen _ = _ at hp
  obtain ⟨env', w1, w2⟩ := forL_inv (t := gN 2) (b := b4_law) (ds := [.int 1, .int 2, .int 3, .int 4]) (k := 0)
    (I := fun i env => St ns (.scr ns) (50 * i) env)
    (fun i x env hx hst => by
      obtain ⟨P, s2, s3, s4, s5, s6, s7, s8, s9, s10, s11, s12, s13, hP, k2, k3, k4, k5, k6, k7, k8, k9, k10, k11, k12, k13, e⟩ := hst
      rw [Nat.zero_add] at *
      have hi : i < 4 := (List.getElem?_eq_some_iff.mp hx).1
      have ex : x = I (i + 1) := by
        have : i = 0 ∨ i = 1 ∨ i = 2 ∨ i = 3 := by omega
        rcases this with rfl | rfl | rfl | rfl <;> exact (Option.some.inj hx).symm
      subst ex
      subst e
      obtain ⟨e', h1, h2⟩ := b4_step (S := .scr ns) (c := i + 1) (by omega) (by omega) hP (by omega) k3 k4 k5 k6 k7 k8 k9 k10 k11 k12 k13
      exact ⟨_, e', Zv.set2 k2, .inl h1, h2⟩)
    [.v (.scr ns), .own P0, .no, .no, .no, .no, .no, .no, .no, .no, .no, .no, .no, .no] ⟨P0, .no, .no, .no, .no, .no, .no, .no, .no, .no, .no, .no, .no, hP, rfl, rfl, rfl, rfl, rfl, rfl, rfl, rfl, rfl, rfl, rfl, rfl, rfl⟩
  obtain ⟨P, s2, s3, s4, s5, s6, s7, s8, s9, s10, s11, s12, s13, _, k2, k3, k4, k5, k6, k7, k8, k9, k10, k11, k12, k13, rfl⟩ := w2
  have g1 : F_is_figure [.v (.tup [.int 0, .int 1, .int 2, .int 3, .int 4, .int 5, .int 6, .int 7, .int 8, .int 9]), .v .non] = some (.rt (.v (.bl false)) none) := rfl
  have g2 : F_is_figure [.v (.tup []), .v .non] = some (.rt (.v (.bl false)) none) := rfl
  have g3 : F_is_figure [.v (.str (Str.ofString "01")), .v .non] = some (.rt (.v (.bl false)) none) := rfl
  have n2 : fNotB (.bl false) (.bl false) = some (.bl false) := rfl
  have p20 : fPow (.int 10) (.int 20) = some (.int 100000000000000000000) := rfl
  have p12 : fPow (.int 10) (.int 12) = some (.int 1000000000000) := rfl
  have l5 : forL (gN 3) b5_law [.int 0, .int 5, .int (-1), .int 100000000000000000000, .bl true, .non, .str (Str.ofString "2"), .tup [.int 2]] [.v (.scr ns), .own P, s2, s3, s4, s5, s6, s7, s8, s9, s10, s11, s12, s13] = some (.nx [.v (.scr ns), .own P, s2, .v (.tup [.int 2]), s4, s5, s6, s7, s8, s9, s10, s11, s12, s13]) := (v_fl (Zv.set3 k3) (b5_step nb_0) (v_fl (Zv.set3 rfl) (b5_step nb_1) (v_fl (Zv.set3 rfl) (b5_step nb_2) (v_fl (Zv.set3 rfl) (b5_step nb_3) (v_fl (Zv.set3 rfl) (b5_step nb_4) (v_fl (Zv.set3 rfl) (b5_step nb_5) (v_fl (Zv.set3 rfl) (b5_step nb_6) (v_fl (Zv.set3 rfl) (b5_step nb_7) v_fl0))))))))
  have l6 : forL (gN 3) b6_law [.non, .int 3, .str (Str.ofString "figure"), .dct [.inr (Str.ofString "a")] [.int 1], .tup [], .lst [.int 0], .tup [.int 0, .int 1, .int 2, .int 3, .int 4, .int 5, .int 6, .int 7, .int 8, .int 9]] [.v (.scr ns), .own P, s2, .v (.tup [.int 2]), s4, s5, s6, s7, s8, s9, s10, s11, s12, s13] = some (.nx [.v (.scr ns), .own P, s2, .v (.tup [.int 0, .int 1, .int 2, .int 3, .int 4, .int 5, .int 6, .int 7, .int 8, .int 9]), s4, s5, s6, s7, s8, s9, s10, s11, s12, s13]) := (v_fl (Zv.set3 rfl) (b6_step bd_0 rp_0) (v_fl (Zv.set3 rfl) (b6_step bd_1 rp_1) (v_fl (Zv.set3 rfl) (b6_step bd_2 rp_2) (v_fl (Zv.set3 rfl) (b6_step bd_3 rp_3) (v_fl (Zv.set3 rfl) (b6_step bd_4 rp_4) (v_fl (Zv.set3 rfl) (b6_step bd_5 rp_5) (v_fl (Zv.set3 rfl) (b6_step bd_6 rp_6) v_fl0)))))))
  have e1 : F_power [.v (.tup [.int 1, .int 0]), .v (.int 1000000000000)] = some (.rt (.v (.tup [.int 0, .int 1])) none) := power_fg fg10 (by decide) (by decide)
  have e2 : F_still [.v (.int 1)] = some (.rt (.v (.tup [.int 0, .int 1])) none) := still_fg (c := 1) (by decide) (by decide)
  have e3 : F_power [.v (.lst [.int 1, .int 0]), .v (.int (-1000000000000 + 1))] = some (.rt (.v (.tup [.int 1, .int 0])) none) := power_fg fg10l (by decide) (by decide)
  have e4 : F_crossed [.v (.int 1)] = some (.rt (.v (.tup [.int 1, .int 0])) none) := crossed_fg (c := 1) (by decide) (by decide)
  obtain ⟨t1, r1, y1⟩ : ∃ s, fReprD (.tup [.int 0, .int 1]) = some (.str s) ∧ Gk 0 (.str s) := reprC (by decide +kernel) rfl (by decide +kernel)
  obtain ⟨t2, r2, y2⟩ : ∃ s, fReprD (.tup [.int 1, .int 0]) = some (.str s) ∧ Gk 0 (.str s) := reprC (by decide +kernel) rfl (by decide +kernel)
  have z1 := fEq_self y1 (by decide)
  have z2 := fEq_self y2 (by decide)
  refine ⟨[.v (.scr ns), .own P, s2, .v (.tup [.int 0, .int 1, .int 2, .int 3, .int 4, .int 5, .int 6, .int 7, .int 8, .int 9]), s4, s5, s6, s7, s8, s9, s10, s11, s12, s13], ?_⟩
  unfold m_law
  tm_at "ev"
theorem law_holds : ∀ ns : List Int, ns.length ≤ 63 → (∀ z ∈ ns, Builtin.Int.intBits z ≤ 1048576) → F_law [.v (.scr ns)] = some (.rt (.v (.bl true)) none) := fun ns hn _ => by
  obtain ⟨env, h⟩ := law_run hn
  exact v_run rfl rfl h rfl
end Zk02
end

section
set_option Elab.async false
set_option linter.all false
set_option maxRecDepth 100000
open PySem PySem.W PyProof.Rows
set_option maxHeartbeats 0 in
theorem PySem.Challenge.cw_everyline_k02_figures_and_what_is_none_holds : PySem.Challenge.rw_everyline_k02_figures_and_what_is_none.Holds := by
  w_on; o_law; k_head; (case hw => w_witness2)
  k_fill
  refine Z.walkZ (l := PySem.Challenge.rw_everyline_k02_figures_and_what_is_none) (n := 63) (k := 6) (x := "script") (F := Zk02.F_law) rfl (by decide) rfl ⟨⟨rfl, by decide, by decide⟩, rfl⟩ (fun w h Y => PySem.W.kIn_of Y) ?G Zk02.law_holds
  case G =>
    intro w mg fa h KX G hmg
    refine' Zk02.all_mk KX G hmg ?a__law_pen ?l__law_pen ?c__law_pen ?k__law_pen ?a__law_draw ?l__law_draw ?c__law_draw ?k__law_draw ?a__law_figure ?l__law_figure ?c__law_figure ?k__law_figure ?a_is_row ?l_is_row ?c_is_row ?k_is_row ?a_is_integer ?l_is_integer ?c_is_integer ?k_is_integer ?a_is_figure ?l_is_figure ?c_is_figure ?k_is_figure ?e_is_figure ?a__law_bent ?l__law_bent ?c__law_bent ?k__law_bent ?a_need_figure ?l_need_figure ?c_need_figure ?k_need_figure ?a_joined_rows ?l_joined_rows ?c_joined_rows ?k_joined_rows ?a_then ?l_then ?c_then ?k_then ?a_back_row ?l_back_row ?c_back_row ?k_back_row ?a_back ?l_back ?c_back ?k_back ?a_is_within ?l_is_within ?c_is_within ?k_is_within ?a_need_within ?l_need_within ?c_need_within ?k_need_within ?a_cycles_of ?l_cycles_of ?c_cycles_of ?k_cycles_of ?a_power_row ?l_power_row ?c_power_row ?k_power_row ?a_power ?l_power ?c_power ?k_power ?a_cycles ?l_cycles ?c_cycles ?k_cycles ?a_order ?l_order ?c_order ?k_order ?a_exchanges ?l_exchanges ?c_exchanges ?k_exchanges ?a__law_refused ?l__law_refused ?c__law_refused ?k__law_refused ?a_still ?l_still ?c_still ?k_still ?a_crossed ?l_crossed ?c_crossed ?k_crossed ?a_upended ?l_upended ?c_upended ?k_upended ?a__law_number_refused ?l__law_number_refused ?c__law_number_refused ?k__law_number_refused ?a_law ?l_law ?c_law ?k_law ?a_LineError ?a_BadFigure ?a_BadNumber ?cls_BadFigure ?rf_BadFigure ?sa_BadFigure ?exC_BadFigure ?tyC_BadFigure ?kC_BadFigure ?ga_BadFigure ?gg_BadFigure ?hd_BadFigure ?iC_BadFigure ?lI_BadFigure ?tI_BadFigure ?lC_BadFigure ?vs_BadFigure_ ?hf_BadFigure ?ce_BadFigure ?hm_BadFigure ?hB_BadFigure ?hs_BadFigure ?cI_BadFigure ?no_BadFigure_value ?cls_BadNumber ?rf_BadNumber ?sa_BadNumber ?exC_BadNumber ?tyC_BadNumber ?kC_BadNumber ?ga_BadNumber ?gg_BadNumber ?hd_BadNumber ?iC_BadNumber ?lI_BadNumber ?tI_BadNumber ?lC_BadNumber ?vs_BadNumber_ ?hf_BadNumber ?ce_BadNumber ?hm_BadNumber ?hB_BadNumber ?hs_BadNumber ?cI_BadNumber ?no_BadNumber_part ?exC_LineError ?tyC_LineError ?hd_LineError ?m_BadFigure_LineError ?m_BadNumber_LineError ?m_BadFigure_BadFigure ?m_BadNumber_BadFigure ?m_BadFigure_BadNumber ?m_BadNumber_BadNumber ?ho ?gs ?htop ?z_abs ?z_all ?z_bool ?z_enumerate ?z_int ?z_isinstance ?z_len ?z_list ?z_range ?z_repr ?z_sorted ?z_str ?z_tuple ?i_GREATEST ?i_LARGEST ?i_lcm
    (case a__law_pen => k_is); (case l__law_pen => k_is); (case c__law_pen => k_is); (case k__law_pen => k_is); (case a__law_draw => k_is); (case l__law_draw => k_is); (case c__law_draw => k_is); (case k__law_draw => k_is); (case a__law_figure => k_is); (case l__law_figure => k_is); (case c__law_figure => k_is); (case k__law_figure => k_is); (case a_is_row => k_is); (case l_is_row => k_is); (case c_is_row => k_is); (case k_is_row => k_is); (case a_is_integer => k_is); (case l_is_integer => k_is); (case c_is_integer => k_is); (case k_is_integer => k_is); (case a_is_figure => k_is); (case l_is_figure => k_is); (case c_is_figure => k_is); (case k_is_figure => k_is); (case e_is_figure => k_is); (case a__law_bent => k_is); (case l__law_bent => k_is); (case c__law_bent => k_is); (case k__law_bent => k_is); (case a_need_figure => k_is); (case l_need_figure => k_is); (case c_need_figure => k_is); (case k_need_figure => k_is); (case a_joined_rows => k_is); (case l_joined_rows => k_is); (case c_joined_rows => k_is); (case k_joined_rows => k_is); (case a_then => k_is); (case l_then => k_is); (case c_then => k_is); (case k_then => k_is); (case a_back_row => k_is); (case l_back_row => k_is); (case c_back_row => k_is); (case k_back_row => k_is); (case a_back => k_is); (case l_back => k_is); (case c_back => k_is); (case k_back => k_is); (case a_is_within => k_is); (case l_is_within => k_is); (case c_is_within => k_is); (case k_is_within => k_is); (case a_need_within => k_is); (case l_need_within => k_is); (case c_need_within => k_is); (case k_need_within => k_is); (case a_cycles_of => k_is); (case l_cycles_of => k_is); (case c_cycles_of => k_is); (case k_cycles_of => k_is); (case a_power_row => k_is); (case l_power_row => k_is); (case c_power_row => k_is); (case k_power_row => k_is); (case a_power => k_is); (case l_power => k_is); (case c_power => k_is); (case k_power => k_is); (case a_cycles => k_is); (case l_cycles => k_is); (case c_cycles => k_is); (case k_cycles => k_is); (case a_order => k_is); (case l_order => k_is); (case c_order => k_is); (case k_order => k_is); (case a_exchanges => k_is); (case l_exchanges => k_is); (case c_exchanges => k_is); (case k_exchanges => k_is); (case a__law_refused => k_is); (case l__law_refused => k_is); (case c__law_refused => k_is); (case k__law_refused => k_is); (case a_still => k_is); (case l_still => k_is); (case c_still => k_is); (case k_still => k_is); (case a_crossed => k_is); (case l_crossed => k_is); (case c_crossed => k_is); (case k_crossed => k_is); (case a_upended => k_is); (case l_upended => k_is); (case c_upended => k_is); (case k_upended => k_is); (case a__law_number_refused => k_is); (case l__law_number_refused => k_is); (case c__law_number_refused => k_is); (case k__law_number_refused => k_is); (case a_law => k_is); (case l_law => k_is); (case c_law => k_is); (case k_law => k_is); (case a_LineError => k_is); (case a_BadFigure => k_is); (case a_BadNumber => k_is); (case cls_BadFigure => k_is); (case rf_BadFigure => rfl); (case sa_BadFigure => k_is); (case exC_BadFigure => k_is); (case tyC_BadFigure => k_is); (case kC_BadFigure => k_is); (case ga_BadFigure => k_is); (case gg_BadFigure => k_is); (case hd_BadFigure => k_is); (case iC_BadFigure => k_is); (case lI_BadFigure => k_is); (case tI_BadFigure => k_is); (case lC_BadFigure => k_is); (case vs_BadFigure_ => rfl); (case hf_BadFigure => rfl); (case ce_BadFigure => k_is); (case hm_BadFigure => ks_is); (case hB_BadFigure => k_is); (case hs_BadFigure => k_is); (case cI_BadFigure => k_is); (case no_BadFigure_value => k_is); (case cls_BadNumber => k_is); (case rf_BadNumber => rfl); (case sa_BadNumber => k_is); (case exC_BadNumber => k_is); (case tyC_BadNumber => k_is); (case kC_BadNumber => k_is); (case ga_BadNumber => k_is); (case gg_BadNumber => k_is); (case hd_BadNumber => k_is); (case iC_BadNumber => k_is); (case lI_BadNumber => k_is); (case tI_BadNumber => k_is); (case lC_BadNumber => k_is); (case vs_BadNumber_ => rfl); (case hf_BadNumber => rfl); (case ce_BadNumber => k_is); (case hm_BadNumber => ks_is); (case hB_BadNumber => k_is); (case hs_BadNumber => k_is); (case cI_BadNumber => k_is); (case no_BadNumber_part => k_is); (case exC_LineError => k_is); (case tyC_LineError => k_is); (case hd_LineError => k_is); (case m_BadFigure_LineError => k_is); (case m_BadNumber_LineError => k_is); (case m_BadFigure_BadFigure => k_is); (case m_BadNumber_BadFigure => k_is); (case m_BadFigure_BadNumber => k_is); (case m_BadNumber_BadNumber => k_is); (case ho => k_is); (case gs => k_is); (case htop => rfl); (case z_abs => k_is); (case z_all => k_is); (case z_bool => k_is); (case z_enumerate => k_is); (case z_int => k_is); (case z_isinstance => k_is); (case z_len => k_is); (case z_list => k_is); (case z_range => k_is); (case z_repr => k_is); (case z_sorted => k_is); (case z_str => k_is); (case z_tuple => k_is); (case i_GREATEST => k_is); (case i_LARGEST => k_is); (case i_lcm => k_is)
end
