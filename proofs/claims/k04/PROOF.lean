import PyProof.Rows.All
import Wide.All
import OpenK.AllK
import Wide.FinOn
import HandS.ForMost
import HandS.ForExc
import HandS.IsInst
import HandS.TupAny
import HandS.TupLe
import HandS.Conv
import HandS.SortInts
import HandS.Defaults
import HandS.Gcd
import HandS.Style
import HandS.RaiseMore
import KE.KMathGC
import HandS.Walk
import HandS.Zip
import HandS.EndBits
import PySem.Challenge.RW_everyline_k04_cycles_orders_exchanges
section
set_option Elab.async false
set_option linter.all false
set_option maxRecDepth 100000
set_option autoImplicit false
/-! A value semantics over the hand layer: data, what stands for them, slots, steps. -/
namespace Z
open PySem L2

/-- data: what a value stands for, whole -/
inductive D where
  | non
  | bl (b : Bool)
  | int (i : Int)
  | str (x : Str)
  | lst (xs : List D)
  | tup (xs : List D)
  | dct (ks : List Key) (vs : List D)
  | ins (c : Str) (ns : List Str) (vs : List D)
  /-- the law's own argument -/
  | scr (ns : List Int)

variable {K : PySem.W.Frag} {mg : Str → Option Value}

mutual
/-- v stands for d, by what S holds (S: the part of the heap that stays) -/
inductive Rp (K : PySem.W.Frag) (mg : Str → Option Value) (S : Hp) : V → D → Prop
  | non : Rp K mg S .non .non
  | bl (b : Bool) : Rp K mg S (.bl b) (.bl b)
  | int (i : Int) : Rp K mg S (.int i) (.int i)
  | str (x : Str) : Rp K mg S (.str x) (.str x)
  | lst {a : Addr} {vs : List V} {ds : List D} : S a = some (.lst vs) → RpA K mg S vs ds → Rp K mg S (.ref a) (.lst ds)
  | scr {a : Addr} {ns : List Int} : SqL K S a (ns.map V.int) → Rp K mg S (.ref a) (.scr ns)
  | tup {a : Addr} {vs : List V} {ds : List D} : SqT K S a vs → RpA K mg S vs ds → Rp K mg S (.ref a) (.tup ds)
  | dct {a : Addr} {kvs : List (Key × V)} {ks : List Key} {vs : List V} {ds : List D} : S a = some (.dK kvs) → kvs.map (·.1) = ks → kvs.map (·.2) = vs → RpA K mg S vs ds → Rp K mg S (.ref a) (.dct ks ds)
  | ins {a C dx : Addr} {fs : List (Str × V)} {c : Str} {ns : List Str} {vs : List V} {ds : List D} : S a = some (.ins C dx fs) → mg c = some (.ref C) → fs.map (·.1) = ns → fs.map (·.2) = vs → RpA K mg S vs ds → Rp K mg S (.ref a) (.ins c ns ds)
inductive RpA (K : PySem.W.Frag) (mg : Str → Option Value) (S : Hp) : List V → List D → Prop
  | nil : RpA K mg S [] []
  | cons {v : V} {vs : List V} {d : D} {ds : List D} : Rp K mg S v d → RpA K mg S vs ds → RpA K mg S (v :: vs) (d :: ds)
end

theorem same_tup {S S' : Hp} {a : Addr} {vs : List V} (e : Same S S') (h : SqT K S a vs) : SqT K S' a vs := by
  rcases h with (h | ⟨o, h⟩) | h
  · exact .inl (.inl (e _ _ h))
  · exact .inl (.inr ⟨o, e _ _ h⟩)
  · exact .inr h

mutual
theorem Rp.mono {S S' : Hp} (e : Same S S') : ∀ {d : D} {v : V}, Rp K mg S v d → Rp K mg S' v d
  | .non, _, h => by cases h; exact .non
  | .bl _, _, h => by cases h; exact .bl _
  | .int _, _, h => by cases h; exact .int _
  | .str _, _, h => by cases h; exact .str _
  | .lst ds, _, h => by cases h with | lst a b => exact .lst (e _ _ a) (RpA.mono e b)
  | .scr ns, _, h => by cases h with | scr a => exact .scr (e.seq a)
  | .tup ds, _, h => by cases h with | tup a b => exact .tup (same_tup e a) (RpA.mono e b)
  | .dct ks ds, _, h => by cases h with | dct a b c r => exact .dct (e _ _ a) b c (RpA.mono e r)
  | .ins c ns ds, _, h => by cases h with | ins a b c d r => exact .ins (e _ _ a) b c d (RpA.mono e r)
theorem RpA.mono {S S' : Hp} (e : Same S S') : ∀ {ds : List D} {vs : List V}, RpA K mg S vs ds → RpA K mg S' vs ds
  | [], _, h => by cases h; exact .nil
  | d :: ds, _, h => by cases h with | cons a b => exact .cons (Rp.mono e a) (RpA.mono e b)
end
theorem RpA.len {S : Hp} : ∀ {ds : List D} {vs : List V}, RpA K mg S vs ds → vs.length = ds.length
  | [], _, h => by cases h; rfl
  | d :: ds, _, h => by cases h with | cons a b => exact congrArg Nat.succ b.len
theorem RpA.get {S : Hp} : ∀ {ds : List D} {vs : List V} {i : Nat} {d : D}, RpA K mg S vs ds → ds[i]? = some d → ∃ v, vs[i]? = some v ∧ Rp K mg S v d
  | [], _, _, _, _, e => by simp at e
  | d :: ds, _, 0, _, h, e => by
    cases h with
    | cons a b =>
      have : d = _ := Option.some.inj e
      subst this
      exact ⟨_, rfl, a⟩
  | d :: ds, _, i + 1, _, h, e => by
    cases h with
    | cons a b => exact b.get (i := i) e
theorem RpA.getV {S : Hp} : ∀ {ds : List D} {vs : List V} {i : Nat} {v : V}, RpA K mg S vs ds → vs[i]? = some v → ∃ d, ds[i]? = some d ∧ Rp K mg S v d
  | [], _, _, _, h, e => by cases h; simp at e
  | d :: ds, _, 0, _, h, e => by
    cases h with
    | cons a b =>
      have := Option.some.inj e
      subst this
      exact ⟨_, rfl, a⟩
  | d :: ds, _, i + 1, _, h, e => by
    cases h with
    | cons a b => exact b.getV (i := i) e
theorem RpA.app {S : Hp} : ∀ {ds es : List D} {vs ws : List V}, RpA K mg S vs ds → RpA K mg S ws es → RpA K mg S (vs ++ ws) (ds ++ es)
  | [], _, _, _, h, r => by cases h; exact r
  | d :: ds, _, _, _, h, r => by cases h with | cons a b => exact .cons a (b.app r)
theorem RpA.one {S : Hp} {d : D} {v : V} (h : Rp K mg S v d) : RpA K mg S [v] [d] := .cons h .nil
theorem RpA.drop {S : Hp} : ∀ (n : Nat) {ds : List D} {vs : List V}, RpA K mg S vs ds → RpA K mg S (vs.drop n) (ds.drop n)
  | 0, _, _, h => h
  | n + 1, [], _, h => by cases h; exact .nil
  | n + 1, d :: ds, _, h => by cases h with | cons a b => exact b.drop n
theorem RpA.take {S : Hp} : ∀ (n : Nat) {ds : List D} {vs : List V}, RpA K mg S vs ds → RpA K mg S (vs.take n) (ds.take n)
  | 0, _, _, h => .nil
  | n + 1, [], _, h => by cases h; exact .nil
  | n + 1, d :: ds, _, h => by cases h with | cons a b => exact .cons a (b.take n)
theorem RpA.set {S : Hp} {x : V} {y : D} (r : Rp K mg S x y) : ∀ (n : Nat) {ds : List D} {vs : List V}, RpA K mg S vs ds → RpA K mg S (vs.set n x) (ds.set n y)
  | _, [], _, h => by cases h; exact .nil
  | 0, d :: ds, _, h => by cases h with | cons a b => exact .cons r b
  | n + 1, d :: ds, _, h => by cases h with | cons a b => exact .cons a (b.set r n)
theorem RpA.erase {S : Hp} : ∀ (n : Nat) {ds : List D} {vs : List V}, RpA K mg S vs ds → RpA K mg S (vs.eraseIdx n) (ds.eraseIdx n)
  | _, [], _, h => by cases h; exact .nil
  | 0, d :: ds, _, h => by cases h with | cons a b => exact b
  | n + 1, d :: ds, _, h => by cases h with | cons a b => exact .cons a (b.erase n)
theorem RpA.rev {S : Hp} : ∀ {ds : List D} {vs : List V}, RpA K mg S vs ds → RpA K mg S vs.reverse ds.reverse
  | [], _, h => by cases h; exact .nil
  | d :: ds, _, h => by
    cases h with
    | cons a b =>
      rw [List.reverse_cons, List.reverse_cons]
      exact b.rev.app (.one a)

/-- the top object, its parts standing by S -/
inductive HoR (K : PySem.W.Frag) (mg : Str → Option Value) (S : Hp) : HO → D → Prop
  | lst {vs : List V} {ds : List D} : RpA K mg S vs ds → HoR K mg S (.lst vs) (.lst ds)
  | dct {kvs : List (Key × V)} {ks : List Key} {vs : List V} {ds : List D} : kvs.map (·.1) = ks → kvs.map (·.2) = vs → RpA K mg S vs ds → HoR K mg S (.dK kvs) (.dct ks ds)
  | ins {C dx : Addr} {fs : List (Str × V)} {c : Str} {ns : List Str} {vs : List V} {ds : List D} : mg c = some (.ref C) → fs.map (·.1) = ns → fs.map (·.2) = vs → RpA K mg S vs ds → HoR K mg S (.ins C dx fs) (.ins c ns ds)
theorem HoR.mono {S S' : Hp} (e : Same S S') {ho : HO} {d : D} (h : HoR K mg S ho d) : HoR K mg S' ho d := by
  cases h with
  | lst a => exact .lst (a.mono e)
  | dct a b r => exact .dct a b (r.mono e)
  | ins a b c r => exact .ins a b c (r.mono e)
theorem HoR.frozen {S : Hp} {ho : HO} {d : D} {a : Addr} (h : HoR K mg S ho d) (ha : S a = some ho) : Rp K mg S (.ref a) d := by
  cases h with
  | lst r => exact .lst ha r
  | dct b c r => exact .dct ha b c r
  | ins b c d r => exact .ins ha b c d r
theorem same_upd {H : Hp} {p : Addr} {o : HO} (h : H p = none) : Same H (upd H p o) := fun b x e => by
  rw [upd_ne (ne_of_none e h)]
  exact e

/-! ### slots -/
inductive Sl where
  | no
  | v (d : D)
  /-- a list (dict, instance) that this frame alone knows -/
  | own (d : D)
  /-- a parameter's, the caller's own: changed here -/
  | io (d : D)
abbrev Env := List Sl
def Sl.mut : Sl → Option D
  | .own d => some d
  | .io d => some d
  | _ => none
def SlR (K : PySem.W.Frag) (mg : Str → Option Value) (S H : Hp) (o : Option (Option V)) : Sl → Prop
  | .no => True
  | .v d => ∃ v, o = some (some v) ∧ Rp K mg S v d
  | .own d => ∃ a ho, o = some (some (.ref a)) ∧ S a = none ∧ H a = some ho ∧ HoR K mg S ho d
  | .io d => ∃ a ho, o = some (some (.ref a)) ∧ S a = none ∧ H a = some ho ∧ HoR K mg S ho d
def OwnAt (env : Env) (σ : St) (i : Nat) (q : Addr) : Prop := (∃ s d, env[i]? = some s ∧ s.mut = some d) ∧ σ[i]? = some (some (.ref q))
def Own (env : Env) (σ : St) (q : Addr) : Prop := ∃ i, OwnAt env σ i q
structure Rel (K : PySem.W.Frag) (mg : Str → Option Value) (env : Env) (σ : St) (S H : Hp) : Prop where
  len : σ.length = env.length
  sub : Same S H
  sl : ∀ (i : Nat) (s : Sl), env[i]? = some s → SlR K mg S H σ[i]? s
  inj : ∀ (i j : Nat) (q : Addr), OwnAt env σ i q → OwnAt env σ j q → i = j
theorem SlR.mut {S H : Hp} {o : Option (Option V)} {s : Sl} {d : D} (h : SlR K mg S H o s) (e : s.mut = some d) : ∃ a ho, o = some (some (.ref a)) ∧ S a = none ∧ H a = some ho ∧ HoR K mg S ho d := by
  cases s with
  | no => cases e
  | v _ => cases e
  | own _ => cases e; exact h
  | io _ => cases e; exact h
theorem Rel.own {env : Env} {σ : St} {S H : Hp} (r : Rel K mg env σ S H) {q : Addr} (h : Own env σ q) : S q = none ∧ ∃ ho, H q = some ho := by
  obtain ⟨i, ⟨s, d, e, m⟩, hq⟩ := h
  obtain ⟨a, ho, h1, h2, h3, _⟩ := (r.sl i s e).mut m
  rw [hq] at h1
  cases h1
  exact ⟨h2, ho, h3⟩

/-- from a state to a later one -/
structure Step (K : PySem.W.Frag) (mg : Str → Option Value) (env : Env) (σ : St) (S H : Hp) (env' : Env) (σ' : St) (S' H' : Hp) : Prop where
  rel : Rel K mg env' σ' S' H'
  ext : Same S S'
  frm : ∀ q o, H q = some o → ¬ Own env σ q → H' q = some o
  new : ∀ q o, S' q = some o → S q = some o ∨ H q = none ∨ Own env σ q
  own : ∀ q, Own env' σ' q → Own env σ q ∨ H q = none
  io : ∀ (i : Nat) (d : D), env[i]? = some (Sl.io d) → σ'[i]? = σ[i]? ∧ ∃ d', env'[i]? = some (Sl.io d')
section
variable {env env1 env2 : Env} {σ σ1 σ2 : St} {S S1 S2 H H1 H2 : Hp}
theorem Step.refl (r : Rel K mg env σ S H) : Step K mg env σ S H env σ S H :=
  ⟨r, Same.refl S, fun _ _ e _ => e, fun _ _ e => .inl e, fun _ h => .inl h, fun i d e => ⟨rfl, d, e⟩⟩
theorem Step.trans (a : Step K mg env σ S H env1 σ1 S1 H1) (b : Step K mg env1 σ1 S1 H1 env2 σ2 S2 H2) : Step K mg env σ S H env2 σ2 S2 H2 where
  rel := b.rel
  ext := a.ext.trans b.ext
  frm := fun q o e n => b.frm q o (a.frm q o e n) fun h => (a.own q h).elim n fun z => by rw [e] at z; cases z
  new := fun q o e => by
    have back : H1 q = none → H q = none ∨ Own env σ q := fun z => by
      cases h : H q with
      | none => exact .inl rfl
      | some o' =>
        refine .inr (Classical.byContradiction fun n => ?_)
        rw [a.frm q o' h n] at z
        cases z
    rcases b.new q o e with h | h | h
    · exact a.new q o h
    · exact .inr (back h)
    · rcases a.own q h with h | h
      · exact .inr (.inr h)
      · exact .inr (.inl h)
  own := fun q h => by
    have back : H1 q = none → Own env σ q ∨ H q = none := fun z => by
      cases h : H q with
      | none => exact .inr rfl
      | some o' =>
        refine .inl (Classical.byContradiction fun n => ?_)
        rw [a.frm q o' h n] at z
        cases z
    rcases b.own q h with h | h
    · exact a.own q h
    · exact back h
  io := fun i d e => by
    obtain ⟨x, d1, y⟩ := a.io i d e
    obtain ⟨x2, d2, y2⟩ := b.io i d1 y
    exact ⟨x2.trans x, d2, y2⟩
/-- a thing that stood apart stands apart still -/
theorem Step.apart (a : Step K mg env σ S H env1 σ1 S1 H1) {q : Addr} {o : HO} (h : H q = some o) (hS : S q = none) (n : ¬ Own env σ q) : H1 q = some o ∧ S1 q = none ∧ ¬ Own env1 σ1 q := by
  refine ⟨a.frm q o h n, ?_, fun z => (a.own q z).elim n fun z => by rw [h] at z; cases z⟩
  cases e : S1 q with
  | none => rfl
  | some o' =>
    rcases a.new q o' e with z | z | z
    · rw [hS] at z; cases z
    · rw [h] at z; cases z
    · exact absurd z n
theorem SlR.laid {S H : Hp} {o : Option (Option V)} {s : Sl} {p : Addr} {u : HO} (h : SlR K mg S H o s) (hp : H p = none) (sub : Same S H) (sS : Bool) : SlR K mg (if sS then upd S p u else S) (upd H p u) o s := by
  have hS : S p = none := sub.free hp
  have e1 : Same S (if sS then upd S p u else S) := by
    cases sS with
    | true => exact same_upd hS
    | false => exact Same.refl S
  have n1 : ∀ a, S a = none → a ≠ p → (if sS then upd S p u else S) a = none := fun a ha n => by
    cases sS with
    | true =>
      show upd S p u a = none
      rw [upd_ne n]
      exact ha
    | false => exact ha
  cases s with
  | no => trivial
  | v d =>
    obtain ⟨v, a, b⟩ := h
    exact ⟨v, a, b.mono e1⟩
  | own d =>
    obtain ⟨a, ho, h1, h2, h3, h4⟩ := h
    have n : a ≠ p := ne_of_none h3 hp
    exact ⟨a, ho, h1, n1 a h2 n, by rw [upd_ne n]; exact h3, h4.mono e1⟩
  | io d =>
    obtain ⟨a, ho, h1, h2, h3, h4⟩ := h
    have n : a ≠ p := ne_of_none h3 hp
    exact ⟨a, ho, h1, n1 a h2 n, by rw [upd_ne n]; exact h3, h4.mono e1⟩
/-- a new object, that stays (sS) or stands apart -/
theorem Rel.laid (r : Rel K mg env σ S H) {p : Addr} {u : HO} (hp : H p = none) (sS : Bool) : Step K mg env σ S H env σ (if sS then upd S p u else S) (upd H p u) := by
  have hS : S p = none := r.sub.free hp
  refine ⟨⟨r.len, ?_, fun i s e => (r.sl i s e).laid hp r.sub sS, r.inj⟩, ?_, fun q o e _ => ?_, fun q o e => ?_, fun q h => .inl h, fun i d e => ⟨rfl, d, e⟩⟩
  · cases sS with
    | true =>
      intro b o e
      have e' : upd S p u b = some o := e
      by_cases hb : b = p
      · subst hb
        rw [upd_same] at e' ⊢
        exact e'
      · rw [upd_ne hb] at e' ⊢
        exact r.sub b o e'
    | false =>
      intro b o e
      rw [upd_ne (ne_of_none (r.sub b o e) hp)]
      exact r.sub b o e
  · cases sS with
    | true => exact same_upd hS
    | false => exact Same.refl S
  · rw [upd_ne (ne_of_none e hp)]
    exact e
  · cases sS with
    | true =>
      have e' : upd S p u q = some o := e
      by_cases hb : q = p
      · subst hb
        exact .inr (.inl hp)
      · rw [upd_ne hb] at e'
        exact .inl e'
    | false => exact .inl e
/-- a thing that stood apart stays from now on -/
theorem Rel.freeze (r : Rel K mg env σ S H) {p : Addr} {u : HO} (hp : H p = some u) (hS : S p = none) (n : ¬ Own env σ p) : Rel K mg env σ (upd S p u) H := by
  refine ⟨r.len, fun b o e => ?_, fun i s e => ?_, r.inj⟩
  · by_cases hb : b = p
    · subst hb
      rw [upd_same] at e
      rw [← e]
      exact hp
    · rw [upd_ne hb] at e
      exact r.sub b o e
  · have q := r.sl i s e
    cases s with
    | no => trivial
    | v d =>
      obtain ⟨v, a, b⟩ := q
      exact ⟨v, a, b.mono (same_upd hS)⟩
    | own d =>
      obtain ⟨a, ho, h1, h2, h3, h4⟩ := q
      have na : a ≠ p := fun z => by subst z; exact n ⟨i, ⟨_, d, e, rfl⟩, h1⟩
      exact ⟨a, ho, h1, by rw [upd_ne na]; exact h2, h3, h4.mono (same_upd hS)⟩
    | io d =>
      obtain ⟨a, ho, h1, h2, h3, h4⟩ := q
      have na : a ≠ p := fun z => by subst z; exact n ⟨i, ⟨_, d, e, rfl⟩, h1⟩
      exact ⟨a, ho, h1, by rw [upd_ne na]; exact h2, h3, h4.mono (same_upd hS)⟩
end

/-! ### results, the value semantics -/
inductive Rs where
  | v (d : D)
  /-- new, known nowhere -/
  | fr (d : D)
  /-- what slot i owns -/
  | bw (i : Nat)
/-- what a stretch of code may freeze: what it has made, what its slots own -/
def Mine (env : Env) (σ : St) (H : Hp) (q : Addr) : Prop := H q = none ∨ Own env σ q
theorem Step.mine {env env1 : Env} {σ σ1 : St} {S S1 H H1 : Hp} (a : Step K mg env σ S H env1 σ1 S1 H1) {q : Addr} (h : Mine env1 σ1 H1 q) : Mine env σ H q := by
  rcases h with h | h
  · cases e : H q with
    | none => exact .inl e
    | some o =>
      refine .inr (Classical.byContradiction fun n => ?_)
      rw [a.frm q o e n] at h
      cases h
  · rcases a.own q h with z | z
    · exact .inr z
    · exact .inl z
/-- a thing of its own, that stands apart, stays from now on -/
theorem Step.freeze {env env1 : Env} {σ σ1 : St} {S S1 H H1 : Hp} (a : Step K mg env σ S H env1 σ1 S1 H1) {p : Addr} {u : HO} (hp : H1 p = some u) (hS : S1 p = none) (n : ¬ Own env1 σ1 p) (m : Mine env σ H p) :
    Step K mg env σ S H env1 σ1 (upd S1 p u) H1 where
  rel := a.rel.freeze hp hS n
  ext := a.ext.trans (same_upd hS)
  frm := a.frm
  new := fun q o e => by
    by_cases hb : q = p
    · subst hb
      exact .inr m
    · rw [upd_ne hb] at e
      exact a.new q o e
  own := a.own
  io := a.io
def RsR (K : PySem.W.Frag) (mg : Str → Option Value) (N : Addr → Prop) (env : Env) (σ : St) (S H : Hp) (v : V) : Rs → Prop
  | .v d => Rp K mg S v d
  | .fr d => ∃ a ho, v = .ref a ∧ S a = none ∧ H a = some ho ∧ HoR K mg S ho d ∧ ¬ Own env σ a ∧ N a
  | .bw i => σ[i]? = some (some v)
def Rs.get (env : Env) : Rs → Option D
  | .v d => some d
  | .fr d => some d
  | .bw i => match env[i]? with
    | some s => s.mut
    | none => none
/-- what may be read now -/
def Tp (K : PySem.W.Frag) (mg : Str → Option Value) (S H : Hp) (v : V) (d : D) : Prop := Rp K mg S v d ∨ ∃ a ho, v = .ref a ∧ H a = some ho ∧ HoR K mg S ho d
theorem RsR.tp {N : Addr → Prop} {env : Env} {σ : St} {S H : Hp} {v : V} {r : Rs} {d : D} (R : Rel K mg env σ S H) (h : RsR K mg N env σ S H v r) (e : r.get env = some d) : Tp K mg S H v d := by
  cases r with
  | v d' => cases e; exact .inl h
  | fr d' =>
    cases e
    obtain ⟨a, ho, h1, _, h3, h4, _⟩ := h
    exact .inr ⟨a, ho, h1, h3, h4⟩
  | bw i =>
    have h' : σ[i]? = some (some v) := h
    unfold Rs.get at e
    cases es : env[i]? with
    | none => simp [es] at e
    | some s =>
      simp only [es] at e
      obtain ⟨a, ho, h1, _, h3, h4⟩ := (R.sl i s es).mut e
      rw [h'] at h1
      have : v = .ref a := by simpa using h1
      exact .inr ⟨a, ho, this, h3, h4⟩
theorem RsR.mono {N : Addr → Prop} {env env' : Env} {σ : St} {S H S' H' : Hp} {v : V} {r : Rs} (st : Step K mg env σ S H env' σ S' H') (h : RsR K mg N env σ S H v r) : RsR K mg N env' σ S' H' v r := by
  cases r with
  | v d => exact Rp.mono st.ext h
  | fr d =>
    obtain ⟨a, ho, h1, h2, h3, h4, h5, h6⟩ := h
    obtain ⟨x, y, z⟩ := st.apart h3 h2 h5
    exact ⟨a, ho, h1, y, x, h4.mono st.ext, z, h6⟩
  | bw i => exact h
theorem Tp.lst {S H : Hp} {v : V} {ds : List D} (sub : Same S H) (h : Tp K mg S H v (.lst ds)) : ∃ a vs, v = .ref a ∧ H a = some (.lst vs) ∧ RpA K mg S vs ds := by
  rcases h with h | ⟨a, ho, h1, h2, h3⟩
  · cases h with
    | lst a b => exact ⟨_, _, rfl, sub _ _ a, b⟩
  · cases h3 with
    | lst r => exact ⟨a, _, h1, h2, r⟩
theorem Tp.tup {S H : Hp} {v : V} {ds : List D} (sub : Same S H) (h : Tp K mg S H v (.tup ds)) : ∃ a vs, v = .ref a ∧ SqT K H a vs ∧ RpA K mg S vs ds := by
  rcases h with h | ⟨a, ho, h1, h2, h3⟩
  · cases h with
    | tup a b => exact ⟨_, _, rfl, same_tup sub a, b⟩
  · cases h3

inductive Res (α : Type) where
  | ok (a : α) (env : Env)
  | ex (c : Str) (ns : List Str) (vs : List D) (env : Env)
abbrev M (α : Type) := Env → Option (Res α)
def M.ret {α : Type} (a : α) : M α := fun env => some (.ok a env)
def M.no {α : Type} : M α := fun _ => none
def M.bind {α β : Type} (m : M α) (k : α → M β) : M β := fun env => match m env with
  | none => none
  | some (.ok a env1) => k a env1
  | some (.ex c ns vs e) => some (.ex c ns vs e)
/-- a plain answer, the state as it is -/
def M.of {α : Type} (f : Env → Option α) : M α := fun env => match f env with
  | some a => some (.ok a env)
  | none => none

/-- a relation of results: N: what may be frozen -/
abbrev RL (β α : Type) := (Addr → Prop) → Env → St → Hp → Hp → β → α → Prop
def Go {β α : Type} (K : PySem.W.Frag) (mg : Str → Option Value) (W : WX) (R : RL β α) (m : M α) (env : Env) (σ : St) (S H : Hp) (Q : β → Hp → Prop) : Prop := match m env with
  | none => False
  | some (.ok a env') => ∀ v S' H', Step K mg env σ S H env' σ S' H' → R (Mine env σ H) env' σ S' H' v a → Q v H'
  | some (.ex c ns ds env') => ∀ C d fv S' H', mg c = some (.ref C) → Step K mg env σ S H env' σ S' H' → H' d = some (.xd fv) → fv.map (·.1) = ns → RpA K mg S' (fv.map (·.2)) ds → W (.ref C) (some d) σ H'
def tM {β α : Type} (K : PySem.W.Frag) (mg : Str → Option Value) (W : WX) (R : RL β α) (m : M α) : St → Hp → (β → Hp → Prop) → Prop := fun σ H Q => ∃ env S, Rel K mg env σ S H ∧ Go K mg W R m env σ S H Q
def RD (K : PySem.W.Frag) (mg : Str → Option Value) : RL V D := fun _ _ _ S _ v d => Rp K mg S v d
def RR (K : PySem.W.Frag) (mg : Str → Option Value) : RL V Rs := fun N env σ S H v r => RsR K mg N env σ S H v r
def RA (K : PySem.W.Frag) (mg : Str → Option Value) : RL (List V) (List D) := fun _ _ _ S _ vs ds => RpA K mg S vs ds
def RB : RL Bool Bool := fun _ _ _ _ _ b c => b = c
/-- the more may be frozen, the less is said -/
def RNm {β α : Type} (R : RL β α) : Prop := ∀ {N N' : Addr → Prop}, (∀ q, N q → N' q) → ∀ {env σ S H v a}, R N env σ S H v a → R N' env σ S H v a
theorem nmD : RNm (RD K mg) := fun _ _ _ _ _ _ _ h => h
theorem nmA : RNm (RA K mg) := fun _ _ _ _ _ _ _ h => h
theorem nmB : RNm RB := fun _ _ _ _ _ _ _ h => h
theorem nmR : RNm (RR K mg) := by
  intro N N' i env σ S H v a h
  cases a with
  | v d => exact h
  | fr d =>
    obtain ⟨a, ho, h1, h2, h3, h4, h5, h6⟩ := h
    exact ⟨a, ho, h1, h2, h3, h4, h5, i _ h6⟩
  | bw j => exact h
section
variable {β α β' α' : Type} {W : WX} {R : RL β α} {R' : RL β' α'} {m : M α} {k : α → M α'} {env : Env} {σ : St} {S H : Hp} {Q : β' → Hp → Prop}
theorem Go.bind (nm : RNm R') (h : Go K mg W R' (M.bind m k) env σ S H Q) :
    Go K mg W R m env σ S H fun v H1 => ∃ env1 S1 a, Step K mg env σ S H env1 σ S1 H1 ∧ R (Mine env σ H) env1 σ S1 H1 v a ∧ Go K mg W R' (k a) env1 σ S1 H1 Q := by
  unfold Go M.bind at h
  unfold Go
  cases hm : m env with
  | none =>
    simp only [hm] at h
  | some r =>
    cases r with
    | ok a env1 =>
      simp only [hm] at h ⊢
      refine fun v S1 H1 st ra => ⟨env1, S1, a, st, ra, ?_⟩
      cases hk : k a env1 with
      | none => simp only [hk] at h
      | some r2 =>
        cases r2 with
        | ok b env2 =>
          simp only [hk] at h ⊢
          exact fun v2 S2 H2 st2 rb => h v2 S2 H2 (st.trans st2) (nm (fun q hq => st.mine hq) rb)
        | ex c ns vs env2 =>
          simp only [hk] at h ⊢
          exact fun C d fv S2 H2 hc st2 e1 e2 e3 => h C d fv S2 H2 hc (st.trans st2) e1 e2 e3
    | ex c ns vs env1 =>
      simp only [hm] at h ⊢
      exact h
theorem Go.imp {Q1 Q2 : β → Hp → Prop} (h : Go K mg W R m env σ S H Q1) (i : ∀ v H', Q1 v H' → Q2 v H') : Go K mg W R m env σ S H Q2 := by
  unfold Go at h ⊢
  cases hm : m env with
  | none => simp only [hm] at h
  | some x =>
    cases x with
    | ok a env1 =>
      simp only [hm] at h ⊢
      exact fun v S1 H1 st ra => i v H1 (h v S1 H1 st ra)
    | ex c ns vs env1 =>
      simp only [hm] at h ⊢
      exact h
/-- a part, then the rest: the shape of every rule -/
theorem Go.part (nm : RNm R') (r : Rel K mg env σ S H) (h : Go K mg W R' (M.bind m k) env σ S H Q) {Q1 : β → Hp → Prop}
    (i : ∀ v H1 env1 S1 a, Step K mg env σ S H env1 σ S1 H1 → R (Mine env σ H) env1 σ S1 H1 v a → Go K mg W R' (k a) env1 σ S1 H1 Q → Q1 v H1) : tM K mg W R m σ H Q1 :=
  ⟨env, S, r, (h.bind (R := R) nm).imp fun v H1 ⟨env1, S1, a, st, ra, g⟩ => i v H1 env1 S1 a st ra g⟩
theorem Go.of {f : Env → Option α} {Q1 : β → Hp → Prop} (h : Go K mg W R (M.of f) env σ S H Q1) : ∃ a, f env = some a ∧ ∀ v S' H', Step K mg env σ S H env σ S' H' → R (Mine env σ H) env σ S' H' v a → Q1 v H' := by
  unfold Go M.of at h
  cases hf : f env with
  | none => simp only [hf] at h
  | some a =>
    simp only [hf] at h
    exact ⟨a, rfl, h⟩
theorem Go.ret {a : α} {Q1 : β → Hp → Prop} (r : Rel K mg env σ S H) (h : Go K mg W R (M.ret a) env σ S H Q1) {v : β} (hv : R (Mine env σ H) env σ S H v a) : Q1 v H := h v S H (Step.refl r) hv
end
end Z
end

section
set_option Elab.async false
set_option linter.all false
set_option maxRecDepth 100000
set_option autoImplicit false
/-! The rules of expressions: what an expression does, as a plain function of slots. -/
namespace Z
open PySem L2
variable {X : Cx}

theorem pe_imp {e : Expr} {t t' : TE} (h : PE X e t) (i : ∀ σ H Q, t' σ H Q → t σ H Q) : PE X e t' := ⟨fun pins s σ H Q I q => h.run pins s σ H Q I (i σ H Q q)⟩
theorem pa_imp {es : List Expr} {t t' : TA} (h : PA X es t) (i : ∀ σ H Q, t' σ H Q → t σ H Q) : PA X es t' := ⟨fun pos pins s σ H Q I q => h.run pos pins s σ H Q I (i σ H Q q)⟩
theorem pt_imp {e : Expr} {t t' : TT} (h : PT X e t) (i : ∀ σ H Q, t' σ H Q → t σ H Q) : PT X e t' := ⟨fun pins s σ H Q I q => h.run pins s σ H Q I (i σ H Q q)⟩
theorem pw_imp {e : Expr} {t t' : TT} (h : PW X e t) (i : ∀ σ H Q, t' σ H Q → t σ H Q) : PW X e t' := ⟨fun wh pins s σ H Q I q => h.run wh pins s σ H Q I (i σ H Q q)⟩

def SR (X : Cx) (e : Expr) (m : M Rs) : Prop := ∀ W, Takes X W → PE X e (tM X.K X.mg W (RR X.K X.mg) m)
def SV (X : Cx) (e : Expr) (m : M D) : Prop := ∀ W, Takes X W → PE X e (tM X.K X.mg W (RD X.K X.mg) m)
def SA (X : Cx) (es : List Expr) (m : M (List D)) : Prop := ∀ W, Takes X W → PA X es (tM X.K X.mg W (RA X.K X.mg) m)
def ST (X : Cx) (e : Expr) (m : M Bool) : Prop := ∀ W, Takes X W → PT X e (tM X.K X.mg W RB m)
def SW (X : Cx) (e : Expr) (m : M Bool) : Prop := ∀ W, Takes X W → PW X e (tM X.K X.mg W RB m)

/-! ### values and what is new -/
def mR (m : M D) : M Rs := m.bind fun d => M.ret (.v d)
def mV (m : M Rs) : M D := fun env => match m env with
  | some (.ok (.v d) env1) => some (.ok d env1)
  | some (.ok (.fr d) env1) => some (.ok d env1)
  | some (.ex c ns vs env1) => some (.ex c ns vs env1)
  | _ => none
theorem sr_v {e : Expr} {m : M D} (h : SV X e m) : SR X e (mR m) := fun W tk => pe_imp (h W tk) fun σ H Q ⟨env, S, r, g⟩ =>
  g.part nmR r fun v H1 env1 S1 a st ra g1 => g1.ret (R := RR X.K X.mg) st.rel ra
theorem sv_r {e : Expr} {m : M Rs} (h : SR X e m) : SV X e (mV m) := fun W tk => pe_imp (h W tk) fun σ H Q ⟨env, S, r, g⟩ => by
  refine ⟨env, S, r, ?_⟩
  unfold Go mV at g
  unfold Go
  cases hm : m env with
  | none => simp only [hm] at g
  | some x =>
    cases x with
    | ok a env1 =>
      cases a with
      | v d =>
        simp only [hm] at g ⊢
        exact fun v S1 H1 st ra => g v S1 H1 st ra
      | fr d =>
        simp only [hm] at g ⊢
        intro v S1 H1 st ra
        obtain ⟨a, ho, rfl, h2, h3, h4, h5, h6⟩ := ra
        exact g _ _ H1 (st.freeze h3 h2 h5 h6) ((h4.mono (same_upd h2)).frozen upd_same)
      | bw i => simp only [hm] at g
    | ex c ns vs env1 =>
      simp only [hm] at g ⊢
      exact g

/-! ### constants -/
theorem sv_c {e : Expr} {v : V} {d : D} (h : PE X e (tC v)) (hd : ∀ S, Rp X.K X.mg S v d) : SV X e (M.ret d) := fun W tk => pe_imp h fun σ H Q ⟨env, S, r, g⟩ => g.ret (R := RD X.K X.mg) r (hd S)
theorem sv_int {i : Int} {j pos} : SV X (.Constant (.int i) j pos) (M.ret (.int i)) := sv_c pe_int fun _ => .int _
theorem sv_bl {b : Bool} {j pos} : SV X (.Constant (.bool b) j pos) (M.ret (.bl b)) := sv_c pe_bl fun _ => .bl _
theorem sv_non {j pos} : SV X (.Constant .none j pos) (M.ret .non) := sv_c pe_non fun _ => .non
theorem sv_str {x : Str} {j pos} : SV X (.Constant (.str x) j pos) (M.ret (.str x)) := sv_c pe_str fun _ => .str _
theorem sv_glob {x : Str} {v : V} {d : D} {u : Value} {pos : Pos} (hm : X.mg x = some u) (r : RelV v u) (hd : ∀ S, Rp X.K X.mg S v d) (hg : Gl X x := by rfl) (hb : (x == ("__debug__" : Str)) = false := by decide) : SV X (.Name x pos) (M.ret d) := sv_c (pe_glob hg hm r hb) hd

/-! ### names -/
/-- a slot's state is told anew, the value as it is -/
theorem Rel.reset {K : PySem.W.Frag} {mg : Str → Option Value} {env : Env} {σ : St} {S H : Hp} (r : Rel K mg env σ S H) {i : Nat} {s' : Sl} (h : SlR K mg S H σ[i]? s') (hm : s'.mut = none) : Rel K mg (env.set i s') σ S H := by
  have nown : ∀ j q, OwnAt (env.set i s') σ j q → OwnAt env σ j q := fun j q ⟨⟨s, d, e, m⟩, hq⟩ => by
    refine ⟨⟨s, d, ?_, m⟩, hq⟩
    by_cases hj : i = j
    · subst hj
      rw [List.getElem?_set] at e
      simp only [if_true] at e
      split at e
      · cases e
        rw [hm] at m
        cases m
      · cases e
    · rw [List.getElem?_set_ne hj] at e
      exact e
  refine ⟨by rw [List.length_set]; exact r.len, r.sub, fun j s e => ?_, fun j k q h1 h2 => r.inj j k q (nown j q h1) (nown k q h2)⟩
  by_cases hj : i = j
  · subst hj
    rw [List.getElem?_set] at e
    simp only [if_true] at e
    split at e
    · cases e
      exact h
    · cases e
  · rw [List.getElem?_set_ne hj] at e
    exact r.sl j s e
theorem own_reset {env : Env} {σ : St} {i : Nat} {s' : Sl} (hm : s'.mut = none) {q : Addr} (h : Own (env.set i s') σ q) : Own env σ q := by
  obtain ⟨j, ⟨s, d, e, m⟩, hq⟩ := h
  refine ⟨j, ⟨s, d, ?_, m⟩, hq⟩
  by_cases hj : i = j
  · subst hj
    rw [List.getElem?_set] at e
    simp only [if_true] at e
    split at e
    · cases e
      rw [hm] at m
      cases m
    · cases e
  · rw [List.getElem?_set_ne hj] at e
    exact e
def mVar (i : Nat) : M D := fun env => match env[i]? with
  | some (.v d) => some (.ok d env)
  | some (.own d) => some (.ok d (env.set i (.v d)))
  | _ => none
def mPeek (i : Nat) : M Rs := fun env => match env[i]? with
  | some (.v d) => some (.ok (.v d) env)
  | some (.own _) => some (.ok (.bw i) env)
  | some (.io _) => some (.ok (.bw i) env)
  | _ => none
def mTake (i : Nat) : M Rs := fun env => match env[i]? with
  | some (.v d) => some (.ok (.v d) env)
  | some (.own d) => some (.ok (.fr d) (env.set i .no))
  | _ => none
theorem io_ne {env : Env} {i : Nat} {s s' : Sl} (h : env[i]? = some s) (hs : ∀ d, s ≠ .io d) (j : Nat) (d : D) (e : env[j]? = some (.io d)) : (env.set i s')[j]? = some (.io d) := by
  have hj : i ≠ j := fun z => by
    subst z
    rw [h] at e
    cases e
    exact hs d rfl
  rw [List.getElem?_set_ne hj]
  exact e
section
variable {i : Nat} {x : Str} {pos : Pos}
theorem sv_var (h : PE X (.Name x pos) (tVar i)) : SV X (.Name x pos) (mVar i) := fun W tk => pe_imp h fun σ H Q ⟨env, S, r, g⟩ => by
  unfold Go mVar at g
  cases hi : env[i]? with
  | none => simp only [hi] at g
  | some s =>
    cases s with
    | no => simp only [hi] at g
    | io d => simp only [hi] at g
    | v d =>
      simp only [hi] at g
      obtain ⟨v, e, rv⟩ := r.sl i _ hi
      exact ⟨v, e, g v S H (Step.refl r) rv⟩
    | own d =>
      simp only [hi] at g
      obtain ⟨a, ho, e, hS, hH, hr⟩ := r.sl i _ hi
      have ow : Own env σ a := ⟨i, ⟨_, d, hi, rfl⟩, e⟩
      have fz : Rp X.K X.mg (upd S a ho) (.ref a) d := (hr.mono (same_upd hS)).frozen upd_same
      -- the slot told as a value; then the object stays
      have sub' : Same (upd S a ho) H := fun b o eb => by
        by_cases hb : b = a
        · subst hb
          rw [upd_same] at eb
          rw [← eb]
          exact hH
        · rw [upd_ne hb] at eb
          exact r.sub b o eb
      have rel' : Rel X.K X.mg (env.set i (.v d)) σ (upd S a ho) H := by
        have nown : ∀ j q, OwnAt (env.set i (.v d)) σ j q → OwnAt env σ j q ∧ i ≠ j := fun j q ⟨⟨s, d', es, m⟩, hq⟩ => by
          by_cases hj : i = j
          · subst hj
            rw [List.getElem?_set] at es
            simp only [if_true] at es
            split at es
            · cases es
              cases m
            · cases es
          · rw [List.getElem?_set_ne hj] at es
            exact ⟨⟨⟨s, d', es, m⟩, hq⟩, hj⟩
        refine ⟨by rw [List.length_set]; exact r.len, sub', fun j s es => ?_, fun j k q h1 h2 => r.inj j k q (nown j q h1).1 (nown k q h2).1⟩
        by_cases hj : i = j
        · subst hj
          rw [List.getElem?_set] at es
          simp only [if_true] at es
          split at es
          · cases es
            exact ⟨_, e, fz⟩
          · cases es
        · rw [List.getElem?_set_ne hj] at es
          have q := r.sl j s es
          have nb : ∀ b, σ[j]? = some (some (.ref b)) → (∃ d', s.mut = some d') → b ≠ a := fun b hb ⟨d', hd⟩ z => by
            subst z
            exact hj (r.inj i j b ⟨⟨_, d, hi, rfl⟩, e⟩ ⟨⟨s, d', es, hd⟩, hb⟩)
          cases s with
          | no => trivial
          | v d' =>
            obtain ⟨v, h1, h2⟩ := q
            exact ⟨v, h1, h2.mono (same_upd hS)⟩
          | own d' =>
            obtain ⟨b, ho', h1, h2, h3, h4⟩ := q
            exact ⟨b, ho', h1, by rw [upd_ne (nb b h1 ⟨d', rfl⟩)]; exact h2, h3, h4.mono (same_upd hS)⟩
          | io d' =>
            obtain ⟨b, ho', h1, h2, h3, h4⟩ := q
            exact ⟨b, ho', h1, by rw [upd_ne (nb b h1 ⟨d', rfl⟩)]; exact h2, h3, h4.mono (same_upd hS)⟩
      refine ⟨_, e, g (.ref a) (upd S a ho) H ⟨rel', same_upd hS, fun q o eq _ => eq, fun q o eq => ?_, fun q hq => .inl (own_reset rfl hq), fun j d' ej => ⟨rfl, d', io_ne hi (fun _ z => by cases z) j d' ej⟩⟩ fz⟩
      by_cases hb : q = a
      · subst hb
        exact .inr (.inr ow)
      · rw [upd_ne hb] at eq
        exact .inl eq
theorem sr_peek (h : PE X (.Name x pos) (tVar i)) : SR X (.Name x pos) (mPeek i) := fun W tk => pe_imp h fun σ H Q ⟨env, S, r, g⟩ => by
  unfold Go mPeek at g
  cases hi : env[i]? with
  | none => simp only [hi] at g
  | some s =>
    cases s with
    | no => simp only [hi] at g
    | io d =>
      simp only [hi] at g
      obtain ⟨a, ho, e, _⟩ := r.sl i _ hi
      exact ⟨_, e, g _ S H (Step.refl r) e⟩
    | v d =>
      simp only [hi] at g
      obtain ⟨v, e, rv⟩ := r.sl i _ hi
      exact ⟨v, e, g v S H (Step.refl r) rv⟩
    | own d =>
      simp only [hi] at g
      obtain ⟨a, ho, e, _⟩ := r.sl i _ hi
      exact ⟨_, e, g _ S H (Step.refl r) e⟩
theorem sr_take (h : PE X (.Name x pos) (tVar i)) : SR X (.Name x pos) (mTake i) := fun W tk => pe_imp h fun σ H Q ⟨env, S, r, g⟩ => by
  unfold Go mTake at g
  cases hi : env[i]? with
  | none => simp only [hi] at g
  | some s =>
    cases s with
    | no => simp only [hi] at g
    | io d => simp only [hi] at g
    | v d =>
      simp only [hi] at g
      obtain ⟨v, e, rv⟩ := r.sl i _ hi
      exact ⟨v, e, g v S H (Step.refl r) rv⟩
    | own d =>
      simp only [hi] at g
      obtain ⟨a, ho, e, hS, hH, hr⟩ := r.sl i _ hi
      have ow : Own env σ a := ⟨i, ⟨_, d, hi, rfl⟩, e⟩
      have rel' : Rel X.K X.mg (env.set i .no) σ S H := r.reset (s' := .no) trivial rfl
      have nown : ¬ Own (env.set i .no) σ a := fun ⟨j, ⟨s, d', es, m⟩, hq⟩ => by
        by_cases hj : i = j
        · subst hj
          rw [List.getElem?_set] at es
          simp only [if_true] at es
          split at es
          · cases es
            cases m
          · cases es
        · rw [List.getElem?_set_ne hj] at es
          exact hj (r.inj i j a ⟨⟨_, d, hi, rfl⟩, e⟩ ⟨⟨s, d', es, m⟩, hq⟩)
      exact ⟨_, e, g (.ref a) S H ⟨rel', Same.refl S, fun q o eq _ => eq, fun q o eq => .inl eq, fun q hq => .inl (own_reset rfl hq), fun j d' ej => ⟨rfl, d', io_ne hi (fun _ z => by cases z) j d' ej⟩⟩ ⟨a, ho, rfl, hS, hH, hr, nown, .inr ow⟩⟩
end

/-! ### two operands, plain answers -/
def mOp (f : D → D → Option D) (ma mb : M D) : M D := ma.bind fun a => mb.bind fun b => M.of fun _ => f a b
/-- r says f -/
def Says (K : PySem.W.Frag) (mg : Str → Option Value) (r : R2) (f : D → D → Option D) : Prop :=
  ∀ {S H : Hp} {x y : V} {a b d : D} {Q : VK}, Same S H → Rp K mg S x a → Rp K mg S y b → f a b = some d → (∀ v, (∀ S', Rp K mg S' v d) → Q v H) → r x y H Q
theorem tm_op {W : WX} {r : R2} {f : D → D → Option D} {ma mb : M D} (hr : Says X.K X.mg r f) : ∀ σ H Q, tM X.K X.mg W (RD X.K X.mg) (mOp f ma mb) σ H Q → tOp r (tM X.K X.mg W (RD X.K X.mg) ma) (tM X.K X.mg W (RD X.K X.mg) mb) σ H Q := fun σ H Q ⟨env, S, rl, g⟩ =>
  g.part nmD rl fun x H1 env1 S1 a st ra g1 => g1.part nmD st.rel fun y H2 env2 S2 b st2 rb g2 => by
    obtain ⟨d, e, q⟩ := g2.of
    exact hr st2.rel.sub (Rp.mono st2.ext ra) rb e fun v hv => q v S2 H2 (Step.refl st2.rel) (hv S2)
theorem sv_bin {op : Operator} {r : R2} {f : D → D → Option D} {a b : Expr} {ma mb : M D} {pos : Pos} (ho : OpR X (binaryOp op) r) (hr : Says X.K X.mg r f) (ha : SV X a ma) (hb : SV X b mb) : SV X (.BinOp a op b pos) (mOp f ma mb) := fun W tk =>
  pe_imp (pe_op ho (ha W tk) (hb W tk)) (tm_op hr)
theorem sv_cmp {op : CmpOp} {r : R2} {f : D → D → Option D} {a b : Expr} {ma mb : M D} {pos : Pos} (ho : OpR X (compareOp op) r) (hr : Says X.K X.mg r f) (hm : behindInMarks op b = false) (ha : SV X a ma) (hb : SV X b mb) : SV X (.Compare a [op] [b] pos) (mOp f ma mb) := fun W tk =>
  pe_imp (pe_cmpR ho (ha W tk) (hb W tk) hm) (tm_op hr)
/-- a test whose value is a truth -/
def mTst (m : M D) : M Bool := m.bind fun d => M.of fun _ => match d with
  | .bl b => some b
  | _ => none
theorem tm_tst {W : WX} {m : M D} : ∀ σ H Q, tM X.K X.mg W RB (mTst m) σ H Q → tTest (tM X.K X.mg W (RD X.K X.mg) m) σ H Q := fun σ H Q ⟨env, S, rl, g⟩ =>
  g.part nmB rl fun x H1 env1 S1 a st ra g1 => by
    obtain ⟨d, e, q⟩ := g1.of
    cases a with
    | bl c =>
      cases e
      cases ra
      exact ⟨_, rfl, q _ S1 H1 (Step.refl st.rel) rfl⟩
    | _ => cases e
theorem st_v {e : Expr} {m : M D} (h : SV X e m) (he : ∀ whole, isTrue e X.env whole = (do let v ← whole; standAt e.pos; holding [v] (truthy v)) := by intro _; rfl) : ST X e (mTst m) := fun W tk => pt_imp (pt_val (h W tk) he) tm_tst
theorem st_cmp {op : CmpOp} {r : R2} {f : D → D → Option D} {a b : Expr} {ma mb : M D} {pos : Pos} (ho : OpR X (compareOp op) r) (hr : Says X.K X.mg r f) (hm : behindInMarks op b = false) (ha : SV X a ma) (hb : SV X b mb) : ST X (.Compare a [op] [b] pos) (mTst (mOp f ma mb)) := fun W tk =>
  pt_imp (pt_cmpR ho (ha W tk) (hb W tk) hm) fun σ H Q h => by
    have h1 := tm_tst σ H Q h
    exact tm_op hr σ H _ h1

/-! ints -/
def fI (C : Int → Int → Bool) (g : Int → Int → D) : D → D → Option D
  | .int i, .int j => if C i j then some (g i j) else none
  | _, _ => none
def fI0 (g : Int → Int → D) : D → D → Option D
  | .int i, .int j => some (g i j)
  | _, _ => none
section
variable {K : PySem.W.Frag} {mg : Str → Option Value}
theorem says_I0 {g : Int → Int → V} {g' : Int → Int → D} (h : ∀ i j S, Rp K mg S (g i j) (g' i j)) : Says K mg (rI0 g) (fI0 g') := by
  intro S H x y a b d Q _ ra rb e q
  cases a with
  | int i =>
    cases b with
    | int j =>
      cases e
      cases ra
      cases rb
      exact ⟨i, j, rfl, rfl, q _ fun S' => h i j S'⟩
    | _ => cases e
  | _ => cases e
theorem says_I {C : Int → Int → Prop} {C' : Int → Int → Bool} {g : Int → Int → V} {g' : Int → Int → D} (hC : ∀ i j, C' i j = true → C i j) (h : ∀ i j S, Rp K mg S (g i j) (g' i j)) : Says K mg (rI C g) (fI C' g') := by
  intro S H x y a b d Q _ ra rb e q
  cases a with
  | int i =>
    cases b with
    | int j =>
      have e' : (if C' i j = true then some (g' i j) else none) = some d := e
      split at e'
      · rename_i hc
        cases e'
        cases ra
        cases rb
        exact ⟨i, j, rfl, rfl, hC i j hc, q _ fun S' => h i j S'⟩
      · cases e'
    | _ => cases e
  | _ => cases e
end
def cMul (i j : Int) : Bool := decide (i.natAbs < 2 ^ 64) || decide (j.natAbs < 2 ^ 64)
def cDiv (_ j : Int) : Bool := decide (j ≠ 0) && decide (j.natAbs < 1073741824)
def cMod (_ j : Int) : Bool := decide (j ≠ 0)
def cPow (i j : Int) : Bool := decide (0 ≤ j) && decide (j ≤ 1000000) && decide (i.natAbs < 2 ^ 64)
abbrev fAdd := fI0 fun i j => .int (i + j)
abbrev fSub := fI0 fun i j => .int (i - j)
abbrev fMul := fI cMul fun i j => .int (i * j)
abbrev fDiv := fI cDiv fun i j => .int (i.fdiv j)
abbrev fMod := fI cMod fun i j => .int (i.fmod j)
abbrev fPow := fI cPow fun i j => .int (i ^ j.toNat)
abbrev fLt := fI0 fun i j => .bl (decide (i < j))
abbrev fLe := fI0 fun i j => .bl (decide (i ≤ j))
abbrev fGt := fI0 fun i j => .bl (decide (j < i))
abbrev fGe := fI0 fun i j => .bl (decide (j ≤ i))
section
variable {a b : Expr} {ma mb : M D} {pos : Pos}
theorem sv_add (ha : SV X a ma) (hb : SV X b mb) : SV X (.BinOp a .Add b pos) (mOp fAdd ma mb) := sv_bin op_add (says_I0 fun _ _ _ => .int _) ha hb
theorem sv_sub (ha : SV X a ma) (hb : SV X b mb) : SV X (.BinOp a .Sub b pos) (mOp fSub ma mb) := sv_bin op_sub (says_I0 fun _ _ _ => .int _) ha hb
theorem sv_mul (ha : SV X a ma) (hb : SV X b mb) : SV X (.BinOp a .Mult b pos) (mOp fMul ma mb) := sv_bin op_mul (says_I (fun i j h => by
  unfold cMul at h
  simp only [Bool.or_eq_true, decide_eq_true_eq] at h
  rcases h with h | h
  · exact .inl ⟨by omega, by omega⟩
  · exact .inr ⟨by omega, by omega⟩) fun _ _ _ => .int _) ha hb
theorem sv_div (ha : SV X a ma) (hb : SV X b mb) : SV X (.BinOp a .FloorDiv b pos) (mOp fDiv ma mb) := sv_bin op_fdivN (says_I (fun i j h => by
  unfold cDiv at h
  simp only [Bool.and_eq_true, decide_eq_true_eq] at h
  exact h) fun _ _ _ => .int _) ha hb
theorem sv_mod (ha : SV X a ma) (hb : SV X b mb) : SV X (.BinOp a .Mod b pos) (mOp fMod ma mb) := sv_bin op_modN (says_I (fun i j h => of_decide_eq_true h) fun _ _ _ => .int _) ha hb
theorem sv_pow (ha : SV X a ma) (hb : SV X b mb) : SV X (.BinOp a .Pow b pos) (mOp fPow ma mb) := sv_bin op_pow (says_I (fun i j h => by
  unfold cPow at h
  simp only [Bool.and_eq_true, decide_eq_true_eq] at h
  exact ⟨h.1.1, h.1.2, h.2⟩) fun _ _ _ => .int _) ha hb
theorem st_lt (ha : SV X a ma) (hb : SV X b mb) : ST X (.Compare a [.Lt] [b] pos) (mTst (mOp fLt ma mb)) := st_cmp op_lt (says_I0 fun _ _ _ => .bl _) (nomark _) ha hb
theorem st_le (ha : SV X a ma) (hb : SV X b mb) : ST X (.Compare a [.LtE] [b] pos) (mTst (mOp fLe ma mb)) := st_cmp op_le (says_I0 fun _ _ _ => .bl _) (nomark _) ha hb
theorem st_gt (ha : SV X a ma) (hb : SV X b mb) : ST X (.Compare a [.Gt] [b] pos) (mTst (mOp fGt ma mb)) := st_cmp op_gt (says_I0 fun _ _ _ => .bl _) (nomark _) ha hb
theorem st_ge (ha : SV X a ma) (hb : SV X b mb) : ST X (.Compare a [.GtE] [b] pos) (mTst (mOp fGe ma mb)) := st_cmp op_ge (says_I0 fun _ _ _ => .bl _) (nomark _) ha hb
theorem sv_lt (ha : SV X a ma) (hb : SV X b mb) : SV X (.Compare a [.Lt] [b] pos) (mOp fLt ma mb) := sv_cmp op_lt (says_I0 fun _ _ _ => .bl _) (nomark _) ha hb
theorem sv_le (ha : SV X a ma) (hb : SV X b mb) : SV X (.Compare a [.LtE] [b] pos) (mOp fLe ma mb) := sv_cmp op_le (says_I0 fun _ _ _ => .bl _) (nomark _) ha hb
theorem sv_gt (ha : SV X a ma) (hb : SV X b mb) : SV X (.Compare a [.Gt] [b] pos) (mOp fGt ma mb) := sv_cmp op_gt (says_I0 fun _ _ _ => .bl _) (nomark _) ha hb
theorem sv_ge (ha : SV X a ma) (hb : SV X b mb) : SV X (.Compare a [.GtE] [b] pos) (mOp fGe ma mb) := sv_cmp op_ge (says_I0 fun _ _ _ => .bl _) (nomark _) ha hb
end

/-! ### truth: and, or, not -/
def mAnd (m n : M Bool) : M Bool := m.bind fun b => if b then n else M.ret false
def mOr (m n : M Bool) : M Bool := m.bind fun b => if b then M.ret true else n
def mNot (m : M Bool) : M Bool := m.bind fun b => M.ret !b
section
variable {a b : Expr} {rest : List Expr} {m n : M Bool} {pos : Pos}
theorem sw_and1 (h : ST X a m) : SW X (.BoolOp .And [a] pos) m := fun W tk => pw_and1 (h W tk)
theorem sw_or1 (h : ST X a m) : SW X (.BoolOp .Or [a] pos) m := fun W tk => pw_or1 (h W tk)
theorem sw_and (h1 : ST X a m) (h2 : SW X (.BoolOp .And (b :: rest) pos) n) : SW X (.BoolOp .And (a :: b :: rest) pos) (mAnd m n) := fun W tk => pw_imp (pw_and (h1 W tk) (h2 W tk)) fun σ H Q ⟨env, S, r, g⟩ =>
  g.part nmB r fun x H1 env1 S1 c st ra g1 => by
    have e : x = c := ra
    subst e
    cases x with
    | true => exact ⟨env1, S1, st.rel, g1⟩
    | false => exact g1.ret (R := RB) st.rel rfl
theorem sw_or (h1 : ST X a m) (h2 : SW X (.BoolOp .Or (b :: rest) pos) n) : SW X (.BoolOp .Or (a :: b :: rest) pos) (mOr m n) := fun W tk => pw_imp (pw_or (h1 W tk) (h2 W tk)) fun σ H Q ⟨env, S, r, g⟩ =>
  g.part nmB r fun x H1 env1 S1 c st ra g1 => by
    have e : x = c := ra
    subst e
    cases x with
    | false => exact ⟨env1, S1, st.rel, g1⟩
    | true => exact g1.ret (R := RB) st.rel rfl
theorem st_w {e : Expr} (h : SW X e m) : ST X e m := fun W tk => (h W tk).pt
theorem st_not (h : ST X a m) : ST X (.UnaryOp .Not a pos) (mNot m) := fun W tk => pt_imp (pt_not (h W tk)) fun σ H Q ⟨env, S, r, g⟩ =>
  g.part nmB r fun x H1 env1 S1 c st ra g1 => by
    have e : x = c := ra
    subst e
    exact g1.ret (R := RB) st.rel rfl
/-- as values -/
def mAndV (m n : M D) : M D := m.bind fun d => match d with
  | .bl true => n
  | .bl false => M.ret (.bl false)
  | _ => M.no
def mOrV (m n : M D) : M D := m.bind fun d => match d with
  | .bl false => n
  | .bl true => M.ret (.bl true)
  | _ => M.no
def mNotV (m : M D) : M D := m.bind fun d => match d with
  | .bl b => M.ret (.bl !b)
  | _ => M.no
variable {u v : M D}
theorem sv_one {op} (h : SV X a u) : SV X (.BoolOp op [a] pos) u := fun W tk => pe_one (h W tk)
theorem sv_andV (h1 : SV X a u) (h2 : SV X (.BoolOp .And (b :: rest) pos) v) : SV X (.BoolOp .And (a :: b :: rest) pos) (mAndV u v) := fun W tk => pe_imp (pe_and (h1 W tk) (h2 W tk)) fun σ H Q ⟨env, S, r, g⟩ =>
  g.part nmD r fun x H1 env1 S1 c st ra g1 => by
    cases c with
    | bl c =>
      cases ra
      refine ⟨c, rfl, ?_⟩
      cases c with
      | true => exact ⟨env1, S1, st.rel, g1⟩
      | false => exact g1.ret (R := RD X.K X.mg) st.rel (.bl _)
    | _ => exact False.elim g1
theorem sv_orV (h1 : SV X a u) (h2 : SV X (.BoolOp .Or (b :: rest) pos) v) : SV X (.BoolOp .Or (a :: b :: rest) pos) (mOrV u v) := fun W tk => pe_imp (pe_or (h1 W tk) (h2 W tk)) fun σ H Q ⟨env, S, r, g⟩ =>
  g.part nmD r fun x H1 env1 S1 c st ra g1 => by
    cases c with
    | bl c =>
      cases ra
      refine ⟨c, rfl, ?_⟩
      cases c with
      | false => exact ⟨env1, S1, st.rel, g1⟩
      | true => exact g1.ret (R := RD X.K X.mg) st.rel (.bl _)
    | _ => exact False.elim g1
theorem sv_notV (h1 : SV X a u) : SV X (.UnaryOp .Not a pos) (mNotV u) := fun W tk => pe_imp (pe_not (h1 W tk)) fun σ H Q ⟨env, S, r, g⟩ =>
  g.part nmD r fun x H1 env1 S1 c st ra g1 => by
    cases c with
    | bl c =>
      cases ra
      exact ⟨c, rfl, g1.ret (R := RD X.K X.mg) st.rel (.bl _)⟩
    | _ => exact False.elim g1
end
/-- a if t else b -/
def mIf {α : Type} (t : M Bool) (a b : M α) : M α := t.bind fun c => if c then a else b
theorem sv_if {c a b : Expr} {t : M Bool} {m n : M D} {pos : Pos} (hc : ST X c t) (ha : SV X a m) (hb : SV X b n) : SV X (.IfExp c a b pos) (mIf t m n) := fun W tk => pe_imp (pe_ifExp (hc W tk) (ha W tk) (hb W tk)) fun σ H Q ⟨env, S, r, g⟩ =>
  g.part nmD r fun x H1 env1 S1 c st ra g1 => by
    have e : x = c := ra
    subst e
    cases x with
    | true => exact ⟨env1, S1, st.rel, g1⟩
    | false => exact ⟨env1, S1, st.rel, g1⟩

/-! ### argument lists, displays -/
def mNil : M (List D) := M.ret []
def mCons (m : M D) (n : M (List D)) : M (List D) := m.bind fun d => n.bind fun ds => M.ret (d :: ds)
theorem sa_nil : SA X [] mNil := fun W tk => pa_imp pa_nil fun σ H Q ⟨env, S, r, g⟩ => g.ret (R := RA X.K X.mg) r .nil
theorem sa_cons {e : Expr} {es : List Expr} {m : M D} {n : M (List D)} (h : SV X e m) (hr : SA X es n) (hs : starEach (e :: es) X.env = (false, eval e X.env) :: starEach es X.env := by rfl) : SA X (e :: es) (mCons m n) := fun W tk => pa_imp (pa_cons (h W tk) (hr W tk) hs) fun σ H Q ⟨env, S, r, g⟩ =>
  g.part nmA r fun x H1 env1 S1 a st ra g1 => g1.part nmA st.rel fun xs H2 env2 S2 ds st2 rb g2 => g2.ret (R := RA X.K X.mg) st2.rel (.cons (Rp.mono st2.ext ra) rb)
def szOk (n : Nat) : Bool := decide (n ≤ 1000000)
theorem szOk_of {n : Nat} (h : szOk n = true) : n ≤ sizeLine := Nat.le_trans (of_decide_eq_true h) (by decide)
def mTup (m : M (List D)) : M D := m.bind fun ds => M.of fun _ => if szOk ds.length then some (.tup ds) else none
def mLst (m : M (List D)) : M Rs := m.bind fun ds => M.of fun _ => if szOk ds.length then some (.fr (.lst ds)) else none
/-- a new object that stays -/
theorem new_stay {env : Env} {σ : St} {S H : Hp} (r : Rel X.K X.mg env σ S H) {p : Addr} {u : HO} (hp : H p = none) : Step X.K X.mg env σ S H env σ (upd S p u) (upd H p u) := r.laid hp true
theorem new_apart {env : Env} {σ : St} {S H : Hp} (r : Rel X.K X.mg env σ S H) {p : Addr} {u : HO} {d : D} (hp : H p = none) (h : HoR X.K X.mg S u d) : Step X.K X.mg env σ S H env σ S (upd H p u) ∧ RsR X.K X.mg (Mine env σ H) env σ S (upd H p u) (.ref p) (.fr d) :=
  ⟨r.laid hp false, p, u, rfl, r.sub.free hp, upd_same, h, (fun z => by
    obtain ⟨_, ho, e⟩ := r.own z
    rw [hp] at e
    cases e), .inl hp⟩
theorem sv_tup {es : List Expr} {m : M (List D)} {x1} {pos : Pos} (h : SA X es m) : SV X (.Tuple es x1 pos) (mTup m) := fun W tk => pe_imp (pe_tup (h W tk)) fun σ H Q ⟨env, S, r, g⟩ =>
  g.part nmD r fun vs H1 env1 S1 ds st ra g1 => by
    obtain ⟨d, e, q⟩ := g1.of
    have hs : vs.length = ds.length := RpA.len ra
    split at e
    · rename_i hz
      cases e
      refine ⟨by rw [hs]; exact szOk_of hz, fun p hp => q _ _ _ (new_stay st.rel hp) ?_⟩
      exact .tup (.of upd_same) (RpA.mono (same_upd (st.rel.sub.free hp)) ra)
    · cases e
theorem sr_lst {es : List Expr} {m : M (List D)} {pos : Pos} (h : SA X es m) : SR X (.List es pos) (mLst m) := fun W tk => pe_imp (pe_lst (h W tk)) fun σ H Q ⟨env, S, r, g⟩ =>
  g.part nmR r fun vs H1 env1 S1 ds st ra g1 => by
    obtain ⟨d, e, q⟩ := g1.of
    have hs : vs.length = ds.length := RpA.len ra
    split at e
    · rename_i hz
      cases e
      refine ⟨by rw [hs]; exact szOk_of hz, fun p hp => ?_⟩
      obtain ⟨s1, s2⟩ := new_apart st.rel (u := .lst vs) (d := .lst ds) hp (.lst ra)
      exact q _ _ _ s1 s2
    · cases e
end Z
end

section
set_option Elab.async false
set_option linter.all false
set_option maxRecDepth 100000
set_option autoImplicit false
/-! More rules of expressions: ==, is, in, isinstance, built-ins, subscripts, slices. -/
namespace Z
open PySem L2
variable {X : Cx}

/-! ### data as the library's data -/
mutual
def D.py : D → PyData
  | .non => .none
  | .bl b => .bool b
  | .int i => .int i
  | .str x => .str x
  | .lst xs => .list (D.pyA xs)
  | .tup xs => .tuple (D.pyA xs)
  | .dct _ _ => .none
  | .ins _ _ _ => .none
  | .scr _ => .none
def D.pyA : List D → List PyData
  | [] => []
  | d :: ds => d.py :: D.pyA ds
end
mutual
def D.pure : D → Bool
  | .non => true
  | .bl _ => true
  | .int _ => true
  | .str _ => true
  | .lst xs => D.pureA xs
  | .tup xs => D.pureA xs
  | .dct _ _ => false
  | .ins _ _ _ => false
  | .scr _ => false
def D.pureA : List D → Bool
  | [] => true
  | d :: ds => d.pure && D.pureA ds
end
section
variable {K : PySem.W.Frag} {mg : Str → Option Value}
mutual
theorem Rp.dp {S : Hp} : ∀ {d : D} {v : V}, Rp K mg S v d → d.pure = true → Dp K S v d.py
  | .non, _, h, _ => by cases h; exact .non
  | .bl _, _, h, _ => by cases h; exact .bl _
  | .int _, _, h, _ => by cases h; exact .int _
  | .str _, _, h, _ => by cases h; exact .str _
  | .lst ds, _, h, p => by cases h with | lst a b => exact .lst (.of a) (RpA.dp b p)
  | .tup ds, _, h, p => by cases h with | tup a b => exact .tup a (RpA.dp b p)
  | .dct _ _, _, _, p => by cases p
  | .ins _ _ _, _, _, p => by cases p
  | .scr _, _, _, p => by cases p
theorem RpA.dp {S : Hp} : ∀ {ds : List D} {vs : List V}, RpA K mg S vs ds → D.pureA ds = true → DpAll K S vs (D.pyA ds)
  | [], _, h, _ => by cases h; exact .nil
  | d :: ds, _, h, p => by
    cases h with
    | cons a b =>
      have p' : (d.pure && D.pureA ds) = true := p
      rw [Bool.and_eq_true] at p'
      exact .cons (Rp.dp a p'.1) (RpA.dp b p'.2)
end
theorem Tp.dp {S H : Hp} {d : D} {v : V} (sub : Same S H) (h : Tp K mg S H v d) (p : d.pure = true) : Dp K H v d.py := by
  rcases h with h | ⟨a, ho, rfl, h2, h3⟩
  · exact Rp.dp (h.mono sub) p
  · cases h3 with
    | lst r => exact .lst (.of h2) (RpA.dp (r.mono sub) p)
    | dct _ _ _ => cases p
    | ins _ _ _ _ => cases p
end
def gd (d : D) : Bool := d.pure && SeqAt.shaped d.py
def fEq (a b : D) : Option D := if gd a && gd b then some (.bl (PyData.eqv a.py b.py)) else none
def fNe (a b : D) : Option D := if gd a && gd b then some (.bl (!PyData.eqv a.py b.py)) else none
theorem gd_two {a b : D} {o : D} {z : D} (h : (if gd a && gd b then some z else none) = some o) : (a.pure = true ∧ SeqAt.shaped a.py = true) ∧ (b.pure = true ∧ SeqAt.shaped b.py = true) ∧ z = o := by
  split at h
  · rename_i q
    unfold gd at q
    simp only [Bool.and_eq_true] at q
    exact ⟨q.1, q.2, Option.some.inj h⟩
  · cases h

/-! ### two things to be read -/
def mRd2 (f : D → D → Option D) (ma mb : M Rs) : M D := ma.bind fun a => mb.bind fun b => M.of fun env => (a.get env).bind fun x => (b.get env).bind fun y => f x y
def Says2 (K : PySem.W.Frag) (mg : Str → Option Value) (r : R2) (f : D → D → Option D) : Prop :=
  ∀ {S H : Hp} {x y : V} {a b d : D} {Q : VK}, Same S H → Tp K mg S H x a → Tp K mg S H y b → f a b = some d → (∀ v, (∀ S', Same S S' → Rp K mg S' v d) → Q v H) → r x y H Q
theorem tm_rd2 {W : WX} {r : R2} {f : D → D → Option D} {ma mb : M Rs} (hr : Says2 X.K X.mg r f) : ∀ σ H Q, tM X.K X.mg W (RD X.K X.mg) (mRd2 f ma mb) σ H Q → tOp r (tM X.K X.mg W (RR X.K X.mg) ma) (tM X.K X.mg W (RR X.K X.mg) mb) σ H Q := fun σ H Q ⟨env, S, rl, g⟩ =>
  g.part nmD rl fun x H1 env1 S1 a st ra g1 => g1.part nmD st.rel fun y H2 env2 S2 b st2 rb g2 => by
    obtain ⟨d, e, q⟩ := g2.of
    cases ea : a.get env2 with
    | none => simp [ea] at e
    | some a' =>
      cases eb : b.get env2 with
      | none => simp [ea, eb] at e
      | some b' =>
        simp only [ea, eb, Option.bind_some] at e
        exact hr st2.rel.sub (RsR.tp st2.rel (RsR.mono st2 ra) ea) (RsR.tp st2.rel rb eb) e fun v hv => q v S2 H2 (Step.refl st2.rel) (hv S2 (Same.refl S2))
section
variable {op : CmpOp} {r : R2} {f : D → D → Option D} {a b : Expr} {ma mb : M Rs} {pos : Pos}
theorem sv_cmp2 (ho : OpR X (compareOp op) r) (hr : Says2 X.K X.mg r f) (hm : behindInMarks op b = false) (ha : SR X a ma) (hb : SR X b mb) : SV X (.Compare a [op] [b] pos) (mRd2 f ma mb) := fun W tk => pe_imp (pe_cmpR ho (ha W tk) (hb W tk) hm) (tm_rd2 hr)
theorem st_cmp2 (ho : OpR X (compareOp op) r) (hr : Says2 X.K X.mg r f) (hm : behindInMarks op b = false) (ha : SR X a ma) (hb : SR X b mb) : ST X (.Compare a [op] [b] pos) (mTst (mRd2 f ma mb)) := fun W tk => pt_imp (pt_cmpR ho (ha W tk) (hb W tk) hm) fun σ H Q h => tm_rd2 hr σ H _ (tm_tst σ H Q h)
theorem says_eq {K : PySem.W.Frag} {mg : Str → Option Value} : Says2 K mg (rEqD K) fEq := by
  intro S H x y a b d Q sub ha hb e q
  obtain ⟨⟨p1, p2⟩, ⟨p3, p4⟩, rfl⟩ := gd_two e
  exact ⟨_, _, ha.dp sub p1, hb.dp sub p3, p2, p4, q _ fun _ _ => .bl _⟩
theorem says_ne {K : PySem.W.Frag} {mg : Str → Option Value} : Says2 K mg (rNeD K) fNe := by
  intro S H x y a b d Q sub ha hb e q
  obtain ⟨⟨p1, p2⟩, ⟨p3, p4⟩, rfl⟩ := gd_two e
  exact ⟨_, _, ha.dp sub p1, hb.dp sub p3, p2, p4, q _ fun _ _ => .bl _⟩
variable (hu : X.A.units + 64 < cLine)
include hu
theorem sv_eq (ha : SR X a ma) (hb : SR X b mb) : SV X (.Compare a [.Eq] [b] pos) (mRd2 fEq ma mb) := sv_cmp2 (op_eqD hu) says_eq (nomark _) ha hb
theorem sv_ne (ha : SR X a ma) (hb : SR X b mb) : SV X (.Compare a [.NotEq] [b] pos) (mRd2 fNe ma mb) := sv_cmp2 (op_neD hu) says_ne (nomark _) ha hb
theorem st_eq (ha : SR X a ma) (hb : SR X b mb) : ST X (.Compare a [.Eq] [b] pos) (mTst (mRd2 fEq ma mb)) := st_cmp2 (op_eqD hu) says_eq (nomark _) ha hb
theorem st_ne (ha : SR X a ma) (hb : SR X b mb) : ST X (.Compare a [.NotEq] [b] pos) (mTst (mRd2 fNe ma mb)) := st_cmp2 (op_neD hu) says_ne (nomark _) ha hb
end

/-! ### is None, is True, in -/
def fIsN : D → D → Option D
  | .non, .non => some (.bl true)
  | _, .non => some (.bl false)
  | _, _ => none
def fNotN : D → D → Option D
  | .non, .non => some (.bl false)
  | _, .non => some (.bl true)
  | _, _ => none
def fIsB : D → D → Option D
  | .bl a, .bl b => some (.bl (decide (a = b)))
  | _, _ => none
def fNotB : D → D → Option D
  | .bl a, .bl b => some (.bl (!decide (a = b)))
  | _, _ => none
section
variable {K : PySem.W.Frag} {mg : Str → Option Value}
theorem Tp.non_iff {S H : Hp} {v : V} {d : D} (h : Tp K mg S H v d) : decide (v = .non) = (match d with | .non => true | _ => false) := by
  rcases h with h | ⟨a, ho, rfl, h2, h3⟩
  · cases h <;> simp
  · cases h3 <;> simp
theorem says_isN : Says2 K mg (fun x y H Q => y = .non ∧ Q (.bl (decide (x = .non))) H) fIsN := by
  intro S H x y a b d Q sub ha hb e q
  have hy : b = .non → y = .non := fun z => by
    have := hb.non_iff
    subst z
    exact of_decide_eq_true this
  have hx := ha.non_iff
  cases b <;> first | (cases a <;> cases e; done) | skip
  refine ⟨hy rfl, ?_⟩
  rw [hx]
  cases a <;> (cases e; exact q _ fun _ _ => .bl _)
theorem says_notN : Says2 K mg (fun x y H Q => y = .non ∧ Q (.bl (!decide (x = .non))) H) fNotN := by
  intro S H x y a b d Q sub ha hb e q
  have hy : b = .non → y = .non := fun z => by
    have := hb.non_iff
    subst z
    exact of_decide_eq_true this
  have hx := ha.non_iff
  cases b <;> first | (cases a <;> cases e; done) | skip
  refine ⟨hy rfl, ?_⟩
  rw [hx]
  cases a <;> (cases e; exact q _ fun _ _ => .bl _)
theorem says_isB : Says K mg (fun x y H Q => ∃ a b, x = .bl a ∧ y = .bl b ∧ Q (.bl (decide (a = b))) H) fIsB := by
  intro S H x y a b d Q sub ha hb e q
  cases a <;> cases b <;> cases e
  cases ha
  cases hb
  exact ⟨_, _, rfl, rfl, q _ fun _ => .bl _⟩
theorem says_notB : Says K mg (fun x y H Q => ∃ a b, x = .bl a ∧ y = .bl b ∧ Q (.bl (!decide (a = b))) H) fNotB := by
  intro S H x y a b d Q sub ha hb e q
  cases a <;> cases b <;> cases e
  cases ha
  cases hb
  exact ⟨_, _, rfl, rfl, q _ fun _ => .bl _⟩
/-- flat things -/
def D.flat : D → Bool
  | .non => true
  | .bl _ => true
  | .int _ => true
  | .str _ => true
  | _ => false
def D.v : D → V
  | .bl b => .bl b
  | .int i => .int i
  | .str x => .str x
  | _ => .non
theorem Rp.flat {S : Hp} {v : V} {d : D} (h : Rp K mg S v d) (f : d.flat = true) : v = d.v := by
  cases h <;> first | rfl | cases f
theorem RpA.flat {S : Hp} : ∀ {ds : List D} {vs : List V}, RpA K mg S vs ds → ds.all D.flat = true → vs = ds.map D.v
  | [], _, h, _ => by cases h; rfl
  | d :: ds, _, h, p => by
    cases h with
    | cons a b =>
      rw [List.all_cons, Bool.and_eq_true] at p
      rw [a.flat p.1, b.flat p.2]
      rfl
def inB (neg : Bool) (x : D) (ds : List D) : Option D := if x.flat && ds.all D.flat && flatV x.v && (ds.map D.v).all flatV then some (.bl (if neg then !inV x.v (ds.map D.v) else inV x.v (ds.map D.v))) else none
def fIn (neg : Bool) (x : D) : D → Option D
  | .lst ds => inB neg x ds
  | .tup ds => inB neg x ds
  | _ => none
theorem says_in {neg : Bool} : Says2 K mg (rIn K neg) (fIn neg) := by
  intro S H x y a b d Q sub ha hb e q
  have go : ∀ {p vs ds}, y = .ref p → (SqL K H p vs ∨ SqT K H p vs) → RpA K mg S vs ds → inB neg a ds = some d → rIn K neg x y H Q := fun {p vs ds} ey hs hr e => by
    unfold inB at e
    split at e
    · rename_i hc
      simp only [Bool.and_eq_true] at hc
      obtain ⟨⟨⟨h1, h2⟩, h3⟩, h4⟩ := hc
      have ev := hr.flat h2
      have ex : x = a.v := by
        rcases ha with ha | ⟨p, ho, rfl, h5, h6⟩
        · exact ha.flat h1
        · cases h6 <;> cases h1
      subst ev
      subst ex
      cases e
      exact ⟨p, _, ey, hs, h3, h4, q _ fun _ _ => .bl _⟩
    · cases e
  cases b with
  | lst ds =>
    obtain ⟨p, vs, e1, e2, e3⟩ := hb.lst sub
    exact go e1 (.inl (.of e2)) e3 e
  | tup ds =>
    obtain ⟨p, vs, e1, e2, e3⟩ := hb.tup sub
    exact go e1 (.inr e2) e3 e
  | _ => cases e
end
section
variable {a b : Expr} {ma mb : M Rs} {na nb : M D} {pos : Pos}
theorem sv_isN (ha : SR X a ma) (hb : SR X b mb) : SV X (.Compare a [.Is] [b] pos) (mRd2 fIsN ma mb) := sv_cmp2 op_isN says_isN (nomark _) ha hb
theorem sv_notN (ha : SR X a ma) (hb : SR X b mb) : SV X (.Compare a [.IsNot] [b] pos) (mRd2 fNotN ma mb) := sv_cmp2 op_notN says_notN (nomark _) ha hb
theorem st_isN (ha : SR X a ma) (hb : SR X b mb) : ST X (.Compare a [.Is] [b] pos) (mTst (mRd2 fIsN ma mb)) := st_cmp2 op_isN says_isN (nomark _) ha hb
theorem st_notN (ha : SR X a ma) (hb : SR X b mb) : ST X (.Compare a [.IsNot] [b] pos) (mTst (mRd2 fNotN ma mb)) := st_cmp2 op_notN says_notN (nomark _) ha hb
theorem st_isB (ha : SV X a na) (hb : SV X b nb) : ST X (.Compare a [.Is] [b] pos) (mTst (mOp fIsB na nb)) := st_cmp op_is_bl says_isB (nomark _) ha hb
theorem st_notB (ha : SV X a na) (hb : SV X b nb) : ST X (.Compare a [.IsNot] [b] pos) (mTst (mOp fNotB na nb)) := st_cmp op_isnot_bl says_notB (nomark _) ha hb
theorem sv_in (ha : SR X a ma) (hb : SR X b mb) (hm : behindInMarks .In b = false) : SV X (.Compare a [.In] [b] pos) (mRd2 (fIn false) ma mb) := sv_cmp2 op_in_seq says_in hm ha hb
theorem sv_notIn (ha : SR X a ma) (hb : SR X b mb) (hm : behindInMarks .NotIn b = false) : SV X (.Compare a [.NotIn] [b] pos) (mRd2 (fIn true) ma mb) := sv_cmp2 op_notIn_seq says_in hm ha hb
theorem st_in (ha : SR X a ma) (hb : SR X b mb) (hm : behindInMarks .In b = false) : ST X (.Compare a [.In] [b] pos) (mTst (mRd2 (fIn false) ma mb)) := st_cmp2 op_in_seq says_in hm ha hb
theorem st_notIn (ha : SR X a ma) (hb : SR X b mb) (hm : behindInMarks .NotIn b = false) : ST X (.Compare a [.NotIn] [b] pos) (mTst (mRd2 (fIn true) ma mb)) := st_cmp2 op_notIn_seq says_in hm ha hb
end

/-! ### one thing to be read -/
def mG (f : D → Option D) (m : M Rs) : M D := m.bind fun r => M.of fun env => (r.get env).bind f
def mU (f : D → Option D) (m : M D) : M D := m.bind fun a => M.of fun _ => f a
def mN (f : D → Option D) (m : M Rs) : M Rs := m.bind fun r => M.of fun env => (r.get env).bind fun d => (f d).bind fun o => some (.fr o)
theorem Go.get {α : Type} {β : Type} {W : WX} {R : RL β α} {f : D → Option α} {r : Rs} {env : Env} {σ : St} {S H : Hp} {Q : β → Hp → Prop} {v : V} {N : Addr → Prop} (rel : Rel X.K X.mg env σ S H) (ra : RsR X.K X.mg N env σ S H v r)
    (g : Go X.K X.mg W R (M.of fun env => (r.get env).bind f) env σ S H Q) : ∃ d o, Tp X.K X.mg S H v d ∧ f d = some o ∧ ∀ w S' H', Step X.K X.mg env σ S H env σ S' H' → R (Mine env σ H) env σ S' H' w o → Q w H' := by
  obtain ⟨o, e, q⟩ := g.of
  cases er : r.get env with
  | none => simp [er] at e
  | some d =>
    simp only [er, Option.bind_some] at e
    exact ⟨d, o, RsR.tp rel ra er, e, q⟩
section
variable {W : WX} {rd : List V → Hp → VK → Prop} {f : D → Option D}
/-- a call of a built-in with one argument, whose answer makes nothing -/
theorem tm_g {m : M Rs} (hr : ∀ {S H : Hp} {x : V} {a d : D} {Q : VK}, Same S H → Tp X.K X.mg S H x a → f a = some d → (∀ v, (∀ S', Same S S' → Rp X.K X.mg S' v d) → Q v H) → rd [x] H Q) : ∀ σ H Q, tM X.K X.mg W (RD X.K X.mg) (mG f m) σ H Q → tCB rd (tCons (tM X.K X.mg W (RR X.K X.mg) m) tNil) σ H Q := fun σ H Q ⟨env, S, rl, g⟩ =>
  g.part nmD rl fun x H1 env1 S1 a st ra g1 => by
    obtain ⟨d, o, t, e, q⟩ := g1.get st.rel ra
    exact hr st.rel.sub t e fun v hv => q v S1 H1 (Step.refl st.rel) (hv S1 (Same.refl S1))
theorem tm_u {m : M D} (hr : ∀ {S H : Hp} {x : V} {a d : D} {Q : VK}, Rp X.K X.mg S x a → f a = some d → (∀ v, (∀ S', Rp X.K X.mg S' v d) → Q v H) → rd [x] H Q) : ∀ σ H Q, tM X.K X.mg W (RD X.K X.mg) (mU f m) σ H Q → tCB rd (tCons (tM X.K X.mg W (RD X.K X.mg) m) tNil) σ H Q := fun σ H Q ⟨env, S, rl, g⟩ =>
  g.part nmD rl fun x H1 env1 S1 a st ra g1 => by
    obtain ⟨d, e, q⟩ := g1.of
    exact hr ra e fun v hv => q v S1 H1 (Step.refl st.rel) (hv S1)
/-- .. whose answer is new -/
theorem tm_n {m : M Rs} (hr : ∀ {S H : Hp} {x : V} {a d : D} {Q : VK}, Same S H → Tp X.K X.mg S H x a → f a = some d → (∀ p u, H p = none → HoR X.K X.mg S u d → Q (.ref p) (upd H p u)) → rd [x] H Q) : ∀ σ H Q, tM X.K X.mg W (RR X.K X.mg) (mN f m) σ H Q → tCB rd (tCons (tM X.K X.mg W (RR X.K X.mg) m) tNil) σ H Q := fun σ H Q ⟨env, S, rl, g⟩ =>
  g.part nmR rl fun x H1 env1 S1 a st ra g1 => by
    obtain ⟨d, o, t, e, q⟩ := g1.get st.rel ra
    cases ef : f d with
    | none => simp [ef] at e
    | some d' =>
      simp only [ef, Option.bind_some] at e
      cases e
      exact hr st.rel.sub t ef fun p u hp hu => by
        obtain ⟨s1, s2⟩ := new_apart st.rel hp hu
        exact q _ _ _ s1 s2
end
section
variable {x : Str} {a : Expr} {p pos : Pos} {m : M Rs} {n : M D}
theorem sv_neg (h : SV X a n) : SV X (.UnaryOp .USub a pos) (mU (fun d => match d with | .int i => some (.int (-i)) | _ => none) n) := fun W tk => pe_imp (pe_un un_neg (h W tk)) fun σ H Q ⟨env, S, rl, g⟩ =>
  g.part nmD rl fun x H1 env1 S1 a st ra g1 => by
    obtain ⟨d, e, q⟩ := g1.of
    cases a <;> cases e
    cases ra
    exact ⟨_, rfl, q _ S1 H1 (Step.refl st.rel) (.int _)⟩
/-- len -/
def fLen : D → Option D
  | .lst xs => some (.int (xs.length : Nat))
  | .tup xs => some (.int (xs.length : Nat))
  | .str s => if szOk s.length then some (.int (s.length : Nat)) else none
  | _ => none
theorem sv_len (ha : SR X a m) (hm : X.mg "len" = none) (hg : Gl X "len" := by rfl) (he : starEach [a] X.env = (false, eval a X.env) :: starEach [] X.env := by rfl) : SV X (.Call (.Name "len" p) [a] [] pos) (mG fLen m) := fun W tk =>
  pe_imp (pe_callB call_len hg hm PySem.boot_len (pa_cons (ha W tk) pa_nil he) (by decide) (by decide) he) (tm_g fun {S H x a d Q} sub t e q => by
    cases a with
    | lst ds =>
      obtain ⟨p, vs, rfl, h2, h3⟩ := t.lst sub
      cases e
      refine ⟨_, _, rfl, .inl ⟨vs, .of h2, rfl⟩, ?_⟩
      rw [h3.len]
      exact q _ fun _ _ => .int _
    | tup ds =>
      obtain ⟨p, vs, rfl, h2, h3⟩ := t.tup sub
      cases e
      refine ⟨_, _, rfl, .inr ⟨vs, h2, rfl⟩, ?_⟩
      rw [h3.len]
      exact q _ fun _ _ => .int _
    | str s =>
      have e' : (if szOk s.length = true then some (D.int (s.length : Nat)) else none) = some d := e
      split at e'
      · rename_i hz
        cases e'
        rcases t with t | ⟨_, _, _, _, t⟩
        · cases t
          exact ⟨_, _, rfl, ⟨szOk_of hz, rfl⟩, q _ fun _ _ => .int _⟩
        · cases t
      · cases e'
    | _ => cases e)
def fAbs : D → Option D
  | .int i => some (.int (if i < 0 then -i else i))
  | _ => none
theorem sv_abs (ha : SV X a n) (hm : X.mg "abs" = none) (hg : Gl X "abs" := by rfl) (he : starEach [a] X.env = (false, eval a X.env) :: starEach [] X.env := by rfl) : SV X (.Call (.Name "abs" p) [a] [] pos) (mU fAbs n) := fun W tk =>
  pe_imp (pe_callB call_abs hg hm (by decide +kernel) (pa_cons (ha W tk) pa_nil he) (by decide) (by decide) he) (tm_u fun {S H x a d Q} ra e q => by
    cases a <;> cases e
    cases ra
    exact ⟨_, rfl, q _ fun _ => .int _⟩)
def fInt : D → Option D
  | .int i => some (.int i)
  | .bl b => some (.int (if b then 1 else 0))
  | _ => none
theorem sv_toInt (ha : SV X a n) (hm : X.mg "int" = none) (hg : Gl X "int" := by rfl) (he : starEach [a] X.env = (false, eval a X.env) :: starEach [] X.env := by rfl) : SV X (.Call (.Name "int" p) [a] [] pos) (mU fInt n) := fun W tk =>
  pe_imp (pe_callTy call_int1 hg hm (by decide +kernel) (pa_cons (ha W tk) pa_nil he) (by decide) (by decide) he) (tm_u fun {S H x a d Q} ra e q => by
    cases a with
    | int i => cases e; cases ra; exact .inl ⟨_, rfl, q _ fun _ => .int _⟩
    | bl b => cases e; cases ra; exact .inr ⟨_, rfl, q _ fun _ => .int _⟩
    | _ => cases e)
def fBool : D → Option D
  | .int i => some (.bl (i != 0))
  | .bl b => some (.bl b)
  | _ => none
theorem sv_toBool (ha : SV X a n) (hm : X.mg "bool" = none) (hg : Gl X "bool" := by rfl) (he : starEach [a] X.env = (false, eval a X.env) :: starEach [] X.env := by rfl) : SV X (.Call (.Name "bool" p) [a] [] pos) (mU fBool n) := fun W tk =>
  pe_imp (pe_callTy call_bool1 hg hm (by decide +kernel) (pa_cons (ha W tk) pa_nil he) (by decide) (by decide) he) (tm_u fun {S H x a d Q} ra e q => by
    cases a with
    | int i => cases e; cases ra; exact .inl ⟨_, rfl, q _ fun _ => .bl _⟩
    | bl b => cases e; cases ra; exact .inr ⟨_, rfl, q _ fun _ => .bl _⟩
    | _ => cases e)
def fStrI : D → Option D
  | .int i => if i.natAbs.log2 < 1920 then some (.str (toString i : String)) else none
  | _ => none
theorem sv_toStr (ha : SV X a n) (hm : X.mg "str" = none) (hg : Gl X "str" := by rfl) (he : starEach [a] X.env = (false, eval a X.env) :: starEach [] X.env := by rfl) : SV X (.Call (.Name "str" p) [a] [] pos) (mU fStrI n) := fun W tk =>
  pe_imp (pe_callTy call_str_int hg hm (by decide +kernel) (pa_cons (ha W tk) pa_nil he) (by decide) (by decide) he) (tm_u fun {S H x a d Q} ra e q => by
    cases a with
    | int i =>
      have e' : (if i.natAbs.log2 < 1920 then some (D.str (toString i : String)) else none) = some d := e
      split at e'
      · rename_i hz
        cases e'
        cases ra
        exact ⟨_, rfl, hz, q _ fun _ => .str _⟩
      · cases e'
    | _ => cases e)
/-- tuple(a list), tuple(a tuple): the parts as they are -/
def fTuple : D → Option D
  | .lst xs => some (.tup xs)
  | .tup xs => some (.tup xs)
  | _ => none
theorem sv_tuple (ha : SR X a m) (hm : X.mg "tuple" = none) (hg : Gl X "tuple" := by rfl) (he : starEach [a] X.env = (false, eval a X.env) :: starEach [] X.env := by rfl) : SV X (.Call (.Name "tuple" p) [a] [] pos) (mG fTuple m) := fun W tk =>
  pe_imp (pe_callTy call_tuple_of hg hm (by decide +kernel) (pa_cons (ha W tk) pa_nil he) (by decide) (by decide) he) fun σ H Q ⟨env, S, rl, g⟩ =>
  g.part nmD rl fun x H1 env1 S1 a st ra g1 => by
    obtain ⟨d, o, t, e, q⟩ := g1.get st.rel ra
    cases d with
    | lst ds =>
      obtain ⟨p, vs, rfl, h2, h3⟩ := t.lst st.rel.sub
      cases e
      refine ⟨p, vs, rfl, .inl ⟨.of h2, fun l hl => q _ _ _ (new_stay st.rel hl) (.tup (.of upd_same) (RpA.mono (same_upd (st.rel.sub.free hl)) h3))⟩⟩
    | tup ds =>
      cases e
      have h := t
      rcases t with t | ⟨_, _, _, _, t⟩
      · obtain ⟨p, vs, rfl, h2, h3⟩ := h.tup st.rel.sub
        exact ⟨p, vs, rfl, .inr ⟨h2, q _ _ _ (Step.refl st.rel) t⟩⟩
      · cases t
    | _ => cases e
def fList : D → Option D
  | .lst xs => some (.lst xs)
  | .tup xs => some (.lst xs)
  | _ => none
theorem sr_list (ha : SR X a m) (hm : X.mg "list" = none) (hg : Gl X "list" := by rfl) (he : starEach [a] X.env = (false, eval a X.env) :: starEach [] X.env := by rfl) : SR X (.Call (.Name "list" p) [a] [] pos) (mN fList m) := fun W tk =>
  pe_imp (pe_callTy call_list_of hg hm (by decide +kernel) (pa_cons (ha W tk) pa_nil he) (by decide) (by decide) he) (tm_n fun {S H x a d Q} sub t e q => by
    cases a with
    | lst ds =>
      obtain ⟨p, vs, rfl, h2, h3⟩ := t.lst sub
      cases e
      exact ⟨p, vs, rfl, .inl (.of h2), fun l hl => q l _ hl (.lst h3)⟩
    | tup ds =>
      obtain ⟨p, vs, rfl, h2, h3⟩ := t.tup sub
      cases e
      exact ⟨p, vs, rfl, .inr h2, fun l hl => q l _ hl (.lst h3)⟩
    | _ => cases e)
end
/-! all, any, sum -/
def blOf : D → Option Bool
  | .bl b => some b
  | _ => none
def inOf : D → Option Int
  | .int i => some i
  | _ => none
def allOf {α : Type} (f : D → Option α) : List D → Option (List α)
  | [] => some []
  | d :: ds => (f d).bind fun a => (allOf f ds).bind fun as => some (a :: as)
section
variable {K : PySem.W.Frag} {mg : Str → Option Value}
theorem RpA.ints {S : Hp} : ∀ {ds : List D} {vs : List V} {ns : List Int}, RpA K mg S vs ds → allOf inOf ds = some ns → vs = ns.map V.int
  | [], _, _, h, e => by cases h; cases e; rfl
  | d :: ds, _, ns, h, e => by
    cases h with
    | cons a b =>
      cases d <;> first | (cases e; done) | skip
      rename_i i
      cases a
      cases er : allOf inOf ds with
      | none => simp [allOf, er, inOf] at e
      | some ms =>
        simp only [allOf, inOf, er, Option.bind_some] at e
        cases e
        rw [b.ints er]
        rfl
theorem RpA.bools {S : Hp} : ∀ {ds : List D} {vs : List V} {ns : List Bool}, RpA K mg S vs ds → allOf blOf ds = some ns → vs = ns.map V.bl
  | [], _, _, h, e => by cases h; cases e; rfl
  | d :: ds, _, ns, h, e => by
    cases h with
    | cons a b =>
      cases d <;> first | (cases e; done) | skip
      rename_i i
      cases a
      cases er : allOf blOf ds with
      | none => simp [allOf, er, blOf] at e
      | some ms =>
        simp only [allOf, blOf, er, Option.bind_some] at e
        cases e
        rw [b.bools er]
        rfl
theorem RpA.of_ints {S : Hp} : ∀ ns : List Int, RpA K mg S (ns.map V.int) (ns.map D.int)
  | [] => .nil
  | n :: ns => .cons (.int n) (RpA.of_ints ns)
end
section
variable {x : Str} {a b : Expr} {p pos : Pos} {m : M Rs} {n : M D}
def fAll : D → Option D
  | .lst ds => (allOf blOf ds).bind fun bs => some (.bl (bs.all id))
  | _ => none
def fAny : D → Option D
  | .lst ds => (allOf blOf ds).bind fun bs => some (.bl (bs.any id))
  | _ => none
def fSum : D → Option D
  | .lst ds => (allOf inOf ds).bind fun ns => some (.int ns.sum)
  | _ => none
theorem sv_all (hc : X.calm = true) (ha : SR X a m) (hm : X.mg "all" = none) (hg : Gl X "all" := by rfl) (he : starEach [a] X.env = (false, eval a X.env) :: starEach [] X.env := by rfl) : SV X (.Call (.Name "all" p) [a] [] pos) (mG fAll m) := fun W tk =>
  pe_imp (pe_callB (cr_all hc) hg hm (by decide +kernel) (pa_cons (ha W tk) pa_nil he) (by decide) (by decide) he) (tm_g fun {S H x a d Q} sub t e q => by
    cases a <;> first | (cases e; done) | skip
    rename_i ds
    obtain ⟨p, vs, rfl, h2, h3⟩ := t.lst sub
    cases er : allOf blOf ds with
    | none => simp [fAll, er] at e
    | some bs =>
      simp only [fAll, er, Option.bind_some] at e
      cases e
      rw [h3.bools er] at h2
      exact ⟨p, bs, rfl, .of h2, q _ fun _ _ => .bl _⟩)
theorem sv_any (hc : X.calm = true) (ha : SR X a m) (hm : X.mg "any" = none) (hg : Gl X "any" := by rfl) (he : starEach [a] X.env = (false, eval a X.env) :: starEach [] X.env := by rfl) : SV X (.Call (.Name "any" p) [a] [] pos) (mG fAny m) := fun W tk =>
  pe_imp (pe_callB (cr_any hc) hg hm (by decide +kernel) (pa_cons (ha W tk) pa_nil he) (by decide) (by decide) he) (tm_g fun {S H x a d Q} sub t e q => by
    cases a <;> first | (cases e; done) | skip
    rename_i ds
    obtain ⟨p, vs, rfl, h2, h3⟩ := t.lst sub
    cases er : allOf blOf ds with
    | none => simp [fAny, er] at e
    | some bs =>
      simp only [fAny, er, Option.bind_some] at e
      cases e
      rw [h3.bools er] at h2
      exact ⟨p, bs, rfl, .of h2, q _ fun _ _ => .bl _⟩)
theorem sv_sum (hc : X.calm = true) (ha : SR X a m) (hm : X.mg "sum" = none) (hg : Gl X "sum" := by rfl) (he : starEach [a] X.env = (false, eval a X.env) :: starEach [] X.env := by rfl) : SV X (.Call (.Name "sum" p) [a] [] pos) (mG fSum m) := fun W tk =>
  pe_imp (pe_callB (cr_sum hc) hg hm (by decide +kernel) (pa_cons (ha W tk) pa_nil he) (by decide) (by decide) he) (tm_g fun {S H x a d Q} sub t e q => by
    cases a <;> first | (cases e; done) | skip
    rename_i ds
    obtain ⟨p, vs, rfl, h2, h3⟩ := t.lst sub
    cases er : allOf inOf ds with
    | none => simp [fSum, er] at e
    | some ns =>
      simp only [fSum, er, Option.bind_some] at e
      cases e
      rw [h3.ints er] at h2
      exact ⟨p, ns, rfl, .of h2, q _ fun _ _ => .int _⟩)
end
/-! subscripts, slices -/
def fIx : D → D → Option D
  | .lst ds, .int i => atI ds i
  | .tup ds, .int i => atI ds i
  | .str s, .int i => if szOk s.length then (atI s.cps.toList i).bind fun c => some (.str ⟨#[c]⟩) else none
  | _, _ => none
def mIx (ma : M Rs) (mb : M D) : M D := ma.bind fun r => mb.bind fun i => M.of fun env => (r.get env).bind fun d => fIx d i
theorem RpA.atI {K : PySem.W.Frag} {mg : Str → Option Value} {S : Hp} {ds : List D} {vs : List V} {i : Int} {d : D} (h : RpA K mg S vs ds) (e : atI ds i = some d) : ∃ v, L2.atI vs i = some v ∧ Rp K mg S v d := by
  unfold L2.atI at e ⊢
  rw [h.len]
  cases ei : ixN ds.length i with
  | none => simp [ei] at e
  | some j =>
    simp only [ei, Option.bind_some] at e ⊢
    exact h.get e
theorem sv_ix {a b : Expr} {m : M Rs} {n : M D} {pos : Pos} (ha : SR X a m) (hb : SV X b n) (hp : PlainIx b := by exact fun _ _ => rfl) : SV X (.Subscript a b pos) (mIx m n) := fun W tk =>
  pe_imp (pe_ix ix_seq (ha W tk) (hb W tk) hp) fun σ H Q ⟨env, S, rl, g⟩ =>
  g.part nmD rl fun x H1 env1 S1 r st ra g1 => g1.part nmD st.rel fun y H2 env2 S2 i st2 rb g2 => by
    obtain ⟨d, o, t, e, q⟩ := g2.get st2.rel (RsR.mono st2 ra)
    cases i <;> first | (cases d <;> cases e; done) | skip
    rename_i i
    cases rb
    cases d with
    | lst ds =>
      obtain ⟨p, vs, rfl, h2, h3⟩ := t.lst st2.rel.sub
      obtain ⟨v, e1, e2⟩ := RpA.atI h3 e
      exact .inl ⟨p, vs, i, v, rfl, rfl, .of h2, e1, q v S2 H2 (Step.refl st2.rel) e2⟩
    | tup ds =>
      obtain ⟨p, vs, rfl, h2, h3⟩ := t.tup st2.rel.sub
      obtain ⟨v, e1, e2⟩ := RpA.atI h3 e
      exact .inr (.inl ⟨p, vs, i, v, rfl, rfl, h2, e1, q v S2 H2 (Step.refl st2.rel) e2⟩)
    | str s =>
      have e' : (if szOk s.length = true then (atI s.cps.toList i).bind fun c => some (D.str ⟨#[c]⟩) else none) = some o := e
      split at e'
      · rename_i hz
        cases ec : atI s.cps.toList i with
        | none => simp [ec] at e'
        | some c =>
          simp only [ec, Option.bind_some] at e'
          cases e'
          rcases t with t | ⟨_, _, _, _, t⟩
          · cases t
            exact .inr (.inr ⟨s, i, c, rfl, rfl, szOk_of hz, ec, q _ S2 H2 (Step.refl st2.rel) (.str _)⟩)
          · cases t
      · cases e'
    | _ => cases e
end Z
end

section
set_option Elab.async false
set_option linter.all false
set_option maxRecDepth 100000
set_option autoImplicit false
/-! The rules of statements. -/
namespace Z
open PySem L2
variable {X : Cx}

inductive SO where
  | nx (env : Env)
  | rt (r : Rs) (env : Env)
  | bk (env : Env)
  | ct (env : Env)
  | ex (c : Str) (ns : List Str) (vs : List D) (env : Env)
abbrev MS := Env → Option SO
def PostS (K : PySem.W.Frag) (mg : Str → Option Value) (W : WX) (o : Option SO) (env : Env) (σ : St) (S H : Hp) (E : Ends) : Prop := match o with
  | none => False
  | some (.nx env') => ∀ σ' S' H', Step K mg env σ S H env' σ' S' H' → E.nx σ' H'
  | some (.bk env') => ∀ σ' S' H', Step K mg env σ S H env' σ' S' H' → E.bk σ' H'
  | some (.ct env') => ∀ σ' S' H', Step K mg env σ S H env' σ' S' H' → E.ct σ' H'
  | some (.rt r env') => ∀ v σ' S' H', Step K mg env σ S H env' σ' S' H' → RsR K mg (Mine env σ H) env' σ' S' H' v r → E.rt v H'
  | some (.ex c ns ds env') => ∀ C d fv σ' S' H', mg c = some (.ref C) → Step K mg env σ S H env' σ' S' H' → H' d = some (.xd fv) → fv.map (·.1) = ns → RpA K mg S' (fv.map (·.2)) ds → W (.ref C) (some d) σ' H'
abbrev GoS (K : PySem.W.Frag) (mg : Str → Option Value) (W : WX) (m : MS) (env : Env) (σ : St) (S H : Hp) (E : Ends) : Prop := PostS K mg W (m env) env σ S H E
def tS (K : PySem.W.Frag) (mg : Str → Option Value) (W : WX) (m : MS) : TS := fun E σ H => ∃ env S, Rel K mg env σ S H ∧ GoS K mg W m env σ S H E
def SS (X : Cx) (st : Stmt) (m : MS) : Prop := ∀ W, Takes X W → PS X st (tS X.K X.mg W m)
def SSs (X : Cx) (st : List Stmt) (m : MS) : Prop := ∀ W, Takes X W → PSs X st (tS X.K X.mg W m)
theorem ps_imp {st : Stmt} {t t' : TS} (h : PS X st t) (i : ∀ E σ H, t' E σ H → t E σ H) : PS X st t' := ⟨fun pins s σ H D I q => h.run pins s σ H D I (i D σ H q)⟩
theorem pss_imp {st : List Stmt} {t t' : TS} (h : PSs X st t) (i : ∀ E σ H, t' E σ H → t E σ H) : PSs X st t' := ⟨fun pins s σ H D I q => h.run pins s σ H D I (i D σ H q)⟩

/-- from an earlier start -/
theorem PostS.from {K : PySem.W.Frag} {mg : Str → Option Value} {W : WX} {o : Option SO} {env env1 : Env} {σ σ1 : St} {S S1 H H1 : Hp} {E : Ends} (st : Step K mg env σ S H env1 σ1 S1 H1) (h : PostS K mg W o env σ S H E) : PostS K mg W o env1 σ1 S1 H1 E := by
  unfold PostS at h ⊢
  cases o with
  | none => exact h
  | some x =>
    cases x with
    | nx e => exact fun σ' S' H' s => h σ' S' H' (st.trans s)
    | bk e => exact fun σ' S' H' s => h σ' S' H' (st.trans s)
    | ct e => exact fun σ' S' H' s => h σ' S' H' (st.trans s)
    | rt r e => exact fun v σ' S' H' s rr => h v σ' S' H' (st.trans s) (nmR (K := K) (mg := mg) (fun q hq => st.mine hq) rr)
    | ex c ns ds e => exact fun C d fv σ' S' H' hc s a b c => h C d fv σ' S' H' hc (st.trans s) a b c
def mSeq (m n : MS) : MS := fun env => match m env with
  | some (.nx env1) => n env1
  | o => o
theorem PostS.seq {K : PySem.W.Frag} {mg : Str → Option Value} {W : WX} {m n : MS} {env env0 : Env} {σ0 : St} {S0 H0 : Hp} {E : Ends} (h : PostS K mg W (mSeq m n env) env0 σ0 S0 H0 E) : PostS K mg W (m env) env0 σ0 S0 H0 { E with nx := tS K mg W n E } := by
  unfold mSeq at h
  cases hm : m env with
  | none => simp only [hm] at h; exact h
  | some x =>
    cases x with
    | nx e =>
      simp only [hm] at h
      exact fun σ1 S1 H1 st => ⟨e, S1, st.rel, h.from st⟩
    | bk e => simp only [hm] at h; exact h
    | ct e => simp only [hm] at h; exact h
    | rt r e => simp only [hm] at h; exact h
    | ex c ns ds e => simp only [hm] at h; exact h
theorem sss_nil : SSs X [] (fun env => some (.nx env)) := fun W tk => pss_imp pss_nil fun E σ H ⟨env, S, r, g⟩ => g σ S H (Step.refl r)
theorem sss_cons {st : Stmt} {rest : List Stmt} {m n : MS} (h1 : SS X st m) (h2 : SSs X rest n) : SSs X (st :: rest) (mSeq m n) := fun W tk => pss_imp (pss_cons (h1 W tk) (h2 W tk)) fun E σ H ⟨env, S, r, g⟩ => ⟨env, S, r, PostS.seq g⟩
theorem sss_one {st : Stmt} {m : MS} (h1 : SS X st m) : SSs X [st] m := fun W tk => pss_one (h1 W tk)
theorem ss_pass {pos : Pos} : SS X (.Pass pos) (fun env => some (.nx env)) := fun W tk => ps_imp ps_pass fun E σ H ⟨env, S, r, g⟩ => g σ S H (Step.refl r)
theorem ss_break {pos : Pos} : SS X (.Break pos) (fun env => some (.bk env)) := fun W tk => ps_imp ps_break fun E σ H ⟨env, S, r, g⟩ => g σ S H (Step.refl r)
theorem ss_continue {pos : Pos} : SS X (.Continue pos) (fun env => some (.ct env)) := fun W tk => ps_imp ps_continue fun E σ H ⟨env, S, r, g⟩ => g σ S H (Step.refl r)
/-- code that is not come to -/
theorem ss_never {st : Stmt} : SS X st (fun _ => none) := fun W tk => ps_imp ps_never fun E σ H ⟨env, S, r, g⟩ => g
theorem sss_never {st : List Stmt} : SSs X st (fun _ => none) := fun W tk => pss_imp pss_never fun E σ H ⟨env, S, r, g⟩ => g

/-! ### an expression, then a stretch of statement -/
def mThen {α : Type} (m : M α) (k : α → MS) : MS := fun env => match m env with
  | none => none
  | some (.ok a env1) => k a env1
  | some (.ex c ns vs e) => some (.ex c ns vs e)
theorem GoS.part {β α : Type} {R : RL β α} {W : WX} {m : M α} {k : α → MS} {env : Env} {σ : St} {S H : Hp} {E : Ends} (r : Rel X.K X.mg env σ S H) (h : GoS X.K X.mg W (mThen m k) env σ S H E) {Q1 : β → Hp → Prop}
    (i : ∀ v H1 env1 S1 a, Step X.K X.mg env σ S H env1 σ S1 H1 → R (Mine env σ H) env1 σ S1 H1 v a → GoS X.K X.mg W (k a) env1 σ S1 H1 E → PostS X.K X.mg W (k a env1) env σ S H E → Q1 v H1) : tM X.K X.mg W R m σ H Q1 := by
  refine ⟨env, S, r, ?_⟩
  unfold GoS mThen at h
  unfold Go
  cases hm : m env with
  | none => simp only [hm] at h; exact h
  | some x =>
    cases x with
    | ok a e =>
      simp only [hm] at h
      exact fun v S1 H1 st ra => i v H1 e S1 a st ra (h.from st) h
    | ex c ns ds e =>
      simp only [hm] at h
      exact fun C d fv S' H' hc st => h C d fv σ S' H' hc st
/-- an expression's value dropped -/
def mDrop {α : Type} (m : M α) : MS := mThen m fun _ env => some (.nx env)
theorem ss_expr {e : Expr} {m : M D} {pos : Pos} (he : SV X e m) (hs : swapsWith e none pos.line X.env = pure false := by rfl) : SS X (.Expr e pos) (mDrop m) := fun W tk => ps_imp (ps_expr (he W tk) hs) fun E σ H ⟨env, S, r, g⟩ =>
  g.part r fun v H1 env1 S1 a st ra g1 _ => g1 σ S1 H1 (Step.refl st.rel)
theorem ss_exprR {e : Expr} {m : M Rs} {pos : Pos} (he : SR X e m) (hs : swapsWith e none pos.line X.env = pure false := by rfl) : SS X (.Expr e pos) (mDrop m) := fun W tk => ps_imp (ps_expr (he W tk) hs) fun E σ H ⟨env, S, r, g⟩ =>
  g.part r fun v H1 env1 S1 a st ra g1 _ => g1 σ S1 H1 (Step.refl st.rel)
/-- return -/
def mRet (m : M Rs) : MS := mThen m fun r env => some (.rt r env)
theorem ss_ret {e : Expr} {m : M Rs} {pos : Pos} (he : SR X e m) : SS X (.Return (some e) pos) (mRet m) := fun W tk => ps_imp (ps_ret (he W tk)) fun E σ H ⟨env, S, r, g⟩ =>
  g.part r fun v H1 env1 S1 a st ra g1 g2 => g2 v σ S1 H1 st ra
theorem ss_retN {pos : Pos} : SS X (.Return none pos) (fun env => some (.rt (.v .non) env)) := fun W tk => ps_imp ps_retN fun E σ H ⟨env, S, r, g⟩ => g .non σ S H (Step.refl r) .non
/-- if -/
def mIfS (t : M Bool) (a b : MS) : MS := mThen t fun c => if c then a else b
theorem ss_if {c : Expr} {a b : List Stmt} {t : M Bool} {m n : MS} {pos : Pos} (hc : ST X c t) (ha : SSs X a m) (hb : SSs X b n) : SS X (.If c a b pos) (mIfS t m n) := fun W tk => ps_imp (ps_if (hc W tk) (ha W tk) (hb W tk)) fun E σ H ⟨env, S, r, g⟩ =>
  g.part r fun v H1 env1 S1 a st ra g1 g2 => by
    have e : v = a := ra
    subst e
    cases v with
    | true => exact ⟨env1, S1, st.rel, g1⟩
    | false => exact ⟨env1, S1, st.rel, g1⟩

/-! ### stores -/
theorem Step.assign {K : PySem.W.Frag} {mg : Str → Option Value} {env0 env : Env} {σ0 σ : St} {S0 S H0 H : Hp} (st : Step K mg env0 σ0 S0 H0 env σ S H) {j : Nat} {v : V} {s : Sl} (hj : j < env.length) (hio : ∀ d, env[j]? ≠ some (.io d)) (hs : SlR K mg S H (some (some v)) s)
    (hown : ∀ d, s.mut = some d → ∃ a, v = .ref a ∧ ¬ Own env σ a ∧ Mine env0 σ0 H0 a) : Step K mg env0 σ0 S0 H0 (env.set j s) (σ.set j (some v)) S H := by
  have hjσ : j < σ.length := by rw [st.rel.len]; exact hj
  have at_ : ∀ i q, OwnAt (env.set j s) (σ.set j (some v)) i q → (i = j ∧ v = .ref q ∧ ∃ d, s.mut = some d) ∨ (i ≠ j ∧ OwnAt env σ i q) := fun i q ⟨⟨s', d, e, m⟩, hq⟩ => by
    by_cases h : j = i
    · subst h
      rw [List.getElem?_set_self hj] at e
      rw [List.getElem?_set_self hjσ] at hq
      cases e
      have hq' : v = .ref q := by simpa using hq
      exact .inl ⟨rfl, hq', d, m⟩
    · rw [List.getElem?_set_ne h] at e hq
      exact .inr ⟨fun z => h z.symm, ⟨s', d, e, m⟩, hq⟩
  refine ⟨⟨by rw [List.length_set, List.length_set]; exact st.rel.len, st.rel.sub, fun i s' e => ?_, fun i k q h1 h2 => ?_⟩, st.ext, st.frm, st.new, fun q ⟨i, h⟩ => ?_, fun i d e => ?_⟩
  · by_cases h : j = i
    · subst h
      rw [List.getElem?_set_self hj] at e
      rw [List.getElem?_set_self hjσ]
      cases e
      exact hs
    · rw [List.getElem?_set_ne h] at e ⊢
      exact st.rel.sl i s' e
  · rcases at_ i q h1 with ⟨e1, e2, d, m⟩ | ⟨n1, o1⟩
    · rcases at_ k q h2 with ⟨e3, _⟩ | ⟨n2, o2⟩
      · rw [e1, e3]
      · obtain ⟨a, ea, na, _⟩ := hown d m
        rw [e2] at ea
        cases ea
        exact absurd ⟨k, o2⟩ na
    · rcases at_ k q h2 with ⟨e3, e4, d, m⟩ | ⟨n2, o2⟩
      · obtain ⟨a, ea, na, _⟩ := hown d m
        rw [e4] at ea
        cases ea
        exact absurd ⟨i, o1⟩ na
      · exact st.rel.inj i k q o1 o2
  · rcases at_ i q h with ⟨_, e2, d, m⟩ | ⟨_, o⟩
    · obtain ⟨a, ea, _, mi⟩ := hown d m
      rw [e2] at ea
      cases ea
      rcases mi with z | z
      · exact .inr z
      · exact .inl z
    · exact st.own q ⟨i, o⟩
  · obtain ⟨x, d1, y⟩ := st.io i d e
    have h : j ≠ i := fun z => by
      subst z
      exact hio d1 y
    rw [List.getElem?_set_ne h, List.getElem?_set_ne h]
    exact ⟨x, d1, y⟩
def Rs.sl : Rs → Option Sl
  | .v d => some (.v d)
  | .fr d => some (.own d)
  | .bw _ => none
/-- may slot j be set -/
def isIo : Option Sl → Bool
  | some (.io _) => true
  | _ => false
def setSl (j : Nat) (s : Sl) (env : Env) : Option Env := if decide (j < env.length) && !isIo env[j]? then some (env.set j s) else none
theorem setSl_some {j : Nat} {s : Sl} {env env' : Env} (h : setSl j s env = some env') : j < env.length ∧ (∀ d, env[j]? ≠ some (.io d)) ∧ env' = env.set j s := by
  unfold setSl at h
  split at h
  · rename_i c
    simp only [Bool.and_eq_true, decide_eq_true_eq, Bool.not_eq_true'] at c
    cases h
    refine ⟨c.1, fun d e => ?_, rfl⟩
    rw [e] at c
    exact absurd c.2 (by simp [isIo])
  · cases h
def mSet (j : Nat) (m : M Rs) : MS := mThen m fun r env => r.sl.bind fun s => (setSl j s env).bind fun env' => some (.nx env')
theorem slr_of {K : PySem.W.Frag} {mg : Str → Option Value} {N : Addr → Prop} {env : Env} {σ : St} {S H : Hp} {v : V} {r : Rs} {s : Sl} (ra : RsR K mg N env σ S H v r) (e : r.sl = some s) :
    SlR K mg S H (some (some v)) s ∧ ∀ d, s.mut = some d → ∃ a, v = .ref a ∧ ¬ Own env σ a ∧ N a := by
  cases r with
  | v d =>
    cases e
    exact ⟨⟨v, rfl, ra⟩, fun _ z => by cases z⟩
  | fr d =>
    cases e
    obtain ⟨a, ho, rfl, h2, h3, h4, h5, h6⟩ := ra
    exact ⟨⟨a, ho, rfl, h2, h3, h4⟩, fun _ _ => ⟨a, rfl, h5, h6⟩⟩
  | bw i => cases e
theorem ss_set {j : Nat} {x : Str} {e : Expr} {m : M Rs} {pos pos' : Pos} (he : SR X e m) (hN : X.N.Nodup) (hi : X.N[j]? = some x) (hx : Loc X.env.scope x) (hf : X.fn x = true ∨ X.env.scope.names.lookup x = some .local) (hs : swapsWith e (some (.Name x pos')) pos.line X.env = pure false := by rfl) :
    SS X (.Assign [.Name x pos'] e pos) (mSet j m) := fun W tk => ps_imp (ps_set hN hi hx (he W tk) hs hf) fun E σ H ⟨env, S, r, g⟩ =>
  g.part r fun v H1 env1 S1 a st ra g1 g2 => by
    cases es : a.sl with
    | none => exact (show False by simpa [es, PostS] using g2).elim
    | some s =>
      cases ee : setSl j s env1 with
      | none => exact (show False by simpa [es, ee, PostS] using g2).elim
      | some env2 =>
        simp only [es, ee, Option.bind_some] at g2
        obtain ⟨c1, c2, rfl⟩ := setSl_some ee
        obtain ⟨d1, d2⟩ := slr_of ra es
        exact g2 _ S1 H1 (st.assign c1 c2 d1 d2)
/-! two values at once -/
def mPair (m n : M Rs) : M (Rs × Rs) := fun env => match m env with
  | none => none
  | some (.ok r env1) => (match n env1 with
    | none => none
    | some (.ok q env2) => some (.ok (r, q) env2)
    | some (.ex c ns vs e) => some (.ex c ns vs e))
  | some (.ex c ns vs e) => some (.ex c ns vs e)
def RP (K : PySem.W.Frag) (mg : Str → Option Value) : RL (List V) (Rs × Rs) := fun N env σ S H vs p => ∃ v w, vs = [v, w] ∧ RsR K mg N env σ S H v p.1 ∧ RsR K mg N env σ S H w p.2 ∧ ∀ d d', p.1 = .fr d → p.2 = .fr d' → v ≠ w
def SP2 (X : Cx) (es : List Expr) (m : M (Rs × Rs)) : Prop := ∀ W, Takes X W → PA X es (tM X.K X.mg W (RP X.K X.mg) m)
theorem sp_pair {a b : Expr} {m n : M Rs} (ha : SR X a m) (hb : SR X b n) (he : starEach [a, b] X.env = (false, eval a X.env) :: starEach [b] X.env := by rfl) (he2 : starEach [b] X.env = (false, eval b X.env) :: starEach [] X.env := by rfl) : SP2 X [a, b] (mPair m n) := fun W tk =>
  pa_imp (pa_cons (ha W tk) (pa_cons (hb W tk) pa_nil he2) he) fun σ H Q ⟨env, S, r, g⟩ => by
    refine ⟨env, S, r, ?_⟩
    unfold Go mPair at g
    unfold Go
    cases hm : m env with
    | none => simp only [hm] at g
    | some x =>
      cases x with
      | ex c ns ds e => simp only [hm] at g ⊢; exact g
      | ok a env1 =>
        simp only [hm] at g ⊢
        intro v S1 H1 st ra
        refine ⟨env1, S1, st.rel, ?_⟩
        unfold Go
        cases hn : n env1 with
        | none => simp only [hn] at g
        | some y =>
          cases y with
          | ex c ns ds e =>
            simp only [hn] at g ⊢
            exact fun C d fv S' H' hc st2 => g C d fv S' H' hc (st.trans st2)
          | ok b env2 =>
            simp only [hn] at g ⊢
            intro w S2 H2 st2 rb
            refine g [v, w] S2 H2 (st.trans st2) ⟨v, w, rfl, RsR.mono st2 ra, nmR (K := X.K) (mg := X.mg) (fun q hq => st.mine hq) rb, fun d d' e1 e2 => ?_⟩
            have e1' : a = .fr d := e1
            have e2' : b = .fr d' := e2
            subst e1'
            subst e2'
            obtain ⟨p, ho, rfl, h2, h3, h4, h5, h6⟩ := ra
            obtain ⟨q, hq, rfl, k2, k3, k4, k5, k6⟩ := rb
            intro z
            cases z
            rcases k6 with z | z
            · rw [h3] at z; cases z
            · exact h5 z
/-- a, b = x, y -/
def mPar (i j : Nat) (m : M (Rs × Rs)) : MS := mThen m fun p env => p.1.sl.bind fun s => p.2.sl.bind fun t => (setSl i s env).bind fun env' => (setSl j t env').bind fun env2 => some (.nx env2)
theorem ss_par {i j : Nat} {x y : Str} {a b : Expr} {m : M (Rs × Rs)} {px py pt : Pos} {kt k2 pt2} {pos : Pos} (ha : SP2 X [a, b] m) (hc : X.calm = true) (hN : X.N.Nodup) (hi : X.N[i]? = some x) (hj : X.N[j]? = some y) (hij : i ≠ j)
    (hx : X.env.scope.names.lookup x = some .local) (hy : X.env.scope.names.lookup y = some .local)
    (hw : swappedStores [.Tuple [.Name x px, .Name y py] kt pt] (.Tuple [a, b] k2 pt2) X.env = pure (some [x, y]))
    (hs : swapsWithSole [.Tuple [.Name x px, .Name y py] kt pt] (.Tuple [a, b] k2 pt2) pos.line X.env = pure false := by rfl) :
    SS X (.Assign [.Tuple [.Name x px, .Name y py] kt pt] (.Tuple [a, b] k2 pt2) pos) (mPar i j m) := fun W tk =>
  ps_imp (ps_par hc hN hi hj hij hx hy (ha W tk) hw hs) fun E σ H ⟨env, S, r, g⟩ =>
  g.part r fun vs H1 env1 S1 p st ra g2 g3 => by
    obtain ⟨v, w, rfl, ra, rb, nvw⟩ := ra
    refine ⟨v, w, rfl, ?_⟩
    cases es : p.1.sl with
    | none => exact (show False by simpa [es, PostS] using g3).elim
    | some s =>
      cases et : p.2.sl with
      | none => exact (show False by simpa [es, et, PostS] using g3).elim
      | some t =>
        cases ee : setSl i s env1 with
        | none => exact (show False by simpa [es, et, ee, PostS] using g3).elim
        | some env3 =>
          cases ef : setSl j t env3 with
          | none => exact (show False by simpa [es, et, ee, ef, PostS] using g3).elim
          | some env4 =>
            simp only [es, et, ee, ef, Option.bind_some] at g3
            obtain ⟨c1, c2, rfl⟩ := setSl_some ee
            obtain ⟨c3, c4, rfl⟩ := setSl_some ef
            obtain ⟨d1, d2⟩ := slr_of ra es
            obtain ⟨d3, d4⟩ := slr_of rb et
            refine g3 _ S1 H1 ((st.assign c1 c2 d1 d2).assign c3 c4 d3 fun d hd => ?_)
            obtain ⟨a', e1, n1, m1⟩ := d4 d hd
            refine ⟨a', e1, fun ⟨k, ⟨s', d', e', m'⟩, hq⟩ => ?_, m1⟩
            have hil : i < σ.length := by rw [st.rel.len]; exact c1
            by_cases h : i = k
            · subst h
              rw [List.getElem?_set_self c1] at e'
              rw [List.getElem?_set_self hil] at hq
              cases e'
              have hv : v = .ref a' := by simpa using hq
              cases e5 : p.1 with
              | v _ => rw [e5] at es; cases es; cases m'
              | bw _ => rw [e5] at es; cases es
              | fr da =>
                cases e6 : p.2 with
                | v _ => rw [e6] at et; cases et; cases hd
                | bw _ => rw [e6] at et; cases et
                | fr db => exact nvw da db e5 e6 (by rw [hv, e1])
            · rw [List.getElem?_set_ne h] at e' hq
              exact n1 ⟨k, ⟨s', d', e', m'⟩, hq⟩

/-! ### what a slot owns is changed -/
def Sl.upd (d' : D) : Sl → Sl
  | .own _ => .own d'
  | .io _ => .io d'
  | s => s
theorem Sl.upd_mut {d d' : D} : ∀ {s : Sl}, s.mut = some d → (s.upd d').mut = some d'
  | .no, h => by cases h
  | .v _, h => by cases h
  | .own _, _ => rfl
  | .io _, _ => rfl
theorem Step.change {K : PySem.W.Frag} {mg : Str → Option Value} {env0 env : Env} {σ0 σ : St} {S0 S H0 H : Hp} (st : Step K mg env0 σ0 S0 H0 env σ S H) {j : Nat} {a : Addr} {s : Sl} {d d' : D} {ho' : HO} (hj : env[j]? = some s) (hm : s.mut = some d) (ha : σ[j]? = some (some (.ref a)))
    (hr : HoR K mg S ho' d') : Step K mg env0 σ0 S0 H0 (env.set j (s.upd d')) σ S (upd H a ho') := by
  have hlt : j < env.length := (List.getElem?_eq_some_iff.mp hj).1
  have oj : OwnAt env σ j a := ⟨⟨s, d, hj, hm⟩, ha⟩
  obtain ⟨hSa, ho, hHa⟩ := st.rel.own ⟨j, oj⟩
  have at_ : ∀ i q, OwnAt (env.set j (s.upd d')) σ i q → OwnAt env σ i q := fun i q ⟨⟨s', d2, e, m⟩, hq⟩ => by
    by_cases h : j = i
    · subst h
      exact ⟨⟨s, d, hj, hm⟩, hq⟩
    · rw [List.getElem?_set_ne h] at e
      exact ⟨⟨s', d2, e, m⟩, hq⟩
  refine ⟨⟨by rw [List.length_set]; exact st.rel.len, fun b o e => ?_, fun i s' e => ?_, fun i k q h1 h2 => st.rel.inj i k q (at_ i q h1) (at_ k q h2)⟩, st.ext, fun q o e n => ?_, st.new, fun q ⟨i, h⟩ => st.own q ⟨i, at_ i q h⟩, fun i d0 e => ?_⟩
  · have nb : b ≠ a := fun z => by
      subst z
      rw [hSa] at e
      cases e
    rw [upd_ne nb]
    exact st.rel.sub b o e
  · by_cases h : j = i
    · subst h
      rw [List.getElem?_set_self hlt] at e
      have e' : s.upd d' = s' := by simpa using e
      subst e'
      cases s with
      | no => cases hm
      | v _ => cases hm
      | own _ => exact ⟨a, ho', ha, hSa, upd_same, hr⟩
      | io _ => exact ⟨a, ho', ha, hSa, upd_same, hr⟩
    · rw [List.getElem?_set_ne h] at e
      have q := st.rel.sl i s' e
      have nb : ∀ b, σ[i]? = some (some (.ref b)) → (∃ d2, s'.mut = some d2) → b ≠ a := fun b hb ⟨d2, m2⟩ z => by
        subst z
        exact h (st.rel.inj j i b oj ⟨⟨s', d2, e, m2⟩, hb⟩)
      cases s' with
      | no => trivial
      | v _ => exact q
      | own d2 =>
        obtain ⟨b, ho2, h1, h2, h3, h4⟩ := q
        exact ⟨b, ho2, h1, h2, by rw [upd_ne (nb b h1 ⟨d2, rfl⟩)]; exact h3, h4⟩
      | io d2 =>
        obtain ⟨b, ho2, h1, h2, h3, h4⟩ := q
        exact ⟨b, ho2, h1, h2, by rw [upd_ne (nb b h1 ⟨d2, rfl⟩)]; exact h3, h4⟩
  · have nq : q ≠ a := fun z => by
      subst z
      rcases st.own q ⟨j, oj⟩ with z | z
      · exact n z
      · rw [e] at z; cases z
    rw [upd_ne nq]
    exact st.frm q o e n
  · obtain ⟨x, d1, y⟩ := st.io i d0 e
    by_cases h : j = i
    · subst h
      rw [hj] at y
      cases y
      exact ⟨x, d', List.getElem?_set_self hlt⟩
    · rw [List.getElem?_set_ne h]
      exact ⟨x, d1, y⟩
/-- what slot j owns, as f turns it; o is handed out -/
def chg {α : Type} (j : Nat) (f : D → Option (α × D)) : Env → Option (α × Env) := fun env => match env[j]? with
  | some s => s.mut.bind fun d => (f d).bind fun p => some (p.1, env.set j (s.upd p.2))
  | none => none
theorem chg_some {α : Type} {j : Nat} {f : D → Option (α × D)} {env env' : Env} {o : α} (h : chg j f env = some (o, env')) : ∃ s d d', env[j]? = some s ∧ s.mut = some d ∧ f d = some (o, d') ∧ env' = env.set j (s.upd d') := by
  unfold chg at h
  cases hj : env[j]? with
  | none => simp [hj] at h
  | some s =>
    simp only [hj] at h
    cases hm : s.mut with
    | none => simp [hm] at h
    | some d =>
      simp only [hm, Option.bind_some] at h
      cases hf : f d with
      | none => simp [hf] at h
      | some p =>
        simp only [hf, Option.bind_some] at h
        cases h
        exact ⟨s, d, p.2, rfl, hm, hf, rfl⟩
def M.chg {α : Type} (j : Nat) (f : D → Option (α × D)) : M α := fun env => (Z.chg j f env).bind fun p => some (.ok p.1 p.2)
theorem Go.chg {α β : Type} {W : WX} {R : RL β α} {j : Nat} {f : D → Option (α × D)} {env : Env} {σ : St} {S H : Hp} {Q : β → Hp → Prop} (r : Rel X.K X.mg env σ S H) (g : Go X.K X.mg W R (M.chg j f) env σ S H Q) :
    ∃ a ho d o d', σ[j]? = some (some (.ref a)) ∧ H a = some ho ∧ HoR X.K X.mg S ho d ∧ f d = some (o, d') ∧ ∀ ho', HoR X.K X.mg S ho' d' → ∀ v, (∀ env', R (Mine env σ H) env' σ S (upd H a ho') v o) → Q v (upd H a ho') := by
  unfold Go M.chg at g
  cases hc : Z.chg j f env with
  | none => simp [hc] at g
  | some p =>
    obtain ⟨o, env'⟩ := p
    simp only [hc, Option.bind_some] at g
    obtain ⟨s, d, d', h1, h2, h3, rfl⟩ := chg_some hc
    obtain ⟨a, ho, e1, e2, e3, e4⟩ := (r.sl j s h1).mut h2
    exact ⟨a, ho, d, o, d', e1, e3, e4, h3, fun ho' hr v hv => g v S _ ((Step.refl r).change h1 h2 e1 hr) (hv _)⟩
/-- slot j owns a list now -/
def isL (s : Option Sl) : Bool := match s with
  | some s => (match s.mut with
    | some (.lst _) => true
    | _ => false)
  | none => false
def mHere {α : Type} (j : Nat) (m : M α) : M α := fun env => if isL env[j]? then m env else none
theorem Go.here {α β : Type} {W : WX} {R : RL β α} {m : M α} {j : Nat} {env : Env} {σ : St} {S H : Hp} {Q : β → Hp → Prop} (r : Rel X.K X.mg env σ S H) (g : Go X.K X.mg W R (mHere j m) env σ S H Q) :
    (∃ a vs, σ[j]? = some (some (.ref a)) ∧ H a = some (.lst vs)) ∧ Go X.K X.mg W R m env σ S H Q := by
  unfold Go mHere at g
  by_cases hl : isL env[j]? = true
  · rw [if_pos hl] at g
    refine ⟨?_, g⟩
    unfold isL at hl
    cases hj : env[j]? with
    | none => simp [hj] at hl
    | some s =>
      simp only [hj] at hl
      cases hm : s.mut with
      | none => simp [hm] at hl
      | some d =>
        obtain ⟨a, ho, e1, e2, e3, e4⟩ := (r.sl j s hj).mut hm
        cases e4 with
        | lst _ => exact ⟨a, _, e1, e3⟩
        | dct _ _ _ => simp [hm] at hl
        | ins _ _ _ _ => simp [hm] at hl
  · rw [if_neg hl] at g
    exact g.elim
theorem szOk_lt {n : Nat} (h : szOk n = true) : n < sizeLine := Nat.lt_of_le_of_lt (of_decide_eq_true h) (by decide)
theorem tyV_lst {K : PySem.W.Frag} {H : Hp} {a : Addr} {vs : List V} (h : H a = some (.lst vs)) : tyV K "list" (.ref a) H := .inl ⟨rfl, _, .inl (.inl h)⟩
/-- of a list alone -/
def onL {α : Type} (f : List D → Option (α × List D)) : D → Option (α × D)
  | .lst ds => (f ds).bind fun p => some (p.1, .lst p.2)
  | _ => none
theorem onL_some {α : Type} {f : List D → Option (α × List D)} {d d' : D} {o : α} (h : onL f d = some (o, d')) : ∃ ds ds', d = .lst ds ∧ f ds = some (o, ds') ∧ d' = .lst ds' := by
  cases d with
  | lst ds =>
    cases hf : f ds with
    | none => simp [onL, hf] at h
    | some p =>
      simp only [onL, hf, Option.bind_some] at h
      cases h
      exact ⟨ds, p.2, rfl, hf, rfl⟩
  | _ => cases h
theorem Go.chgL {α β : Type} {W : WX} {R : RL β α} {j : Nat} {f : List D → Option (α × List D)} {env : Env} {σ : St} {S H : Hp} {Q : β → Hp → Prop} (r : Rel X.K X.mg env σ S H) (g : Go X.K X.mg W R (M.chg j (onL f)) env σ S H Q) :
    ∃ a vs ds o ds', σ[j]? = some (some (.ref a)) ∧ H a = some (.lst vs) ∧ RpA X.K X.mg S vs ds ∧ f ds = some (o, ds') ∧ ∀ vs', RpA X.K X.mg S vs' ds' → ∀ v, (∀ env', R (Mine env σ H) env' σ S (upd H a (.lst vs')) v o) → Q v (upd H a (.lst vs')) := by
  obtain ⟨a, ho, d, o, d', k1, k2, k3, k4, k5⟩ := Go.chg r g
  obtain ⟨ds, ds', rfl, e, rfl⟩ := onL_some k4
  cases k3 with
  | lst r1 => exact ⟨a, _, ds, o, ds', k1, k2, r1, e, fun vs' r2 v hv => k5 _ (.lst r2) v hv⟩
/-- a method of slot j's list with one argument, with none -/
def mM1 (j : Nat) (f : D → List D → Option (D × List D)) (m : M D) : M D := mHere j (m.bind fun x => M.chg j (onL (f x)))
def mM0 (j : Nat) (f : List D → Option (D × List D)) : M D := mHere j (M.chg j (onL f))
theorem tm_m1 {W : WX} {j : Nat} {m : M D} {f : D → List D → Option (D × List D)} {r : V → List V → Hp → VK → Prop}
    (hr : ∀ {S H : Hp} {a : Addr} {vs : List V} {ds ds' : List D} {x : V} {y o : D} {Q : VK}, H a = some (.lst vs) → RpA X.K X.mg S vs ds → Rp X.K X.mg S x y → f y ds = some (o, ds') → (∀ vs', RpA X.K X.mg S vs' ds' → ∀ v, Rp X.K X.mg S v o → Q v (upd H a (.lst vs'))) → r (.ref a) [x] H Q) :
    ∀ σ H Q, tM X.K X.mg W (RD X.K X.mg) (mM1 j f m) σ H Q → tBM X.K "list" r (tVar j) (tCons (tM X.K X.mg W (RD X.K X.mg) m) tNil) σ H Q := fun σ H Q ⟨env, S, rl, g⟩ => by
  obtain ⟨⟨a, vs, e1, e2⟩, g⟩ := Go.here rl g
  refine ⟨.ref a, e1, tyV_lst e2, g.part nmD rl fun x H1 env1 S1 y st ra g1 => ?_⟩
  obtain ⟨a', vs', ds, o, ds', k1, k2, k3, k4, k5⟩ := Go.chgL st.rel g1
  rw [e1] at k1
  cases k1
  exact hr k2 k3 ra k4 fun vs2 h2 v hv => k5 vs2 h2 v fun env' => hv
theorem tm_m0 {W : WX} {j : Nat} {f : List D → Option (D × List D)} {r : V → List V → Hp → VK → Prop}
    (hr : ∀ {S H : Hp} {a : Addr} {vs : List V} {ds ds' : List D} {o : D} {Q : VK}, H a = some (.lst vs) → RpA X.K X.mg S vs ds → f ds = some (o, ds') → (∀ vs', RpA X.K X.mg S vs' ds' → ∀ v, Rp X.K X.mg S v o → Q v (upd H a (.lst vs'))) → r (.ref a) [] H Q) :
    ∀ σ H Q, tM X.K X.mg W (RD X.K X.mg) (mM0 j f) σ H Q → tBM0 X.K "list" r (tVar j) σ H Q := fun σ H Q ⟨env, S, rl, g⟩ => by
  obtain ⟨⟨a, vs, e1, e2⟩, g⟩ := Go.here rl g
  obtain ⟨a', vs', ds, o, ds', k1, k2, k3, k4, k5⟩ := Go.chgL rl g
  rw [e1] at k1
  cases k1
  exact ⟨.ref a, e1, tyV_lst e2, hr k2 k3 k4 fun vs2 h2 v hv => k5 vs2 h2 v fun env' => hv⟩
def fApp (x : D) (ds : List D) : Option (D × List D) := if szOk ds.length then some (.non, ds ++ [x]) else none
def fPopAt (k : D) (ds : List D) : Option (D × List D) := match k with
  | .int i => if decide (-(2 ^ 62) ≤ i) && decide (i < 2 ^ 62) then (seqIndex? i ds.length).bind fun n => (ds[n]?).bind fun d => some (d, ds.eraseIdx n) else none
  | _ => none
def fPop (ds : List D) : Option (D × List D) := (ds[ds.length - 1]?).bind fun d => some (d, ds.dropLast)
theorem RpA.dropLast {K : PySem.W.Frag} {mg : Str → Option Value} {S : Hp} {ds : List D} {vs : List V} (h : RpA K mg S vs ds) : RpA K mg S vs.dropLast ds.dropLast := by
  rw [List.dropLast_eq_take, List.dropLast_eq_take, h.len]
  exact h.take _
section
variable {j : Nat} {x : Str} {e : Expr} {m : M D} {p1 p2 pos : Pos}
theorem sv_append (hv : PE X (.Name x p1) (tVar j)) (he : SV X e m) (hbase : attributeBase (.Name x p1) "append" X.env (eval (.Name x p1) X.env) = eval (.Name x p1) X.env := by rfl)
    (hfew : ((backTo pos (starEach (e :: []) X.env)).all (fun x => !x.1) && (backToKw pos (keywordEach [] X.env)).all (fun x => x.1.isSome) && decide ((e :: []).length + ([] : List Keyword).length + (if ([] : List Keyword).isEmpty then 0 else 1) < 30)) = true := by rfl)
    (hline : (p2.endLine == pos.line) = true := by rfl) (hs : starEach (e :: []) X.env = (false, eval e X.env) :: starEach [] X.env := by rfl) : SV X (.Call (.Attribute (.Name x p1) "append" p2) [e] [] pos) (mM1 j fApp m) := fun W tk =>
  pe_imp (pe_bm PySem.F.plainAttrs_list PySem.F.slot_list_append PySem.F.type_list_append mt_append hv (pa_cons (he W tk) pa_nil hs) hbase hfew hline hs) (tm_m1 fun {S H a vs ds ds' x y o Q} h1 h2 h3 h4 q => by
    unfold fApp at h4
    split at h4
    · rename_i hz
      cases h4
      exact ⟨a, vs, x, rfl, rfl, h1, by rw [h2.len]; exact szOk_lt hz, q _ (h2.app (.one h3)) _ .non⟩
    · cases h4)
theorem sv_popAt (hv : PE X (.Name x p1) (tVar j)) (he : SV X e m) (hbase : attributeBase (.Name x p1) "pop" X.env (eval (.Name x p1) X.env) = eval (.Name x p1) X.env := by rfl)
    (hfew : ((backTo pos (starEach (e :: []) X.env)).all (fun x => !x.1) && (backToKw pos (keywordEach [] X.env)).all (fun x => x.1.isSome) && decide ((e :: []).length + ([] : List Keyword).length + (if ([] : List Keyword).isEmpty then 0 else 1) < 30)) = true := by rfl)
    (hline : (p2.endLine == pos.line) = true := by rfl) (hs : starEach (e :: []) X.env = (false, eval e X.env) :: starEach [] X.env := by rfl) : SV X (.Call (.Attribute (.Name x p1) "pop" p2) [e] [] pos) (mM1 j fPopAt m) := fun W tk =>
  pe_imp (pe_bm PySem.F.plainAttrs_list PySem.F.slot_list_pop PySem.F.type_list_pop mt_popAt hv (pa_cons (he W tk) pa_nil hs) hbase hfew hline hs) (tm_m1 fun {S H a vs ds ds' x y o Q} h1 h2 h3 h4 q => by
    cases y with
    | int i =>
      have h5 : (if (decide (-(2 ^ 62) ≤ i) && decide (i < 2 ^ 62)) = true then (seqIndex? i ds.length).bind fun n => (ds[n]?).bind fun d => some (d, ds.eraseIdx n) else none) = some (o, ds') := h4
      split at h5
      · rename_i hz
        simp only [Bool.and_eq_true, decide_eq_true_eq] at hz
        cases en : seqIndex? i ds.length with
        | none => simp [en] at h5
        | some n =>
          cases ed : ds[n]? with
          | none => simp [en, ed] at h5
          | some d =>
            simp only [en, ed, Option.bind_some] at h5
            cases h5
            cases h3
            obtain ⟨v, ev, rv⟩ := h2.get ed
            exact ⟨a, vs, i, n, v, rfl, rfl, h1, by omega, by omega, by rw [h2.len]; exact en, ev, q _ (h2.erase n) _ rv⟩
      · cases h5
    | _ => cases h4)
theorem sv_pop (hv : PE X (.Name x p1) (tVar j)) (hbase : attributeBase (.Name x p1) "pop" X.env (eval (.Name x p1) X.env) = eval (.Name x p1) X.env := by rfl) (hline : (p2.endLine == pos.line) = true := by rfl) :
    SV X (.Call (.Attribute (.Name x p1) "pop" p2) [] [] pos) (mM0 j fPop) := fun W tk =>
  pe_imp (pe_bm0 PySem.F.plainAttrs_list PySem.F.slot_list_pop PySem.F.type_list_pop mt_pop hv hbase hline) (tm_m0 fun {S H a vs ds ds' o Q} h1 h2 h4 q => by
    unfold fPop at h4
    cases ed : ds[ds.length - 1]? with
    | none => simp [ed] at h4
    | some d =>
      simp only [ed, Option.bind_some] at h4
      cases h4
      obtain ⟨v, ev, rv⟩ := h2.get ed
      exact ⟨a, vs, v, rfl, rfl, h1, by rw [h2.len]; exact ev, q _ h2.dropLast _ rv⟩)
end
/-! xs[i] = e -/
def fSetIx (i x : D) (ds : List D) : Option (Unit × List D) := match i with
  | .int k => (ixN ds.length k).bind fun n => some ((), ds.set n x)
  | _ => none
def mSetIx (j : Nat) (mx mi : M D) : MS := mThen mx fun x env => if isL env[j]? then mThen mi (fun i env => (chg j (onL (fSetIx i x)) env).bind fun p => some (.nx p.2)) env else none
theorem isL_some {K : PySem.W.Frag} {mg : Str → Option Value} {env : Env} {σ : St} {S H : Hp} {j : Nat} (r : Rel K mg env σ S H) (hl : isL env[j]? = true) : ∃ a vs, σ[j]? = some (some (.ref a)) ∧ H a = some (.lst vs) := by
  unfold isL at hl
  cases hj : env[j]? with
  | none => simp [hj] at hl
  | some s =>
    simp only [hj] at hl
    cases hm : s.mut with
    | none => simp [hm] at hl
    | some d =>
      obtain ⟨a, ho, e1, e2, e3, e4⟩ := (r.sl j s hj).mut hm
      cases e4 with
      | lst _ => exact ⟨a, _, e1, e3⟩
      | dct _ _ _ => simp [hm] at hl
      | ins _ _ _ _ => simp [hm] at hl
theorem ss_setIx {j : Nat} {x : Str} {i e : Expr} {mx mi : M D} {p1 p2 pos : Pos} (he : SV X e mx) (hv : PE X (.Name x p1) (tVar j)) (hi : SV X i mi)
    (ha : ∀ v, assign (.Subscript (.Name x p1) i p2) X.env v = (do
      let ov ← holding [v] (eval (.Name x p1) X.env)
      let iv ← holding [v, ov] (eval i X.env)
      standAt p2
      holding [v, ov, iv] (setItem ov iv v)
      release [v, ov, iv] []) := by intro _; rfl)
    (hs : swapsWithSole [.Subscript (.Name x p1) i p2] e pos.line X.env = pure false := by rfl) (hw : swappedStores [.Subscript (.Name x p1) i p2] e X.env = pure none := by rfl)
    (h1 : (assignEach [.Subscript (.Name x p1) i p2] X.env).map (·.2) = [assign (.Subscript (.Name x p1) i p2) X.env] := by rfl) : SS X (.Assign [.Subscript (.Name x p1) i p2] e pos) (mSetIx j mx mi) := fun W tk =>
  ps_imp (ps_asg (he W tk) (pg_sub hv (hi W tk) set_list ha) hs hw h1) fun E σ H ⟨env, S, r, g⟩ =>
  g.part r fun v H1 env1 S1 x st ra g1 _ => by
    dsimp only [GoS] at g1
    by_cases hl : isL env1[j]? = true
    · rw [if_pos hl] at g1
      obtain ⟨a, vs, e1, e2⟩ := isL_some st.rel hl
      refine ⟨.ref a, e1, GoS.part st.rel g1 fun w H2 env2 S2 i st2 rb g2 _ => ?_⟩
      dsimp only [GoS] at g2
      cases hc : chg j (onL (fSetIx i x)) env2 with
      | none => exact (show False by simpa [hc, PostS] using g2).elim
      | some p =>
        obtain ⟨o, env3⟩ := p
        simp only [hc, Option.bind_some] at g2
        obtain ⟨s, d, d', k1, k2, k3, rfl⟩ := chg_some hc
        obtain ⟨ds, ds', rfl, k4, rfl⟩ := onL_some k3
        obtain ⟨a', ho, q1, q2, q3, q4⟩ := (st2.rel.sl j s k1).mut k2
        rw [e1] at q1
        cases q1
        cases q4 with
        | lst r1 =>
          cases i with
          | int k =>
            cases rb
            cases en : ixN ds.length k with
            | none => simp [fSetIx, en] at k4
            | some n =>
              simp only [fSetIx, en, Option.bind_some] at k4
              cases k4
              refine ⟨a, _, k, n, rfl, rfl, q3, by rw [r1.len]; exact en, ?_⟩
              exact g2 σ S2 _ ((Step.refl st2.rel).change k1 k2 e1 (.lst (r1.set (Rp.mono st2.ext ra) n)))
          | _ => cases k4
    · rw [if_neg hl] at g1
      exact g1.elim
end Z
end

section
set_option Elab.async false
set_option linter.all false
set_option maxRecDepth 100000
set_option autoImplicit false
/-! Loops, comprehensions. -/
namespace Z
open PySem L2
variable {X : Cx}

/-! ### what is walked -/
def Yields (K : PySem.W.Frag) (mg : Str → Option Value) (S1 : Hp) (ds : List D) (Y : Nat → Hp → V → Hp → Prop) : Prop :=
  ∀ (i : Nat) (H : Hp) (x : V) (H' : Hp), i < ds.length → Y i H x H' → ∀ (env : Env) (σ : St) (S' : Hp), Rel K mg env σ S' H → Same S1 S' → ∃ S'' d, Step K mg env σ S' H env σ S'' H' ∧ ds[i]? = some d ∧ Rp K mg S'' x d
def tI (K : PySem.W.Frag) (mg : Str → Option Value) (W : WX) (m : M (List D)) : TI := fun σ H R => ∃ env S, Rel K mg env σ S H ∧ (match m env with
  | none => False
  | some (.ok ds env1) => ∀ (J : It) (G : Hp → Prop) (Y : Nat → Hp → V → Hp → Prop) (S1 H1 : Hp), Step K mg env σ S H env1 σ S1 H1 → Walk J ds.length G Y → (∀ S' H', Same S1 S' → Same S' H' → G H') → Yields K mg S1 ds Y → R J H1
  | some (.ex c ns ds env1) => ∀ C d fv S' H', mg c = some (.ref C) → Step K mg env σ S H env1 σ S' H' → H' d = some (.xd fv) → fv.map (·.1) = ns → RpA K mg S' (fv.map (·.2)) ds → W (.ref C) (some d) σ H')
def SI (X : Cx) (tg iter : Expr) (m : M (List D)) : Prop := ∀ W, Takes X W → PI X tg iter (tI X.K X.mg W m)
theorem pi_imp {tg it : Expr} {t t' : TI} (h : PI X tg it t) (i : ∀ σ H R, t' σ H R → t σ H R) : PI X tg it t' := ⟨fun pins s σ H R I q => h.run pins s σ H R I (i σ H R q)⟩
theorem pi_or {tg it : Expr} {t t' : TI} (h : PI X tg it t) (h' : PI X tg it t') : PI X tg it (fun σ H R => t σ H R ∨ t' σ H R) := ⟨fun pins s σ H R I q => q.elim (h.run pins s σ H R I) (h'.run pins s σ H R I)⟩
/-- the same of a value, its parts walked -/
def mIt (f : D → Option (List D)) (m : M D) : M (List D) := m.bind fun d => M.of fun _ => f d
theorem tI_of {W : WX} {f : D → Option (List D)} {m : M D} {σ : St} {H : Hp} {R : It → Hp → Prop} {te : TI}
    (hok : ∀ env S d ds env1, Rel X.K X.mg env σ S H → m env = some (.ok d env1) → f d = some ds →
      (∀ (J : It) (G : Hp → Prop) (Y : Nat → Hp → V → Hp → Prop) (S1 H1 : Hp), Step X.K X.mg env σ S H env1 σ S1 H1 → Walk J ds.length G Y → (∀ S' H', Same S1 S' → Same S' H' → G H') → Yields X.K X.mg S1 ds Y → R J H1) → te σ H R)
    (hex : ∀ env S c ns ds env1, Rel X.K X.mg env σ S H → m env = some (.ex c ns ds env1) → (∀ C d fv S' H', X.mg c = some (.ref C) → Step X.K X.mg env σ S H env1 σ S' H' → H' d = some (.xd fv) → fv.map (·.1) = ns → RpA X.K X.mg S' (fv.map (·.2)) ds → W (.ref C) (some d) σ H') → te σ H R)
    (h : tI X.K X.mg W (mIt f m) σ H R) : te σ H R := by
  obtain ⟨env, S, rl, g⟩ := h
  unfold mIt M.bind M.of at g
  cases hm : m env with
  | none => simp only [hm] at g
  | some x =>
    cases x with
    | ex c ns ds env1 =>
      simp only [hm] at g
      exact hex env S c ns ds env1 rl hm g
    | ok d env1 =>
      simp only [hm] at g
      cases hf : f d with
      | none => simp only [hf] at g
      | some ds =>
        simp only [hf] at g
        exact hok env S d ds env1 rl hm hf g
theorem go_ok {W : WX} {m : M D} {env env1 : Env} {σ : St} {S H : Hp} {d : D} {Q : V → Hp → Prop} (rl : Rel X.K X.mg env σ S H) (hm : m env = some (.ok d env1)) (h : ∀ v S1 H1, Step X.K X.mg env σ S H env1 σ S1 H1 → Rp X.K X.mg S1 v d → Q v H1) : tM X.K X.mg W (RD X.K X.mg) m σ H Q := by
  refine ⟨env, S, rl, ?_⟩
  unfold Go
  simp only [hm]
  exact h
theorem go_ex {W : WX} {m : M D} {env env1 : Env} {σ : St} {S H : Hp} {c : Str} {ns : List Str} {ds : List D} {Q : V → Hp → Prop} (rl : Rel X.K X.mg env σ S H) (hm : m env = some (.ex c ns ds env1))
    (h : ∀ C d fv S' H', X.mg c = some (.ref C) → Step X.K X.mg env σ S H env1 σ S' H' → H' d = some (.xd fv) → fv.map (·.1) = ns → RpA X.K X.mg S' (fv.map (·.2)) ds → W (.ref C) (some d) σ H') : tM X.K X.mg W (RD X.K X.mg) m σ H Q := by
  refine ⟨env, S, rl, ?_⟩
  unfold Go
  simp only [hm]
  exact h
theorem yields_at {S1 : Hp} {vs : List V} {ds : List D} (r : RpA X.K X.mg S1 vs ds) : Yields X.K X.mg S1 ds (YAt vs) := fun i H x H' hi ⟨e, hx⟩ env σ S' rl sm => by
  subst e
  obtain ⟨d, e1, e2⟩ := r.getV hx
  exact ⟨S', d, Step.refl rl, e1, e2.mono sm⟩
def items : D → Option (List D)
  | .lst ds => some ds
  | .tup ds => some ds
  | _ => none
theorem si_seq {tg e : Expr} {m : M D} (h : SV X e m) : SI X tg e (mIt items m) := fun W tk =>
  pi_imp (pi_or (pi_list (h W tk)) (pi_tup (h W tk))) fun σ H R q => tI_of (te := fun σ H R => iList X.K (tM X.K X.mg W (RD X.K X.mg) m) σ H R ∨ iTup X.K (tM X.K X.mg W (RD X.K X.mg) m) σ H R) (fun env S d ds env1 rl hm hf g => by
    cases d with
    | lst es =>
      cases hf
      refine .inl (go_ok rl hm fun v S1 H1 st rv => ?_)
      cases rv with
      | lst a b =>
        refine ⟨_, rfl, ⟨_, .of (st.rel.sub _ _ a)⟩, g _ _ _ S1 H1 st (by rw [← b.len]; exact walk_list (K := X.K)) (fun S' H' s1 s2 => SqL.of (K := X.K) (s2 _ _ (s1 _ _ a))) (yields_at b)⟩
    | tup es =>
      cases hf
      refine .inr (go_ok rl hm fun v S1 H1 st rv => ?_)
      cases rv with
      | tup a b =>
        refine ⟨_, rfl, ⟨_, same_tup st.rel.sub a⟩, g _ _ _ S1 H1 st (by rw [← b.len]; exact walk_tup (K := X.K)) (fun S' H' s1 s2 => same_tup s2 (same_tup s1 a)) (yields_at b)⟩
    | _ => cases hf) (fun env S c ns ds env1 rl hm g => .inl (go_ex rl hm g)) q
/-- 0, 1, .. below n -/
def rng (n : Nat) : List D := (List.range n).map fun i => D.int (i : Nat)
theorem rng_len (n : Nat) : (rng n).length = n := by unfold rng; rw [List.length_map, List.length_range]
def okR (i : Int) : Bool := decide (-(2 ^ 61) ≤ i) && decide (i < 2 ^ 61)
theorem okR_of {i : Int} (h : okR i = true) : -(2 ^ 62) ≤ i ∧ i < 2 ^ 62 := by
  unfold okR at h
  simp only [Bool.and_eq_true, decide_eq_true_eq] at h
  omega
def itR1 : D → Option (List D)
  | .int i => if okR i then some (rng i.toNat) else none
  | _ => none
theorem yields_rng {S1 : Hp} {lo : Int} {ds : List D} (h : ∀ i, i < ds.length → ds[i]? = some (.int (lo + (i : Nat)))) : Yields X.K X.mg S1 ds (YFn fun i => .int (lo + (i : Nat))) := fun i H x H' hi ⟨e, hx⟩ env σ S' rl sm => by
  subst e
  subst hx
  exact ⟨S', _, Step.refl rl, h i hi, .int _⟩
theorem si_range1 {tg a : Expr} {m : M D} {p pos : Pos} (h : SV X a m) (hm : X.mg "range" = none) (hg : Gl X "range" := by rfl) (he : starEach [a] X.env = (false, eval a X.env) :: starEach [] X.env := by rfl) (hs : starEach [a] X.env = [(false, eval a X.env)] := by rfl) : SI X tg (.Call (.Name "range" p) [a] [] pos) (mIt itR1 m) := fun W tk =>
  pi_imp (pi_range1 hg hm (pa_cons (h W tk) pa_nil he) hs) fun σ H R q => tI_of (te := iRng1 (tCons (tM X.K X.mg W (RD X.K X.mg) m) tNil)) (fun env S d ds env1 rl hm hf g => by
    cases d with
    | int i =>
      have hf' : (if okR i = true then some (rng i.toNat) else none) = some ds := hf
      split at hf'
      · rename_i hc
        cases hf'
        obtain ⟨b1, b2⟩ := okR_of hc
        refine go_ok rl hm fun v S1 H1 st rv => ?_
        cases rv
        refine ⟨i, rfl, b1, b2, g _ _ _ S1 H1 st (by rw [rng_len]; exact walk_range) (fun _ _ _ _ => trivial) (yields_rng fun i hi => ?_)⟩
        rw [rng_len] at hi
        unfold rng
        rw [List.getElem?_map, List.getElem?_range hi, Int.zero_add]
        rfl
      · cases hf'
    | _ => cases hf) (fun env S c ns ds env1 rl hm g => go_ex rl hm g) q

/-! ### targets -/
abbrev TgM := D → Env → Option Env
/-- nothing but the slots js is another -/
def But (js : List Nat) (σ σ' : St) : Prop := σ'.length = σ.length ∧ ∀ i, i ∉ js → σ'[i]? = σ[i]?
def tG (K : PySem.W.Frag) (mg : Str → Option Value) (t : TgM) (js : List Nat) : TG := fun v σ H Q => ∃ env S d env', Rel K mg env σ S H ∧ Rp K mg S v d ∧ t d env = some env' ∧ ∀ σ' S' H', Step K mg env σ S H env' σ' S' H' → But js σ σ' → Q σ' H'
def SG (X : Cx) (tg : Expr) (t : TgM) (js : List Nat) : Prop := PG X tg (tG X.K X.mg t js)
theorem pg_imp {tg : Expr} {t t' : TG} (h : PG X tg t) (i : ∀ v σ H Q, t' v σ H Q → t v σ H Q) : PG X tg t' := ⟨fun pins s σ H v u Q I r q => h.run pins s σ H v u Q I r (i v σ H Q q)⟩
def gN (j : Nat) : TgM := fun d env => setSl j (.v d) env
theorem sg_name {j : Nat} {x : Str} {pos : Pos} (hN : X.N.Nodup) (hi : X.N[j]? = some x) (hx : Loc X.env.scope x) (hf : X.fn x = true ∨ X.env.scope.names.lookup x = some .local) : SG X (.Name x pos) (gN j) [j] :=
  pg_imp (pg_name hN hi hx hf) fun v σ H Q ⟨env, S, d, env', r, rv, e, q⟩ => by
    obtain ⟨c1, c2, rfl⟩ := setSl_some e
    exact q _ S H ((Step.refl r).assign c1 c2 ⟨v, rfl, rv⟩ fun _ z => by cases z) ⟨List.length_set .., fun i hi => List.getElem?_set_ne (fun z => hi (by rw [z]; exact List.mem_singleton.mpr rfl))⟩
/-- a, b, .. = a tuple -/
abbrev TgsM := List D → Env → Option Env
def tGs (K : PySem.W.Frag) (mg : Str → Option Value) (t : TgsM) (js : List Nat) : TGs := fun vs σ H Q => ∃ env S ds env', Rel K mg env σ S H ∧ RpA K mg S vs ds ∧ t ds env = some env' ∧ ∀ σ' S' H', Step K mg env σ S H env' σ' S' H' → But js σ σ' → Q σ' H'
def SGs (X : Cx) (tgs : List Expr) (t : TgsM) (js : List Nat) : Prop := PGs X tgs (tGs X.K X.mg t js)
theorem pgs_imp {tgs : List Expr} {t t' : TGs} (h : PGs X tgs t) (i : ∀ v σ H Q, t' v σ H Q → t v σ H Q) : PGs X tgs t' := ⟨fun pins s σ H v u Q I r q => h.run pins s σ H v u Q I r (i v σ H Q q)⟩
def gsNil : TgsM := fun ds env => match ds with
  | [] => some env
  | _ => none
def gsCons (t : TgM) (u : TgsM) : TgsM := fun ds env => match ds with
  | d :: ds => (t d env).bind fun env1 => u ds env1
  | [] => none
theorem sgs_nil : SGs X [] gsNil [] := pgs_imp pgs_nil fun vs σ H Q ⟨env, S, ds, env', r, rv, e, q⟩ => by
  cases ds with
  | nil =>
    cases e
    cases rv
    exact ⟨rfl, q σ S H (Step.refl r) ⟨rfl, fun _ _ => rfl⟩⟩
  | cons d ds => cases e
theorem sgs_cons {e : Expr} {es : List Expr} {t : TgM} {u : TgsM} {is js : List Nat} (h1 : SG X e t is) (h2 : SGs X es u js) (hs : (assignEach (e :: es) X.env).map (·.2) = assign e X.env :: (assignEach es X.env).map (·.2) := by rfl) : SGs X (e :: es) (gsCons t u) (is ++ js) :=
  pgs_imp (pgs_cons h1 h2 hs) fun vs σ H Q ⟨env, S, ds, env', r, rv, e, q⟩ => by
    cases ds with
    | nil => cases e
    | cons d ds =>
      cases rv with
      | cons rv rvs =>
        have e' : (t d env).bind (fun env1 => u ds env1) = some env' := e
        cases e1 : t d env with
        | none => simp [e1] at e'
        | some env1 =>
          simp only [e1, Option.bind_some] at e'
          exact ⟨_, _, rfl, env, S, d, env1, r, rv, e1, fun σ1 S1 H1 st b1 => ⟨env1, S1, ds, env', st.rel, rvs.mono st.ext, e', fun σ2 S2 H2 st2 b2 => q σ2 S2 H2 (st.trans st2) ⟨b2.1.trans b1.1, fun i hi => (b2.2 i fun z => hi (List.mem_append_right _ z)).trans (b1.2 i fun z => hi (List.mem_append_left _ z))⟩⟩⟩
def gT (t : TgsM) : TgM := fun d env => match d with
  | .tup ds => t ds env
  | _ => none
theorem sg_tup {es : List Expr} {k : Nat} {t : TgsM} {js : List Nat} {n : Nat} {pos : Pos} (hc : X.calm = true) (h : SGs X es t js) (ht : ∀ ds env env', t ds env = some env' → ds.length = n) (hn : (assignEach es X.env).length = n := by rfl) (hst : (assignEach es X.env).findIdx? (·.1) = none := by rfl) : SG X (.Tuple es k pos) (gT t) js :=
  pg_imp (pg_tup hc h hn hst) fun v σ H Q ⟨env, S, d, env', r, rv, e, q⟩ => by
    cases d with
    | tup ds =>
      cases rv with
      | tup a b => exact ⟨_, _, rfl, same_tup r.sub a, by rw [b.len]; exact ht ds env env' e, env, S, ds, env', r, b, e, q⟩
    | _ => cases e
theorem gs2_len {t u : TgM} {ds : List D} {env env' : Env} (h : gsCons t (gsCons u gsNil) ds env = some env') : ds.length = 2 := by
  cases ds with
  | nil => cases h
  | cons a ds =>
    unfold gsCons at h
    cases e1 : t a env with
    | none => simp [e1] at h
    | some env1 =>
      simp only [e1, Option.bind_some] at h
      cases ds with
      | nil => cases h
      | cons b ds =>
        dsimp only at h
        cases e2 : u b env1 with
        | none => simp [e2] at h
        | some env2 =>
          simp only [e2, Option.bind_some] at h
          cases ds with
          | nil => rfl
          | cons c ds => cases h
/-- a target = a value, the value unpacked -/
def mUnp (t : TgM) (m : M D) : MS := mThen m fun d env => (t d env).bind fun env' => some (.nx env')
theorem ss_unp {tg e : Expr} {m : M D} {t : TgM} {js : List Nat} {pos : Pos} (he : SV X e m) (hg : SG X tg t js) (hs : swapsWithSole [tg] e pos.line X.env = pure false := by rfl) (hw : swappedStores [tg] e X.env = pure none := by rfl)
    (h1 : (assignEach [tg] X.env).map (·.2) = [assign tg X.env] := by rfl) : SS X (.Assign [tg] e pos) (mUnp t m) := fun W tk => ps_imp (ps_asg (he W tk) hg hs hw h1) fun E σ H ⟨env, S, r, g⟩ =>
  g.part r fun v H1 env1 S1 d st ra g1 g2 => by
    dsimp only [GoS] at g1
    cases e1 : t d env1 with
    | none => exact (show False by simpa [e1, PostS] using g1).elim
    | some env2 =>
      simp only [e1, Option.bind_some] at g1
      exact ⟨env1, S1, d, env2, st.rel, ra, e1, fun σ' S' H' st' _ => g1 σ' S' H' st'⟩

/-! ### for -/
def forL (t : TgM) (b : MS) : List D → MS
  | [] => fun env => some (.nx env)
  | d :: ds => fun env => match t d env with
    | none => none
    | some env1 => match b env1 with
      | some (.nx env2) => forL t b ds env2
      | some (.ct env2) => forL t b ds env2
      | some (.bk env2) => some (.nx env2)
      | o => o
def mFor (it : M (List D)) (t : TgM) (b : MS) : MS := mThen it fun ds => forL t b ds
theorem ss_for {tg iter : Expr} {body : List Stmt} {it : M (List D)} {t : TgM} {js : List Nat} {b : MS} {pos : Pos} (hp : PassesOwn (model X.prog X.w) X.A X.env X.xe) (hc : X.calm = true) (hi : SI X tg iter it) (hg : SG X tg t js) (hb : SSs X body b)
    (hs : ∀ x, foldedSetIterable iter X.env x = pure x := by intro _; rfl) : SS X (.For tg iter body [] pos) (mFor it t b) := fun W tk => ps_imp (ps_for hp hc (hi W tk) hg (hb W tk) hs) fun E σ H ⟨env, S, r, g⟩ => by
  refine ⟨env, S, r, ?_⟩
  dsimp only [GoS] at g
  unfold mFor mThen at g
  cases hm : it env with
  | none => simp only [hm] at g; exact g
  | some x =>
    cases x with
    | ex c ns ds e =>
      simp only [hm] at g
      exact fun C d fv S' H' hc st => g C d fv σ S' H' hc st
    | ok ds env1 =>
      simp only [hm] at g
      intro J G Y S1 H1 st wk hG hY
      refine for_it wk (fun i σ' H' => ∃ env' S', Step X.K X.mg env σ S H env' σ' S' H' ∧ Same S1 S' ∧ PostS X.K X.mg W (forL t b (ds.drop i) env') env σ S H E) ⟨env1, S1, st, Same.refl S1, g⟩ (fun i σ' H' _ ⟨env', S', st', sm, _⟩ => hG S' H' sm st'.rel.sub) (fun i x σ' H' H'' hi ⟨env', S', st', sm, g'⟩ y => ?_) (fun σ' H' ⟨env', S', st', sm, g'⟩ => ?_)
      · obtain ⟨S'', d, st2, ed, rd⟩ := hY i H' x H'' hi y env' σ' S' st'.rel sm
        have hd : ds.drop i = d :: ds.drop (i + 1) := by
          obtain ⟨h1, h2⟩ := List.getElem?_eq_some_iff.mp ed
          rw [← h2, List.drop_eq_getElem_cons h1]
        rw [hd] at g'
        unfold forL at g'
        cases et : t d env' with
        | none => simp only [et] at g'; exact g'.elim
        | some env2 =>
          simp only [et] at g'
          have st3 := st'.trans st2
          refine ⟨env', S'', d, env2, st2.rel, rd, et, fun σ2 S2 H2 st4 _ => ?_⟩
          have st5 := st3.trans st4
          refine ⟨env2, S2, st5.rel, ?_⟩
          dsimp only [GoS]
          have sm2 : Same S1 S2 := sm.trans (st2.ext.trans st4.ext)
          cases eb : b env2 with
          | none => simp only [eb] at g'; exact g'.elim
          | some o =>
            cases o with
            | nx e => simp only [eb] at g'; exact fun σ6 S6 H6 st6 => ⟨e, S6, st5.trans st6, sm2.trans st6.ext, g'⟩
            | ct e => simp only [eb] at g'; exact fun σ6 S6 H6 st6 => ⟨e, S6, st5.trans st6, sm2.trans st6.ext, g'⟩
            | bk e => simp only [eb] at g'; exact fun σ6 S6 H6 st6 => g' σ6 S6 H6 (st5.trans st6)
            | rt rr e => simp only [eb] at g'; exact PostS.from (o := some (.rt rr e)) st5 g'
            | ex c ns es e => simp only [eb] at g'; exact PostS.from (o := some (.ex c ns es e)) st5 g'
      · rw [List.drop_length] at g'
        exact g' σ' S' H' st'

/-! ### while -/
def whL (t : M Bool) (b : MS) : Nat → MS
  | 0 => fun _ => none
  | n + 1 => fun env => match t env with
    | none => none
    | some (.ok true env1) => (match b env1 with
      | some (.nx env2) => whL t b n env2
      | some (.ct env2) => whL t b n env2
      | some (.bk env2) => some (.nx env2)
      | o => o)
    | some (.ok false env1) => some (.nx env1)
    | some (.ex c ns vs e) => some (.ex c ns vs e)
theorem ss_while {c : Expr} {body : List Stmt} {t : M Bool} {b : MS} {n : Nat} {pos : Pos} (hp : PassesOwn (model X.prog X.w) X.A X.env X.xe) (hc : ST X c t) (hb : SSs X body b) : SS X (.While c body [] pos) (whL t b n) := fun W tk => ps_imp (ps_while hp (hc W tk) (hb W tk)) fun E σ H ⟨env, S, r, g⟩ => by
  refine ⟨fun m σ' H' => ∃ env' S', Step X.K X.mg env σ S H env' σ' S' H' ∧ PostS X.K X.mg W (whL t b m env') env σ S H E, ⟨n, env, S, Step.refl r, g⟩, fun m σ' H' ⟨env', S', st, g'⟩ => ?_⟩
  cases m with
  | zero => exact g'.elim
  | succ m =>
    refine ⟨env', S', st.rel, ?_⟩
    unfold whL at g'
    unfold Go
    cases ht : t env' with
    | none => simp only [ht] at g'; exact g'
    | some x =>
      cases x with
      | ex c ns vs e => simp only [ht] at g'; exact fun C d fv S1 H1 hc st1 => (PostS.from (o := some (.ex c ns vs e)) st g') C d fv σ' S1 H1 hc st1
      | ok v env1 =>
        intro v' S1 H1 st1 ev
        have ev' : v' = v := ev
        subst ev'
        have st2 := st.trans st1
        cases v' with
        | false =>
          simp only [ht] at g'
          exact g' σ' S1 H1 st2
        | true =>
          simp only [ht] at g'
          rw [if_pos rfl]
          refine ⟨fun σ3 H3 => ∃ env3 S3, Step X.K X.mg env σ S H env3 σ3 S3 H3 ∧ PostS X.K X.mg W (whL t b m env3) env σ S H E, fun σ3 H3 q => ⟨m, Nat.lt_succ_self m, q⟩, env1, S1, st2.rel, ?_⟩
          dsimp only [GoS]
          cases eb : b env1 with
          | none => simp only [eb] at g'; exact g'.elim
          | some o =>
            cases o with
            | nx e => simp only [eb] at g'; exact fun σ6 S6 H6 st6 => ⟨e, S6, st2.trans st6, g'⟩
            | ct e => simp only [eb] at g'; exact fun σ6 S6 H6 st6 => ⟨e, S6, st2.trans st6, g'⟩
            | bk e => simp only [eb] at g'; exact fun σ6 S6 H6 st6 => g' σ6 S6 H6 (st2.trans st6)
            | rt rr e => simp only [eb] at g'; exact PostS.from (o := some (.rt rr e)) st2 g'
            | ex c ns es e => simp only [eb] at g'; exact PostS.from (o := some (.ex c ns es e)) st2 g'
end Z
end

section
set_option Elab.async false
set_option linter.all false
set_option maxRecDepth 100000
set_option autoImplicit false
/-! List comprehensions. -/
namespace Z
open PySem L2
variable {X : Cx}

/-- the slots of a block's own names, empty -/
def clr (env : Env) : List Nat → Env
  | [] => env
  | v :: vs => (clr env vs).set v .no
theorem clr_len (env : Env) : ∀ vs, (clr env vs).length = env.length
  | [] => rfl
  | v :: vs => by unfold clr; rw [List.length_set, clr_len env vs]
theorem clr_out {env : Env} {i : Nat} : ∀ {vs : List Nat}, i ∉ vs → (clr env vs)[i]? = env[i]?
  | [], _ => rfl
  | v :: vs, h => by
    rw [List.mem_cons, not_or] at h
    unfold clr
    rw [List.getElem?_set_ne (fun z => h.1 z.symm)]
    exact clr_out h.2
theorem clr_in {env : Env} {i : Nat} {s : Sl} : ∀ {vs : List Nat}, i ∈ vs → (clr env vs)[i]? = some s → s = .no
  | v :: vs, h, e => by
    unfold clr at e
    by_cases hv : v = i
    · subst hv
      rw [List.getElem?_set] at e
      simp only [if_true] at e
      split at e
      · cases e; rfl
      · cases e
    · rw [List.getElem?_set_ne hv] at e
      rcases List.mem_cons.mp h with z | z
      · exact absurd z.symm hv
      · exact clr_in z e
theorem wipe_out {σ : St} {i : Nat} : ∀ {vs : List Nat}, i ∉ vs → (wipe σ vs)[i]? = σ[i]?
  | [], _ => rfl
  | v :: vs, h => by
    rw [List.mem_cons, not_or] at h
    unfold wipe
    rw [List.getElem?_set_ne (fun z => h.1 z.symm)]
    exact wipe_out h.2
section
variable {K : PySem.W.Frag} {mg : Str → Option Value} {env env0 env1 : Env} {σ σ0 σ1 : St} {S S0 S1 H H0 H1 : Hp} {vs : List Nat}
theorem own_clr {i : Nat} {q : Addr} (h : OwnAt (clr env vs) (wipe σ vs) i q) : i ∉ vs ∧ OwnAt env σ i q := by
  obtain ⟨⟨s, d, e, m⟩, hq⟩ := h
  have hi : i ∉ vs := fun z => by
    rw [clr_in z e] at m
    cases m
  rw [clr_out hi] at e
  rw [wipe_out hi] at hq
  exact ⟨hi, ⟨s, d, e, m⟩, hq⟩
theorem Rel.wipe (r : Rel K mg env σ S H) (vs : List Nat) : Rel K mg (clr env vs) (L2.wipe σ vs) S H := by
  refine ⟨by rw [L2.wipe_length, clr_len]; exact r.len, r.sub, fun i s e => ?_, fun i j q h1 h2 => r.inj i j q (own_clr h1).2 (own_clr h2).2⟩
  by_cases hi : i ∈ vs
  · rw [clr_in hi e]
    trivial
  · rw [clr_out hi] at e
    rw [wipe_out hi]
    exact r.sl i s e
/-- the block's slots emptied at a turn's end -/
theorem Step.clear (st : Step K mg env0 σ0 S0 H0 env σ S H) (hio : ∀ v ∈ vs, ∀ d, env0[v]? ≠ some (.io d)) : Step K mg env0 σ0 S0 H0 (clr env vs) (L2.wipe σ vs) S H :=
  ⟨st.rel.wipe vs, st.ext, st.frm, st.new, fun q ⟨i, h⟩ => st.own q ⟨i, (own_clr h).2⟩, fun i d e => by
    have hi : i ∉ vs := fun z => hio i z d e
    rw [clr_out hi, wipe_out hi]
    exact st.io i d e⟩
/-- the outer slots again -/
def unclr (env : Env) (env1 : Env) : List Nat → Env
  | [] => env1
  | v :: vs => match env[v]? with
    | some s => (unclr env env1 vs).set v s
    | none => unclr env env1 vs
theorem unclr_len : ∀ vs, (unclr env env1 vs).length = env1.length
  | [] => rfl
  | v :: vs => by
    unfold unclr
    cases env[v]? with
    | none => exact unclr_len vs
    | some s => show ((unclr env env1 vs).set v s).length = _; rw [List.length_set]; exact unclr_len vs
theorem unclr_out {i : Nat} : ∀ {vs : List Nat}, i ∉ vs → (unclr env env1 vs)[i]? = env1[i]?
  | [], _ => rfl
  | v :: vs, h => by
    rw [List.mem_cons, not_or] at h
    unfold unclr
    cases env[v]? with
    | none => exact unclr_out h.2
    | some s =>
      show ((unclr env env1 vs).set v s)[i]? = _
      rw [List.getElem?_set_ne (fun z => h.1 z.symm)]
      exact unclr_out h.2
theorem unclr_in {i : Nat} (hl : env1.length = env.length) : ∀ {vs : List Nat}, i ∈ vs → (unclr env env1 vs)[i]? = env[i]?
  | v :: vs, h => by
    unfold unclr
    by_cases hv : v = i
    · subst hv
      cases e : env[v]? with
      | none =>
        show (unclr env env1 vs)[v]? = none
        rw [List.getElem?_eq_none_iff] at e ⊢
        rw [unclr_len, hl]
        exact e
      | some s =>
        show ((unclr env env1 vs).set v s)[v]? = some s
        exact List.getElem?_set_self (by rw [unclr_len, hl]; exact (List.getElem?_eq_some_iff.mp e).1)
    · have hm : i ∈ vs := by
        rcases List.mem_cons.mp h with z | z
        · exact absurd z.symm hv
        · exact z
      cases e : env[v]? with
      | none => exact unclr_in hl hm
      | some s =>
        show ((unclr env env1 vs).set v s)[i]? = _
        rw [List.getElem?_set_ne hv]
        exact unclr_in hl hm
theorem Step.unwipe (r : Rel K mg env σ S H) (st : Step K mg (clr env vs) (L2.wipe σ vs) S H env1 (L2.wipe σ vs) S1 H1) : Step K mg env σ S H (unclr env env1 vs) σ S1 H1 := by
  have hl : env1.length = env.length := by
    have h1 := st.rel.len
    have h2 := r.len
    rw [L2.wipe_length] at h1
    omega
  -- what the outer slots in vs own stands apart of the block
  have apart : ∀ {i s d}, i ∈ vs → env[i]? = some s → s.mut = some d → ∃ a ho, σ[i]? = some (some (.ref a)) ∧ H a = some ho ∧ HoR K mg S ho d ∧ H1 a = some ho ∧ S1 a = none ∧ ¬ Own env1 (L2.wipe σ vs) a := fun {i s d} hi e m => by
    obtain ⟨a, ho, h1, h2, h3, h4⟩ := (r.sl i s e).mut m
    have no : ¬ Own (clr env vs) (L2.wipe σ vs) a := fun ⟨k, hk⟩ => by
      obtain ⟨nk, ok⟩ := own_clr hk
      exact nk (r.inj i k a ⟨⟨s, d, e, m⟩, h1⟩ ok ▸ hi)
    obtain ⟨x, y, z⟩ := st.apart h3 h2 no
    exact ⟨a, ho, h1, h3, h4, x, y, z⟩
  have at_ : ∀ i q, OwnAt (unclr env env1 vs) σ i q → (i ∈ vs ∧ OwnAt env σ i q) ∨ (i ∉ vs ∧ OwnAt env1 (L2.wipe σ vs) i q) := fun i q ⟨⟨s, d, e, m⟩, hq⟩ => by
    by_cases hi : i ∈ vs
    · rw [unclr_in hl hi] at e
      exact .inl ⟨hi, ⟨s, d, e, m⟩, hq⟩
    · rw [unclr_out hi] at e
      refine .inr ⟨hi, ⟨s, d, e, m⟩, ?_⟩
      rw [wipe_out hi]
      exact hq
  refine ⟨⟨by rw [unclr_len, hl]; exact r.len, st.rel.sub, fun i s e => ?_, fun i j q h1 h2 => ?_⟩, st.ext, fun q o e n => st.frm q o e fun ⟨k, hk⟩ => n ⟨k, (own_clr hk).2⟩, fun q o e => ?_, fun q ⟨i, h⟩ => ?_, fun i d e => ?_⟩
  · by_cases hi : i ∈ vs
    · rw [unclr_in hl hi] at e
      cases s with
      | no => trivial
      | v d =>
        obtain ⟨v, a, b⟩ := r.sl i _ e
        exact ⟨v, a, b.mono st.ext⟩
      | own d =>
        obtain ⟨a, ho, h1, h3, h4, h5, h6, _⟩ := apart hi e rfl
        exact ⟨a, ho, h1, h6, h5, h4.mono st.ext⟩
      | io d =>
        obtain ⟨a, ho, h1, h3, h4, h5, h6, _⟩ := apart hi e rfl
        exact ⟨a, ho, h1, h6, h5, h4.mono st.ext⟩
    · rw [unclr_out hi] at e
      have q := st.rel.sl i s e
      rw [wipe_out hi] at q
      exact q
  · rcases at_ i q h1 with ⟨i1, o1⟩ | ⟨i1, o1⟩
    · rcases at_ j q h2 with ⟨j1, o2⟩ | ⟨j1, o2⟩
      · exact r.inj i j q o1 o2
      · obtain ⟨⟨s, d, e, m⟩, hq⟩ := o1
        obtain ⟨a, ho, k1, _, _, _, _, k6⟩ := apart i1 e m
        rw [hq] at k1
        cases k1
        exact absurd ⟨j, o2⟩ k6
    · rcases at_ j q h2 with ⟨j1, o2⟩ | ⟨j1, o2⟩
      · obtain ⟨⟨s, d, e, m⟩, hq⟩ := o2
        obtain ⟨a, ho, k1, _, _, _, _, k6⟩ := apart j1 e m
        rw [hq] at k1
        cases k1
        exact absurd ⟨i, o1⟩ k6
      · exact st.rel.inj i j q o1 o2
  · rcases st.new q o e with h | h | ⟨k, hk⟩
    · exact .inl h
    · exact .inr (.inl h)
    · exact .inr (.inr ⟨k, (own_clr hk).2⟩)
  · rcases at_ i q h with ⟨_, o⟩ | ⟨_, o⟩
    · exact .inl ⟨i, o⟩
    · rcases st.own q ⟨i, o⟩ with ⟨k, hk⟩ | z
      · exact .inl ⟨k, (own_clr hk).2⟩
      · exact .inr z
  · refine ⟨rfl, ?_⟩
    by_cases hi : i ∈ vs
    · exact ⟨d, by rw [unclr_in hl hi]; exact e⟩
    · rw [unclr_out hi]
      have e' : (clr env vs)[i]? = some (.io d) := by rw [clr_out hi]; exact e
      exact (st.io i d e').2
/-- an object of nobody's is changed -/
theorem Step.poke (st : Step K mg env0 σ0 S0 H0 env σ S H) {p : Addr} (hp : H0 p = none) (hS : S p = none) (n : ¬ Own env σ p) {u : HO} : Step K mg env0 σ0 S0 H0 env σ S (upd H p u) := by
  refine ⟨⟨st.rel.len, fun b o e => ?_, fun i s e => ?_, st.rel.inj⟩, st.ext, fun q o e no => ?_, st.new, st.own, st.io⟩
  · have nb : b ≠ p := fun z => by
      subst z
      rw [hS] at e
      cases e
    rw [upd_ne nb]
    exact st.rel.sub b o e
  · have q := st.rel.sl i s e
    cases s with
    | no => trivial
    | v _ => exact q
    | own d =>
      obtain ⟨a, ho, h1, h2, h3, h4⟩ := q
      have na : a ≠ p := fun z => by subst z; exact n ⟨i, ⟨_, d, e, rfl⟩, h1⟩
      exact ⟨a, ho, h1, h2, by rw [upd_ne na]; exact h3, h4⟩
    | io d =>
      obtain ⟨a, ho, h1, h2, h3, h4⟩ := q
      have na : a ≠ p := fun z => by subst z; exact n ⟨i, ⟨_, d, e, rfl⟩, h1⟩
      exact ⟨a, ho, h1, h2, by rw [upd_ne na]; exact h3, h4⟩
  · have nq : q ≠ p := fun z => by
      subst z
      rw [hp] at e
      cases e
    rw [upd_ne nq]
    exact st.frm q o e no
end

/-! ### the comprehension -/
def lcL (t : TgM) (ts : M Bool) (el : M D) (vs : List Nat) : List D → List D → M (List D)
  | [], acc => fun env => some (.ok acc env)
  | d :: ds, acc => fun env => match t d env with
    | none => none
    | some env1 => match ts env1 with
      | some (.ok true env2) => (match el env2 with
        | some (.ok y env3) => if szOk acc.length then lcL t ts el vs ds (acc ++ [y]) (clr env3 vs) else none
        | _ => none)
      | some (.ok false env2) => lcL t ts el vs ds acc (clr env2 vs)
      | _ => none
def noIo (env : Env) (vs : List Nat) : Bool := vs.all fun v => !isIo env[v]?
def mLc (it : M (List D)) (t : TgM) (ts : M Bool) (el : M D) (vs : List Nat) : M Rs := fun env => match it env with
  | none => none
  | some (.ex c ns es e) => some (.ex c ns es e)
  | some (.ok ds env1) => if noIo env1 vs then (match lcL t ts el vs ds [] (clr env1 vs) with
    | some (.ok acc env2) => some (.ok (.fr (.lst acc)) (unclr env1 env2 vs))
    | _ => none) else none
def SIf (X : Cx) (ifs : List Expr) (m : M Bool) : Prop := ∀ W, Takes X W → PTs X ifs (tM X.K X.mg W RB m)
theorem sif_nil : SIf X [] (M.ret true) := fun W tk => ⟨fun pins s σ H Q I ⟨env, S, r, g⟩ => pts_nil.run pins s σ H Q I (g.ret (R := RB) r rfl)⟩
theorem sif_one {c : Expr} {m : M Bool} (h : ST X c m) : SIf X [c] m := fun W tk => pts_one (h W tk)
abbrev noW : WX := fun _ _ _ _ => False
theorem takes_blk {s : Shared} {H : Hp} {scope : Scope} {cenv : PySem.Env} {fp : List Addr} : Takes (X.blk s H scope cenv fp) noW := fun u s' ⟨_, _, _, _, _, _, _, _, _, _, _, _, _, _, _, _, w⟩ => w.elim
section
variable {elt tg iter : Expr} {ifs : List Expr} {scope : Scope} {own : List (Str × Nat)} {pos : Pos} {it : M (List D)} {t : TgM} {ts : M Bool} {el : M D}
/-- what the block's parts must show, at every start of the block -/
abbrev BlkG (X : Cx) (scope : Scope) (tg : Expr) (t : TgM) (js : List Nat) : Prop := ∀ (s : Shared) (H : Hp) (C : Addr) (cl : List (Str × Addr)) (fp : List Addr), SG (X.blk s H scope (compEnvC scope cl C X.env) fp) tg t js
abbrev BlkI (X : Cx) (scope : Scope) (ifs : List Expr) (m : M Bool) : Prop := ∀ (s : Shared) (H : Hp) (C : Addr) (cl : List (Str × Addr)) (fp : List Addr), SIf (X.blk s H scope (compEnvC scope cl C X.env) fp) ifs m
abbrev BlkV (X : Cx) (scope : Scope) (e : Expr) (m : M D) : Prop := ∀ (s : Shared) (H : Hp) (C : Addr) (cl : List (Str × Addr)) (fp : List Addr), SV (X.blk s H scope (compEnvC scope cl C X.env) fp) e m
theorem wipe_but {σ σ' : St} {vs : List Nat} (b : But vs (wipe σ vs) σ') : wipe σ' vs = wipe σ vs := by
  have hl : σ'.length = σ.length := by rw [b.1, wipe_length]
  apply List.ext_getElem?
  intro i
  by_cases hi : i ∈ vs
  · have e : ∀ τ : St, ∀ {us : List Nat}, i ∈ us → (wipe τ us)[i]? = if i < τ.length then some none else none := fun τ us => by
      induction us with
      | nil => intro h; cases h
      | cons u us ih =>
        intro h
        unfold wipe
        rw [List.getElem?_set, wipe_length]
        by_cases hu : u = i
        · subst hu
          rw [if_pos rfl]
        · rw [if_neg hu]
          rcases List.mem_cons.mp h with z | z
          · exact absurd z.symm hu
          · exact ih z
    rw [e σ' hi, e σ hi, hl]
  · rw [wipe_out hi, b.2 i hi]
theorem tm_lc {W : WX} {js : List Nat} (hj : ∀ j ∈ js, j ∈ own.map (·.2)) : ∀ σ H Q, tM X.K X.mg W (RR X.K X.mg) (mLc it t ts el (own.map (·.2))) σ H Q → tLc (tI X.K X.mg W it) (tG X.K X.mg t js) (tM X.K X.mg noW RB ts) (tM X.K X.mg noW (RD X.K X.mg) el) (own.map (·.2)) σ H Q := fun σ H Q ⟨env, S, r, g⟩ => by
  generalize own.map (·.2) = vs at g hj ⊢
  refine ⟨env, S, r, ?_⟩
  unfold Go mLc at g
  cases hm : it env with
  | none => simp only [hm] at g
  | some x =>
    cases x with
    | ex c ns ds e =>
      simp only [hm] at g
      exact g
    | ok ds env1 =>
      simp only [hm] at g
      intro J G Y S1 H1 st wk hG hY Dl hD
      by_cases hio : noIo env1 vs = true
      · rw [if_pos hio] at g
        have hio' : ∀ v ∈ vs, ∀ d, (clr env1 vs)[v]? ≠ some (.io d) := fun v hv d e => by cases clr_in hv e
        cases hl : lcL t ts el vs ds [] (clr env1 vs) with
        | none => simp only [hl] at g
        | some y =>
          cases y with
          | ex c ns es e => simp only [hl] at g
          | ok acc env2 =>
            simp only [hl] at g
            -- ahead of the list: the block's own view
            have r1 := st.rel.wipe vs
            have hS1 : S1 Dl = none := st.rel.sub.free hD
            have nD : ¬ Own (clr env1 vs) (wipe σ vs) Dl := fun z => by
              obtain ⟨_, ho, e⟩ := r1.own z
              rw [hD] at e
              cases e
            refine lc_it wk (fun i H' => ∃ env' S' vs' ac', Step X.K X.mg (clr env1 vs) (wipe σ vs) S1 H1 env' (wipe σ vs) S' H' ∧ H' Dl = some (.lst vs') ∧ S' Dl = none ∧ ¬ Own env' (wipe σ vs) Dl ∧ RpA X.K X.mg S' vs' ac' ∧ lcL t ts el vs (ds.drop i) ac' env' = some (.ok acc env2))
              ⟨clr env1 vs, S1, [], [], (Step.refl r1).poke hD hS1 nD, upd_same, hS1, nD, .nil, hl⟩ (fun i H' _ ⟨env', S', vs', ac', st', _⟩ => hG S' H' st'.ext st'.rel.sub) (fun i x H' H'' hi ⟨env', S', vs', ac', st', e1, e2, e3, e4, e5⟩ y => ?_) (fun H' ⟨env', S', vs', ac', st', e1, e2, e3, e4, e5⟩ => ?_)
            · obtain ⟨S2, d, st2, ed, rd⟩ := hY i H' x H'' hi y env' (wipe σ vs) S' st'.rel st'.ext
              have hd : ds.drop i = d :: ds.drop (i + 1) := by
                obtain ⟨h1, h2⟩ := List.getElem?_eq_some_iff.mp ed
                rw [← h2, List.drop_eq_getElem_cons h1]
              rw [hd] at e5
              unfold lcL at e5
              cases et : t d env' with
              | none => simp only [et] at e5; cases e5
              | some env3 =>
                simp only [et] at e5
                obtain ⟨a1, a2, a3⟩ := st2.apart e1 e2 e3
                refine ⟨env', S2, d, env3, st2.rel, rd, et, fun σ3 S3 H3 st3 bt => ?_⟩
                have st03 := (st'.trans st2).trans st3
                obtain ⟨b1, b2, b3⟩ := st3.apart a1 a2 a3
                have hw : wipe σ3 vs = wipe σ vs := wipe_but ⟨bt.1, fun i hi => bt.2 i fun z => hi (hj i z)⟩
                refine ⟨hw, env3, S3, st3.rel, ?_⟩
                unfold Go
                cases es : ts env3 with
                | none => simp only [es] at e5; cases e5
                | some z =>
                  cases z with
                  | ex _ _ _ _ => simp only [es] at e5; cases e5
                  | ok b env4 =>
                    simp only [es] at e5 ⊢
                    intro b' S4 H4 st4 eb
                    have eb' : b' = b := eb
                    subst eb'
                    obtain ⟨c1, c2, c3⟩ := st4.apart b1 b2 b3
                    have st04 := st03.trans st4
                    cases b' with
                    | false =>
                      rw [if_neg Bool.false_ne_true]
                      simp only at e5
                      have k := st04.clear (vs := vs) hio'
                      rw [hw] at k
                      refine ⟨clr env4 vs, S4, vs', ac', k, c1, c2, fun ⟨q, hq⟩ => ?_, e4.mono (st2.ext.trans (st3.ext.trans st4.ext)), e5⟩
                      rw [← hw] at hq
                      exact c3 ⟨q, (own_clr hq).2⟩
                    | true =>
                      rw [if_pos rfl]
                      simp only at e5
                      refine ⟨env4, S4, st4.rel, ?_⟩
                      unfold Go
                      cases ee : el env4 with
                      | none => simp only [ee] at e5; cases e5
                      | some z =>
                        cases z with
                        | ex _ _ _ _ => simp only [ee] at e5; cases e5
                        | ok y env5 =>
                          simp only [ee] at e5 ⊢
                          intro yv S5 H5 st5 ry
                          obtain ⟨d1, d2, d3⟩ := st5.apart c1 c2 c3
                          have st05 := st04.trans st5
                          have r4 : RpA X.K X.mg S5 vs' ac' := e4.mono ((st2.ext.trans (st3.ext.trans st4.ext)).trans st5.ext)
                          by_cases hz : szOk ac'.length = true
                          · rw [if_pos hz] at e5
                            refine ⟨vs', d1, by rw [r4.len]; exact szOk_lt hz, ?_⟩
                            have k := (st05.clear (vs := vs) hio').poke (u := .lst (vs' ++ [yv])) hD d2 (fun ⟨q, hq⟩ => d3 ⟨q, (own_clr hq).2⟩)
                            rw [hw] at k
                            refine ⟨clr env5 vs, S5, _, _, k, upd_same, d2, fun ⟨q, hq⟩ => ?_, r4.app (.one ry), e5⟩
                            rw [← hw] at hq
                            exact d3 ⟨q, (own_clr hq).2⟩
                          · rw [if_neg hz] at e5
                            cases e5
            · rw [List.drop_length] at e5
              have e6 : some (Res.ok ac' env') = some (Res.ok acc env2) := e5
              injection e6 with e6
              injection e6 with e6 e7
              subst e6
              subst e7
              refine g (.ref Dl) S' H' (st.trans (Step.unwipe st.rel st')) ⟨Dl, _, rfl, e2, e1, .lst e4, fun ⟨k, ⟨s, d, e, m⟩, hq⟩ => ?_, st.mine (.inl hD)⟩
              have hl2 : env'.length = env1.length := by
                have h1 := st'.rel.len
                have h2 := st.rel.len
                rw [wipe_length] at h1
                omega
              by_cases hk : k ∈ vs
              · rw [unclr_in hl2 hk] at e
                obtain ⟨_, ho, eo⟩ := st.rel.own ⟨k, ⟨s, d, e, m⟩, hq⟩
                rw [hD] at eo
                cases eo
              · rw [unclr_out hk] at e
                exact e3 ⟨k, ⟨s, d, e, m⟩, by rw [wipe_out hk]; exact hq⟩
      · rw [if_neg hio] at g
        exact g.elim
theorem sr_lc {js : List Nat} (hc : X.calm = true) (hN : X.N.Nodup) (hi : SI X tg iter it) (ok : BlkOk X.N X.env.scope scope own) (hg : BlkG X scope tg t js) (ht : BlkI X scope ifs ts) (he : BlkV X scope elt el) (hj : ∀ j ∈ js, j ∈ own.map (·.2)) (hs : ∀ x, foldedSetIterable iter X.env x = pure x := by intro _; rfl) :
    SR X (.ListComp elt [⟨tg, iter, ifs, 0⟩] scope pos) (mLc it t ts el (own.map (·.2))) := fun W tk =>
  pe_imp (pe_lc hc hN (hi W tk) ok (g := tG X.K X.mg t js) (fun s H C cl fp => hg s H C cl fp) (fun s H C cl fp => ht s H C cl fp noW takes_blk) (fun s H C cl fp => he s H C cl fp noW takes_blk) hs) (tm_lc hj)
/-- y = [..] -/
theorem ss_setLc {i : Nat} {y : Str} {py spos : Pos} {js : List Nat} (hc : X.calm = true) (hN : X.N.Nodup) (hy : X.N[i]? = some y) (hyl : X.env.scope.names.lookup y = some .local) (hsw : swapsWith (.ListComp elt [⟨tg, iter, ifs, 0⟩] scope pos) (some (.Name y py)) spos.line X.env = pure true)
    (hi : SI X tg iter it) (ok : BlkOk X.N X.env.scope scope own) (hg : BlkG X scope tg t js) (ht : BlkI X scope ifs ts) (he : BlkV X scope elt el) (hj : ∀ j ∈ js, j ∈ own.map (·.2)) (hs : ∀ x, foldedSetIterable iter X.env x = pure x := by intro _; rfl) :
    SS X (.Assign [.Name y py] (.ListComp elt [⟨tg, iter, ifs, 0⟩] scope pos) spos) (mSet i (mLc it t ts el (own.map (·.2)))) := fun W tk =>
  ps_imp (ps_setLc hc hN hy hyl hsw (hi W tk) ok (g := tG X.K X.mg t js) (fun s H C cl fp => hg s H C cl fp) (fun s H C cl fp => ht s H C cl fp noW takes_blk) (fun s H C cl fp => he s H C cl fp noW takes_blk) hs) fun E σ H ⟨env, S, r, g⟩ =>
  tm_lc hj σ H _ (GoS.part (R := RR X.K X.mg) r g fun v H1 env1 S1 a st ra g1 g2 => by
    cases es : a.sl with
    | none => exact (show False by simpa [es, PostS] using g2).elim
    | some s =>
      cases ee : setSl i s env1 with
      | none => exact (show False by simpa [es, ee, PostS] using g2).elim
      | some env2 =>
        simp only [es, ee, Option.bind_some] at g2
        obtain ⟨c1, c2, rfl⟩ := setSl_some ee
        obtain ⟨d1, d2⟩ := slr_of ra es
        exact g2 _ S1 H1 (st.assign c1 c2 d1 d2))
end
end Z
end

section
set_option Elab.async false
set_option linter.all false
set_option maxRecDepth 100000
set_option autoImplicit false
/-! Defs and their calls, where no repr is under way. -/
namespace Z
open PySem L2
open PyProof.Rows (envOfC)
variable {X : Cx}

/-- room, and nothing under way that repr looks at -/
def Rm (k : Nat) (A : Around) : Prop := Room k A ∧ A.guards = some []
theorem Rm.mono {j k : Nat} {A : Around} (r : Rm k A) (h : j ≤ k) : Rm j A := ⟨r.1.mono h, r.2⟩
theorem Rm.hu {k : Nat} {A : Around} (r : Rm k A) : A.units + 64 < cLine := r.1.units
/-- a def's promise, asked where Rm holds alone -/
structure FnG (P : Program) (w : World) (K : PySem.W.Frag) (mg : Str → Option Value) (base : Heap) (C : CXT) (k : Nat) (f : Addr) (fd : FuncData) (ps : List Str) (sp : Sp) : Prop where
  len : ∀ vs H Q E, sp vs H Q E → vs.length = ps.length
  run : ∀ {A : Around} {fr : List PySem.Env} {s : Shared} {H : Hp} {as : Args} {us : List Value} {vs : List V} {Q : VK} {E : XK}, Rm k A → Env0 P w K mg base A fr s H → BindsTo s fd as (ps.zip us) → Vals vs us → sp vs H Q E →
    codeAny (model P w) A (.call (.ref f) as) (CR C fr P w H s Q E) s
section
variable {P : Program} {w : World} {K : PySem.W.Frag} {mg : Str → Option Value} {base : Heap}
theorem FnG.mono {C : CXT} {j k : Nat} {f : Addr} {fd : FuncData} {ps : List Str} {sp : Sp} (F : FnG P w K mg base C j f fd ps sp) (h : j ≤ k) : FnG P w K mg base C k f fd ps sp := ⟨F.len, fun hr => F.run (hr.mono h)⟩
/-- by the body; the frame's own cells and names are laid by the library's rules -/
theorem fg_of {C : CXT} {k : Nat} {f : Addr} {nm qual : Str} {pa : Arguments} {bd : List Stmt} {sc : Scope} {v1 v2 v3 v4 v5 v6 oc : Value} {an od : Option Addr} {sl : Array (Option Value)} {N ps : List Str} {sp : Sp}
    (lk : K.lookup f = some ⟨oc, od, .func (PySem.W.fnOf nm qual pa bd sc v1 v2 v3 v4 an v5 v6), sl⟩) (hcd : PySem.W.codeIn K v5 qual = true) (Sc : FnScope N ps sc) (len : ∀ vs H Q E, sp vs H Q E → vs.length = ps.length)
    (hb : ∀ (A : Around) (fr : List PySem.Env) (s : Shared) (H : Hp) (vs : List V) (Q : VK) (E : XK), Rm k (A.deeper (envOfC qual sc s.heap.objs.size f v5)) → sp vs H Q E →
      ∃ t, PSs (cxOf C P w K mg base N qual sc f v5 A fr s H E) bd t ∧ t { nx := fun _ H' => Q .non H', rt := Q } (start N vs) H) :
    FnG P w K mg base C (k + 1) f (PySem.W.fnOf nm qual pa bd sc v1 v2 v3 v4 an v5 v6) ps sp where
  len := len
  run := by
    intro A fr s H as us vs Q E hr e0 bt rv hsp
    have hlen := len _ _ _ _ hsp
    have inK : K.In s.heap := e0.mod.kin.keeps fun b o e => (e0.bs b o e).1
    have noLim : s.heap.NoLimit := e0.mod.nolimit.keeps fun b o e => (e0.bs b o e).1
    have kinds : ∀ y ∈ ps.zip us, sc.names.lookup y.1 = some .local ∨ (sc.names.lookup y.1 = some .cell ∧ ((cellsFrom (s.heap.objs.size + 1) sc.names []).lookup y.1).isSome = true) := by
      intro y hy
      have hm : y.1 ∈ ps := (List.of_mem_zip (a := y.1) (b := y.2) hy).1
      exact (Sc.par _ hm).imp id fun q => ⟨q, PySem.W.cellsFrom_some _ _ _ (.inl q)⟩
    have room : Rm k (A.deeper (envOfC qual sc s.heap.objs.size f v5)) := ⟨hr.1.deeper _, hr.2⟩
    refine codeAny_call_function hr.1.depth (inK _ _ lk) rfl Sc.co Sc.gen rfl (PySem.W.codeRec_of inK hcd) (bt _ _ _ _ ?_)
    apply wpAny_newFunctionEnv_cells Sc.kind kinds
    intro env he s1 lay
    subst he
    refine ⟨noLim.keeps lay.toInCall.keep, codeAny_func ?_⟩
    obtain ⟨t, body, hq⟩ := hb A fr s H vs Q E room hsp
    have J := inv_start (CX := C) (E := E) Sc hr.1.hd e0 hlen rv lay
    refine wpAny_mono (body.run [] s1 (start N vs) H _ J hq) ?_ (fun e s' z => z)
    intro fl s' hs
    have out : ∀ {σ' : St} {H' : Hp} {v : V} {u : Value}, Inv (cxOf C P w K mg base N qual sc f v5 A fr s H E) [] σ' H' s' → RelV v u → Q v H' → CE fr P w H s Q u s' := by
      intro σ' H' v u I r q
      exact ⟨v, H', I.os, I.bare, I.base, I.hok, r, q⟩
    cases fl with
    | next =>
      obtain ⟨_, _, I, q⟩ := hs
      exact out (v := V.non) (u := Value.none) I rfl q
    | ret u => obtain ⟨_, _, _, I, r, q⟩ := hs; exact out I r q
    | brk => obtain ⟨_, _, _, z⟩ := hs; exact z.elim
    | cont => obtain ⟨_, _, _, z⟩ := hs; exact z.elim
end

/-! ### what a def does with data -/
inductive Ar where
  | v (d : D)
  | io (d : D)
inductive CO where
  | rt (r : Rs) (io : Option D)
  | ex (c : Str) (ns : List Str) (vs : List D) (io : Option D)
abbrev DF := List Ar → Option CO
/-- the arguments stand for as; the one that is changed stands at q -/
inductive ArR (K : PySem.W.Frag) (mg : Str → Option Value) (S H : Hp) : Option Addr → List V → List Ar → Prop
  | nil : ArR K mg S H none [] []
  | v {q : Option Addr} {v : V} {d : D} {vs : List V} {as : List Ar} : Rp K mg S v d → ArR K mg S H q vs as → ArR K mg S H q (v :: vs) (.v d :: as)
  | io {a : Addr} {ho : HO} {d : D} {vs : List V} {as : List Ar} : S a = none → H a = some ho → HoR K mg S ho d → ArR K mg S H none vs as → ArR K mg S H (some a) (.ref a :: vs) (.io d :: as)
/-- a call's end: S', H' -/
structure Dn (K : PySem.W.Frag) (mg : Str → Option Value) (q : Option Addr) (S H S' H' : Hp) (io : Option D) : Prop where
  sub : Same S' H'
  ext : Same S S'
  frm : ∀ b o, H b = some o → q ≠ some b → H' b = some o
  new : ∀ b o, S' b = some o → S b = some o ∨ H b = none
  at' : ∀ a, q = some a → ∃ ho d, io = some d ∧ S' a = none ∧ H' a = some ho ∧ HoR K mg S' ho d
def RsC (K : PySem.W.Frag) (mg : Str → Option Value) (H S' H' : Hp) (v : V) : Rs → Prop
  | .v d => Rp K mg S' v d
  | .fr d => ∃ a ho, v = .ref a ∧ H a = none ∧ S' a = none ∧ H' a = some ho ∧ HoR K mg S' ho d
  | .bw _ => False
def spM (K : PySem.W.Frag) (mg : Str → Option Value) (F : DF) : Sp := fun vs H Q E => ∃ S q as o, Same S H ∧ ArR K mg S H q vs as ∧ F as = some o ∧ (match o with
  | .rt r io => ∀ v S' H', Dn K mg q S H S' H' io → RsC K mg H S' H' v r → Q v H'
  | .ex c ns ds io => ∀ C d fv S' H', mg c = some (.ref C) → Dn K mg q S H S' H' io → H' d = some (.xd fv) → fv.map (·.1) = ns → RpA K mg S' (fv.map (·.2)) ds → E (.ref C) (some d) H')
theorem ArR.len {K : PySem.W.Frag} {mg : Str → Option Value} {S H : Hp} : ∀ {as : List Ar} {q : Option Addr} {vs : List V}, ArR K mg S H q vs as → vs.length = as.length
  | [], _, _, h => by cases h; rfl
  | a :: as, _, _, h => by
    cases h with
    | v _ t => exact congrArg Nat.succ t.len
    | io _ _ _ t => exact congrArg Nat.succ t.len

/-! ### a def's body, run -/
def Ar.sl : Ar → Sl
  | .v d => .v d
  | .io d => .io d
def env0 (n : Nat) (as : List Ar) : Env := as.map Ar.sl ++ List.replicate (n - as.length) .no
/-- which argument is changed -/
def ioIx : List Ar → Option Nat
  | [] => none
  | .io _ :: _ => some 0
  | .v _ :: as => (ioIx as).map (· + 1)
/-- what it holds at the end -/
def ioC (as : List Ar) (env : Env) : Option D := match ioIx as with
  | some i => (match env[i]? with
    | some (.io d) => some d
    | _ => none)
  | none => none
def runF (n : Nat) (m : MS) : DF := fun as => match m (env0 n as) with
  | some (.nx env) => some (.rt (.v .non) (ioC as env))
  | some (.rt (.v d) env) => some (.rt (.v d) (ioC as env))
  | some (.rt (.fr d) env) => some (.rt (.fr d) (ioC as env))
  | some (.ex c ns vs env) => some (.ex c ns vs (ioC as env))
  | _ => none
section
variable {K : PySem.W.Frag} {mg : Str → Option Value}
theorem ArR.at {S H : Hp} : ∀ {as : List Ar} {q : Option Addr} {vs : List V} {i : Nat} {a : Ar}, ArR K mg S H q vs as → as[i]? = some a → SlR K mg S H ((vs.map some)[i]?) a.sl
  | [], _, _, _, _, _, e => by simp at e
  | a :: as, _, _, 0, _, h, e => by
    have := Option.some.inj e
    subst this
    cases h with
    | v r _ => exact ⟨_, rfl, r⟩
    | io h1 h2 h3 _ => exact ⟨_, _, rfl, h1, h2, h3⟩
  | a :: as, _, _, i + 1, _, h, e => by
    cases h with
    | v _ t => exact t.at (i := i) e
    | io _ _ _ t => exact t.at (i := i) e
/-- the changed argument: one alone -/
theorem ArR.none_io {S H : Hp} : ∀ {as : List Ar} {vs : List V} {i : Nat} {d : D}, ArR K mg S H none vs as → as[i]? ≠ some (.io d)
  | [], _, _, _, _, e => by simp at e
  | a :: as, _, 0, _, h, e => by
    have := Option.some.inj e
    subst this
    cases h
  | a :: as, _, i + 1, _, h, e => by
    cases h with
    | v _ t => exact t.none_io (i := i) e
theorem ArR.io_at {S H : Hp} : ∀ {as : List Ar} {q : Option Addr} {vs : List V} {i : Nat} {d : D}, ArR K mg S H q vs as → as[i]? = some (.io d) → ∃ a, q = some a ∧ vs[i]? = some (V.ref a) ∧ ∀ (j : Nat) (d' : D), as[j]? = some (Ar.io d') → j = i
  | [], _, _, _, _, _, e => by simp at e
  | a :: as, _, _, 0, _, h, e => by
    have := Option.some.inj e
    subst this
    cases h with
    | io _ _ _ t =>
      refine ⟨_, rfl, rfl, fun j d' ej => ?_⟩
      cases j with
      | zero => rfl
      | succ j => exact (t.none_io (i := j) ej).elim
  | a :: as, _, _, i + 1, _, h, e => by
    cases h with
    | v _ t =>
      obtain ⟨b, h1, h2, h3⟩ := t.io_at (i := i) e
      refine ⟨b, h1, h2, fun j d' ej => ?_⟩
      cases j with
      | zero => cases ej
      | succ j => exact congrArg Nat.succ (h3 j d' ej)
    | io _ _ _ t => exact (t.none_io (i := i) e).elim
theorem ArR.q_at {S H : Hp} : ∀ {as : List Ar} {q : Addr} {vs : List V}, ArR K mg S H (some q) vs as → ∃ i d, ioIx as = some i ∧ as[i]? = some (.io d) ∧ vs[i]? = some (.ref q)
  | [], _, _, h => by cases h
  | a :: as, _, _, h => by
    cases h with
    | v _ t =>
      obtain ⟨i, d, h0, h1, h2⟩ := t.q_at
      exact ⟨i + 1, d, by unfold ioIx; rw [h0]; rfl, h1, h2⟩
    | io _ _ _ _ => exact ⟨0, _, rfl, rfl, rfl⟩
theorem env0_at {n : Nat} {as : List Ar} {i : Nat} {s : Sl} (h : (env0 n as)[i]? = some s) : (∃ a, as[i]? = some a ∧ s = a.sl) ∨ (as.length ≤ i ∧ s = .no) := by
  unfold env0 at h
  by_cases hi : i < as.length
  · rw [List.getElem?_append_left (by rw [List.length_map]; exact hi), List.getElem?_map] at h
    cases e : as[i]? with
    | none => rw [e] at h; cases h
    | some a =>
      rw [e] at h
      exact .inl ⟨a, rfl, (Option.some.inj h).symm⟩
  · rw [List.getElem?_append_right (by rw [List.length_map]; omega), List.getElem?_replicate] at h
    split at h
    · cases h
      exact .inr ⟨by omega, rfl⟩
    · cases h
theorem start_at {N : List Str} {vs : List V} {i : Nat} (hi : i < vs.length) : (start N vs)[i]? = (vs.map some)[i]? := by
  unfold L2.start
  rw [List.getElem?_append_left (by rw [List.length_map]; exact hi)]
theorem rel0 {N : List Str} {S H : Hp} {q : Option Addr} {vs : List V} {as : List Ar} (sub : Same S H) (h : ArR K mg S H q vs as) (hn : as.length ≤ N.length) : Rel K mg (env0 N.length as) (start N vs) S H ∧ ∀ b, Own (env0 N.length as) (start N vs) b ↔ q = some b := by
  have hl := h.len
  have own : ∀ i b, OwnAt (env0 N.length as) (start N vs) i b → ∃ d, as[i]? = some (.io d) ∧ q = some b := fun i b ⟨⟨s, d, e, m⟩, hq⟩ => by
    rcases env0_at e with ⟨a, ea, rfl⟩ | ⟨_, rfl⟩
    · cases a with
      | v _ => cases m
      | io d' =>
        obtain ⟨b', h1, h2, _⟩ := h.io_at ea
        have hi : i < vs.length := (List.getElem?_eq_some_iff.mp h2).1
        rw [start_at hi, List.getElem?_map, h2] at hq
        have hq' : b' = b := by simpa using hq
        subst hq'
        exact ⟨d', ea, h1⟩
    · cases m
  refine ⟨⟨?_, sub, fun i s e => ?_, fun i j b h1 h2 => ?_⟩, fun b => ⟨fun ⟨i, h1⟩ => (let ⟨_, _, z⟩ := own i b h1; z), fun e => ?_⟩⟩
  · unfold L2.start env0
    rw [List.length_append, List.length_append, List.length_map, List.length_map, List.length_replicate, List.length_replicate, hl]
  · rcases env0_at e with ⟨a, ea, rfl⟩ | ⟨_, rfl⟩
    · have hi : i < vs.length := by rw [hl]; exact (List.getElem?_eq_some_iff.mp ea).1
      rw [start_at hi]
      exact h.at ea
    · trivial
  · obtain ⟨d1, e1, _⟩ := own i b h1
    obtain ⟨d2, e2, _⟩ := own j b h2
    obtain ⟨_, _, _, u⟩ := h.io_at e2
    exact u i d1 e1
  · subst e
    obtain ⟨i, d, _, h1, h2⟩ := h.q_at
    have hi : i < vs.length := (List.getElem?_eq_some_iff.mp h2).1
    refine ⟨i, ⟨.io d, d, ?_, rfl⟩, ?_⟩
    · unfold env0
      rw [List.getElem?_append_left (by rw [List.length_map]; omega), List.getElem?_map, h1]
      rfl
    · rw [start_at hi, List.getElem?_map, h2]
      rfl
theorem dn_of {N : List Str} {S H S' H' : Hp} {q : Option Addr} {vs : List V} {as : List Ar} {env' : Env} {σ' : St} (sub : Same S H) (h : ArR K mg S H q vs as) (hn : as.length ≤ N.length) (st : Step K mg (env0 N.length as) (start N vs) S H env' σ' S' H') :
    Dn K mg q S H S' H' (ioC as env') ∧ ∀ b, q = some b → Own env' σ' b := by
  obtain ⟨r0, ow⟩ := rel0 sub h hn
  have hl := h.len
  have keyf : ∀ b, q = some b → ∃ i d', ioIx as = some i ∧ env'[i]? = some (.io d') ∧ σ'[i]? = some (some (.ref b)) := fun b e => by
    subst e
    obtain ⟨i, d, h0, h1, h2⟩ := h.q_at
    have hi : i < vs.length := (List.getElem?_eq_some_iff.mp h2).1
    have e0 : (env0 N.length as)[i]? = some (.io d) := by
      unfold env0
      rw [List.getElem?_append_left (by rw [List.length_map]; omega), List.getElem?_map, h1]
      rfl
    obtain ⟨x, d', y⟩ := st.io i d e0
    refine ⟨i, d', h0, y, ?_⟩
    rw [x, start_at hi, List.getElem?_map, h2]
    rfl
  have ow' : ∀ b, q = some b → Own env' σ' b := fun b e => by
    obtain ⟨i, d', _, h2, h3⟩ := keyf b e
    exact ⟨i, ⟨_, d', h2, rfl⟩, h3⟩
  refine ⟨⟨st.rel.sub, st.ext, fun b o e n => st.frm b o e fun z => n ((ow b).mp z), fun b o e => ?_, fun a e => ?_⟩, ow'⟩
  · rcases st.new b o e with z | z | z
    · exact .inl z
    · exact .inr z
    · have := (st.rel.own (ow' b ((ow b).mp z))).1
      rw [e] at this
      cases this
  · obtain ⟨i, d', h1, h2, h3⟩ := keyf a e
    obtain ⟨a', ho, k1, k2, k3, k4⟩ := st.rel.sl i _ h2
    rw [h3] at k1
    cases k1
    exact ⟨ho, d', by unfold ioC; rw [h1]; simp only [h2], k2, k3, k4⟩
end
/-- THE RULE for a def: its body's plain function, run from its arguments -/
theorem fg_body {P : Program} {w : World} {K : PySem.W.Frag} {mg : Str → Option Value} {base : Heap} {k : Nat} {f : Addr} {nm qual : Str} {pa : Arguments} {bd : List Stmt} {sc : Scope} {v1 v2 v3 v4 v5 v6 oc : Value} {an od : Option Addr} {sl : Array (Option Value)} {N ps : List Str} {m : MS} {F : DF}
    (lk : K.lookup f = some ⟨oc, od, .func (PySem.W.fnOf nm qual pa bd sc v1 v2 v3 v4 an v5 v6), sl⟩) (hcd : PySem.W.codeIn K v5 qual = true) (Sc : FnScope N ps sc)
    (hb : ∀ (A : Around) (fr : List PySem.Env) (s : Shared) (H : Hp) (E : XK), Rm k (A.deeper (envOfC qual sc s.heap.objs.size f v5)) → SSs (cxOf (L2.CX P w) P w K mg base N qual sc f v5 A fr s H E) bd m)
    (hF : ∀ as o, F as = some o → as.length = ps.length ∧ runF N.length m as = some o) :
    FnG P w K mg base (L2.CX P w) (k + 1) f (PySem.W.fnOf nm qual pa bd sc v1 v2 v3 v4 an v5 v6) ps (spM K mg F) := by
  refine fg_of lk hcd Sc (fun vs H Q E ⟨S, q, as, o, sub, ar, e, _⟩ => ar.len.trans (hF as o e).1) fun A fr s H vs Q E hr ⟨S, q, as, o, sub, ar, e, post⟩ => ?_
  have hn : as.length ≤ N.length := by
    rw [(hF as o e).1]
    have := congrArg List.length Sc.pre
    rw [List.length_take] at this
    omega
  have e := (hF as o e).2
  obtain ⟨r0, ow⟩ := rel0 sub ar hn
  refine ⟨_, hb A fr s H E hr (fun cls d _ H' => E cls d H') (takes_of rfl rfl rfl rfl), env0 N.length as, S, r0, ?_⟩
  dsimp only [GoS]
  unfold runF at e
  cases hm : m (env0 N.length as) with
  | none => simp [hm] at e
  | some x =>
    cases x with
    | nx env =>
      simp only [hm] at e
      cases e
      intro σ' S' H' st
      exact post .non S' H' (dn_of sub ar hn st).1 .non
    | bk env => simp [hm] at e
    | ct env => simp [hm] at e
    | ex c ns vs' env =>
      simp only [hm] at e
      cases e
      exact fun C d fv σ' S' H' hc st e1 e2 e3 => post C d fv S' H' hc (dn_of sub ar hn st).1 e1 e2 e3
    | rt r env =>
      cases r with
      | bw i => simp [hm] at e
      | v d =>
        simp only [hm] at e
        cases e
        exact fun v σ' S' H' st rr => post v S' H' (dn_of sub ar hn st).1 rr
      | fr d =>
        simp only [hm] at e
        cases e
        intro v σ' S' H' st rr
        obtain ⟨a, ho, rfl, h2, h3, h4, h5, h6⟩ := rr
        obtain ⟨dn, ow'⟩ := dn_of sub ar hn st
        refine post _ S' H' dn ⟨a, ho, rfl, ?_, h2, h3, h4⟩
        rcases h6 with z | z
        · exact z
        · exact absurd (ow' a ((ow a).mp z)) h5

/-! ### calls -/
inductive Ax where
  | v (d : D)
  | sl (j : Nat)
inductive AxR (K : PySem.W.Frag) (mg : Str → Option Value) (σ : St) (S : Hp) : List V → List Ax → Prop
  | nil : AxR K mg σ S [] []
  | v {v : V} {d : D} {vs : List V} {as : List Ax} : Rp K mg S v d → AxR K mg σ S vs as → AxR K mg σ S (v :: vs) (.v d :: as)
  | sl {v : V} {j : Nat} {vs : List V} {as : List Ax} : σ[j]? = some (some v) → AxR K mg σ S vs as → AxR K mg σ S (v :: vs) (.sl j :: as)
def RX (K : PySem.W.Frag) (mg : Str → Option Value) : RL (List V) (List Ax) := fun _ _ σ S _ vs as => AxR K mg σ S vs as
theorem nmX {K : PySem.W.Frag} {mg : Str → Option Value} : RNm (RX K mg) := fun _ _ _ _ _ _ _ h => h
theorem AxR.mono {K : PySem.W.Frag} {mg : Str → Option Value} {σ : St} {S S' : Hp} (e : Same S S') : ∀ {as : List Ax} {vs : List V}, AxR K mg σ S vs as → AxR K mg σ S' vs as
  | [], _, h => by cases h; exact .nil
  | a :: as, _, h => by
    cases h with
    | v r t => exact .v (r.mono e) (t.mono e)
    | sl r t => exact .sl r (t.mono e)
def SX (X : Cx) (es : List Expr) (m : M (List Ax)) : Prop := ∀ W, Takes X W → PA X es (tM X.K X.mg W (RX X.K X.mg) m)
def xNil : M (List Ax) := M.ret []
def xV (m : M D) (n : M (List Ax)) : M (List Ax) := m.bind fun d => n.bind fun as => M.ret (.v d :: as)
def xSl (j : Nat) (n : M (List Ax)) : M (List Ax) := (M.of fun env => match env[j]? with
  | some s => s.mut.bind fun _ => some ()
  | none => none).bind fun _ => n.bind fun as => M.ret (.sl j :: as)
theorem sx_nil : SX X [] xNil := fun W tk => pa_imp pa_nil fun σ H Q ⟨env, S, r, g⟩ => g.ret (R := RX X.K X.mg) r .nil
theorem sx_v {e : Expr} {es : List Expr} {m : M D} {n : M (List Ax)} (h : SV X e m) (hr : SX X es n) (hs : starEach (e :: es) X.env = (false, eval e X.env) :: starEach es X.env := by rfl) : SX X (e :: es) (xV m n) := fun W tk =>
  pa_imp (pa_cons (h W tk) (hr W tk) hs) fun σ H Q ⟨env, S, r, g⟩ => g.part nmX r fun x H1 env1 S1 a st ra g1 => g1.part nmX st.rel fun xs H2 env2 S2 ds st2 rb g2 => g2.ret (R := RX X.K X.mg) st2.rel (.v (Rp.mono st2.ext ra) rb)
theorem sx_sl {j : Nat} {x : Str} {p : Pos} {es : List Expr} {n : M (List Ax)} (h : PE X (.Name x p) (tVar j)) (hr : SX X es n) (hs : starEach (.Name x p :: es) X.env = (false, eval (.Name x p) X.env) :: starEach es X.env := by rfl) : SX X (.Name x p :: es) (xSl j n) := fun W tk =>
  pa_imp (pa_cons h (hr W tk) hs) fun σ H Q ⟨env, S, r, g⟩ => by
    have g0 := g.bind (R := fun _ _ _ _ _ (_ : Unit) _ => True) nmX
    obtain ⟨u, e, q⟩ := g0.of
    obtain ⟨env1, S1, a, st, _, g1⟩ := q () S H (Step.refl r) trivial
    cases ej : env[j]? with
    | none => simp [ej] at e
    | some s =>
      cases em : s.mut with
      | none => simp [ej, em] at e
      | some d =>
        obtain ⟨a', ho, e1, _⟩ := (r.sl j s ej).mut em
        exact ⟨.ref a', e1, g1.part nmX st.rel fun xs H2 env2 S2 ds st2 rb g2 => g2.ret (R := RX X.K X.mg) st2.rel (.sl e1 rb)⟩
end Z
end

section
set_option Elab.async false
set_option linter.all false
set_option maxRecDepth 100000
set_option autoImplicit false
/-! Calls of defs; the law's own call. -/
namespace Z
open PySem L2
open PyProof.Rows (envOfC IntsAre AllBare)
variable {X : Cx}

section
variable {k : Nat} {f : Addr} {fd : FuncData} {ps : List Str} {sp : Sp} {dvs : List V} {ds : List Value} {W : WX} {x : Str} {p pos : Pos} {e : Expr} {es : List Expr} {t : TA}
/-- the callee runs, where no repr is under way -/
theorem go_fg {pins : List (Addr × Obj)} {σ : St} {H : Hp} {s : Shared} {Q : VK} {us all : List Value} {kw : List (Str × Value)} {vs : List V} (F : FnG X.prog X.w X.K X.mg X.base (L2.CX X.prog X.w) k f fd ps sp) (hr : Rm k X.A) (tk : Takes X W) (I : Inv X pins σ H s)
    (hb : BindsTo s fd ⟨us, kw⟩ (ps.zip all)) (r : Vals vs all) (h : sp vs H Q (WE W σ)) : wpAny (model X.prog X.w) X.A (call (.ref f) us kw) (EP X pins σ Q) X.xe s := by
  apply wpAny_call
  apply codeAny_mono (F.run hr I.env0 hb r h)
  intro res s' hq
  match res, hq with
  | .ok (.ret u), hq => exact I.after hq
  | .ok .next, hq => exact hq.elim
  | .ok .brk, hq => exact hq.elim
  | .ok .cont, hq => exact hq.elim
  | .error err, hq => exact passAt tk σ pins H s err s' I hq
theorem pe_fg (F : FnG X.prog X.w X.K X.mg X.base (L2.CX X.prog X.w) k f fd ps sp) (hr : Rm k X.A) (tk : Takes X W) (hm : X.mg x = some (.ref f)) (hk : PySem.W.keepIn X.K (.ref f) = true) (hb : Binds X.K fd ps ds) (hd : Vals dvs ds) (ha : PA X (e :: es) t) (hg : Gl X x) (hx : (x == ("__debug__" : Str)) = false)
    (h1 : starEach (e :: es) X.env = (false, eval e X.env) :: starEach es X.env) (h2 : (backTo pos (starEach es X.env)).any (·.1) = false) : PE X (.Call (.Name x p) (e :: es) [] pos) (fun σ H Q => t σ H fun vs H1 => sp (vs ++ dvs) H1 Q (WE W σ)) where
  run := by
    intro pins s σ H Q I h
    apply wpAny_Call_Name_kw
    apply ld_glob I hg hm _ hx
    refine PySem.W.callWith_K (h₀ := X.base) I.ok.mod.kin hk (thn (ha.run pos pins s σ H _ I h) ?_) h1 h2
    rintro us s1 ⟨vs, H1, I1, r, q⟩
    have r2 := r.append hd
    have hl : (us ++ ds).length = ps.length := r2.length.symm.trans (F.len _ _ _ _ q)
    exact ⟨I1.kIn, go_fg F hr tk I1 (hb s1 us I1.kIn hl) r2 q⟩
theorem pe_fg0 (F : FnG X.prog X.w X.K X.mg X.base (L2.CX X.prog X.w) k f fd ps sp) (hr : Rm k X.A) (tk : Takes X W) (hm : X.mg x = some (.ref f)) (hk : PySem.W.keepIn X.K (.ref f) = true) (hb : Binds X.K fd ps ds) (hd : Vals dvs ds) (hg : Gl X x) (hx : (x == ("__debug__" : Str)) = false) :
    PE X (.Call (.Name x p) [] [] pos) (fun σ H Q => sp dvs H Q (WE W σ)) where
  run := by
    intro pins s σ H Q I h
    apply wpAny_Call_Name_kw
    apply ld_glob I hg hm _ hx
    have hl : (([] : List Value) ++ ds).length = ps.length := hd.length.symm.trans (F.len _ _ _ _ h)
    exact PySem.W.callWith_K0 I.kIn hk (go_fg (us := []) F hr tk I (hb s [] I.kIn hl) hd h)
/-- with keywords: gV puts positional and keyword values in the parameters' order -/
theorem pe_fgK {ks : List Str} {g : List Value → List Value → List Value} {gV : List V → List V → List V} {kws : List Keyword} {tk' : TA} (F : FnG X.prog X.w X.K X.mg X.base (L2.CX X.prog X.w) k f fd ps sp) (hr : Rm k X.A) (tk : Takes X W) (hm : X.mg x = some (.ref f)) (hk : PySem.W.keepIn X.K (.ref f) = true)
    (hb : KBinds X.K fd ps ks g gV) (ha : PA X (e :: es) t) (hw : PK X kws tk') (hg : Gl X x) (hx : (x == ("__debug__" : Str)) = false) (h1 : starEach (e :: es) X.env = (false, eval e X.env) :: starEach es X.env)
    (h2 : ((backTo pos (starEach (e :: es) X.env)).any (·.1) || (backToKw pos (keywordEach kws X.env)).any (·.1.isNone)) = false) (h3 : (backToKw pos (keywordEach kws X.env)).all (·.1.isSome) = true) (h4 : (backToKw pos (keywordEach kws X.env)).filterMap (·.1) = ks) :
    PE X (.Call (.Name x p) (e :: es) kws pos) (fun σ H Q => t σ H fun vs H1 => tk' σ H1 fun zs H2 => sp (gV vs zs) H2 Q (WE W σ)) where
  run := by
    intro pins s σ H Q I h
    apply wpAny_Call_Name_kw
    apply ld_glob I hg hm _ hx
    refine PySem.W.callWith_KW (h₀ := X.base) I.ok.mod.kin hk h3 (thn (ha.run pos pins s σ H _ I h) ?_) h2 h1
    rintro us s1 ⟨vs, H1, I1, r, q⟩
    refine thn (hw.run pos pins s1 σ H1 _ I1 q) ?_
    rintro ws s2 ⟨zs, H2, I2, rz, q2⟩
    refine ⟨I2.kIn, ?_⟩
    rw [h4]
    have r2 := hb.rel r rz
    have hl : (g us ws).length = ps.length := r2.length.symm.trans (F.len _ _ _ _ q2)
    exact go_fg F hr tk I2 (hb.to s2 us ws I2.kIn hl) r2 q2
end

/-! ### the plain function of a call -/
def noIoA : List Ar → Bool
  | [] => true
  | .v _ :: as => noIoA as
  | .io _ :: _ => false
def rsv (env : Env) : List Ax → Option (List Ar)
  | [] => some []
  | .v d :: as => (rsv env as).bind fun r => some (.v d :: r)
  | .sl j :: as => (match env[j]? with
    | some s => s.mut
    | none => none).bind fun d => (rsv env as).bind fun r => if noIoA r then some (.io d :: r) else none
def axIx : List Ax → Option Nat
  | [] => none
  | .v _ :: as => axIx as
  | .sl j :: _ => some j
def wb (axs : List Ax) (io : Option D) (env : Env) : Option Env := match axIx axs, io with
  | none, none => some env
  | some j, some d => (match env[j]? with
    | some s => some (env.set j (s.upd d))
    | none => none)
  | _, _ => none
def mCall (F : DF) (ds : List D) (m : M (List Ax)) : M Rs := m.bind fun axs env => (rsv env axs).bind fun as => match F (as ++ ds.map .v) with
  | none => none
  | some (.rt (.bw _) _) => none
  | some (.rt r io) => (wb axs io env).bind fun env' => some (.ok r env')
  | some (.ex c ns vs io) => (wb axs io env).bind fun env' => some (.ex c ns vs env')
section
variable {K : PySem.W.Frag} {mg : Str → Option Value}
theorem noIoA_of {S H : Hp} : ∀ {as : List Ar} {q : Option Addr} {vs : List V}, ArR K mg S H q vs as → noIoA as = true → q = none
  | [], _, _, h, _ => by cases h; rfl
  | .v _ :: as, _, _, h, e => by cases h with | v _ t => exact noIoA_of t e
  | .io _ :: as, _, _, h, e => by cases e
theorem rsv_ok {env : Env} {σ : St} {S H : Hp} (r : Rel K mg env σ S H) : ∀ {axs : List Ax} {vs : List V} {as : List Ar}, AxR K mg σ S vs axs → rsv env axs = some as →
    ∃ q, ArR K mg S H q vs as ∧ ((axIx axs = none ∧ q = none) ∨ ∃ j a s d, axIx axs = some j ∧ q = some a ∧ env[j]? = some s ∧ s.mut = some d ∧ σ[j]? = some (some (.ref a)))
  | [], _, _, h, e => by
    cases h
    cases e
    exact ⟨none, .nil, .inl ⟨rfl, rfl⟩⟩
  | .v d :: axs, _, _, h, e => by
    cases h with
    | v rv t =>
      unfold rsv at e
      cases er : rsv env axs with
      | none => simp [er] at e
      | some as' =>
        simp only [er, Option.bind_some] at e
        cases e
        obtain ⟨q, h1, h2⟩ := rsv_ok r t er
        exact ⟨q, .v rv h1, h2⟩
  | .sl j :: axs, _, _, h, e => by
    cases h with
    | sl hv t =>
      unfold rsv at e
      cases ej : env[j]? with
      | none => simp [ej] at e
      | some s =>
        cases em : s.mut with
        | none => simp [ej, em] at e
        | some d =>
          cases er : rsv env axs with
          | none => simp [ej, em, er] at e
          | some as' =>
            simp only [ej, em, er, Option.bind_some] at e
            split at e
            · rename_i hn
              cases e
              obtain ⟨q, h1, _⟩ := rsv_ok r t er
              have := noIoA_of h1 hn
              subst this
              obtain ⟨a, ho, k1, k2, k3, k4⟩ := (r.sl j s ej).mut em
              rw [hv] at k1
              cases k1
              exact ⟨some a, .io k2 k3 k4 h1, .inr ⟨j, a, s, d, rfl, rfl, ej, em, hv⟩⟩
            · cases e
theorem RpA.arR {S H : Hp} : ∀ {es : List D} {ws : List V}, RpA K mg S ws es → ArR K mg S H none ws (es.map .v)
  | [], _, h => by cases h; exact .nil
  | e :: es, _, h => by cases h with | cons a b => exact .v a b.arR
theorem ArR.app {S H : Hp} {ws : List V} {es : List D} (re : RpA K mg S ws es) : ∀ {as : List Ar} {q : Option Addr} {vs : List V}, ArR K mg S H q vs as → ArR K mg S H q (vs ++ ws) (as ++ es.map .v)
  | [], _, _, h => by cases h; exact re.arR
  | .v _ :: as, _, _, h => by cases h with | v a t => exact .v a (t.app re)
  | .io _ :: as, _, _, h => by cases h with | io a b c t => exact .io a b c (t.app re)
/-- a call's end is a step -/
theorem Dn.step {env env' : Env} {σ : St} {S H S' H' : Hp} {q : Option Addr} {axs : List Ax} {io : Option D} (r : Rel K mg env σ S H) (dn : Dn K mg q S H S' H' io)
    (h : (axIx axs = none ∧ q = none) ∨ ∃ j a s d, axIx axs = some j ∧ q = some a ∧ env[j]? = some s ∧ s.mut = some d ∧ σ[j]? = some (some (.ref a))) (e : wb axs io env = some env') : Step K mg env σ S H env' σ S' H' ∧ ∀ b, Own env' σ b → Own env σ b := by
  have own' : ∀ b, Own env σ b → q ≠ some b → ∃ ho, H b = some ho ∧ H' b = some ho ∧ S' b = none := fun b o n => by
    obtain ⟨h1, ho, h2⟩ := r.own o
    refine ⟨ho, h2, dn.frm b ho h2 n, ?_⟩
    cases e3 : S' b with
    | none => rfl
    | some u =>
      rcases dn.new b u e3 with z | z
      · rw [h1] at z; cases z
      · rw [h2] at z; cases z
  rcases h with ⟨h1, rfl⟩ | ⟨j, a, s, d, h1, rfl, ej, em, hσ⟩
  · unfold wb at e
    rw [h1] at e
    cases io with
    | some _ => cases e
    | none =>
      cases e
      refine ⟨⟨⟨r.len, dn.sub, fun i s es => ?_, r.inj⟩, dn.ext, fun b o e2 _ => dn.frm b o e2 (fun z => by cases z), fun b o e2 => (dn.new b o e2).imp id .inl, fun b o => .inl o, fun i d e2 => ⟨rfl, d, e2⟩⟩, fun b o => o⟩
      have q := r.sl i s es
      cases s with
      | no => trivial
      | v d =>
        obtain ⟨v, k1, k2⟩ := q
        exact ⟨v, k1, k2.mono dn.ext⟩
      | own d =>
        obtain ⟨b, ho, k1, k2, k3, k4⟩ := q
        obtain ⟨ho', m1, m2, m3⟩ := own' b ⟨i, ⟨_, d, es, rfl⟩, k1⟩ (fun z => by cases z)
        rw [k3] at m1
        cases m1
        exact ⟨b, ho, k1, m3, m2, k4.mono dn.ext⟩
      | io d =>
        obtain ⟨b, ho, k1, k2, k3, k4⟩ := q
        obtain ⟨ho', m1, m2, m3⟩ := own' b ⟨i, ⟨_, d, es, rfl⟩, k1⟩ (fun z => by cases z)
        rw [k3] at m1
        cases m1
        exact ⟨b, ho, k1, m3, m2, k4.mono dn.ext⟩
  · unfold wb at e
    rw [h1] at e
    obtain ⟨ho, d', rfl, n1, n2, n3⟩ := dn.at' a rfl
    simp only [ej] at e
    cases e
    have oj : OwnAt env σ j a := ⟨⟨s, d, ej, em⟩, hσ⟩
    have hlt : j < env.length := (List.getElem?_eq_some_iff.mp ej).1
    have at_ : ∀ i b, OwnAt (env.set j (s.upd d')) σ i b → OwnAt env σ i b := fun i b ⟨⟨s', d2, es, m⟩, hq⟩ => by
      by_cases h : j = i
      · subst h
        exact ⟨⟨s, d, ej, em⟩, hq⟩
      · rw [List.getElem?_set_ne h] at es
        exact ⟨⟨s', d2, es, m⟩, hq⟩
    refine ⟨⟨⟨by rw [List.length_set]; exact r.len, dn.sub, fun i s' es => ?_, fun i k b o1 o2 => r.inj i k b (at_ i b o1) (at_ k b o2)⟩, dn.ext, fun b o e2 n => dn.frm b o e2 fun z => ?_, fun b o e2 => (dn.new b o e2).imp id .inl, fun b ⟨i, o⟩ => .inl ⟨i, at_ i b o⟩, fun i d0 e2 => ⟨rfl, ?_⟩⟩, fun b ⟨i, o⟩ => ⟨i, at_ i b o⟩⟩
    · by_cases h : j = i
      · subst h
        rw [List.getElem?_set_self hlt] at es
        have es' : s.upd d' = s' := by simpa using es
        subst es'
        cases s with
        | no => cases em
        | v _ => cases em
        | own _ => exact ⟨a, ho, hσ, n1, n2, n3⟩
        | io _ => exact ⟨a, ho, hσ, n1, n2, n3⟩
      · rw [List.getElem?_set_ne h] at es
        have q := r.sl i s' es
        have nb : ∀ b, σ[i]? = some (some (.ref b)) → (∃ d2, s'.mut = some d2) → some a ≠ some b := fun b hb ⟨d2, m2⟩ z => by
          cases z
          exact h (r.inj j i a oj ⟨⟨s', d2, es, m2⟩, hb⟩)
        cases s' with
        | no => trivial
        | v d2 =>
          obtain ⟨v, k1, k2⟩ := q
          exact ⟨v, k1, k2.mono dn.ext⟩
        | own d2 =>
          obtain ⟨b, ho2, k1, k2, k3, k4⟩ := q
          obtain ⟨ho', m1, m2, m3⟩ := own' b ⟨i, ⟨_, d2, es, rfl⟩, k1⟩ (nb b k1 ⟨d2, rfl⟩)
          rw [k3] at m1
          cases m1
          exact ⟨b, ho2, k1, m3, m2, k4.mono dn.ext⟩
        | io d2 =>
          obtain ⟨b, ho2, k1, k2, k3, k4⟩ := q
          obtain ⟨ho', m1, m2, m3⟩ := own' b ⟨i, ⟨_, d2, es, rfl⟩, k1⟩ (nb b k1 ⟨d2, rfl⟩)
          rw [k3] at m1
          cases m1
          exact ⟨b, ho2, k1, m3, m2, k4.mono dn.ext⟩
    · cases z
      exact n ⟨j, oj⟩
    · by_cases h : j = i
      · subst h
        rw [ej] at e2
        cases e2
        exact ⟨d', List.getElem?_set_self hlt⟩
      · rw [List.getElem?_set_ne h]
        exact ⟨d0, e2⟩
theorem RsC.rs {env env' : Env} {σ : St} {S H S' H' : Hp} {v : V} {r : Rs} (rel : Rel K mg env σ S H) (ow : ∀ b, Own env' σ b → Own env σ b) (h : RsC K mg H S' H' v r) : RsR K mg (Mine env σ H) env' σ S' H' v r := by
  cases r with
  | v d => exact h
  | bw _ => exact h.elim
  | fr d =>
    obtain ⟨a, ho, rfl, h2, h3, h4, h5⟩ := h
    refine ⟨a, ho, rfl, h3, h4, h5, fun z => ?_, .inl h2⟩
    obtain ⟨_, ho', e⟩ := rel.own (ow a z)
    rw [h2] at e
    cases e
/-- what stands behind a call's arguments -/
theorem call_ok {W : WX} {F : DF} {dflt : List D} {dvs : List V} {axs : List Ax} {vs : List V} {env : Env} {σ : St} {S H : Hp} {Q : V → Hp → Prop} (rel : Rel K mg env σ S H) (ra : AxR K mg σ S vs axs) (rd : RpA K mg S dvs dflt)
    (g : Go K mg W (RR K mg) (fun env => (rsv env axs).bind fun as => match F (as ++ dflt.map .v) with
      | none => none
      | some (.rt (.bw _) _) => none
      | some (.rt r io) => (wb axs io env).bind fun env' => some (Res.ok r env')
      | some (.ex c ns vs io) => (wb axs io env).bind fun env' => some (Res.ex c ns vs env')) env σ S H Q) : spM K mg F (vs ++ dvs) H Q (WE W σ) := by
  unfold Go at g
  cases er : rsv env axs with
  | none => simp [er] at g
  | some as =>
    simp only [er, Option.bind_some] at g
    obtain ⟨q, h1, h2⟩ := rsv_ok rel ra er
    cases eF : F (as ++ dflt.map .v) with
    | none => simp [eF] at g
    | some o =>
      refine ⟨S, q, _, o, rel.sub, h1.app rd, eF, ?_⟩
      cases o with
      | ex c ns vs io =>
        simp only [eF] at g
        intro C d fv S' H' hc dn e1 e2 e3
        cases ew : wb axs io env with
        | none => simp [ew] at g
        | some env' =>
          simp only [ew, Option.bind_some] at g
          exact g C d fv S' H' hc (Dn.step rel dn h2 ew).1 e1 e2 e3
      | rt r io =>
        intro v S' H' dn rc
        cases r with
        | bw i => exact rc.elim
        | v d =>
          simp only [eF] at g
          cases ew : wb axs io env with
          | none => simp [ew] at g
          | some env' =>
            simp only [ew, Option.bind_some] at g
            obtain ⟨st, ow⟩ := Dn.step rel dn h2 ew
            exact g v S' H' st (rc.rs rel ow)
        | fr d =>
          simp only [eF] at g
          cases ew : wb axs io env with
          | none => simp [ew] at g
          | some env' =>
            simp only [ew, Option.bind_some] at g
            obtain ⟨st, ow⟩ := Dn.step rel dn h2 ew
            exact g v S' H' st (rc.rs rel ow)
end
section
variable {k : Nat} {f : Addr} {fd : FuncData} {ps : List Str} {F : DF} {dvs : List V} {dflt : List D} {ds : List Value} {x : Str} {p pos : Pos} {e : Expr} {es : List Expr} {m : M (List Ax)}
/-- f(e, ..), the lacking parameters' defaults dflt -/
theorem sr_call (G : FnG X.prog X.w X.K X.mg X.base (L2.CX X.prog X.w) k f fd ps (spM X.K X.mg F)) (hr : Rm k X.A) (hm : X.mg x = some (.ref f)) (hk : PySem.W.keepIn X.K (.ref f) = true) (hb : Binds X.K fd ps ds) (hd : Vals dvs ds) (hdd : ∀ S, RpA X.K X.mg S dvs dflt) (ha : SX X (e :: es) m) (hg : Gl X x := by rfl) (hx : (x == ("__debug__" : Str)) = false := by decide)
    (h1 : starEach (e :: es) X.env = (false, eval e X.env) :: starEach es X.env := by rfl) (h2 : (backTo pos (starEach es X.env)).any (·.1) = false := by rfl) : SR X (.Call (.Name x p) (e :: es) [] pos) (mCall F dflt m) := fun W tk =>
  pe_imp (pe_fg G hr tk hm hk hb hd (ha W tk) hg hx h1 h2) fun σ H Q ⟨env, S, r, g⟩ => g.part nmR r fun vs H1 env1 S1 axs st ra g1 => call_ok st.rel ra (hdd S1) g1
theorem sr_call0 (G : FnG X.prog X.w X.K X.mg X.base (L2.CX X.prog X.w) k f fd ps (spM X.K X.mg F)) (hr : Rm k X.A) (hm : X.mg x = some (.ref f)) (hk : PySem.W.keepIn X.K (.ref f) = true) (hb : Binds X.K fd ps ds) (hd : Vals dvs ds) (hdd : ∀ S, RpA X.K X.mg S dvs dflt) (hg : Gl X x := by rfl) (hx : (x == ("__debug__" : Str)) = false := by decide) :
    SR X (.Call (.Name x p) [] [] pos) (mCall F dflt xNil) := fun W tk =>
  pe_imp (pe_fg0 G hr tk hm hk hb hd hg hx) fun σ H Q ⟨env, S, r, g⟩ => by
    have q := g.part (R := RX X.K X.mg) (Q1 := fun vs H1 => spM X.K X.mg F (vs ++ dvs) H1 Q (WE W σ)) nmR r fun vs H1 env1 S1 axs st ra g1 => call_ok st.rel ra (hdd S1) g1
    obtain ⟨env', S', r', g'⟩ := q
    exact g'.ret (R := RX X.K X.mg) r' .nil
end

/-! ### the law's call -/
section
variable {P : Program} {w : World} {K : PySem.W.Frag} {mg mb : Str → Option Value} {k : Nat} {fa a : Addr} {fd : FuncData} {x : Str} {F : DF} {t0 : Shared} {vs : List Value} {ns : List Int}
/-- what the law's call must come to -/
abbrev LawEnd (t0 : Shared) (r : Result) (t1 : Shared) : Prop := r = .ok (.ret (.bool true)) ∧ OldK t0.heap t1.heap ∧ t1.os = t0.os ∧ AllBare t1.gens
/-- with nothing tracked, or the script alone -/
theorem law_at (KX : K.In t0.heap) (hns : t0.heap.Ns mainGlobals mg) (hb : t0.heap.Ns builtinsNs mb) (hbb : ∀ y : Str, y ≠ "__name__" → mb y = bootBuiltins y) (hlim : t0.heap.NoLimit) (hgens : t0.gens = #[]) (hr : Rm k callerA)
    (G : ∀ base : Heap, K.In base → base.Ns mainGlobals mg → FnG P w K mg base (L2.CX P w) k fa fd [x] (spM K mg F)) (hbind : ∀ (s : Shared) (u : Value), BindsTo s fd ⟨[u], []⟩ [(x, u)]) (hF : F [.v (.scr ns)] = some (.rt (.v (.bl true)) none))
    {n : Nat} (ha : t0.heap.get? a = some { cls := .type "list", data := .seq vs.toArray n }) (H : Hp) (only : ∀ b, b ≠ a → H b = none) (self : H a = none ∨ ∃ o xs, H a = some (.frz o (.lst xs))) (hk : H a ≠ none → K.lookup a = none) (hS : SqL K H a (ns.map V.int)) (hok : HOk P w H t0.heap) :
    codeAny (model P w) callerA (.call (.ref fa) ⟨[.ref a], []⟩) (LawEnd t0) t0 := by
  have free : ∀ {b : Addr} {o : Obj}, t0.heap.get? b = some o → (∀ ob xs, H b ≠ some (.frz ob (.lst xs))) → H b = none := by
    intro b o _ hn
    by_cases e : b = a
    · subst e
      exact self.elim id fun ⟨ob, xs, z⟩ => absurd z (hn ob xs)
    · exact only b e
  have low : ∀ {b : Addr} {m : Str → Option Value}, t0.heap.Ns b m → (hidT t0.heap H).Ns b m := by
    rintro b m ⟨o, es, ep, e, d, rest⟩
    refine ⟨o, es, ep, hidT_get e ?_, d, rest⟩
    by_cases eb : b = a
    · subst eb
      rw [ha] at e
      cases e
      cases (show Data.seq vs.toArray n = Data.dict es ep from d)
    · exact only b eb
  have inK : K.In (hidT t0.heap H) := by
    intro b o e
    refine hidT_get (KX b o e) ?_
    by_cases eb : b = a
    · subst eb
      refine Classical.byContradiction fun z => ?_
      rw [hk z] at e
      cases e
    · exact only b eb
  have md : Mod K mg (hidT t0.heap H) := by
    obtain ⟨ml, l1, l2⟩ := hlim
    exact ⟨inK, low hns, ⟨mb, low hb, hbb⟩, ⟨ml, low l1, l2⟩⟩
  have e0 : Env0 P w K mg (hidT t0.heap H) callerA [] t0 H :=
    { frames := rfl, mod := md, bs := fun b o e => of_hidT e, bsz := Nat.le_of_eq (hidT_size _ _), funs := trivial, frf := fun b z => (nomatch z), hok := hok, bare := .of_eq hgens }
  have sp : spM K mg F [.ref a] H (fun v _ => v = .bl true) (fun _ _ _ => False) :=
    ⟨H, none, _, _, Same.refl H, .v (.scr hS) .nil, hF, fun v S' H' _ rc => by
      have rc' : Rp K mg S' v (.bl true) := rc
      cases rc'
      rfl⟩
  refine codeAny_mono ((G _ inK (low hns)).run (us := [.ref a]) hr e0 (hbind t0 (.ref a)) (.cons (show RelV (.ref a) (.ref a) from rfl) .nil) sp) ?_
  intro res t1 done
  match res, done with
  | .error _, ⟨_, _, _, _, _, _, _, _, _, _, _, _, z⟩ => exact z.elim
  | .ok .next, z => exact z.elim
  | .ok .brk, z => exact z.elim
  | .ok .cont, z => exact z.elim
  | .ok (.ret u), ⟨v, H', os, bare, un, hok', rv, q⟩ =>
    have q' : v = .bl true := q
    subst q'
    cases (show u = Value.bool true from rv)
    refine ⟨rfl, OldK.of_keep fun b o e => ?_, os, bare⟩
    by_cases hb0 : H b = none
    · exact un.keep b o e hb0 (fun z => nomatch z) (fun z => nomatch z)
    · have eb : b = a := Classical.byContradiction fun z => hb0 (only b z)
      subst eb
      rcases self with z | ⟨ob, xs, z⟩
      · exact absurd z hb0
      · have old := (hok b _ z).1
        have new := (hok' b _ (un.frzs b ob _ z)).1
        rw [e] at old
        cases old
        exact new
theorem law_go (KX : K.In t0.heap) (hns : t0.heap.Ns mainGlobals mg) (hb : t0.heap.Ns builtinsNs mb) (hbb : ∀ y : Str, y ≠ "__name__" → mb y = bootBuiltins y) (hlim : t0.heap.NoLimit) (hgens : t0.gens = #[]) (hr : Rm k callerA)
    (G : ∀ base : Heap, K.In base → base.Ns mainGlobals mg → FnG P w K mg base (L2.CX P w) k fa fd [x] (spM K mg F)) (hbind : ∀ (s : Shared) (u : Value), BindsTo s fd ⟨[u], []⟩ [(x, u)]) (hF : F [.v (.scr ns)] = some (.rt (.v (.bl true)) none))
    (ha : t0.heap.get? a = some { cls := .type "list", data := .seq vs.toArray }) (hi : IntsAre vs ns) (hl : ns.length ≤ sizeLine) : codeAny (model P w) callerA (.call (.ref fa) ⟨[.ref a], []⟩) (LawEnd t0) t0 := by
  have rv : Vals (ns.map V.int) vs := vals_ints hi
  cases hk : K.lookup a with
  | some o =>
    have e := KX a o hk
    rw [ha] at e
    cases e
    refine law_at KX hns hb hbb hlim hgens hr G hbind hF ha (fun _ => none) (fun _ _ => rfl) (.inl rfl) (fun z => absurd rfl z) ?_ (fun b u z => nomatch z)
    exact .inr ⟨_, vs.toArray, _, hk, rfl, rfl, rfl, by rw [List.size_toArray, hi.length]; exact hl, by simpa using rv⟩
  | none =>
    have at_a : ∀ u, (fun b => if b = a then some u else none : Hp) a = some u := fun u => if_pos rfl
    refine law_at KX hns hb hbb hlim hgens hr G hbind hF ha (fun b => if b = a then some (.frz { cls := .type "list", data := .seq vs.toArray } (.lst (ns.map V.int))) else none) (fun b z => if_neg z) (.inr ⟨_, _, at_a _⟩) (fun _ => hk) (.inl (.inr ⟨_, at_a _⟩)) ?_
    intro b u z
    by_cases eb : b = a
    · subst eb
      rw [at_a] at z
      cases z
      exact ⟨ha, by rw [List.length_map]; exact hl, vs, _, rv, ha⟩
    · rw [show (fun b => if b = a then _ else none : Hp) b = none from if_neg eb] at z
      cases z
end
end Z
end

section
set_option Elab.async false
set_option linter.all false
set_option maxRecDepth 100000
set_option autoImplicit false
/-! Chains of comparisons, isinstance, sorted, range as a list, sums of lists, slices, stores into what a slot owns. -/
namespace SrtO
open PySem PyProof.Rows Srt
section
variable {prog : Program} {w : World} {A : Around} {E : Value → Shared → Prop} {s : Shared}
/-- a tuple's parts, collected -/
theorem collect_tup {l : Addr} {o : Obj} {vs : List Value} {n : Nat} {Q : List Value → Shared → Prop} (ho : s.heap.get? l = some o) (hc : o.cls = .type "tuple") (hd : o.data = .seq vs.toArray n) (hz : vs.length ≤ sizeLine)
    (h : Q vs { s with heap := (s.heap.push (seqObj "list" #[] 0)).update s.heap.objs.size (Obj.mapSeq (· ++ vs.toArray)) }) : wpAny (model prog w) A (collect (.ref l)) Q E s := by
  have hnew : (s.heap.push (seqObj "list" #[] 0)).get? s.heap.objs.size = some (seqObj "list" #[] 0) := Heap.get?_push_size _ rfl
  have hold : (s.heap.push (seqObj "list" #[] 0)).get? l = some o := Heap.get?_push_of_some _ ho
  have hlen : (#[] ++ vs.toArray : Array Value).size ≤ sizeLine + 1 := by
    simp only [Array.size_append, List.size_toArray, List.length_nil]
    omega
  unfold collect
  apply wpAny_bind
  apply wpAny_runValue
  apply codeAny_builtin entry_proto_collect'
  show wpAny _ _ (do again (.builtin "list.__iadd__" ⟨[← newList [], .ref l], []⟩)) _ _ s
  apply wpAny_bind
  refine wpAny_newList ?_ (Nat.zero_le _)
  apply wpAny_pure
  refine ⟨Code.quiet_builtin _ (by decide +kernel), codeAny_builtin entry_list_iadd' ?_⟩
  show wpAny _ _ (Builtin.List.listExtendWith (.ref s.heap.objs.size) (.ref l) (.ref s.heap.objs.size)) _ _ ⟨s.heap.push (seqObj "list" #[] 0), s.gens, s.drawn, s.toks, s.os⟩
  unfold Builtin.List.listExtendWith
  apply wpAny_bind
  refine wpAny_typeOf (v := .ref l) (T := "tuple") ⟨o, hold, hc⟩ ?_
  have tt : (Value.type "tuple" == Value.type "tuple") = true := rfl
  rw [if_pos (by rw [tt, Bool.or_true])]
  apply wpAny_bind
  apply listItems_at hold hd
  apply wpAny_bind
  apply listItems_at (xs := #[]) (n := 0) hnew rfl
  rw [if_neg (by simp)]
  apply wpAny_bind
  refine listUpdate_at (xs := #[]) (n := 0) hnew rfl ?_ (Nat.zero_le _) hlen
  apply wpAny_pure
  show wpAny (model prog w) A (load s.heap.objs.size >>= fun o => match o.data with
    | .seq xs _ => pure xs.toList
    | _ => unsupported "internal:collect") Q E { s with heap := (s.heap.push (seqObj "list" #[] 0)).update s.heap.objs.size (Obj.mapSeq (· ++ vs.toArray)) }
  apply wpAny_bind
  apply wpAny_load (get?_update_seq hnew _)
  show wpAny _ _ (pure ((#[] : Array Value) ++ vs.toArray).toList) Q E _
  have ev : ((#[] : Array Value) ++ vs.toArray).toList = vs := by simp
  rw [ev]
  exact wpAny_pure h
/-- sorted(t), t a tuple of ints -/
theorem sorted_tupI {l : Addr} {vs : List Value} {ns : List Int} {Q : Value → Shared → Prop} (hl : IsTup s.heap l vs.toArray) (hi : IntsAre vs ns) (hz : vs.length ≤ sizeLine)
    (h : ∀ out : List Value, Srtd ltIv out → Stb ltIv out vs → Q (.ref (s.heap.objs.size + 1)) { s with heap := sortedAll s.heap vs out.toArray }) : wpAny (model prog w) A (call (.builtin "sorted") [.ref l]) Q E s := by
  obtain ⟨o, ho, hc, n, hd⟩ := hl
  apply Calls.call_function_entry kind_sorted plain_sorted entry_sorted (args_sorted1 _)
  unfold Builtin.«sorted»
  apply wpAny_bind (m := checkCount "sorted" 1 1 _)
  apply wpAny_pure
  apply wpAny_bind
  apply collect_tup ho hc hd hz
  apply wpAny_bind
  refine wpAny_newList ?_ hz
  generalize hg : (s.heap.push (seqObj "list" #[] 0)).update s.heap.objs.size (Obj.mapSeq (· ++ vs.toArray)) = g1
  have sz : g1.objs.size = s.heap.objs.size + 1 := by rw [← hg, Heap.size_update, size_push']
  have at1 : (g1.push (seqObj "list" vs.toArray 0)).get? (s.heap.objs.size + 1) = some (seqObj "list" vs.toArray 0) := sz ▸ Heap.get?_push_size _ rfl
  show wpAny _ _ _ _ _ { s with heap := g1.push (seqObj "list" vs.toArray 0) }
  rw [sz]
  apply wpAny_bind
  apply wpAny_holding
  refine wpAny_call_entry slot_list_sort ⟨_, at1, rfl⟩ entry_list_sort (list_sort_ord swo_int at1 hz (fun h2 => ints_sortable hi h2) fun out hs hb => ⟨_, rfl, ?_⟩) (args_list_sort _)
  refine wpAny_pure ⟨_, rfl, ?_⟩
  have := h out hs hb
  unfold sortedAll at this
  rw [hg] at this
  exact this
end
end SrtO

namespace Z
open PySem L2
variable {X : Cx}

/-! ### chains of comparisons -/
/-- y against what comes: each link a plain function and its right side -/
def chT : List ((D → D → Option D) × M D) → D → M Bool
  | [], _ => M.ret true
  | (f, m) :: r, y => m.bind fun z => (M.of fun _ => (f y z).bind blOf).bind fun b => if b then chT r z else M.ret false
structure SCh (X : Cx) (pos : Pos) (ops : List CmpOp) (rs : List (Sem Value)) (fs : List ((D → D → Option D) × M D)) : Prop where
  run : ∀ (W : WX), Takes X W → ∀ (pins : List (Addr × Obj)) (s : Shared) (σ : St) (env : Env) (S H : Hp) (v : V) (u : Value) (y : D) (Q : Bool → Hp → Prop), Inv X pins σ H s → RelV v u → Rel X.K X.mg env σ S H → Rp X.K X.mg S v y → Go X.K X.mg W RB (chT fs y) env σ S H Q →
    wpAny (model X.prog X.w) X.A (testChain pos u ops rs) (TP X pins σ Q) X.xe s
/-- a link's own facts -/
theorem link_ok {W : WX} {op : CmpOp} {r2 : R2} {f : D → D → Option D} {c : Expr} {m : M D} {k : D → M Bool} (ho : OpR X (compareOp op) r2) (hr : Says X.K X.mg r2 f) (hc : SV X c m) (tk : Takes X W) {pins : List (Addr × Obj)} {s : Shared} {σ : St} {env : Env} {S H : Hp} {v : V} {u : Value} {y : D} {Q : Bool → Hp → Prop} {P2 : Value → Bool → Shared → Prop}
    (I : Inv X pins σ H s) (rv : RelV v u) (rel : Rel X.K X.mg env σ S H) (ry : Rp X.K X.mg S v y) (g : Go X.K X.mg W RB (m.bind fun z => (M.of fun _ => (f y z).bind blOf).bind fun b => if b then k z else M.ret false) env σ S H Q)
    (hk : ∀ s3 H3 env3 S3 w uw z, Inv X pins σ H3 s3 → RelV w uw → Rel X.K X.mg env3 σ S3 H3 → Rp X.K X.mg S3 w z → Go X.K X.mg W RB (k z) env3 σ S3 H3 Q → P2 uw true s3) (hn : ∀ s3 H3 uw, Inv X pins σ H3 s3 → Q false H3 → P2 uw false s3) :
    wpAny (model X.prog X.w) X.A (eval c X.env) (fun b s₁ => wpAny (model X.prog X.w) X.A (compareOp op u b) (fun t s₂ => wpAny (model X.prog X.w) X.A (truthy t) (fun t s₃ => P2 b t s₃) X.xe s₂) X.xe s₁) X.xe s := by
  have q := g.part (R := RD X.K X.mg) (Q1 := fun w H1 => ∃ env1 S1 z, Rel X.K X.mg env1 σ S1 H1 ∧ Rp X.K X.mg S1 w z ∧ Rp X.K X.mg S1 v y ∧ Go X.K X.mg W RB ((M.of fun _ => (f y z).bind blOf).bind fun b => if b then k z else M.ret false) env1 σ S1 H1 Q) nmB rel fun w H1 env1 S1 z st rz g1 => ⟨env1, S1, z, st.rel, rz, ry.mono st.ext, g1⟩
  refine thn ((hc W tk).run pins s σ H _ I q) ?_
  rintro uw s1 ⟨w, H1, I1, rw', env1, S1, z, rel1, rz, ry1, g1⟩
  have g2 := g1.bind (R := RB) nmB
  obtain ⟨b, e, q2⟩ := g2.of
  cases ef : f y z with
  | none => simp [ef] at e
  | some d =>
    simp only [ef, Option.bind_some] at e
    cases d with
    | bl b' =>
      cases e
      refine thn (ho pins s1 σ H1 v w u uw (fun x H2 => H2 = H1 ∧ x = .bl b) I1 rv rw' (hr rel1.sub ry1 rz ef fun x hx => ⟨rfl, by cases hx S1; rfl⟩)) ?_
      rintro ut s2 ⟨x, H2, I2, r2, rfl, rfl⟩
      cases r2
      refine wpAny_truthy_bool ?_
      obtain ⟨env2, S2, b2, st2, eb, g3⟩ := q2 b S1 H2 (Step.refl rel1) rfl
      have eb' : b = b2 := eb
      subst eb'
      cases b with
      | true => exact hk s2 H2 env2 S2 w uw z I2 rw' st2.rel (rz.mono st2.ext) g3
      | false => exact hn s2 H2 uw I2 (g3.ret (R := RB) st2.rel rfl)
    | _ => cases e
theorem sch_last {pos : Pos} {op : CmpOp} {c : Expr} {r2 : R2} {f : D → D → Option D} {m : M D} (ho : OpR X (compareOp op) r2) (hr : Says X.K X.mg r2 f) (hc : SV X c m) : SCh X pos [op] [eval c X.env] [(f, m)] where
  run := by
    intro W tk pins s σ env S H v u y Q I rv rel ry g
    refine PyProof.Rows.test_last (link_ok (k := chT []) (P2 := fun _ t s₃ => TP X pins σ Q t s₃) ho hr hc tk I rv rel ry g (fun s3 H3 env3 S3 w uw z I3 _ rel3 _ g3 => ⟨H3, I3, g3.ret (R := RB) rel3 rfl⟩) fun s3 H3 uw I3 q => ⟨H3, I3, q⟩)
theorem sch_cons {pos : Pos} {op op' : CmpOp} {ops : List CmpOp} {c : Expr} {r' : Sem Value} {rs : List (Sem Value)} {r2 : R2} {f : D → D → Option D} {m : M D} {fs : List ((D → D → Option D) × M D)} (ho : OpR X (compareOp op) r2) (hr : Says X.K X.mg r2 f) (hc : SV X c m) (h : SCh X pos (op' :: ops) (r' :: rs) fs) : SCh X pos (op :: op' :: ops) (eval c X.env :: r' :: rs) ((f, m) :: fs) where
  run := by
    intro W tk pins s σ env S H v u y Q I rv rel ry g
    refine PyProof.Rows.test_link (link_ok (k := chT fs) (P2 := fun b t s₃ => if t then wpAny (model X.prog X.w) X.A (testChain pos b (op' :: ops) (r' :: rs)) (TP X pins σ Q) X.xe s₃ else TP X pins σ Q false s₃) ho hr hc tk I rv rel ry g (fun s3 H3 env3 S3 w uw z I3 rw3 rel3 rz g3 => ?_) fun s3 H3 uw I3 q => ?_)
    · rw [if_pos rfl]
      exact h.run W tk pins s3 σ env3 S3 H3 w uw z Q I3 rw3 rel3 rz g3
    · rw [if_neg Bool.false_ne_true]
      exact ⟨H3, I3, q⟩
def mChain (m : M D) (fs : List ((D → D → Option D) × M D)) : M Bool := m.bind fun y => chT fs y
theorem st_chain {a b c : Expr} {rs : List Expr} {op op' : CmpOp} {ops : List CmpOp} {m : M D} {fs : List ((D → D → Option D) × M D)} {pos : Pos} (ha : SV X a m) (h : SCh X pos (op :: op' :: ops) (eval b X.env :: eval c X.env :: evalEach rs X.env) fs) (hm : lastMarks (op :: op' :: ops) (b :: c :: rs) = false := by with_unfolding_all rfl) :
    ST X (.Compare a (op :: op' :: ops) (b :: c :: rs) pos) (mChain m fs) := fun W tk => ⟨fun pins s σ H Q I ⟨env, S, rel, g⟩ => by
  refine PyProof.Rows.isTrue_chain ?_ hm
  have q := g.part (R := RD X.K X.mg) (Q1 := fun w H1 => ∃ env1 S1 z, Rel X.K X.mg env1 σ S1 H1 ∧ Rp X.K X.mg S1 w z ∧ Go X.K X.mg W RB (chT fs z) env1 σ S1 H1 Q) nmB rel fun w H1 env1 S1 z st rz g1 => ⟨env1, S1, z, st.rel, rz, g1⟩
  refine thn ((ha W tk).run pins s σ H _ I q) ?_
  rintro u s1 ⟨v, H1, I1, rv, env1, S1, z, rel1, rz, g1⟩
  exact h.run W tk pins s1 σ env1 S1 H1 v u z Q I1 rv rel1 rz g1⟩

/-! ### isinstance with built-in types -/
def tyN : D → Option String
  | .non => some "NoneType"
  | .bl _ => some "bool"
  | .int _ => some "int"
  | .str _ => some "str"
  | .lst _ => some "list"
  | .tup _ => some "tuple"
  | .dct _ _ => some "dict"
  | _ => none
def fIsi (T : String) (d : D) : Option D := (tyN d).bind fun n => (kitB n T).bind fun b => some (.bl b)
def kitB2 (n : String) : List String → Option Bool
  | [] => some false
  | T :: Ts => (kitB n T).bind fun b => (kitB2 n Ts).bind fun r => some (b || r)
def fIsiT (Ts : List String) (d : D) : Option D := (tyN d).bind fun n => (kitB2 n Ts).bind fun b => some (.bl b)
section
variable {K : PySem.W.Frag} {mg : Str → Option Value}
theorem Tp.ty {S H : Hp} {v : V} {d : D} {n : String} (sub : Same S H) (h : Tp K mg S H v d) (e : tyN d = some n) : TyX K H v (.type n) := by
  cases d with
  | lst ds =>
    obtain ⟨p, vs, rfl, h2, _⟩ := h.lst sub
    cases e
    exact .base (.lst h2)
  | tup ds =>
    obtain ⟨p, vs, rfl, h2, _⟩ := h.tup sub
    cases e
    rcases h2 with (h2 | ⟨o, h2⟩) | ⟨o, its, k, h2, h3, _⟩
    · exact .base (.tup h2)
    · exact .fTuple h2
    · exact .kTuple h2 h3
  | dct ks ds =>
    cases e
    rcases h with h | ⟨a, ho, rfl, h2, h3⟩
    · cases h with | dct a b c r => exact .base (.dK (sub _ _ a))
    · cases h3; exact .base (.dK h2)
  | ins _ _ _ => cases e
  | scr _ => cases e
  | _ =>
    cases e
    rcases h with h | ⟨a, ho, rfl, h2, h3⟩
    · cases h
      constructor
      constructor
    · cases h3
theorem kitAny_of {n : String} : ∀ {Ts : List String} {b : Bool}, kitB2 n Ts = some b → PySem.W.kitAny K (.type n) (Ts.map Value.type) = some b
  | [], _, h => by cases h; exact kitAny_nil
  | T :: Ts, b, h => by
    unfold kitB2 at h
    cases e1 : kitB n T with
    | none => simp [e1] at h
    | some c =>
      cases e2 : kitB2 n Ts with
      | none => simp [e1, e2] at h
      | some r =>
        simp only [e1, e2, Option.bind_some] at h
        cases h
        refine kitAny_cons (kit_ty e1) (fun z => ?_) (fun z => by rw [z]; rfl)
        subst z
        exact kitAny_of e2
end
section
variable {a : Expr} {m : M Rs} {p q pos : Pos} {T T2 : Str} {t t2 : String}
theorem sv_isi (ha : SR X a m) (hm : X.mg "isinstance" = none) (hT : X.mg T = none) (hv : bootBuiltins T = some (.type t)) (hg : Gl X "isinstance" := by rfl) (hgT : Gl X T := by rfl) (hn : T ≠ "__name__" := by decide) (hd : (T == ("__debug__" : Str)) = false := by decide)
    (h1 : starEach [a, .Name T q] X.env = (false, eval a X.env) :: starEach [.Name T q] X.env := by rfl) (h2 : starEach [.Name T q] X.env = (false, eval (.Name T q) X.env) :: starEach [] X.env := by rfl) (h3 : (backTo pos (starEach [.Name T q] X.env)).any (·.1) = false := by rfl) :
    SV X (.Call (.Name "isinstance" p) [a, .Name T q] [] pos) (mG (fIsi t) m) := fun W tk =>
  pe_imp (pe_callB call_isi hg hm (by decide +kernel) (pa_cons (ha W tk) (pa_cons (pe_bltn (v := .ty t) hgT hT hv rfl hn hd) pa_nil h2) h1) (by decide) (by decide) h1 h3) fun σ H Q ⟨env, S, rl, g⟩ =>
  g.part nmD rl fun x H1 env1 S1 a st ra g1 => by
    obtain ⟨d, o, tp, e, k⟩ := g1.get st.rel ra
    unfold fIsi at e
    cases e1 : tyN d with
    | none => simp [e1] at e
    | some n =>
      cases e2 : kitB n t with
      | none => simp [e1, e2] at e
      | some b =>
        simp only [e1, e2, Option.bind_some] at e
        cases e
        exact ⟨x, .ty t, _, _, b, rfl, .ty t, tp.ty st.rel.sub e1, kit_ty e2, k _ S1 H1 (Step.refl st.rel) (.bl b)⟩
theorem sv_isi2 {q2 qt : Pos} {kt : Nat} (ha : SR X a m) (hm : X.mg "isinstance" = none) (hT : X.mg T = none) (hv : bootBuiltins T = some (.type t)) (hT2 : X.mg T2 = none) (hv2 : bootBuiltins T2 = some (.type t2)) (hg : Gl X "isinstance" := by rfl) (hgT : Gl X T := by rfl) (hgT2 : Gl X T2 := by rfl) (hn : T ≠ "__name__" := by decide) (hd : (T == ("__debug__" : Str)) = false := by decide)
    (hn2 : T2 ≠ "__name__" := by decide) (hd2 : (T2 == ("__debug__" : Str)) = false := by decide)
    (h1 : starEach [a, .Tuple [.Name T q, .Name T2 q2] kt qt] X.env = (false, eval a X.env) :: starEach [.Tuple [.Name T q, .Name T2 q2] kt qt] X.env := by rfl) (h2 : starEach [.Tuple [.Name T q, .Name T2 q2] kt qt] X.env = (false, eval (.Tuple [.Name T q, .Name T2 q2] kt qt) X.env) :: starEach [] X.env := by rfl)
    (h3 : (backTo pos (starEach [.Tuple [.Name T q, .Name T2 q2] kt qt] X.env)).any (·.1) = false := by rfl) (h4 : starEach [.Name T q, .Name T2 q2] X.env = (false, eval (.Name T q) X.env) :: starEach [.Name T2 q2] X.env := by rfl) (h5 : starEach [.Name T2 q2] X.env = (false, eval (.Name T2 q2) X.env) :: starEach [] X.env := by rfl) :
    SV X (.Call (.Name "isinstance" p) [a, .Tuple [.Name T q, .Name T2 q2] kt qt] [] pos) (mG (fIsiT [t, t2]) m) := fun W tk =>
  pe_imp (pe_callB call_isiT hg hm (by decide +kernel) (pa_cons (ha W tk) (pa_cons (pe_tup (pa_cons (pe_bltn (v := .ty t) hgT hT hv rfl hn hd) (pa_cons (pe_bltn (v := .ty t2) hgT2 hT2 hv2 rfl hn2 hd2) pa_nil h5) h4)) pa_nil h2) h1) (by decide) (by decide) h1 h3) fun σ H Q ⟨env, S, rl, g⟩ =>
  g.part nmD rl fun x H1 env1 S1 a st ra g1 => by
    obtain ⟨d, o, tp, e, k⟩ := g1.get st.rel ra
    unfold fIsiT at e
    cases e1 : tyN d with
    | none => simp [e1] at e
    | some n =>
      cases e2 : kitB2 n [t, t2] with
      | none => simp [e1, e2] at e
      | some b =>
        simp only [e1, e2, Option.bind_some] at e
        cases e
        refine ⟨by show 2 ≤ sizeLine; decide, fun pt hp => ?_⟩
        have st2 := st.rel.laid (u := .tup [.ty t, .ty t2]) hp false
        have tp2 : Tp X.K X.mg S1 (upd H1 pt (.tup [.ty t, .ty t2])) x d := by
          rcases tp with tp | ⟨b, ho, rfl, h2, h3⟩
          · exact .inl tp
          · exact .inr ⟨b, ho, rfl, by rw [upd_ne (ne_of_none h2 hp)]; exact h2, h3⟩
        exact ⟨x, pt, [.ty t, .ty t2], _, [.type t, .type t2], b, rfl, upd_same, .cons (.ty t) (.cons (.ty t2) .nil), tp2.ty st2.rel.sub e1, kitAny_of e2, k _ S1 _ st2 (.bl b)⟩
end

/-! ### sorted -/
def ins1 (i : Int) : List Int → List Int
  | [] => [i]
  | j :: r => if i ≤ j then i :: j :: r else j :: ins1 i r
def isort : List Int → List Int
  | [] => []
  | i :: r => ins1 i (isort r)
theorem ins1_perm (i : Int) : ∀ r : List Int, (ins1 i r).Perm (i :: r)
  | [] => List.Perm.refl _
  | j :: r => by
    unfold ins1
    split
    · exact List.Perm.refl _
    · exact ((ins1_perm i r).cons j).trans (List.Perm.swap i j r)
theorem ins1_sorted {i : Int} : ∀ {r : List Int}, r.Pairwise (· ≤ ·) → (ins1 i r).Pairwise (· ≤ ·)
  | [], _ => List.pairwise_singleton _ _
  | j :: r, h => by
    obtain ⟨h1, h2⟩ := List.pairwise_cons.mp h
    unfold ins1
    split
    · rename_i hij
      refine List.pairwise_cons.mpr ⟨fun k hk => ?_, h⟩
      rcases List.mem_cons.mp hk with e | hk
      · rw [e]; exact hij
      · exact Int.le_trans hij (h1 k hk)
    · rename_i hij
      refine List.pairwise_cons.mpr ⟨fun k hk => ?_, ins1_sorted h2⟩
      rcases List.mem_cons.mp ((ins1_perm i r).mem_iff.mp hk) with e | hk
      · omega
      · exact h1 k hk
theorem isort_perm : ∀ r : List Int, (isort r).Perm r
  | [] => List.Perm.refl _
  | i :: r => (ins1_perm i (isort r)).trans ((isort_perm r).cons i)
theorem isort_sorted : ∀ r : List Int, (isort r).Pairwise (· ≤ ·)
  | [] => List.Pairwise.nil
  | i :: r => ins1_sorted (isort_sorted r)
theorem isort_eq {r r' : List Int} (h : r'.Perm r) (hs : r'.Pairwise (· ≤ ·)) : r' = isort r := PySem.W.ksm_same (h.trans (isort_perm r).symm) hs (isort_sorted r)
/-- sorted of a tuple of ints -/
theorem cr_sortedTI : CallR X (.builtin "sorted") (fun vs H Q => ∃ (a : Addr) (ns : List Int), vs = [V.ref a] ∧ SqT X.K H a (ns.map V.int) ∧ ∀ p, H p = none → Q (.ref p) (upd H p (.lst ((isort ns).map V.int)))) := by
  rintro pins s σ H vs us Q I r ⟨a, ns, rfl, hs, q⟩
  obtain ⟨its, rv, ht, hz⟩ := I.tuple hs
  rw [Vals.ref1 r]
  have hi := rv.ints
  refine SrtO.sorted_tupI ht hi (by rw [← rv.length]; exact hz) fun out h1 h2 => ?_
  obtain ⟨k1, k2, k3⟩ := SrtO.ints_out hi h1 h2
  obtain ⟨ep, he'⟩ := PyProof.Rows.sortedAll_at s.heap its out.toArray
  have hm := isort_eq k2 k3
  have hlen : ((isort ns).map V.int).length ≤ sizeLine := by
    rw [List.length_map, (isort_perm ns).length_eq]
    rw [List.length_map] at hz
    exact hz
  have hv : Vals ((isort ns).map V.int) out := by
    rw [← hm]
    exact vals_of_ints k1
  exact ⟨.ref _, upd H (s.heap.objs.size + 1) (.lst ((isort ns).map V.int)), I.laid (t' := s.toks) (fun _ _ => PyProof.Rows.sortedAll_old) (Nat.le_succ _) ⟨hlen, out, ep, hv, he'⟩, rfl, q _ (I.hok.fresh (Nat.le_succ _))⟩
theorem callR_or {f : Value} {r r' : List V → Hp → VK → Prop} (h : CallR X f r) (h' : CallR X f r') : CallR X f (fun vs H Q => r vs H Q ∨ r' vs H Q) := fun pins s σ H xs us Q I rv q => q.elim (h pins s σ H xs us Q I rv) (h' pins s σ H xs us Q I rv)
def fSorted : D → Option D
  | .lst ds => (allOf inOf ds).bind fun ns => some (.lst ((isort ns).map .int))
  | .tup ds => (allOf inOf ds).bind fun ns => some (.lst ((isort ns).map .int))
  | _ => none
theorem sr_sorted {a : Expr} {m : M Rs} {p pos : Pos} (ha : SR X a m) (hm : X.mg "sorted" = none) (hg : Gl X "sorted" := by rfl) (he : starEach [a] X.env = (false, eval a X.env) :: starEach [] X.env := by rfl) : SR X (.Call (.Name "sorted" p) [a] [] pos) (mN fSorted m) := fun W tk =>
  pe_imp (pe_callB (callR_or cr_sortedI cr_sortedTI) hg hm (by decide +kernel) (pa_cons (ha W tk) pa_nil he) (by decide) (by decide) he) (tm_n fun {S H x a d Q} sub t e q => by
    cases a with
    | lst ds =>
      obtain ⟨p, vs, rfl, h2, h3⟩ := t.lst sub
      cases er : allOf inOf ds with
      | none => simp [fSorted, er] at e
      | some ns =>
        simp only [fSorted, er, Option.bind_some] at e
        cases e
        rw [h3.ints er] at h2
        exact .inl ⟨p, ns, rfl, .of h2, fun ns' p hp hs hn => by
          rw [isort_eq hp hs]
          exact q p _ hn (.lst (RpA.of_ints _))⟩
    | tup ds =>
      obtain ⟨p, vs, rfl, h2, h3⟩ := t.tup sub
      cases er : allOf inOf ds with
      | none => simp [fSorted, er] at e
      | some ns =>
        simp only [fSorted, er, Option.bind_some] at e
        cases e
        rw [h3.ints er] at h2
        exact .inr ⟨p, ns, rfl, h2, fun p hn => q p _ hn (.lst (RpA.of_ints _))⟩
    | _ => cases e)

/-! ### ranges as lists and tuples -/
def okRg (i : Int) : Bool := decide (i ≤ 1000000) && decide (-1000000 ≤ i)
theorem okRg_of {i : Int} (h : okRg i = true) : RgOk 0 i := by
  unfold okRg at h
  simp only [Bool.and_eq_true, decide_eq_true_eq] at h
  exact ⟨by omega, by omega, by omega, by omega, by omega⟩
def fRg : D → Option (List D)
  | .int i => if okRg i then some (rng i.toNat) else none
  | _ => none
def mListRg (m : M D) : M Rs := m.bind fun d => M.of fun _ => (fRg d).bind fun ds => some (.fr (.lst ds))
def mTupRg (m : M D) : M D := m.bind fun d => M.of fun _ => (fRg d).bind fun ds => some (.tup ds)
theorem rgV_rp {K : PySem.W.Frag} {mg : Str → Option Value} {S : Hp} {i : Int} : RpA K mg S (rgV 0 i) (rng i.toNat) := by
  unfold rgV rng
  rw [show (i - 0).toNat = i.toNat by simp]
  generalize i.toNat = n
  have h : ∀ l : List Nat, RpA K mg S (l.map fun i => V.int (0 + (i : Nat))) (l.map fun i => D.int (i : Nat)) := fun l => by
    induction l with
    | nil => exact .nil
    | cons a l ih => exact .cons (by show Rp K mg S (.int (0 + (a : Int))) (.int (a : Int)); rw [Int.zero_add]; exact .int _) ih
  exact h _
section
variable {a : Expr} {m : M D} {p q pos qp : Pos}
theorem sr_listRg (hc : X.calm = true) (ha : SV X a m) (hm : X.mg "list" = none) (hm2 : X.mg "range" = none) (hg : Gl X "list" := by rfl) (hg2 : Gl X "range" := by rfl) (h1 : starEach [a] X.env = (false, eval a X.env) :: starEach [] X.env := by rfl)
    (h2 : starEach [.Call (.Name "range" q) [a] [] qp] X.env = (false, eval (.Call (.Name "range" q) [a] [] qp) X.env) :: starEach [] X.env := by rfl) : SR X (.Call (.Name "list" p) [.Call (.Name "range" q) [a] [] qp] [] pos) (mListRg m) := fun W tk =>
  pe_imp (pe_listRg hc hg hm (prg_1 hg2 hm2 (ha W tk) h1) h2) fun σ H Q ⟨env, S, rl, g⟩ => g.part nmR rl fun x H1 env1 S1 d st ra g1 => by
    obtain ⟨o, e, k⟩ := g1.of
    cases d with
    | int i =>
      by_cases hz : okRg i = true
      · simp only [fRg, hz, if_true, Option.bind_some] at e
        cases e
        cases ra
        refine ⟨i, rfl, okRg_of hz, fun pt hp => ?_⟩
        obtain ⟨s1, s2⟩ := new_apart st.rel (u := .lst (rgV 0 i)) (d := .lst (rng i.toNat)) hp (.lst rgV_rp)
        exact k _ _ _ s1 s2
      · simp [fRg, hz] at e
    | _ => cases e
theorem sv_tupRg (hc : X.calm = true) (ha : SV X a m) (hm : X.mg "tuple" = none) (hm2 : X.mg "range" = none) (hg : Gl X "tuple" := by rfl) (hg2 : Gl X "range" := by rfl) (h1 : starEach [a] X.env = (false, eval a X.env) :: starEach [] X.env := by rfl)
    (h2 : starEach [.Call (.Name "range" q) [a] [] qp] X.env = (false, eval (.Call (.Name "range" q) [a] [] qp) X.env) :: starEach [] X.env := by rfl) : SV X (.Call (.Name "tuple" p) [.Call (.Name "range" q) [a] [] qp] [] pos) (mTupRg m) := fun W tk =>
  pe_imp (pe_tupRg hc hg hm (prg_1 hg2 hm2 (ha W tk) h1) h2) fun σ H Q ⟨env, S, rl, g⟩ => g.part nmD rl fun x H1 env1 S1 d st ra g1 => by
    obtain ⟨o, e, k⟩ := g1.of
    cases d with
    | int i =>
      by_cases hz : okRg i = true
      · simp only [fRg, hz, if_true, Option.bind_some] at e
        cases e
        cases ra
        refine ⟨i, rfl, okRg_of hz, fun pt hp => k _ _ _ (new_stay st.rel hp) (.tup (.of upd_same) rgV_rp)⟩
      · simp [fRg, hz] at e
    | _ => cases e
end

/-! ### [x] * n, xs + ys -/
def mOpN (f : D → D → Option D) (ma mb : M Rs) : M Rs := ma.bind fun a => mb.bind fun b => M.of fun env => (a.get env).bind fun x => (b.get env).bind fun y => (f x y).bind fun o => some (.fr o)
theorem tm_opN {W : WX} {r : R2} {f : D → D → Option D} {ma mb : M Rs} (hr : ∀ {S H : Hp} {x y : V} {a b d : D} {Q : VK}, Same S H → Tp X.K X.mg S H x a → Tp X.K X.mg S H y b → f a b = some d → (∀ p u, H p = none → HoR X.K X.mg S u d → Q (.ref p) (upd H p u)) → r x y H Q) :
    ∀ σ H Q, tM X.K X.mg W (RR X.K X.mg) (mOpN f ma mb) σ H Q → tOp r (tM X.K X.mg W (RR X.K X.mg) ma) (tM X.K X.mg W (RR X.K X.mg) mb) σ H Q := fun σ H Q ⟨env, S, rl, g⟩ =>
  g.part nmR rl fun x H1 env1 S1 a st ra g1 => g1.part nmR st.rel fun y H2 env2 S2 b st2 rb g2 => by
    obtain ⟨d, e, q⟩ := g2.of
    cases ea : a.get env2 with
    | none => simp [ea] at e
    | some a' =>
      cases eb : b.get env2 with
      | none => simp [ea, eb] at e
      | some b' =>
        cases ef : f a' b' with
        | none => simp [ea, eb, ef] at e
        | some o =>
          simp only [ea, eb, ef, Option.bind_some] at e
          cases e
          exact hr st2.rel.sub (RsR.tp st2.rel (RsR.mono st2 ra) ea) (RsR.tp st2.rel rb eb) ef fun p u hp hu => by
            obtain ⟨s1, s2⟩ := new_apart st2.rel hp hu
            exact q _ _ _ s1 s2
theorem RpA.rep {K : PySem.W.Frag} {mg : Str → Option Value} {S : Hp} {vs : List V} {ds : List D} (h : RpA K mg S vs ds) : ∀ n : Nat, RpA K mg S (List.replicate n vs).flatten (List.replicate n ds).flatten
  | 0 => .nil
  | n + 1 => h.app (h.rep n)
def fRep : D → D → Option D
  | .lst ds, .int k => if decide (-1000000 ≤ k) && decide (k ≤ 1000000) && szOk (ds.length * k.toNat) then some (.lst (List.replicate k.toNat ds).flatten) else none
  | _, _ => none
def fCat : D → D → Option D
  | .lst ds, .lst es => if szOk (ds.length + es.length) then some (.lst (ds ++ es)) else none
  | _, _ => none
section
variable {a b : Expr} {ma mb : M Rs} {na nb : M D} {pos : Pos}
theorem sr_rep (ha : SR X a ma) (hb : SV X b nb) : SR X (.BinOp a .Mult b pos) (mOpN fRep ma (mR nb)) := fun W tk => pe_imp (pe_op op_rep (ha W tk) (sr_v hb W tk)) (tm_opN fun {S H x y a b d Q} sub ta tb e q => by
  cases a with
  | lst ds =>
    cases b with
    | int k =>
      have e' : (if (decide (-1000000 ≤ k) && decide (k ≤ 1000000) && szOk (ds.length * k.toNat)) = true then some (D.lst (List.replicate k.toNat ds).flatten) else none) = some d := e
      split at e'
      · rename_i hz
        simp only [Bool.and_eq_true, decide_eq_true_eq] at hz
        cases e'
        obtain ⟨p, vs, rfl, h2, h3⟩ := ta.lst sub
        have hy : y = .int k := by
          rcases tb with tb | ⟨_, _, _, _, tb⟩
          · cases tb; rfl
          · cases tb
        exact ⟨p, k, vs, rfl, hy, h2, by omega, by omega, by rw [h3.len]; exact szOk_of hz.2, fun p hp => q p _ hp (.lst (h3.rep _))⟩
      · cases e'
    | _ => cases e
  | _ => cases e)
theorem sr_cat (ha : SR X a ma) (hb : SR X b mb) : SR X (.BinOp a .Add b pos) (mOpN fCat ma mb) := fun W tk => pe_imp (pe_op op_cat (ha W tk) (hb W tk)) (tm_opN fun {S H x y a b d Q} sub ta tb e q => by
  cases a with
  | lst ds =>
    cases b with
    | lst es =>
      have e' : (if szOk (ds.length + es.length) = true then some (D.lst (ds ++ es)) else none) = some d := e
      split at e'
      · rename_i hz
        cases e'
        obtain ⟨p, vs, rfl, h2, h3⟩ := ta.lst sub
        obtain ⟨p2, vs2, rfl, k2, k3⟩ := tb.lst sub
        exact ⟨p, p2, vs, vs2, rfl, rfl, h2, k2, by rw [h3.len, k3.len]; exact szOk_of hz, fun p hp => q p _ hp (.lst (h3.app k3))⟩
      · cases e'
    | _ => cases e
  | _ => cases e)
/-- of tuples: what comes stays -/
def fCatT : D → D → Option D
  | .tup ds, .tup es => if szOk (ds.length + es.length) then some (.tup (ds ++ es)) else none
  | _, _ => none
theorem sv_catT (ha : SV X a na) (hb : SV X b nb) : SV X (.BinOp a .Add b pos) (mOp fCatT na nb) := fun W tk => pe_imp (pe_op op_catA (ha W tk) (hb W tk)) fun σ H Q ⟨env, S, rl, g⟩ =>
  g.part nmD rl fun x H1 env1 S1 a st ra g1 => g1.part nmD st.rel fun y H2 env2 S2 b st2 rb g2 => by
    obtain ⟨d, e, q⟩ := g2.of
    cases a with
    | tup ds =>
      cases b with
      | tup es =>
        have e' : (if szOk (ds.length + es.length) = true then some (D.tup (ds ++ es)) else none) = some d := e
        split at e'
        · rename_i hz
          cases e'
          have ra' : Rp X.K X.mg S2 x (.tup ds) := Rp.mono st2.ext ra
          have rb' : Rp X.K X.mg S2 y (.tup es) := rb
          cases ra' with
          | tup a1 a2 =>
            cases rb' with
            | tup b1 b2 =>
              refine ⟨_, _, _, _, rfl, rfl, same_tup st2.rel.sub a1, same_tup st2.rel.sub b1, by rw [a2.len, b2.len]; exact szOk_of hz, fun z => ?_, fun _ z => ?_, fun _ _ p hp => ?_⟩
              · subst z
                cases a2
                exact q _ S2 H2 (Step.refl st2.rel) (.tup b1 b2)
              · subst z
                cases b2
                rw [List.append_nil] at q
                exact q _ S2 H2 (Step.refl st2.rel) (.tup a1 a2)
              · exact q _ _ _ (new_stay st2.rel hp) (.tup (.of upd_same) ((a2.app b2).mono (same_upd (st2.rel.sub.free hp))))
        · cases e'
      | _ => cases e
    | _ => cases e
end
end Z
end

section
set_option Elab.async false
set_option linter.all false
set_option maxRecDepth 100000
set_option autoImplicit false
/-! Slices, min, max, lcm, repr, stores into what a slot owns as a target, name op= e. -/
namespace Z
open PySem L2
variable {X : Cx}

/-! ### slices -/
def ROI : RL (Option Int) (Option Int) := fun _ _ _ _ _ a b => a = b
theorem nmO : RNm ROI := fun _ _ _ _ _ _ _ h => h
def SP1 (X : Cx) (e : Option Expr) (m : M (Option Int)) : Prop := ∀ W, Takes X W → PO X e (tM X.K X.mg W ROI m)
theorem po_imp {e : Option Expr} {t t' : TO} (h : PO X e t) (i : ∀ σ H Q, t' σ H Q → t σ H Q) : PO X e t' := ⟨fun pins s σ H Q I q => h.run pins s σ H Q I (i σ H Q q)⟩
theorem sp_none : SP1 X none (M.ret none) := fun W tk => po_imp po_none fun σ H Q ⟨env, S, r, g⟩ => g.ret (R := ROI) r rfl
def mPart (m : M D) : M (Option Int) := m.bind fun d => M.of fun _ => (inOf d).bind fun i => some (some i)
theorem sp_some {e : Expr} {m : M D} (h : SV X e m) : SP1 X (some e) (mPart m) := fun W tk => po_imp (po_some (h W tk)) fun σ H Q ⟨env, S, r, g⟩ => g.part nmO r fun x H1 env1 S1 d st ra g1 => by
  obtain ⟨o, e, k⟩ := g1.of
  cases d with
  | int i =>
    cases e
    cases ra
    exact ⟨i, rfl, k _ S1 H1 (Step.refl st.rel) rfl⟩
  | _ => cases e
def cut {α : Type} (xs : List α) (lo hi : Option Int) : List α := (xs.drop (HT.sIx xs.length 0 lo)).take (HT.sIx xs.length xs.length hi - HT.sIx xs.length 0 lo)
theorem RpA.cut {K : PySem.W.Frag} {mg : Str → Option Value} {S : Hp} {vs : List V} {ds : List D} (h : RpA K mg S vs ds) (lo hi : Option Int) : RpA K mg S (cutV vs lo hi) (Z.cut ds lo hi) := by
  unfold cutV Z.cut
  rw [h.len]
  exact (h.drop _).take _
theorem cut_map {α β : Type} (f : α → β) (xs : List α) (lo hi : Option Int) : cut (xs.map f) lo hi = (cut xs lo hi).map f := by
  unfold cut
  rw [List.length_map, List.map_take, List.map_drop]
def fSl (lo hi : Option Int) : D → Option Rs
  | .lst ds => some (.fr (.lst (cut ds lo hi)))
  | .scr ns => some (.fr (.lst ((cut ns lo hi).map .int)))
  | .tup ds => some (.v (.tup (cut ds lo hi)))
  | .str s => if szOk s.length then some (.v (.str (cutS s lo hi))) else none
  | _ => none
def mSl (m : M Rs) (lo hi : M (Option Int)) : M Rs := m.bind fun r => lo.bind fun l => hi.bind fun h => M.of fun env => (r.get env).bind fun d => fSl l h d
theorem whole_cut {α : Type} {xs : List α} {lo hi : Option Int} (h : HT.sIx xs.length 0 lo = 0 ∧ HT.sIx xs.length xs.length hi = xs.length) : cut xs lo hi = xs := by
  unfold cut
  rw [h.1, h.2, List.drop_zero, Nat.sub_zero, List.take_length]
theorem sr_slice {e : Expr} {lo hi : Option Expr} {m : M Rs} {ml mh : M (Option Int)} {p2 pos : Pos} (he : SR X e m) (hl : SP1 X lo ml) (hu : SP1 X hi mh) : SR X (.Subscript e (.Slice lo hi none p2) pos) (mSl m ml mh) := fun W tk =>
  pe_imp (pe_slice (L2.SlR.or sl_list (L2.SlR.or sl_tupA sl_str)) (he W tk) (hl W tk) (hu W tk)) fun σ H Q ⟨env, S, r, g⟩ =>
  g.part nmR r fun x H1 env1 S1 rs st ra g1 => g1.part (R := ROI) nmR st.rel fun l H2 env2 S2 l' st2 el g2 => g2.part (R := ROI) nmR st2.rel fun u H3 env3 S3 u' st3 eu g3 => by
    have el' : l = l' := el
    have eu' : u = u' := eu
    subst el'
    subst eu'
    obtain ⟨o, e, k⟩ := g3.of
    have ra3 := RsR.mono st3 (RsR.mono st2 ra)
    cases er : rs.get env3 with
    | none => simp [er] at e
    | some d =>
      simp only [er, Option.bind_some] at e
      have t := RsR.tp st3.rel ra3 er
      cases d with
      | lst ds =>
        obtain ⟨p, vs, rfl, h2, h3⟩ := t.lst st3.rel.sub
        cases e
        refine .inl ⟨p, vs, rfl, .of h2, fun q hq => ?_⟩
        obtain ⟨s1, s2⟩ := new_apart st3.rel (d := .lst (cut ds l u)) hq (.lst (h3.cut l u))
        exact k _ _ _ s1 s2
      | scr ns =>
        rcases t with t | ⟨_, _, _, _, t⟩
        · cases t with
          | scr h2 =>
            cases e
            refine .inl ⟨_, _, rfl, st3.rel.sub.seq h2, fun q hq => ?_⟩
            have hr : RpA X.K X.mg S3 (cutV (ns.map V.int) l u) ((cut ns l u).map D.int) := by
              have h := RpA.of_ints (K := X.K) (mg := X.mg) (S := S3) (cut ns l u)
              rw [← cut_map] at h
              exact h
            obtain ⟨s1, s2⟩ := new_apart st3.rel (d := .lst ((cut ns l u).map D.int)) hq (.lst hr)
            exact k _ _ _ s1 s2
        · cases t
      | tup ds =>
        cases e
        have h := t
        rcases t with t | ⟨_, _, _, _, t⟩
        · obtain ⟨p, vs, rfl, h2, h3⟩ := h.tup st3.rel.sub
          refine .inr (.inl ⟨p, vs, rfl, h2, fun z => ?_, fun _ q hq => ?_⟩)
          · have z' : HT.sIx ds.length 0 l = 0 ∧ HT.sIx ds.length ds.length u = ds.length := by rw [← h3.len]; exact z
            rw [whole_cut z'] at k
            exact k _ S3 H3 (Step.refl st3.rel) t
          · exact k _ _ _ (new_stay st3.rel hq) (.tup (.of upd_same) ((h3.cut l u).mono (same_upd (st3.rel.sub.free hq))))
        · cases t
      | str s =>
        have e' : (if szOk s.length = true then some (Rs.v (.str (cutS s l u))) else none) = some o := e
        split at e'
        · rename_i hz
          cases e'
          rcases t with t | ⟨_, _, _, _, t⟩
          · cases t
            exact .inr (.inr ⟨s, rfl, szOk_of hz, k _ S3 H3 (Step.refl st3.rel) (.str _)⟩)
          · cases t
        · cases e'
      | _ => cases e

/-! ### min, max of ints in a list; of two ints -/
def minL : List Int → Option Int
  | [] => none
  | i :: r => some (r.foldl (fun a b => if b < a then b else a) i)
def maxL : List Int → Option Int
  | [] => none
  | i :: r => some (r.foldl (fun a b => if a < b then b else a) i)
theorem foldl_min : ∀ (r : List Int) (i : Int), (∀ m, m ∈ i :: r → (∀ y ∈ i :: r, m ≤ y) → r.foldl (fun a b => if b < a then b else a) i = m)
  | [], i, m, h, _ => (List.mem_singleton.mp h).symm
  | j :: r, i, m, h, hm => by
    rw [List.foldl_cons]
    refine foldl_min r _ m ?_ ?_
    · have h1 := hm i List.mem_cons_self
      have h2 := hm j (List.mem_cons_of_mem _ List.mem_cons_self)
      split
      · rcases List.mem_cons.mp h with e | h
        · subst e; omega
        · exact h
      · rcases List.mem_cons.mp h with e | h
        · subst e; exact List.mem_cons_self
        · rcases List.mem_cons.mp h with e | h
          · subst e
            have : m = i := by omega
            rw [this]
            exact List.mem_cons_self
          · exact List.mem_cons_of_mem _ h
    · intro y hy
      rcases List.mem_cons.mp hy with e | hy
      · subst e
        split
        · exact hm j (List.mem_cons_of_mem _ List.mem_cons_self)
        · exact hm i List.mem_cons_self
      · exact hm y (List.mem_cons_of_mem _ (List.mem_cons_of_mem _ hy))
theorem foldl_max : ∀ (r : List Int) (i : Int), (∀ m, m ∈ i :: r → (∀ y ∈ i :: r, y ≤ m) → r.foldl (fun a b => if a < b then b else a) i = m)
  | [], i, m, h, _ => (List.mem_singleton.mp h).symm
  | j :: r, i, m, h, hm => by
    rw [List.foldl_cons]
    refine foldl_max r _ m ?_ ?_
    · have h1 := hm i List.mem_cons_self
      have h2 := hm j (List.mem_cons_of_mem _ List.mem_cons_self)
      split
      · rcases List.mem_cons.mp h with e | h
        · subst e; omega
        · exact h
      · rcases List.mem_cons.mp h with e | h
        · subst e; exact List.mem_cons_self
        · rcases List.mem_cons.mp h with e | h
          · subst e
            have : m = i := by omega
            rw [this]
            exact List.mem_cons_self
          · exact List.mem_cons_of_mem _ h
    · intro y hy
      rcases List.mem_cons.mp hy with e | hy
      · subst e
        split
        · exact hm j (List.mem_cons_of_mem _ List.mem_cons_self)
        · exact hm i List.mem_cons_self
      · exact hm y (List.mem_cons_of_mem _ (List.mem_cons_of_mem _ hy))
def fMinL : D → Option D
  | .lst ds => (allOf inOf ds).bind fun ns => (minL ns).bind fun i => some (.int i)
  | _ => none
def fMaxL : D → Option D
  | .lst ds => (allOf inOf ds).bind fun ns => (maxL ns).bind fun i => some (.int i)
  | _ => none
section
variable {a b : Expr} {m : M Rs} {n n2 : M D} {p pos : Pos}
theorem sv_minL (hc : X.calm = true) (ha : SR X a m) (hm : X.mg "min" = none) (hg : Gl X "min" := by rfl) (he : starEach [a] X.env = (false, eval a X.env) :: starEach [] X.env := by rfl) : SV X (.Call (.Name "min" p) [a] [] pos) (mG fMinL m) := fun W tk =>
  pe_imp (pe_callB (cr_min hc) hg hm (by decide +kernel) (pa_cons (ha W tk) pa_nil he) (by decide) (by decide) he) (tm_g fun {S H x a d Q} sub t e q => by
    cases a <;> first | (cases e; done) | skip
    rename_i ds
    obtain ⟨p, vs, rfl, h2, h3⟩ := t.lst sub
    cases er : allOf inOf ds with
    | none => simp [fMinL, er] at e
    | some ns =>
      cases ns with
      | nil => simp [fMinL, er, minL] at e
      | cons i r =>
        simp only [fMinL, er, minL, Option.bind_some] at e
        cases e
        rw [h3.ints er] at h2
        exact ⟨p, i :: r, rfl, .of h2, Nat.succ_pos _, fun k hk hm => by
          rw [foldl_min r i k hk hm] at q
          exact q _ fun _ _ => .int _⟩)
theorem sv_maxL (hc : X.calm = true) (ha : SR X a m) (hm : X.mg "max" = none) (hg : Gl X "max" := by rfl) (he : starEach [a] X.env = (false, eval a X.env) :: starEach [] X.env := by rfl) : SV X (.Call (.Name "max" p) [a] [] pos) (mG fMaxL m) := fun W tk =>
  pe_imp (pe_callB (cr_max hc) hg hm (by decide +kernel) (pa_cons (ha W tk) pa_nil he) (by decide) (by decide) he) (tm_g fun {S H x a d Q} sub t e q => by
    cases a <;> first | (cases e; done) | skip
    rename_i ds
    obtain ⟨p, vs, rfl, h2, h3⟩ := t.lst sub
    cases er : allOf inOf ds with
    | none => simp [fMaxL, er] at e
    | some ns =>
      cases ns with
      | nil => simp [fMaxL, er, maxL] at e
      | cons i r =>
        simp only [fMaxL, er, maxL, Option.bind_some] at e
        cases e
        rw [h3.ints er] at h2
        exact ⟨p, i :: r, rfl, .of h2, Nat.succ_pos _, fun k hk hm => by
          rw [foldl_max r i k hk hm] at q
          exact q _ fun _ _ => .int _⟩)
/-- a call of a built-in with two arguments, whose answer makes nothing -/
theorem tm_2 {W : WX} {rd : List V → Hp → VK → Prop} {f : D → D → Option D} {ma mb : M D} (hr : ∀ {S H : Hp} {x y : V} {a b d : D} {Q : VK}, Rp X.K X.mg S x a → Rp X.K X.mg S y b → f a b = some d → (∀ v, (∀ S', Rp X.K X.mg S' v d) → Q v H) → rd [x, y] H Q) :
    ∀ σ H Q, tM X.K X.mg W (RD X.K X.mg) (mOp f ma mb) σ H Q → tCB rd (tCons (tM X.K X.mg W (RD X.K X.mg) ma) (tCons (tM X.K X.mg W (RD X.K X.mg) mb) tNil)) σ H Q := fun σ H Q ⟨env, S, rl, g⟩ =>
  g.part nmD rl fun x H1 env1 S1 a st ra g1 => g1.part nmD st.rel fun y H2 env2 S2 b st2 rb g2 => by
    obtain ⟨d, e, q⟩ := g2.of
    exact hr (Rp.mono st2.ext ra) rb e fun v hv => q v S2 H2 (Step.refl st2.rel) (hv S2)
abbrev fMin2 := fI0 fun i j => .int (if j < i then j else i)
abbrev fMax2 := fI0 fun i j => .int (if j > i then j else i)
theorem sv_min2 (hc : X.calm = true) (ha : SV X a n) (hb : SV X b n2) (hm : X.mg "min" = none) (hg : Gl X "min" := by rfl) (he : starEach [a, b] X.env = (false, eval a X.env) :: starEach [b] X.env := by rfl) (he2 : starEach [b] X.env = (false, eval b X.env) :: starEach [] X.env := by rfl) (h3 : (backTo pos (starEach [b] X.env)).any (·.1) = false := by rfl) :
    SV X (.Call (.Name "min" p) [a, b] [] pos) (mOp fMin2 n n2) := fun W tk => pe_imp (pe_callB (call_min2 hc) hg hm (by decide +kernel) (pa_cons (ha W tk) (pa_cons (hb W tk) pa_nil he2) he) (by decide) (by decide) he h3) (tm_2 fun {S H x y a b d Q} ra rb e q => by
    cases a <;> first | (cases e; done) | skip
    cases b <;> first | (cases e; done) | skip
    cases ra; cases rb; cases e
    exact ⟨_, _, rfl, q _ fun _ => .int _⟩)
theorem sv_max2 (hc : X.calm = true) (ha : SV X a n) (hb : SV X b n2) (hm : X.mg "max" = none) (hg : Gl X "max" := by rfl) (he : starEach [a, b] X.env = (false, eval a X.env) :: starEach [b] X.env := by rfl) (he2 : starEach [b] X.env = (false, eval b X.env) :: starEach [] X.env := by rfl) (h3 : (backTo pos (starEach [b] X.env)).any (·.1) = false := by rfl) :
    SV X (.Call (.Name "max" p) [a, b] [] pos) (mOp fMax2 n n2) := fun W tk => pe_imp (pe_callB (call_max2 hc) hg hm (by decide +kernel) (pa_cons (ha W tk) (pa_cons (hb W tk) pa_nil he2) he) (by decide) (by decide) he h3) (tm_2 fun {S H x y a b d Q} ra rb e q => by
    cases a <;> first | (cases e; done) | skip
    cases b <;> first | (cases e; done) | skip
    cases ra; cases rb; cases e
    exact ⟨_, _, rfl, q _ fun _ => .int _⟩)
/-- math's lcm -/
def okLcm (i j : Int) : Bool := decide (0 ≤ i) && decide (0 ≤ j) && decide (i < 2 ^ 60) && decide (j < 2 ^ 60)
abbrev fLcm := fI okLcm fun i j => .int ((Nat.lcm i.natAbs j.natAbs : Nat) : Int)
end

/-! ### repr -/
theorem depth_le {d : D} (h : gd d = true) : d.pure = true ∧ SeqAt.shaped d.py = true := by
  unfold gd at h
  exact Bool.and_eq_true_iff.mp h
def szRp (n : Nat) : Bool := decide (n ≤ 1000000)
def fRepr (d : D) : Option D := if gd d && d.py.showable && szRp d.py.shown.length then some (.str d.py.shown) else none
theorem Rm.un {k : Nat} {A : Around} (r : Rm k A) : A.units + 200 < cLine := by have := r.1.un; omega
def rRepr (K : PySem.W.Frag) : List V → Hp → VK → Prop := fun xs H Q => ∃ v d, xs = [v] ∧ Dp K H v d ∧ SeqAt.shaped d = true ∧ d.showable = true ∧ d.shown.length ≤ sizeLine ∧ Q (.str d.shown) H
theorem cr_repr (hg : X.A.guards = some []) (hu : X.A.units + 200 < cLine) : CallR X (.builtin "repr") (rRepr X.K) := by
  rintro pins s σ H vs us Q I r ⟨v, d, rfl, hd, hs, hw, hz, q⟩
  obtain ⟨u, rfl, rv⟩ := vals1 r
  have fin : ∀ {t : Str} (e : d.shown = t) (tk : Nat) (u : Tok), EP X pins σ Q (.str t u) { s with toks := tk } := fun e tk u => ⟨.str d.shown, H, I.tok _, ⟨u, by rw [e]⟩, q⟩
  have hdep : d.depth ≤ 64 := SeqAt.depth_of_shaped hs
  have byRef : ∀ {a : Addr} {as : List Addr}, Reads s.heap (.ref a) d as → wpAny (model X.prog X.w) X.A (call (.builtin "repr") [.ref a]) (EP X pins σ Q) X.xe s := fun {a as} rd =>
    repr_of_reads' rd hw (PyData.noDict_hsm (PyData.hasDict_of_canLay d (SeqAt.canLay_of_shaped hs))) hg (by omega) (fun _ _ e => e) (fun h' w' tk hk => ⟨.str d.shown, H, I.kept hk, ⟨w', rfl⟩, q⟩) hz
  obtain ⟨as, rd⟩ := Dp.reads I d v u hd rv
  cases rd with
  | none => exact PySem.P.repr_of_none (fin (by simp only [PyData.shown]) _ _)
  | bool b => exact PySem.P.repr_of_bool (fin (by simp only [PyData.shown]) _ _)
  | int i t => exact PySem.P.repr_of_int (by simpa [PyData.showable] using hw) (fin (by simp only [PyData.shown]) _ _)
  | str x t => exact PySem.P.repr_of_str (fin (by simp only [PyData.shown]) _ _) (by simpa only [PyData.shown] using hz)
  | list h1 h2 h3 h4 => exact byRef (.list h1 h2 h3 h4)
  | tuple h1 h2 h3 h4 => exact byRef (.tuple h1 h2 h3 h4)
  | dict h1 h2 h3 h4 h5 => exact byRef (.dict h1 h2 h3 h4 h5)
theorem sv_repr {k : Nat} {a : Expr} {m : M Rs} {p pos : Pos} (hr : Rm k X.A) (ha : SR X a m) (hm : X.mg "repr" = none) (hg : Gl X "repr" := by rfl) (he : starEach [a] X.env = (false, eval a X.env) :: starEach [] X.env := by rfl) : SV X (.Call (.Name "repr" p) [a] [] pos) (mG fRepr m) := fun W tk =>
  pe_imp (pe_callB (cr_repr hr.2 hr.un) hg hm (by decide +kernel) (pa_cons (ha W tk) pa_nil he) (by decide) (by decide) he) (tm_g fun {S H x a d Q} sub t e q => by
    unfold fRepr at e
    split at e
    · rename_i hc
      simp only [Bool.and_eq_true] at hc
      cases e
      obtain ⟨p1, p2⟩ := depth_le hc.1.1
      exact ⟨x, _, rfl, t.dp sub p1, p2, hc.1.2, Nat.le_trans (of_decide_eq_true hc.2) (by decide), q _ fun _ _ => .str _⟩
    · cases e)
/-- math.lcm -/
theorem cr_lcm : CallR X (.builtin "math.lcm") (fun vs H Q => ∃ a b : Int, vs = [.int a, .int b] ∧ (a.natAbs < 2 ^ 64 ∧ b.natAbs < 2 ^ 64) ∧ Q (.int ((Nat.lcm a.natAbs b.natAbs : Nat) : Int)) H) := by
  rintro pins s σ H vs us Q I r ⟨a, b, rfl, ⟨h1, h2⟩, q⟩
  obtain ⟨t, u, rfl⟩ := Vals.int2 r
  exact PySem.W.mc_lcm h1 h2 fun _ => ⟨.int _, H, I.tok _, ⟨_, rfl⟩, q⟩
theorem sv_lcm {a b : Expr} {n n2 : M D} {p pos : Pos} {x : Str} (ha : SV X a n) (hb : SV X b n2) (hm : X.mg x = some (.builtin "math.lcm")) (hg : Gl X x := by rfl) (hx : (x == ("__debug__" : Str)) = false := by decide) (he : starEach [a, b] X.env = (false, eval a X.env) :: starEach [b] X.env := by rfl) (he2 : starEach [b] X.env = (false, eval b X.env) :: starEach [] X.env := by rfl) (h3 : (backTo pos (starEach [b] X.env)).any (·.1) = false := by rfl) :
    SV X (.Call (.Name x p) [a, b] [] pos) (mOp fLcm n n2) := fun W tk => pe_imp (pe_callBfun cr_lcm hg hm (pa_cons (ha W tk) (pa_cons (hb W tk) pa_nil he2) he) hx he h3) (tm_2 fun {S H x y a b d Q} ra rb e q => by
    cases a <;> first | (cases e; done) | skip
    cases b <;> first | (cases e; done) | skip
    rename_i i j
    have e' : (if okLcm i j = true then some (D.int ((Nat.lcm i.natAbs j.natAbs : Nat) : Int)) else none) = some d := e
    split at e'
    · rename_i hc
      unfold okLcm at hc
      simp only [Bool.and_eq_true, decide_eq_true_eq] at hc
      cases ra; cases rb; cases e'
      exact ⟨i, j, rfl, ⟨by omega, by omega⟩, q _ fun _ => .int _⟩
    · cases e')

/-! ### what a slot owns, as a target -/
def gSt (j : Nat) (mi : M D) : TgM := fun d env => if isL env[j]? then (match mi env with
  | some (.ok i env1) => (chg j (onL (fSetIx i d)) env1).bind fun p => some p.2
  | _ => none) else none
theorem takes_no {X : Cx} : Takes X noW := fun u s' ⟨_, _, _, _, _, _, _, _, _, _, _, _, _, _, _, _, w⟩ => w.elim
theorem sg_sub {j : Nat} {x : Str} {i : Expr} {mi : M D} {p1 p2 : Pos} (hv : PE X (.Name x p1) (tVar j)) (hi : SV X i mi)
    (ha : ∀ v, assign (.Subscript (.Name x p1) i p2) X.env v = (do
      let ov ← holding [v] (eval (.Name x p1) X.env)
      let iv ← holding [v, ov] (eval i X.env)
      standAt p2
      holding [v, ov, iv] (setItem ov iv v)
      release [v, ov, iv] []) := by intro _; rfl) : SG X (.Subscript (.Name x p1) i p2) (gSt j mi) [] :=
  pg_imp (pg_sub hv (hi noW takes_no) set_list ha) fun v σ H Q ⟨env, S, d, env', r, rv, e, q⟩ => by
    unfold gSt at e
    split at e
    · rename_i hl
      obtain ⟨a, vs, e1, e2⟩ := isL_some r hl
      refine ⟨.ref a, e1, env, S, r, ?_⟩
      unfold Go
      cases hm : mi env with
      | none => simp [hm] at e
      | some z =>
        cases z with
        | ex _ _ _ _ => simp [hm] at e
        | ok iv env1 =>
          simp only [hm] at e ⊢
          intro w S1 H1 st ri
          cases hc : chg j (onL (fSetIx iv d)) env1 with
          | none => simp [hc] at e
          | some p =>
            obtain ⟨o, env2⟩ := p
            simp only [hc, Option.bind_some] at e
            cases e
            obtain ⟨s, d0, d', k1, k2, k3, rfl⟩ := chg_some hc
            obtain ⟨ds, ds', rfl, k4, rfl⟩ := onL_some k3
            obtain ⟨a', ho, q1, q2, q3, q4⟩ := (st.rel.sl j s k1).mut k2
            rw [e1] at q1
            cases q1
            cases q4 with
            | lst r1 =>
              cases iv with
              | int k =>
                cases ri
                cases en : ixN ds.length k with
                | none => simp [fSetIx, en] at k4
                | some n =>
                  simp only [fSetIx, en, Option.bind_some] at k4
                  cases k4
                  exact ⟨a, _, k, n, rfl, rfl, q3, by rw [r1.len]; exact en, q σ S1 _ (st.change k1 k2 e1 (.lst (r1.set (rv.mono st.ext) n))) ⟨rfl, fun _ _ => rfl⟩⟩
              | _ => cases k4
    · cases e

/-! ### name op= e, ints -/
def mAug (j : Nat) (f : Int → Int → Int) (m : M D) : MS := fun env => match env[j]? with
  | some (.v (.int i)) => mThen m (fun d env1 => (inOf d).bind fun k => (setSl j (.v (.int (f i k))) env1).bind fun env' => some (.nx env')) env
  | _ => none
theorem ss_aug {j : Nat} {x : Str} {e : Expr} {m : M D} {op : Operator} {f : Int → Int → Int} {pos pos' : Pos} (he : SV X e m) (ho : PIp X op (ipI f)) (hN : X.N.Nodup) (hi : X.N[j]? = some x) (hx : Loc X.env.scope x) (hf : X.fn x = true ∨ X.env.scope.names.lookup x = some .local) : SS X (.AugAssign (.Name x pos') op e pos) (mAug j f m) := fun W tk =>
  ps_imp (ps_aug hN hi hx (he W tk) ho hf) fun E σ H ⟨env, S, r, g⟩ => by
    dsimp only [GoS] at g
    unfold mAug at g
    cases hj : env[j]? with
    | none => simp only [hj] at g; exact g.elim
    | some s =>
      cases s with
      | v d =>
        cases d with
        | int i =>
          simp only [hj] at g
          obtain ⟨v, e1, rv⟩ := r.sl j _ hj
          cases rv
          refine ⟨_, e1, GoS.part (E := E) r g fun w H1 env1 S1 d st rd g1 g2 => ?_⟩
          cases d with
          | int k =>
            cases rd
            refine ⟨i, k, rfl, rfl, ?_⟩
            cases ee : setSl j (.v (.int (f i k))) env1 with
            | none => exact (show False by simpa [inOf, ee, PostS] using g2).elim
            | some env2 =>
              simp only [inOf, ee, Option.bind_some] at g2
              obtain ⟨c1, c2, rfl⟩ := setSl_some ee
              exact g2 _ S1 H1 (st.assign c1 c2 ⟨_, rfl, .int _⟩ fun _ z => by cases z)
          | _ => exact (show False by simpa [inOf, PostS] using g2).elim
        | _ => simp only [hj] at g; exact g.elim
      | _ => simp only [hj] at g; exact g.elim
end Z
end

section
set_option Elab.async false
set_option linter.all false
set_option maxRecDepth 100000
set_option autoImplicit false
/-! Short forms for printed derivations; the walk's end. -/
namespace Z
open PySem L2
variable {X : Cx}
def mkF (n N : Nat) (m : MS) : DF := fun as => if as.length = n then runF N m as else none
theorem mkF_ok {n N : Nat} {m : MS} {as : List Ar} {o : CO} (h : mkF n N m as = some o) : as.length = n ∧ runF N m as = some o := by
  unfold mkF at h
  split at h
  · rename_i e
    exact ⟨e, h⟩
  · cases h
/-- what a caller knows of a def -/
structure Cal (P : Program) (w : World) (K : PySem.W.Frag) (mg : Str → Option Value) (base : Heap) (x : Str) (k : Nat) (f : Addr) (fd : FuncData) (ps : List Str) (F : DF) : Prop where
  g : mg x = some (.ref f)
  kp : PySem.W.keepIn K (.ref f) = true
  b : Binds K fd ps []
  ok : FnG P w K mg base (L2.CX P w) k f fd ps (spM K mg F)
/-- .. the last defaults: dflt -/
structure CalD (P : Program) (w : World) (K : PySem.W.Frag) (mg : Str → Option Value) (base : Heap) (x : Str) (k : Nat) (f : Addr) (fd : FuncData) (ps : List Str) (F : DF) (dvs : List V) (dflt : List D) : Prop where
  g : mg x = some (.ref f)
  kp : PySem.W.keepIn K (.ref f) = true
  b : ∃ ds, Vals dvs ds ∧ Binds K fd ps ds
  d : ∀ S, RpA K mg S dvs dflt
  ok : FnG P w K mg base (L2.CX P w) k f fd ps (spM K mg F)
section
variable {k j : Nat} {f : Addr} {fd : FuncData} {ps : List Str} {F : DF} {x : Str} {p pos : Pos} {e : Expr} {es : List Expr} {m : M (List Ax)} {dvs : List V} {dflt : List D}
theorem sr_cal (C : Cal X.prog X.w X.K X.mg X.base x j f fd ps F) (hr : Rm k X.A) (ha : SX X (e :: es) m) (hj : j ≤ k := by decide) (hg : Gl X x := by rfl) (hx : (x == ("__debug__" : Str)) = false := by decide)
    (h1 : starEach (e :: es) X.env = (false, eval e X.env) :: starEach es X.env := by rfl) (h2 : (backTo pos (starEach es X.env)).any (·.1) = false := by rfl) : SR X (.Call (.Name x p) (e :: es) [] pos) (mCall F [] m) :=
  sr_call (dvs := []) C.ok (hr.mono hj) C.g C.kp C.b .nil (fun _ => .nil) ha hg hx h1 h2
theorem sr_cal0 (C : Cal X.prog X.w X.K X.mg X.base x j f fd ps F) (hr : Rm k X.A) (hj : j ≤ k := by decide) (hg : Gl X x := by rfl) (hx : (x == ("__debug__" : Str)) = false := by decide) : SR X (.Call (.Name x p) [] [] pos) (mCall F [] xNil) :=
  sr_call0 (dvs := []) C.ok (hr.mono hj) C.g C.kp C.b .nil (fun _ => .nil) hg hx
theorem sr_calD (C : CalD X.prog X.w X.K X.mg X.base x j f fd ps F dvs dflt) (hr : Rm k X.A) (ha : SX X (e :: es) m) (hj : j ≤ k := by decide) (hg : Gl X x := by rfl) (hx : (x == ("__debug__" : Str)) = false := by decide)
    (h1 : starEach (e :: es) X.env = (false, eval e X.env) :: starEach es X.env := by rfl) (h2 : (backTo pos (starEach es X.env)).any (·.1) = false := by rfl) : SR X (.Call (.Name x p) (e :: es) [] pos) (mCall F dflt m) := by
  obtain ⟨ds, h3, h4⟩ := C.b
  exact sr_call C.ok (hr.mono hj) C.g C.kp h4 h3 C.d ha hg hx h1 h2
/-! keywords, every parameter given: perm puts the values in the parameters' order -/
def KwB (K : PySem.W.Frag) (fd : FuncData) (ps : List Str) (n : Nat) (ks : List Str) (g : {α : Type} → List α → List α → List α) : Prop := ∀ (s : Shared) (us ws : List Value), K.In s.heap → us.length = n → ws.length = ks.length → BindsTo s fd ⟨us, ks.zip ws⟩ (ps.zip (g us ws))
end
/-- the walk of a law, from its plain function -/
theorem walkZ {l : PySem.W.OpenLaw} {n k : Nat} {q : Program} {loose : List Str} {XP : (Str → Option Value) → Heap → Prop} {YP : World → Heap → Prop} {d : DefRec} {K : Params → PySem.W.Frag} {x : Str} {F : DF}
    (hn : l.most = some n) (hn2 : n ≤ sizeLine) (hdf : d.params.defaults = []) (hr : Rm k callerA) (hY : ∀ (w : World) (h : Heap), YP w h → (K w.params).In h)
    (G : ∀ (w : World) (mg : Str → Option Value) (fa : Addr) (h : Heap), (K w.params).In h → h.Ns mainGlobals mg → mg d.name = some (.ref fa) →
      ∃ fd : FuncData, (∀ (s : Shared) (u : Value), BindsTo s fd ⟨[u], []⟩ [(x, u)]) ∧ ∀ base : Heap, (K w.params).In base → base.Ns mainGlobals mg → FnG l.prog w (K w.params) mg base (L2.CX l.prog w) k fa fd [x] (spM (K w.params) mg F))
    (hF : ∀ ns : List Int, ns.length ≤ n → (∀ z ∈ ns, Builtin.Int.intBits z ≤ 1048576) → F [.v (.scr ns)] = some (.rt (.v (.bl true)) none)) : PySem.W.WalkO q loose XP YP l.row.toRowW d [] (fun f vs => PySem.call f vs) := by
  apply Att.attach_callB hn hdf
  intro w t0 t1 mg mb fa o pm cd doc a vs ns Gd Y ho hd hcd hmg hobj hints hlen hbits hg
  obtain ⟨fd, hb, hG⟩ := G w mg fa _ (hY w _ Y) Gd.T.g hmg
  exact law_go (hY w _ Y) Gd.T.g Gd.T.b Gd.T.builtins Gd.T.nolimit hg hr hG hb (hF ns hlen hbits) hobj hints (Nat.le_trans hlen hn2)
end Z
end

section
set_option Elab.async false
set_option linter.all false
set_option maxRecDepth 100000
set_option autoImplicit false
/-! Calls with keywords; short names of the printed texts. -/
namespace Z
open PySem L2
variable {X : Cx}
abbrev mNext : MS := fun env => some (.nx env)
abbrev mBrk : MS := fun env => some (.bk env)
abbrev mCnt : MS := fun env => some (.ct env)
abbrev mNo : MS := fun _ => none
abbrev mRetN : MS := fun env => some (.rt (.v .non) env)
def fNeg : D → Option D
  | .int i => some (.int (-i))
  | _ => none
theorem sv_negF {a : Expr} {pos : Pos} {n : M D} (h : SV X a n) : SV X (.UnaryOp .USub a pos) (mU fNeg n) := by
  have e : fNeg = fun d => match d with | .int i => some (.int (-i)) | _ => none := by
    funext d
    cases d <;> rfl
  rw [e]
  exact sv_neg h
theorem gs3_len {t u w : TgM} {ds : List D} {env env' : Env} (h : gsCons t (gsCons u (gsCons w gsNil)) ds env = some env') : ds.length = 3 := by
  cases ds with
  | nil => cases h
  | cons a ds =>
    unfold gsCons at h
    cases e1 : t a env with
    | none => simp [e1] at h
    | some env1 =>
      simp only [e1, Option.bind_some] at h
      exact congrArg (· + 1) (gs2_len h)
/-! ### keywords -/
def pick {α : Type} (pm : List Nat) (l : List α) : List α := pm.filterMap fun i => l[i]?
theorem pick_vals {vs : List V} {us : List Value} (h : Vals vs us) : ∀ pm : List Nat, Vals (pick pm vs) (pick pm us)
  | [] => .nil
  | i :: pm => by
    unfold pick
    have ih := pick_vals h pm
    unfold pick at ih
    cases e : vs[i]? with
    | none =>
      have e2 : us[i]? = none := by
        rw [List.getElem?_eq_none_iff] at e ⊢
        rw [← h.length]
        exact e
      rw [List.filterMap_cons_none e, List.filterMap_cons_none e2]
      exact ih
    | some v =>
      obtain ⟨u, e2, r⟩ : ∃ u, us[i]? = some u ∧ RelV v u := by
        exact h.get e
      rw [List.filterMap_cons_some e, List.filterMap_cons_some e2]
      exact .cons r ih
theorem pick_rp {K : PySem.W.Frag} {mg : Str → Option Value} {S : Hp} {vs : List V} {ds : List D} (h : RpA K mg S vs ds) : ∀ pm : List Nat, RpA K mg S (pick pm vs) (pick pm ds)
  | [] => .nil
  | i :: pm => by
    unfold pick
    have ih := pick_rp h pm
    unfold pick at ih
    cases e : ds[i]? with
    | none =>
      have e2 : vs[i]? = none := by
        rw [List.getElem?_eq_none_iff] at e ⊢
        rw [h.len]
        exact e
      rw [List.filterMap_cons_none e, List.filterMap_cons_none e2]
      exact ih
    | some d =>
      obtain ⟨v, e2, r⟩ := h.get e
      rw [List.filterMap_cons_some e, List.filterMap_cons_some e2]
      exact .cons r ih
def SK (X : Cx) (kws : List Keyword) (m : M (List D)) : Prop := ∀ W, Takes X W → PK X kws (tM X.K X.mg W (RA X.K X.mg) m)
theorem pk_imp {kws : List Keyword} {t t' : TA} (h : PK X kws t) (i : ∀ σ H Q, t' σ H Q → t σ H Q) : PK X kws t' := ⟨fun pos pins s σ H Q I q => h.run pos pins s σ H Q I (i σ H Q q)⟩
theorem sk_nil : SK X [] mNil := fun W tk => pk_imp pk_nil fun σ H Q ⟨env, S, r, g⟩ => g.ret (R := RA X.K X.mg) r .nil
theorem sk_cons {nm : Option Str} {e : Expr} {kpos : Pos} {kws : List Keyword} {m : M D} {n : M (List D)} (h : SV X e m) (hr : SK X kws n) : SK X (⟨nm, e, kpos⟩ :: kws) (mCons m n) := fun W tk => pk_imp (pk_cons (h W tk) (hr W tk)) fun σ H Q ⟨env, S, r, g⟩ =>
  g.part nmA r fun x H1 env1 S1 a st ra g1 => g1.part nmA st.rel fun xs H2 env2 S2 ds st2 rb g2 => g2.ret (R := RA X.K X.mg) st2.rel (.cons (Rp.mono st2.ext ra) rb)
/-- what a caller knows of a def that it calls with n values and the keywords ks; pm puts values, keywords' values and defaults in the parameters' order -/
structure CalK (P : Program) (w : World) (K : PySem.W.Frag) (mg : Str → Option Value) (base : Heap) (x : Str) (k : Nat) (f : Addr) (fd : FuncData) (ps : List Str) (F : DF) (n : Nat) (ks : List Str) (pm : List Nat) (dvs : List V) (dflt : List D) : Prop where
  g : mg x = some (.ref f)
  kp : PySem.W.keepIn K (.ref f) = true
  b : ∃ ds, Vals dvs ds ∧ ∀ (s : Shared) (us ws : List Value), K.In s.heap → us.length = n → ws.length = ks.length → BindsTo s fd ⟨us, ks.zip ws⟩ (ps.zip (pick pm (us ++ ws ++ ds)))
  d : ∀ S, RpA K mg S dvs dflt
  ok : FnG P w K mg base (L2.CX P w) k f fd ps (spM K mg F)
def tKwW (W : WX) (n m : Nat) (pm : List Nat) (dvs : List V) (sp : Sp) (t tk : TA) : TE := fun σ H Q => t σ H fun vs H1 => tk σ H1 fun zs H2 => vs.length = n ∧ zs.length = m ∧ sp (pick pm (vs ++ zs ++ dvs)) H2 Q (WE W σ)
section
variable {k j n : Nat} {f : Addr} {fd : FuncData} {ps ks : List Str} {pm : List Nat} {F : DF} {sp : Sp} {W : WX} {x : Str} {p pos : Pos} {e : Expr} {es : List Expr} {kws : List Keyword} {t tk' : TA} {m m' : M (List D)} {dvs : List V} {ds : List Value} {dflt : List D}
theorem go_kw {pins : List (Addr × Obj)} {σ : St} {H : Hp} {s : Shared} {Q : VK} {us ws : List Value} {vs zs : List V} (F : FnG X.prog X.w X.K X.mg X.base (L2.CX X.prog X.w) k f fd ps sp) (hr : Rm k X.A) (tk : Takes X W) (I : Inv X pins σ H s)
    (hb : ∀ (s : Shared) (us ws : List Value), X.K.In s.heap → us.length = n → ws.length = ks.length → BindsTo s fd ⟨us, ks.zip ws⟩ (ps.zip (pick pm (us ++ ws ++ ds)))) (hd : Vals dvs ds) (r : Vals vs us) (rz : Vals zs ws) (l1 : vs.length = n) (l2 : zs.length = ks.length)
    (h : sp (pick pm (vs ++ zs ++ dvs)) H Q (WE W σ)) : wpAny (model X.prog X.w) X.A (call (.ref f) us (ks.zip ws)) (EP X pins σ Q) X.xe s :=
  go_fg F hr tk I (hb s us ws I.kIn (r.length.symm.trans l1) (rz.length.symm.trans l2)) (pick_vals ((r.append rz).append hd) pm) h
theorem pe_kw0 (F : FnG X.prog X.w X.K X.mg X.base (L2.CX X.prog X.w) k f fd ps sp) (hr : Rm k X.A) (tk : Takes X W) (hm : X.mg x = some (.ref f)) (hk : PySem.W.keepIn X.K (.ref f) = true)
    (hb : ∀ (s : Shared) (us ws : List Value), X.K.In s.heap → us.length = 0 → ws.length = ks.length → BindsTo s fd ⟨us, ks.zip ws⟩ (ps.zip (pick pm (us ++ ws ++ ds)))) (hd : Vals dvs ds) (hw : PK X kws tk') (hg : Gl X x) (hx : (x == ("__debug__" : Str)) = false)
    (h2 : ((backTo pos (starEach [] X.env)).any (·.1) || (backToKw pos (keywordEach kws X.env)).any (·.1.isNone)) = false) (h3 : (backToKw pos (keywordEach kws X.env)).all (·.1.isSome) = true) (h4 : (backToKw pos (keywordEach kws X.env)).filterMap (·.1) = ks) :
    PE X (.Call (.Name x p) [] kws pos) (tKwW W 0 ks.length pm dvs sp tNil tk') where
  run := by
    intro pins s σ H Q I h
    apply wpAny_Call_Name_kw
    apply ld_glob I hg hm _ hx
    refine PySem.W.callWith_KW0 (h₀ := X.base) I.ok.mod.kin hk h3 ?_ h2
    refine thn (hw.run pos pins s σ H _ I h) ?_
    rintro ws s2 ⟨zs, H2, I2, rz, l1, l2, q2⟩
    refine ⟨I2.kIn, ?_⟩
    rw [h4]
    exact go_kw (us := []) (vs := []) F hr tk I2 hb hd .nil rz rfl l2 q2
theorem pe_kw (F : FnG X.prog X.w X.K X.mg X.base (L2.CX X.prog X.w) k f fd ps sp) (hr : Rm k X.A) (tk : Takes X W) (hm : X.mg x = some (.ref f)) (hk : PySem.W.keepIn X.K (.ref f) = true)
    (hb : ∀ (s : Shared) (us ws : List Value), X.K.In s.heap → us.length = n → ws.length = ks.length → BindsTo s fd ⟨us, ks.zip ws⟩ (ps.zip (pick pm (us ++ ws ++ ds)))) (hd : Vals dvs ds) (ha : PA X (e :: es) t) (hw : PK X kws tk') (hg : Gl X x) (hx : (x == ("__debug__" : Str)) = false) (h1 : starEach (e :: es) X.env = (false, eval e X.env) :: starEach es X.env)
    (h2 : ((backTo pos (starEach (e :: es) X.env)).any (·.1) || (backToKw pos (keywordEach kws X.env)).any (·.1.isNone)) = false) (h3 : (backToKw pos (keywordEach kws X.env)).all (·.1.isSome) = true) (h4 : (backToKw pos (keywordEach kws X.env)).filterMap (·.1) = ks) :
    PE X (.Call (.Name x p) (e :: es) kws pos) (tKwW W n ks.length pm dvs sp t tk') where
  run := by
    intro pins s σ H Q I h
    apply wpAny_Call_Name_kw
    apply ld_glob I hg hm _ hx
    refine PySem.W.callWith_KW (h₀ := X.base) I.ok.mod.kin hk h3 (thn (ha.run pos pins s σ H _ I h) ?_) h2 h1
    rintro us s1 ⟨vs, H1, I1, r, q⟩
    refine thn (hw.run pos pins s1 σ H1 _ I1 q) ?_
    rintro ws s2 ⟨zs, H2, I2, rz, l1, l2, q2⟩
    refine ⟨I2.kIn, ?_⟩
    rw [h4]
    exact go_kw F hr tk I2 hb hd r rz l1 l2 q2
/-- the arguments in the parameters' order -/
def mKw (n l : Nat) (pm : List Nat) (dflt : List D) (a b : M (List D)) : M (List Ax) := a.bind fun us => b.bind fun ws => M.of fun _ => if us.length = n ∧ ws.length = l then some ((pick pm (us ++ ws ++ dflt)).map .v) else none
theorem bind_assoc {α β γ : Type} (m : M α) (f : α → M β) (g : β → M γ) : M.bind (M.bind m f) g = M.bind m fun a => M.bind (f a) g := by
  funext env
  unfold M.bind
  cases m env with
  | none => rfl
  | some r => cases r <;> rfl
theorem axr_v {K : PySem.W.Frag} {mg : Str → Option Value} {σ : St} {S : Hp} : ∀ {vs : List V} {ds : List D}, RpA K mg S vs ds → AxR K mg σ S vs (ds.map .v)
  | _, [], h => by cases h; exact .nil
  | _, d :: ds, h => by cases h with | cons r t => exact .v r (axr_v t)
theorem kw_ok {σ : St} {H : Hp} {Q : VK} {env : Env} {S : Hp} {a b : M (List D)} (hd : ∀ S, RpA X.K X.mg S dvs dflt) (r : Rel X.K X.mg env σ S H)
    (g : Go X.K X.mg W (RR X.K X.mg) (mCall F [] (mKw n ks.length pm dflt a b)) env σ S H Q) :
    tM X.K X.mg W (RA X.K X.mg) a σ H fun vs H1 => tM X.K X.mg W (RA X.K X.mg) b σ H1 fun zs H2 => vs.length = n ∧ zs.length = ks.length ∧ spM X.K X.mg F (pick pm (vs ++ zs ++ dvs)) H2 Q (WE W σ) := by
  unfold mCall mKw at g
  rw [bind_assoc] at g
  refine g.part (R := RA X.K X.mg) nmR r fun vs H1 env1 S1 us st ra g1 => ?_
  rw [bind_assoc] at g1
  refine g1.part (R := RA X.K X.mg) nmR st.rel fun zs H2 env2 S2 ws st2 rb g2 => ?_
  by_cases hl : us.length = n ∧ ws.length = ks.length
  · rw [show (M.of fun _ => if us.length = n ∧ ws.length = ks.length then some ((pick pm (us ++ ws ++ dflt)).map Ax.v) else none) = M.ret ((pick pm (us ++ ws ++ dflt)).map Ax.v) by
      funext e
      unfold M.of M.ret
      rw [if_pos hl]] at g2
    have rp := pick_rp (((RpA.mono st2.ext ra).app rb).app (hd S2)) pm
    refine ⟨ra.len.trans hl.1, rb.len.trans hl.2, ?_⟩
    have := call_ok (dvs := []) (dflt := []) st2.rel (axr_v (σ := σ) rp) .nil g2
    rwa [List.append_nil] at this
  · exfalso
    rw [show (M.of fun _ => if us.length = n ∧ ws.length = ks.length then some ((pick pm (us ++ ws ++ dflt)).map Ax.v) else none) = fun _ => none by
      funext e
      unfold M.of
      rw [if_neg hl]] at g2
    exact g2
theorem sr_kw {l : Nat} (C : CalK X.prog X.w X.K X.mg X.base x j f fd ps F n ks pm dvs dflt) (hr : Rm k X.A) (ha : SA X (e :: es) m) (hw : SK X kws m') (hl : ks.length = l := by rfl) (hj : j ≤ k := by decide) (hg : Gl X x := by rfl) (hx : (x == ("__debug__" : Str)) = false := by decide) (h1 : starEach (e :: es) X.env = (false, eval e X.env) :: starEach es X.env := by rfl)
    (h2 : ((backTo pos (starEach (e :: es) X.env)).any (·.1) || (backToKw pos (keywordEach kws X.env)).any (·.1.isNone)) = false := by rfl) (h3 : (backToKw pos (keywordEach kws X.env)).all (·.1.isSome) = true := by rfl) (h4 : (backToKw pos (keywordEach kws X.env)).filterMap (·.1) = ks := by rfl) :
    SR X (.Call (.Name x p) (e :: es) kws pos) (mCall F [] (mKw n l pm dflt m m')) := fun W tk => by
  subst hl
  obtain ⟨ds, h5, h6⟩ := C.b
  exact pe_imp (pe_kw C.ok (hr.mono hj) tk C.g C.kp h6 h5 (ha W tk) (hw W tk) hg hx h1 h2 h3 h4) fun σ H Q ⟨env, S, r, g⟩ => kw_ok C.d r g
theorem sr_kw0 {l : Nat} (C : CalK X.prog X.w X.K X.mg X.base x j f fd ps F 0 ks pm dvs dflt) (hr : Rm k X.A) (hw : SK X kws m') (hl : ks.length = l := by rfl) (hj : j ≤ k := by decide) (hg : Gl X x := by rfl) (hx : (x == ("__debug__" : Str)) = false := by decide)
    (h2 : ((backTo pos (starEach [] X.env)).any (·.1) || (backToKw pos (keywordEach kws X.env)).any (·.1.isNone)) = false := by rfl) (h3 : (backToKw pos (keywordEach kws X.env)).all (·.1.isSome) = true := by rfl) (h4 : (backToKw pos (keywordEach kws X.env)).filterMap (·.1) = ks := by rfl) :
    SR X (.Call (.Name x p) [] kws pos) (mCall F [] (mKw 0 l pm dflt mNil m')) := fun W tk => by
  subst hl
  obtain ⟨ds, h5, h6⟩ := C.b
  refine pe_imp (pe_kw0 C.ok (hr.mono hj) tk C.g C.kp h6 h5 (hw W tk) hg hx h2 h3 h4) fun σ H Q ⟨env, S, r, g⟩ => ?_
  obtain ⟨env', S', r', g'⟩ := kw_ok C.d r g
  exact g'.ret (R := RA X.K X.mg) r' .nil
end
end Z
end

section
set_option Elab.async false
set_option linter.all false
set_option maxRecDepth 100000
set_option autoImplicit false
/-! Data: what may be compared and shown; == of equal things; loops as folds. -/
namespace Zb
open PySem L2 Z
/-! ### depth -/
def Gk (k : Nat) (d : D) : Prop := d.pure = true ∧ d.py.canLay0 = true ∧ d.py.depth ≤ k
theorem Gk.mono {k l : Nat} {d : D} (h : Gk k d) (hl : k ≤ l) : Gk l d := ⟨h.1, h.2.1, Nat.le_trans h.2.2 hl⟩
theorem Gk.gd {k : Nat} {d : D} (h : Gk k d) (hk : k ≤ 64) : gd d = true := by
  unfold Z.gd SeqAt.shaped
  rw [h.1, h.2.1, decide_eq_true (Nat.le_trans h.2.2 hk)]
  rfl
theorem gk_int (i : Int) : Gk 0 (.int i) := ⟨rfl, by simp only [D.py, PyData.canLay0], Nat.le_of_eq (by simp only [D.py, PyData.depth])⟩
theorem gk_bl (b : Bool) : Gk 0 (.bl b) := ⟨rfl, by simp only [D.py, PyData.canLay0], Nat.le_of_eq (by simp only [D.py, PyData.depth])⟩
theorem gk_non : Gk 0 .non := ⟨rfl, by simp only [D.py, PyData.canLay0], Nat.le_of_eq (by simp only [D.py, PyData.depth])⟩
theorem gk_str {s : Str} (h : PyData.strOk s = true) : Gk 0 (.str s) := ⟨rfl, by simp only [D.py, PyData.canLay0]; exact h, Nat.le_of_eq (by simp only [D.py, PyData.depth])⟩
theorem gk_all {k : Nat} : ∀ {ds : List D}, (∀ d ∈ ds, Gk k d) → D.pureA ds = true ∧ PyData.canLayAll0 (D.pyA ds) = true ∧ PyData.depthAll (D.pyA ds) ≤ k
  | [], _ => ⟨rfl, by simp only [D.pyA, PyData.canLayAll0], by simp only [D.pyA, PyData.depthAll]; exact Nat.zero_le _⟩
  | d :: ds, h => by
    obtain ⟨h1, h2, h3⟩ := gk_all (ds := ds) fun x hx => h x (List.mem_cons_of_mem _ hx)
    obtain ⟨k1, k2, k3⟩ := h d List.mem_cons_self
    refine ⟨?_, ?_, ?_⟩
    · simp only [D.pureA, k1, h1, Bool.and_self]
    · simp only [D.pyA, PyData.canLayAll0, k2, h2, Bool.and_self]
    · simp only [D.pyA, PyData.depthAll]
      omega
theorem gk_lst {k : Nat} {ds : List D} (h : ∀ d ∈ ds, Gk k d) : Gk (k + 1) (.lst ds) := by
  obtain ⟨h1, h2, h3⟩ := gk_all h
  exact ⟨by simp only [D.pure, h1], by simp only [D.py, PyData.canLay0, h2], by simp only [D.py, PyData.depth]; omega⟩
theorem gk_tup {k : Nat} {ds : List D} (h : ∀ d ∈ ds, Gk k d) : Gk (k + 1) (.tup ds) := by
  obtain ⟨h1, h2, h3⟩ := gk_all h
  exact ⟨by simp only [D.pure, h1], by simp only [D.py, PyData.canLay0, h2], by simp only [D.py, PyData.depth]; omega⟩
theorem gk_mapI {α : Type} {k : Nat} (f : α → D) (l : List α) (h : ∀ x ∈ l, Gk k (f x)) : ∀ d ∈ l.map f, Gk k d := fun d hd => by
  obtain ⟨x, hx, rfl⟩ := List.mem_map.mp hd
  exact h x hx
/-! ### == -/
theorem fEq_gk {k l : Nat} {a b : D} (ha : Gk k a) (hb : Gk l b) (hk : k ≤ 64) (hl : l ≤ 64) : fEq a b = some (.bl (PyData.eqv a.py b.py)) := by
  unfold fEq
  rw [ha.gd hk, hb.gd hl]
  rfl
theorem fNe_gk {k l : Nat} {a b : D} (ha : Gk k a) (hb : Gk l b) (hk : k ≤ 64) (hl : l ≤ 64) : fNe a b = some (.bl (!PyData.eqv a.py b.py)) := by
  unfold fNe
  rw [ha.gd hk, hb.gd hl]
  rfl
theorem fEq_self {k : Nat} {a : D} (ha : Gk k a) (hk : k ≤ 64) : fEq a a = some (.bl true) := by
  rw [fEq_gk ha ha hk hk, SeqAt.eqv_refl _ ha.2.1]
theorem fNe_self {k : Nat} {a : D} (ha : Gk k a) (hk : k ≤ 64) : fNe a a = some (.bl false) := by
  rw [fNe_gk ha ha hk hk, SeqAt.eqv_refl _ ha.2.1]
  rfl
theorem fEq_int (i j : Int) : fEq (.int i) (.int j) = some (.bl (decide (i = j))) := by
  rw [fEq_gk (gk_int i) (gk_int j) (by decide) (by decide)]
  simp only [D.py, PyData.eqv]
  congr 2
theorem fNe_int (i j : Int) : fNe (.int i) (.int j) = some (.bl (!decide (i = j))) := by
  rw [fNe_gk (gk_int i) (gk_int j) (by decide) (by decide)]
  simp only [D.py, PyData.eqv]
  congr 2
theorem eqv_ints : ∀ a b : List Int, PyData.eqvAll (D.pyA (a.map .int)) (D.pyA (b.map .int)) = decide (a = b)
  | [], [] => by simp [D.pyA, PyData.eqvAll]
  | [], y :: b => by simp [D.pyA, PyData.eqvAll]
  | x :: a, [] => by simp [D.pyA, PyData.eqvAll]
  | x :: a, y :: b => by
    simp only [List.map_cons, D.pyA, D.py, PyData.eqvAll, PyData.eqv, eqv_ints a b, List.cons.injEq, Bool.decide_and]
    congr 1
theorem gk_ints (a : List Int) : ∀ d ∈ a.map D.int, Gk 0 d := gk_mapI _ _ fun x _ => gk_int x
theorem fEq_lints (a b : List Int) : fEq (.lst (a.map .int)) (.lst (b.map .int)) = some (.bl (decide (a = b))) := by
  rw [fEq_gk (gk_lst (gk_ints a)) (gk_lst (gk_ints b)) (by decide) (by decide)]
  simp only [D.py, PyData.eqv, eqv_ints]
theorem fNe_lints (a b : List Int) : fNe (.lst (a.map .int)) (.lst (b.map .int)) = some (.bl (!decide (a = b))) := by
  rw [fNe_gk (gk_lst (gk_ints a)) (gk_lst (gk_ints b)) (by decide) (by decide)]
  simp only [D.py, PyData.eqv, eqv_ints]
/-! ### texts that repr makes -/
def Sm (n : Nat) (s : Str) : Prop := s.length ≤ n ∧ PyData.strOk s = true
theorem Sm.mono {n m : Nat} {s : Str} (h : Sm n s) (hm : n ≤ m) : Sm m s := ⟨Nat.le_trans h.1 hm, h.2⟩
theorem sm_app {n m : Nat} {s t : Str} (hs : Sm n s) (ht : Sm m t) : Sm (n + m) (s ++ t) := by
  refine ⟨?_, ?_⟩
  · rw [show (s ++ t).length = s.length + t.length from PySem.Str.length_append s t]
    exact Nat.add_le_add hs.1 ht.1
  · have h1 := hs.2
    have h2 := ht.2
    unfold PyData.strOk at *
    rw [show (s ++ t).cps = s.cps ++ t.cps from rfl, Array.all_append, h1, h2]
    rfl
theorem sm_lit {s : Str} {n : Nat} (h : (decide (s.length ≤ n) && PyData.strOk s) = true) : Sm n s := by
  simp only [Bool.and_eq_true, decide_eq_true_eq] at h
  exact h
theorem sm_join {n : Nat} : ∀ ts : List Str, (∀ t ∈ ts, Sm n t) → Sm ((n + 2) * ts.length) (Str.join ", " ts)
  | [], _ => (sm_lit (n := 0) (s := Str.join ", " []) (by decide +kernel)).mono (Nat.zero_le _)
  | [x], h => (h x List.mem_cons_self).mono (by show n ≤ (n + 2) * 1; omega)
  | x :: y :: r, h => by
    have ih := sm_join (y :: r) fun t ht => h t (List.mem_cons_of_mem _ ht)
    show Sm _ (x ++ ", " ++ Str.join ", " (y :: r))
    refine (sm_app (sm_app (h x List.mem_cons_self) (sm_lit (n := 2) (by decide +kernel))) ih).mono ?_
    simp only [List.length_cons, Nat.mul_add, Nat.add_mul]
    omega
theorem sm_tuple {n : Nat} {ts : List Str} (h : ∀ t ∈ ts, Sm n t) : Sm ((n + 2) * ts.length + 3) (tupleText ts) := by
  unfold tupleText
  refine (sm_app (sm_app (sm_lit (n := 1) (by decide +kernel)) (sm_join ts h)) (?_ : Sm 2 _)).mono (by omega)
  by_cases e : (ts.length == 1) = true
  · rw [if_pos e]
    exact sm_lit (by decide +kernel)
  · rw [if_neg e]
    exact sm_lit (by decide +kernel)
def Sh (n : Nat) (d : D) : Prop := Sm n d.py.shown ∧ d.py.showable = true
theorem Sh.mono {n m : Nat} {d : D} (h : Sh n d) (hm : n ≤ m) : Sh m d := ⟨h.1.mono hm, h.2⟩
theorem sh_all {n : Nat} : ∀ {ds : List D}, (∀ d ∈ ds, Sh n d) → (∀ t ∈ PyData.shownAll (D.pyA ds), Sm n t) ∧ PyData.showableAll (D.pyA ds) = true ∧ (PyData.shownAll (D.pyA ds)).length = ds.length
  | [], _ => by
    simp only [D.pyA, PyData.shownAll, PyData.showableAll]
    exact ⟨fun _ h => (nomatch h), trivial, rfl⟩
  | d :: ds, h => by
    obtain ⟨h1, h2, h3⟩ := sh_all (ds := ds) fun x hx => h x (List.mem_cons_of_mem _ hx)
    obtain ⟨k1, k2⟩ := h d List.mem_cons_self
    simp only [D.pyA, PyData.shownAll, PyData.showableAll, k2, h2, Bool.and_self, List.length_cons, h3, true_and, and_true]
    intro t ht
    rcases List.mem_cons.mp ht with rfl | ht
    · exact k1
    · exact h1 t ht
theorem sh_tup {n : Nat} {ds : List D} (h : ∀ d ∈ ds, Sh n d) : Sh ((n + 2) * ds.length + 3) (.tup ds) := by
  obtain ⟨h1, h2, h3⟩ := sh_all h
  refine ⟨?_, ?_⟩
  · simp only [D.py, PyData.shown]
    rw [← h3]
    exact sm_tuple h1
  · simp only [D.py, PyData.showable, h2]
theorem sh_nat : ∀ i : Nat, i < 1000 → Sh 3 (.int (i : Nat)) := by
  have key : ((List.range 1000).all fun i => decide ((PyData.int (i : Nat)).shown.length ≤ 3) && PyData.strOk (PyData.int (i : Nat)).shown && (PyData.int (i : Nat)).showable) = true := by decide +kernel
  intro i hi
  have := List.all_eq_true.mp key i (List.mem_range.mpr hi)
  simp only [Bool.and_eq_true, decide_eq_true_eq] at this
  exact ⟨⟨this.1.1, this.1.2⟩, this.2⟩
theorem fRepr_of {n k : Nat} {d : D} (h : Sh n d) (hn : n ≤ 1000000) (hg : Gk k d) (hk : k ≤ 64) : fRepr d = some (.str d.py.shown) ∧ Gk 0 (.str d.py.shown) := by
  refine ⟨?_, gk_str h.1.2⟩
  unfold fRepr szRp
  rw [hg.gd hk, h.2, decide_eq_true (Nat.le_trans h.1.1 hn)]
  rfl
theorem sz0 : szOk 0 = true := rfl
theorem sz1 : szOk 1 = true := rfl
theorem sz2 : szOk 2 = true := rfl
theorem sz3 : szOk 3 = true := rfl
theorem sz4 : szOk 4 = true := rfl
theorem sz5 : szOk 5 = true := rfl
theorem sz6 : szOk 6 = true := rfl
theorem sz7 : szOk 7 = true := rfl
theorem sz8 : szOk 8 = true := rfl
theorem sz9 : szOk 9 = true := rfl
theorem sz_of {n : Nat} (h : n ≤ 1000000) : szOk n = true := decide_eq_true h
end Zb
end

section
set_option Elab.async false
set_option linter.all false
set_option maxRecDepth 100000
set_option maxHeartbeats 4000000
namespace Za
open PySem L2 Z Zb
/-! The law's own draws (the same in all laws). -/
def m__law_draw : MS := (mSeq (mIfS (mTst (mOp fGt (mIx (mPeek 0) (M.ret (.int 2))) (M.ret (.int 0)))) (mSeq (mSet 5 (mR (mOp fMod (mU fInt (mIx (mPeek 0) (M.ret (.int 2)))) (mVar 1))))
    (mSeq (mSetIx 0 (mOp fDiv (mU fInt (mIx (mPeek 0) (M.ret (.int 2)))) (mVar 1)) (M.ret (.int 2)))
    (mRet (mTake 5)))) mNext)
    (mSeq (mSet 2 (mR (mIx (mPeek 0) (M.ret (.int 1)))))
    (mSeq (mSetIx 0 (mOp fAdd (mVar 2) (M.ret (.int 1))) (M.ret (.int 1)))
    (mSeq (mSet 3 (mR (mOp fAdd (mOp fMul (M.ret (.int 61403)) (mVar 2)) (M.ret (.int 5011)))))
    (mSeq (mIfS (mTst (mRd2 fNe (mR (mIx (mPeek 0) (M.ret (.int 0)))) (mLst mNil))) (mSet 3 (mR (mIx (mR (mIx (mPeek 0) (M.ret (.int 0)))) (mOp fMod (mU fInt (mVar 2)) (mG fLen (mR (mIx (mPeek 0) (M.ret (.int 0))))))))) mNext)
    (mSeq (mIfS (mAnd (mTst (mOp fLt (mVar 2) (mG fLen (mR (mIx (mPeek 0) (M.ret (.int 0))))))) (mTst (mOp fGe (mU fAbs (mVar 3)) (mOp fPow (M.ret (.int 10)) (M.ret (.int 18)))))) (mSeq (mSet 6 (mR (mOp fAdd (mOp fMul (M.ret (.int 2)) (mOp fSub (mU fAbs (mVar 3)) (mOp fPow (M.ret (.int 10)) (M.ret (.int 18))))) (mU fInt (mOp fLt (mVar 3) (M.ret (.int 0)))))))
    (mSeq (mSetIx 0 (mOp fDiv (mU fInt (mVar 6)) (mVar 1)) (M.ret (.int 2)))
    (mRet (mR (mOp fMod (mU fInt (mVar 6)) (mVar 1)))))) mNext)
    (mSeq (mSet 4 (mR (mOp fMod (mU fInt (mOp fPow (mOp fAdd (mOp fAdd (mOp fMod (mU fInt (mVar 3)) (M.ret (.int 2147483563))) (mOp fMul (M.ret (.int 61403)) (mVar 2))) (M.ret (.int 5011))) (M.ret (.int 5)))) (M.ret (.int 2147483629)))))
    (mSeq (mSet 4 (mR (mOp fMod (mU fInt (mOp fPow (mOp fAdd (mOp fAdd (mOp fMul (mVar 4) (mOp fAdd (mOp fMul (M.ret (.int 2)) (mVar 2)) (M.ret (.int 857)))) (mOp fMul (mOp fMul (M.ret (.int 51001)) (mVar 2)) (mVar 2))) (M.ret (.int 5011))) (M.ret (.int 3)))) (M.ret (.int 2147483587)))))
    (mRet (mR (mOp fMod (mU fInt (mOp fDiv (mVar 4) (M.ret (.int 32)))) (mVar 1))))))))))))
def F__law_draw : DF := mkF 2 7 m__law_draw
/-- a pen: the script's numbers, how many draws, what is left of a great one -/
def pen (ns : List Int) (t g : Int) : D := .lst [.lst (ns.map .int), .int t, .int g]
theorem at3_0 {a b c : D} : L2.atI [a, b, c] 0 = some a := rfl
theorem at3_1 {a b c : D} : L2.atI [a, b, c] 1 = some b := rfl
theorem at3_2 {a b c : D} : L2.atI [a, b, c] 2 = some c := rfl
theorem ix3_1 : ixN 3 1 = some 1 := rfl
theorem ix3_2 : ixN 3 2 = some 2 := rfl
theorem draw_great {ns : List Int} {t g m : Int} (hg : 0 < g) (hm : 0 < m) (hm2 : m < 1000) : F__law_draw [.io (pen ns t g), .v (.int m)] = some (.rt (.v (.int (g.fmod m))) (some (pen ns t (g.fdiv m)))) := by
  have h1 : decide (0 < g) = true := decide_eq_true hg
  have h2 : cMod g m = true := decide_eq_true (by omega)
  have h3 : cDiv g m = true := by
    unfold cDiv
    simp only [Bool.and_eq_true, decide_eq_true_eq]
    omega
  simp only [F__law_draw, mkF, m__law_draw, pen, mSeq, mIfS, mThen, mTst, mOp, mIx, mPeek, mVar, mTake, mSet, mSetIx, mRet, mR, mV, mU, mG, mN, mRd2, mOpN, mAnd, mOr, mNot, mAndV, mOrV, mNotV, mIf, mNil, mCons, mTup, mLst, mPart, mSl, mPar, mPair, mDrop, mM1, mM0, mHere, M.chg, M.bind, M.ret, M.of, Ar.sl, Rs.get, Rs.sl, fIx, fI, fI0, fInt, fLen, setSl, isIo, isL, chg, onL, fSetIx, fApp, Sl.mut, Sl.upd, ioC, ioIx, env0, runF, mCall, rsv, wb, axIx, noIoA, xNil, xV, xSl, mIt, mListRg, mTupRg, fRg, List.length_cons, List.length_nil, List.map_cons, List.map_nil, List.cons_append, List.nil_append, List.replicate_succ, List.replicate_zero, List.append_nil, Nat.reduceAdd, Nat.reduceSub, List.getElem?_cons_zero, List.getElem?_cons_succ, List.getElem?_nil, List.set_cons_zero, List.set_cons_succ, Option.bind_some, Option.bind_none, Option.map_some, Option.map_none, Nat.reduceLT, Nat.reduceEqDiff, Nat.reduceLeDiff, decide_true, decide_false, Bool.and_true, Bool.true_and, Bool.and_false, Bool.false_and, Bool.not_true, Bool.not_false, ↓reduceIte, reduceCtorEq, Bool.false_eq_true, List.length_map, Nat.lt_add_left_iff_pos, Nat.zero_lt_succ, Nat.add_eq, Nat.zero_add, Nat.add_zero, Nat.zero_le, sz0, sz1, sz2, sz3, sz4, sz5, sz6, sz7, sz8, sz9, h1, h2, h3, at3_0, at3_1, at3_2, ix3_1, ix3_2]
theorem mod_lt {a m : Int} (hm : 0 < m) : 0 ≤ a.fmod m ∧ a.fmod m < m := by
  rw [Int.fmod_eq_emod_of_nonneg _ (Int.le_of_lt hm)]
  exact ⟨Int.emod_nonneg _ (by omega), Int.emod_lt_of_pos _ hm⟩
theorem div_nn {a m : Int} (ha : 0 ≤ a) (hm : 0 < m) : 0 ≤ a.fdiv m := by
  rw [Int.fdiv_eq_ediv_of_nonneg _ (Int.le_of_lt hm)]
  exact Int.ediv_nonneg ha (Int.le_of_lt hm)
/-- the end of a draw, where the cell is c -/
theorem draw_rest {ns : List Int} {t m c : Int} (h0 : 0 ≤ t) (ht : t ≤ 1000000) (hm : 0 < m) (hm2 : m < 1000)
    (hc : (ns = [] ∧ c = 61403 * t + 5011) ∨ (ns ≠ [] ∧ L2.atI (ns.map D.int) (t.fmod (ns.length : Int)) = some (.int c))) :
    ∃ r t' g', 0 ≤ r ∧ r < m ∧ t ≤ t' ∧ t' ≤ t + 1 ∧ 0 ≤ g' ∧ F__law_draw [.io (pen ns t 0), .v (.int m)] = some (.rt (.v (.int r)) (some (pen ns t' g'))) := by
  have h2 : ∀ x, cMod x m = true := fun x => decide_eq_true (by omega)
  have h3 : ∀ x, cDiv x m = true := fun x => by
    unfold cDiv
    simp only [Bool.and_eq_true, decide_eq_true_eq]
    omega
  have h4 : ∀ x, cMul 61403 x = true := fun x => by
    unfold cMul
    rw [show decide ((61403 : Int).natAbs < 2 ^ 64) = true by decide]
    rfl
  have h4b : ∀ x, cMul 2 x = true := fun x => by
    unfold cMul
    rw [show decide ((2 : Int).natAbs < 2 ^ 64) = true by decide]
    rfl
  have h4c : ∀ x, cMul 51001 x = true := fun x => by
    unfold cMul
    rw [show decide ((51001 : Int).natAbs < 2 ^ 64) = true by decide]
    rfl
  have h5 : cPow 10 18 = true := by decide
  have hz : decide ((0 : Int) < 0) = false := rfl
  have e1 : fNe (.lst (ns.map .int)) (.lst []) = some (.bl (!decide (ns = []))) := fNe_lints ns []
  by_cases hb : t < (ns.length : Int) ∧ 10 ^ 18 ≤ (if c < 0 then -c else c)
  · obtain ⟨hb1, hb2⟩ := hb
    have hn : ns ≠ [] := fun e => by
      subst e
      simp at hb1
      omega
    have ha : L2.atI (ns.map D.int) (t.fmod (ns.length : Int)) = some (.int c) := by
      rcases hc with ⟨e, _⟩ | ⟨_, e⟩
      · exact absurd e hn
      · exact e
    have h6 : cMod t (ns.length : Int) = true := decide_eq_true (by
      have := List.length_pos_iff.mpr hn
      omega)
    have d1 : decide (t < (ns.length : Int)) = true := decide_eq_true hb1
    have d2 : decide ((10 : Int) ^ 18 ≤ (if c < 0 then -c else c)) = true := decide_eq_true hb2
    have d3 : decide (ns = []) = false := decide_eq_false hn
    have gn : 0 ≤ 2 * ((if c < 0 then -c else c) - 10 ^ 18) + (if decide (c < 0) = true then 1 else 0) := by
      split <;> split <;> omega
    have e18 : (10 : Int) ^ (18 : Int).toNat = 10 ^ 18 := rfl
    refine ⟨(2 * ((if c < 0 then -c else c) - 10 ^ 18) + (if decide (c < 0) = true then 1 else 0)).fmod m, t + 1, (2 * ((if c < 0 then -c else c) - 10 ^ 18) + (if decide (c < 0) = true then 1 else 0)).fdiv m, (mod_lt hm).1, (mod_lt hm).2, by omega, by omega, div_nn gn hm, ?_⟩
    simp only [F__law_draw, mkF, m__law_draw, pen, mSeq, mIfS, mThen, mTst, mOp, mIx, mPeek, mVar, mTake, mSet, mSetIx, mRet, mR, mV, mU, mG, mN, mRd2, mOpN, mAnd, mOr, mNot, mAndV, mOrV, mNotV, mIf, mNil, mCons, mTup, mLst, mPart, mSl, mPar, mPair, mDrop, mM1, mM0, mHere, M.chg, M.bind, M.ret, M.of, Ar.sl, Rs.get, Rs.sl, fIx, fI, fI0, fInt, fLen, setSl, isIo, isL, chg, onL, fSetIx, fApp, Sl.mut, Sl.upd, ioC, ioIx, env0, runF, mCall, rsv, wb, axIx, noIoA, xNil, xV, xSl, mIt, mListRg, mTupRg, fRg, List.length_cons, List.length_nil, List.map_cons, List.map_nil, List.cons_append, List.nil_append, List.replicate_succ, List.replicate_zero, List.append_nil, Nat.reduceAdd, Nat.reduceSub, List.getElem?_cons_zero, List.getElem?_cons_succ, List.getElem?_nil, List.set_cons_zero, List.set_cons_succ, Option.bind_some, Option.bind_none, Option.map_some, Option.map_none, Nat.reduceLT, Nat.reduceEqDiff, Nat.reduceLeDiff, decide_true, decide_false, Bool.and_true, Bool.true_and, Bool.and_false, Bool.false_and, Bool.not_true, Bool.not_false, ↓reduceIte, reduceCtorEq, Bool.false_eq_true, List.length_map, Nat.lt_add_left_iff_pos, Nat.zero_lt_succ, Nat.add_eq, Nat.zero_add, Nat.add_zero, Nat.zero_le, sz0, sz1, sz2, sz3, sz4, sz5, sz6, sz7, sz8, sz9, fAbs, hz, h2, h3, h4, h4b, h5, h6, e1, ha, d1, d2, d3, e18, at3_0, at3_1, at3_2, ix3_1, ix3_2]
  · have hx : 0 ≤ c.fmod 2147483563 ∧ c.fmod 2147483563 < 2147483563 := mod_lt (by omega)
    have h7 : cPow (c.fmod 2147483563 + 61403 * t + 5011) 5 = true := by
      unfold cPow
      simp only [Bool.and_eq_true, decide_eq_true_eq]
      omega
    have hM := mod_lt (a := (c.fmod 2147483563 + 61403 * t + 5011) ^ (5 : Int).toNat) (m := 2147483629) (by omega)
    generalize hM1 : ((c.fmod 2147483563 + 61403 * t + 5011) ^ (5 : Int).toNat).fmod 2147483629 = M1 at hM
    have h8 : cMul M1 (2 * t + 857) = true := by
      unfold cMul
      rw [decide_eq_true (show M1.natAbs < 2 ^ 64 by omega)]
      rfl
    have h9 : cMul (51001 * t) t = true := by
      unfold cMul
      rw [decide_eq_true (show t.natAbs < 2 ^ 64 by omega), Bool.or_true]
    have q1 : 0 ≤ M1 * (2 * t + 857) ∧ M1 * (2 * t + 857) ≤ 2147483629 * (2 * 1000000 + 857) := ⟨Int.mul_nonneg hM.1 (by omega), Int.mul_le_mul (by omega) (by omega) (by omega) (by omega)⟩
    have q2 : 0 ≤ 51001 * t * t ∧ 51001 * t * t ≤ 51001 * 1000000 * 1000000 := ⟨Int.mul_nonneg (by omega) h0, Int.mul_le_mul (by omega) ht h0 (by omega)⟩
    have h10 : cPow (M1 * (2 * t + 857) + 51001 * t * t + 5011) 3 = true := by
      unfold cPow
      simp only [Bool.and_eq_true, decide_eq_true_eq]
      generalize M1 * (2 * t + 857) = u at q1
      generalize 51001 * t * t = v at q2
      omega
    refine ⟨((((M1 * (2 * t + 857) + 51001 * t * t + 5011) ^ (3 : Int).toNat).fmod 2147483587).fdiv 32).fmod m, t + 1, 0, (mod_lt hm).1, (mod_lt hm).2, by omega, by omega, by omega, ?_⟩
    have h11 : ∀ x, cMod x 2147483563 = true := fun x => rfl
    have h12 : ∀ x, cMod x 2147483629 = true := fun x => rfl
    have h13 : ∀ x, cMod x 2147483587 = true := fun x => rfl
    have h14 : ∀ x, cDiv x 32 = true := fun x => rfl
    have hb' : (decide (t < (ns.length : Int)) && decide ((10 : Int) ^ (18 : Int).toNat ≤ (if c < 0 then -c else c))) = false := by
      rw [← Bool.decide_and]
      exact decide_eq_false hb
    by_cases hn : ns = []
    · have ec : c = 61403 * t + 5011 := by
        rcases hc with ⟨_, e⟩ | ⟨e, _⟩
        · exact e
        · exact absurd hn e
      have d1 : decide (t < (ns.length : Int)) = false := decide_eq_false (by
        subst hn
        simp
        exact h0)
      have d3 : decide (ns = []) = true := decide_eq_true hn
      subst ec
      simp only [F__law_draw, mkF, m__law_draw, pen, mSeq, mIfS, mThen, mTst, mOp, mIx, mPeek, mVar, mTake, mSet, mSetIx, mRet, mR, mV, mU, mG, mN, mRd2, mOpN, mAnd, mOr, mNot, mAndV, mOrV, mNotV, mIf, mNil, mCons, mTup, mLst, mPart, mSl, mPar, mPair, mDrop, mM1, mM0, mHere, M.chg, M.bind, M.ret, M.of, Ar.sl, Rs.get, Rs.sl, fIx, fI, fI0, fInt, fLen, setSl, isIo, isL, chg, onL, fSetIx, fApp, Sl.mut, Sl.upd, ioC, ioIx, env0, runF, mCall, rsv, wb, axIx, noIoA, xNil, xV, xSl, mIt, mListRg, mTupRg, fRg, List.length_cons, List.length_nil, List.map_cons, List.map_nil, List.cons_append, List.nil_append, List.replicate_succ, List.replicate_zero, List.append_nil, Nat.reduceAdd, Nat.reduceSub, List.getElem?_cons_zero, List.getElem?_cons_succ, List.getElem?_nil, List.set_cons_zero, List.set_cons_succ, Option.bind_some, Option.bind_none, Option.map_some, Option.map_none, Nat.reduceLT, Nat.reduceEqDiff, Nat.reduceLeDiff, decide_true, decide_false, Bool.and_true, Bool.true_and, Bool.and_false, Bool.false_and, Bool.not_true, Bool.not_false, ↓reduceIte, reduceCtorEq, Bool.false_eq_true, List.length_map, Nat.lt_add_left_iff_pos, Nat.zero_lt_succ, Nat.add_eq, Nat.zero_add, Nat.add_zero, Nat.zero_le, sz0, sz1, sz2, sz3, sz4, sz5, sz6, sz7, sz8, sz9, fAbs, hz, h2, h3, h4, h4b, h4c, h5, e1, d1, d3, hM1, h7, h8, h9, h10, h11, h12, h13, h14, at3_0, at3_1, at3_2, ix3_1, ix3_2]
    · have ha : L2.atI (ns.map D.int) (t.fmod (ns.length : Int)) = some (.int c) := by
        rcases hc with ⟨e, _⟩ | ⟨_, e⟩
        · exact absurd e hn
        · exact e
      have h6 : cMod t (ns.length : Int) = true := decide_eq_true (by
        have := List.length_pos_iff.mpr hn
        omega)
      have d3 : decide (ns = []) = false := decide_eq_false hn
      cases d1 : decide (t < (ns.length : Int)) with
      | false =>
        simp only [F__law_draw, mkF, m__law_draw, pen, mSeq, mIfS, mThen, mTst, mOp, mIx, mPeek, mVar, mTake, mSet, mSetIx, mRet, mR, mV, mU, mG, mN, mRd2, mOpN, mAnd, mOr, mNot, mAndV, mOrV, mNotV, mIf, mNil, mCons, mTup, mLst, mPart, mSl, mPar, mPair, mDrop, mM1, mM0, mHere, M.chg, M.bind, M.ret, M.of, Ar.sl, Rs.get, Rs.sl, fIx, fI, fI0, fInt, fLen, setSl, isIo, isL, chg, onL, fSetIx, fApp, Sl.mut, Sl.upd, ioC, ioIx, env0, runF, mCall, rsv, wb, axIx, noIoA, xNil, xV, xSl, mIt, mListRg, mTupRg, fRg, List.length_cons, List.length_nil, List.map_cons, List.map_nil, List.cons_append, List.nil_append, List.replicate_succ, List.replicate_zero, List.append_nil, Nat.reduceAdd, Nat.reduceSub, List.getElem?_cons_zero, List.getElem?_cons_succ, List.getElem?_nil, List.set_cons_zero, List.set_cons_succ, Option.bind_some, Option.bind_none, Option.map_some, Option.map_none, Nat.reduceLT, Nat.reduceEqDiff, Nat.reduceLeDiff, decide_true, decide_false, Bool.and_true, Bool.true_and, Bool.and_false, Bool.false_and, Bool.not_true, Bool.not_false, ↓reduceIte, reduceCtorEq, Bool.false_eq_true, List.length_map, Nat.lt_add_left_iff_pos, Nat.zero_lt_succ, Nat.add_eq, Nat.zero_add, Nat.add_zero, Nat.zero_le, sz0, sz1, sz2, sz3, sz4, sz5, sz6, sz7, sz8, sz9, fAbs, hz, h2, h3, h4, h4b, h4c, h5, h6, ha, e1, d1, d3, hM1, h7, h8, h9, h10, h11, h12, h13, h14, at3_0, at3_1, at3_2, ix3_1, ix3_2]
      | true =>
        rw [d1, Bool.true_and] at hb'
        simp only [F__law_draw, mkF, m__law_draw, pen, mSeq, mIfS, mThen, mTst, mOp, mIx, mPeek, mVar, mTake, mSet, mSetIx, mRet, mR, mV, mU, mG, mN, mRd2, mOpN, mAnd, mOr, mNot, mAndV, mOrV, mNotV, mIf, mNil, mCons, mTup, mLst, mPart, mSl, mPar, mPair, mDrop, mM1, mM0, mHere, M.chg, M.bind, M.ret, M.of, Ar.sl, Rs.get, Rs.sl, fIx, fI, fI0, fInt, fLen, setSl, isIo, isL, chg, onL, fSetIx, fApp, Sl.mut, Sl.upd, ioC, ioIx, env0, runF, mCall, rsv, wb, axIx, noIoA, xNil, xV, xSl, mIt, mListRg, mTupRg, fRg, List.length_cons, List.length_nil, List.map_cons, List.map_nil, List.cons_append, List.nil_append, List.replicate_succ, List.replicate_zero, List.append_nil, Nat.reduceAdd, Nat.reduceSub, List.getElem?_cons_zero, List.getElem?_cons_succ, List.getElem?_nil, List.set_cons_zero, List.set_cons_succ, Option.bind_some, Option.bind_none, Option.map_some, Option.map_none, Nat.reduceLT, Nat.reduceEqDiff, Nat.reduceLeDiff, decide_true, decide_false, Bool.and_true, Bool.true_and, Bool.and_false, Bool.false_and, Bool.not_true, Bool.not_false, ↓reduceIte, reduceCtorEq, Bool.false_eq_true, List.length_map, Nat.lt_add_left_iff_pos, Nat.zero_lt_succ, Nat.add_eq, Nat.zero_add, Nat.add_zero, Nat.zero_le, sz0, sz1, sz2, sz3, sz4, sz5, sz6, sz7, sz8, sz9, fAbs, hz, h2, h3, h4, h4b, h4c, h5, h6, ha, e1, d1, hb', d3, hM1, h7, h8, h9, h10, h11, h12, h13, h14, at3_0, at3_1, at3_2, ix3_1, ix3_2]
/-- a draw -/
theorem draw {ns : List Int} {t g m : Int} (h0 : 0 ≤ t) (ht : t ≤ 1000000) (hg : 0 ≤ g) (hm : 0 < m) (hm2 : m < 1000) :
    ∃ r t' g', 0 ≤ r ∧ r < m ∧ t ≤ t' ∧ t' ≤ t + 1 ∧ 0 ≤ g' ∧ F__law_draw [.io (pen ns t g), .v (.int m)] = some (.rt (.v (.int r)) (some (pen ns t' g'))) := by
  by_cases hz : 0 < g
  · exact ⟨_, _, _, (mod_lt hm).1, (mod_lt hm).2, by omega, by omega, div_nn hg hm, draw_great hz hm hm2⟩
  · have e : g = 0 := by omega
    subst e
    by_cases hn : ns = []
    · exact draw_rest h0 ht hm hm2 (.inl ⟨hn, rfl⟩)
    · have hl : (0 : Int) < ns.length := by
        have := List.length_pos_iff.mpr hn
        omega
      obtain ⟨k1, k2⟩ := mod_lt (a := t) hl
      obtain ⟨j, hj⟩ := Int.eq_ofNat_of_zero_le k1
      have hj2 : j < ns.length := by omega
      refine draw_rest (c := ns[j]) h0 ht hm hm2 (.inr ⟨hn, ?_⟩)
      rw [hj]
      refine L2.atI_nat ?_
      rw [List.getElem?_map, List.getElem?_eq_getElem hj2]
      rfl
end Za
end

section
set_option Elab.async false
set_option linter.all false
set_option maxRecDepth 100000
set_option maxHeartbeats 4000000
/-! Loops by invariants; the pen; drawn figures. -/
namespace Za
open PySem L2 Z Zb
def fuel : Nat := 1000
def t1__law_figure : M Bool := (mTst (mOp fLt (mG fLen (mPeek 3)) (mOp fMul (M.ret (.int 2)) (mVar 1))))
def b2__law_figure : MS := (mDrop (mM1 3 fApp (mM1 2 fPopAt (mV (mCall F__law_draw [] (xSl 0 (xV (mG fLen (mPeek 2)) xNil)))))))
def m__law_figure : MS := (mSeq (mPar 2 3 (mPair (mListRg (mOp fMul (M.ret (.int 2)) (mVar 1))) (mLst mNil)))
    (mSeq (whL t1__law_figure b2__law_figure fuel)
    (mRet (mTake 3))))
def F__law_figure : DF := mkF 2 4 m__law_figure
def m__law_pen : MS := (mRet (mLst (mCons (mV (mN fList (mSl (mPeek 0) (M.ret none) (mPart (M.ret (.int 63)))))) (mCons (M.ret (.int 0)) (mCons (M.ret (.int 0)) mNil)))))
def F__law_pen : DF := mkF 1 1 m__law_pen
theorem forL_inv {t : TgM} {b : MS} {I : Nat → Z.Env → Prop} : ∀ {ds : List D} {k : Nat}, (∀ i d env, ds[i]? = some d → I (k + i) env → ∃ env1 env2, t d env = some env1 ∧ (b env1 = some (.nx env2) ∨ b env1 = some (.ct env2)) ∧ I (k + i + 1) env2) → ∀ env, I k env → ∃ env', forL t b ds env = some (.nx env') ∧ I (k + ds.length) env'
  | [], k, _, env, h0 => ⟨env, rfl, h0⟩
  | d :: ds, k, h, env, h0 => by
    obtain ⟨env1, env2, e1, e2, h1⟩ := h 0 d env rfl h0
    obtain ⟨env', e3, h3⟩ := forL_inv (ds := ds) (k := k + 1) (fun i d' env hd hi => by
      have := h (i + 1) d' env (by rw [List.getElem?_cons_succ]; exact hd) (by rw [← Nat.add_assoc, Nat.add_right_comm]; exact hi)
      rw [show k + 1 + i = k + (i + 1) by omega]
      exact this) env2 h1
    refine ⟨env', ?_, by rw [List.length_cons, show k + (ds.length + 1) = k + 1 + ds.length by omega]; exact h3⟩
    simp only [forL, e1]
    rcases e2 with e2 | e2
    · simp only [e2]
      exact e3
    · simp only [e2]
      exact e3
theorem whL_inv {t : M Bool} {b : MS} {I : Nat → Z.Env → Prop} {J : Z.Env → Prop} {n : Nat} (h : ∀ i env, i < n → I i env → ∃ env1 env2, t env = some (.ok true env1) ∧ (b env1 = some (.nx env2) ∨ b env1 = some (.ct env2)) ∧ I (i + 1) env2)
    (hend : ∀ env, I n env → ∃ env', t env = some (.ok false env') ∧ J env') : ∀ (k f : Nat), k ≤ n → n - k < f → ∀ env, I k env → ∃ env', whL t b f env = some (.nx env') ∧ J env'
  | k, 0, _, hf, _, _ => absurd hf (Nat.not_lt_zero _)
  | k, f + 1, hk, hf, env, h0 => by
    by_cases e : k = n
    · subst e
      obtain ⟨env', e1, e2⟩ := hend env h0
      exact ⟨env', by simp only [whL, e1], e2⟩
    · obtain ⟨env1, env2, e1, e2, h1⟩ := h k env (by omega) h0
      obtain ⟨env', e3, h3⟩ := whL_inv h hend (k + 1) f (by omega) (by omega) env2 h1
      refine ⟨env', ?_, h3⟩
      simp only [whL, e1]
      rcases e2 with e2 | e2
      · simp only [e2]
        exact e3
      · simp only [e2]
        exact e3
abbrev I (x : Nat) : D := .int (x : Nat)
theorem rng_eq (n : Nat) : rng n = (List.range n).map I := rfl
theorem fPopAt_nat {ds : List D} {j : Nat} (h : j < ds.length) (hz : j < 1000000) : fPopAt (.int (j : Nat)) ds = some (ds[j], ds.eraseIdx j) := by
  unfold fPopAt
  have e : seqIndex? ((j : Nat) : Int) ds.length = some j := (ixN_seq (by
    unfold ixN
    rw [if_pos (by omega), if_pos (by omega)]
    rfl)).1
  have e2 : (decide (-(2 ^ 62) ≤ ((j : Nat) : Int)) && decide (((j : Nat) : Int) < 2 ^ 62)) = true := by
    simp only [Bool.and_eq_true, decide_eq_true_eq]
    omega
  simp only [e2, if_true, e, Option.bind_some, List.getElem?_eq_getElem h]
theorem erase_map {α β : Type} (f : α → β) : ∀ (l : List α) (j : Nat), (l.map f).eraseIdx j = (l.eraseIdx j).map f
  | [], _ => rfl
  | _ :: _, 0 => rfl
  | x :: l, j + 1 => congrArg (f x :: ·) (erase_map f l j)
theorem erase_perm {α : Type} : ∀ {l : List α} {j : Nat} (h : j < l.length), (l[j] :: l.eraseIdx j).Perm l
  | x :: l, 0, _ => List.Perm.refl _
  | x :: l, j + 1, h => ((List.Perm.swap _ _ _)).trans ((erase_perm (l := l) (j := j) (Nat.lt_of_succ_lt_succ h)).cons x)
theorem fig_body {F : D → List D → Option (D × List D)} {G : DF} {P P2 y z c : D} {left2 found : List D} {left : List Nat} (h : G [.io P, .v (.int (left.length : Int))] = some (.rt (.v y) (some P2))) (hp : F y (left.map I) = some (z, left2)) (hs : szOk found.length = true) :
    mDrop (mM1 3 fApp (mM1 2 F (mV (mCall G [] (xSl 0 (xV (mG fLen (mPeek 2)) xNil)))))) [.io P, .v c, .own (.lst (left.map I)), .own (.lst found)] = some (.nx [.io P2, .v c, .own (.lst left2), .own (.lst (found ++ [z]))]) := by
  simp only [mSeq, mIfS, mThen, mTst, mOp, mIx, mPeek, mVar, mTake, mSet, mSetIx, mRet, mR, mV, mU, mG, mN, mRd2, mOpN, mAnd, mOr, mNot, mAndV, mOrV, mNotV, mIf, mNil, mCons, mTup, mLst, mPart, mSl, mPar, mPair, mDrop, mM1, mM0, mHere, M.chg, M.bind, M.ret, M.of, Ar.sl, Rs.get, Rs.sl, fIx, fI, fI0, fInt, fLen, setSl, isIo, isL, chg, onL, fSetIx, fApp, Sl.mut, Sl.upd, ioC, ioIx, env0, runF, mCall, rsv, wb, axIx, noIoA, xNil, xV, xSl, mIt, mListRg, mTupRg, fRg, List.length_cons, List.length_nil, List.map_cons, List.map_nil, List.cons_append, List.nil_append, List.replicate_succ, List.replicate_zero, List.append_nil, Nat.reduceAdd, Nat.reduceSub, List.getElem?_cons_zero, List.getElem?_cons_succ, List.getElem?_nil, List.set_cons_zero, List.set_cons_succ, Option.bind_some, Option.bind_none, Option.map_some, Option.map_none, Nat.reduceLT, Nat.reduceEqDiff, Nat.reduceLeDiff, decide_true, decide_false, Bool.and_true, Bool.true_and, Bool.and_false, Bool.false_and, Bool.not_true, Bool.not_false, ↓reduceIte, reduceCtorEq, Bool.false_eq_true, List.length_map, Nat.lt_add_left_iff_pos, Nat.zero_lt_succ, Nat.add_eq, Nat.zero_add, Nat.add_zero, Nat.zero_le, sz0, sz1, sz2, sz3, sz4, sz5, sz6, sz7, sz8, sz9, h, hp, hs]
theorem figure {ns : List Int} {t g : Int} {c : Nat} (h0 : 0 ≤ t) (ht : t ≤ 900000) (hg : 0 ≤ g) (hc : c ≤ 100) :
    ∃ (fig : List Nat) (t' g' : Int), fig.Perm (List.range (2 * c)) ∧ t ≤ t' ∧ t' ≤ t + 2 * c ∧ 0 ≤ g' ∧ F__law_figure [.io (pen ns t g), .v (I c)] = some (.rt (.fr (.lst (fig.map I))) (some (pen ns t' g'))) := by
  have h4b : ∀ x, cMul 2 x = true := fun x => by
    unfold cMul
    rw [show decide ((2 : Int).natAbs < 2 ^ 64) = true by decide]
    rfl
  have hok : okRg (2 * (c : Int)) = true := by
    unfold okRg
    simp only [Bool.and_eq_true, decide_eq_true_eq]
    omega
  have e2 : (2 * (c : Int)).toNat = 2 * c := by omega
  have W := whL_inv (t := t1__law_figure) (b := b2__law_figure)
    (I := fun i env => ∃ (left found : List Nat) (t' g' : Int), (left ++ found).Perm (List.range (2 * c)) ∧ found.length = i ∧ t ≤ t' ∧ t' ≤ t + i ∧ 0 ≤ g' ∧ env = [.io (pen ns t' g'), .v (I c), .own (.lst (left.map I)), .own (.lst (found.map I))])
    (J := fun env => ∃ (found : List Nat) (t' g' : Int) (s : Sl), found.Perm (List.range (2 * c)) ∧ t ≤ t' ∧ t' ≤ t + 2 * c ∧ 0 ≤ g' ∧ env = [.io (pen ns t' g'), .v (I c), s, .own (.lst (found.map I))])
    (n := 2 * c) (fun i env hi ⟨left, found, t', g', hp, hl, k1, k2, k3, e⟩ => by
      subst e
      have hll := hp.length_eq
      rw [List.length_append, List.length_range] at hll
      have d1 : decide ((found.length : Int) < 2 * (c : Int)) = true := decide_eq_true (by omega)
      obtain ⟨r, t2, g2, r1, r2, r3, r4, r5, r6⟩ := draw (ns := ns) (t := t') (g := g') (m := (left.length : Int)) (by omega) (by omega) k3 (by omega) (by omega)
      obtain ⟨j, rfl⟩ := Int.eq_ofNat_of_zero_le r1
      have hj : j < (left.map I).length := by
        rw [List.length_map]
        omega
      have hj2 : j < left.length := by omega
      have hsz : szOk found.length = true := sz_of (by omega)
      refine ⟨[.io (pen ns t' g'), .v (I c), .own (.lst (left.map I)), .own (.lst (found.map I))], [.io (pen ns t2 g2), .v (I c), .own (.lst ((left.eraseIdx j).map I)), .own (.lst ((found ++ [left[j]]).map I))], ?_, .inl ?_, left.eraseIdx j, found ++ [left[j]], t2, g2, ?_, ?_, ?_, ?_, ?_, rfl⟩
      · simp only [t1__law_figure, mSeq, mIfS, mThen, mTst, mOp, mIx, mPeek, mVar, mTake, mSet, mSetIx, mRet, mR, mV, mU, mG, mN, mRd2, mOpN, mAnd, mOr, mNot, mAndV, mOrV, mNotV, mIf, mNil, mCons, mTup, mLst, mPart, mSl, mPar, mPair, mDrop, mM1, mM0, mHere, M.chg, M.bind, M.ret, M.of, Ar.sl, Rs.get, Rs.sl, fIx, fI, fI0, fInt, fLen, setSl, isIo, isL, chg, onL, fSetIx, fApp, Sl.mut, Sl.upd, ioC, ioIx, env0, runF, mCall, rsv, wb, axIx, noIoA, xNil, xV, xSl, mIt, mListRg, mTupRg, fRg, List.length_cons, List.length_nil, List.map_cons, List.map_nil, List.cons_append, List.nil_append, List.replicate_succ, List.replicate_zero, List.append_nil, Nat.reduceAdd, Nat.reduceSub, List.getElem?_cons_zero, List.getElem?_cons_succ, List.getElem?_nil, List.set_cons_zero, List.set_cons_succ, Option.bind_some, Option.bind_none, Option.map_some, Option.map_none, Nat.reduceLT, Nat.reduceEqDiff, Nat.reduceLeDiff, decide_true, decide_false, Bool.and_true, Bool.true_and, Bool.and_false, Bool.false_and, Bool.not_true, Bool.not_false, ↓reduceIte, reduceCtorEq, Bool.false_eq_true, List.length_map, Nat.lt_add_left_iff_pos, Nat.zero_lt_succ, Nat.add_eq, Nat.zero_add, Nat.add_zero, Nat.zero_le, sz0, sz1, sz2, sz3, sz4, sz5, sz6, sz7, sz8, sz9, h4b, d1]
      · have hp := fPopAt_nat hj (by omega)
        rw [erase_map, List.getElem_map] at hp
        rw [List.map_append]
        exact fig_body r6 hp (by rw [List.length_map]; exact hsz)
      · refine List.Perm.trans ?_ hp
        rw [← List.append_assoc]
        refine (List.perm_append_comm).trans ?_
        rw [← List.append_assoc]
        exact (erase_perm hj2).append_right _
      · rw [List.length_append, hl]; rfl
      · omega
      · omega
      · exact r5) (fun env ⟨left, found, t', g', hp, hl, k1, k2, k3, e⟩ => by
      subst e
      have hll := hp.length_eq
      rw [List.length_append, List.length_range] at hll
      have d1 : decide ((found.length : Int) < 2 * (c : Int)) = false := decide_eq_false (by omega)
      refine ⟨[.io (pen ns t' g'), .v (I c), .own (.lst (left.map I)), .own (.lst (found.map I))], ?_, found, t', g', _, ?_, k1, by omega, k3, rfl⟩
      · simp only [t1__law_figure, mSeq, mIfS, mThen, mTst, mOp, mIx, mPeek, mVar, mTake, mSet, mSetIx, mRet, mR, mV, mU, mG, mN, mRd2, mOpN, mAnd, mOr, mNot, mAndV, mOrV, mNotV, mIf, mNil, mCons, mTup, mLst, mPart, mSl, mPar, mPair, mDrop, mM1, mM0, mHere, M.chg, M.bind, M.ret, M.of, Ar.sl, Rs.get, Rs.sl, fIx, fI, fI0, fInt, fLen, setSl, isIo, isL, chg, onL, fSetIx, fApp, Sl.mut, Sl.upd, ioC, ioIx, env0, runF, mCall, rsv, wb, axIx, noIoA, xNil, xV, xSl, mIt, mListRg, mTupRg, fRg, List.length_cons, List.length_nil, List.map_cons, List.map_nil, List.cons_append, List.nil_append, List.replicate_succ, List.replicate_zero, List.append_nil, Nat.reduceAdd, Nat.reduceSub, List.getElem?_cons_zero, List.getElem?_cons_succ, List.getElem?_nil, List.set_cons_zero, List.set_cons_succ, Option.bind_some, Option.bind_none, Option.map_some, Option.map_none, Nat.reduceLT, Nat.reduceEqDiff, Nat.reduceLeDiff, decide_true, decide_false, Bool.and_true, Bool.true_and, Bool.and_false, Bool.false_and, Bool.not_true, Bool.not_false, ↓reduceIte, reduceCtorEq, Bool.false_eq_true, List.length_map, Nat.lt_add_left_iff_pos, Nat.zero_lt_succ, Nat.add_eq, Nat.zero_add, Nat.add_zero, Nat.zero_le, sz0, sz1, sz2, sz3, sz4, sz5, sz6, sz7, sz8, sz9, h4b, d1]
      · have : left = [] := List.eq_nil_of_length_eq_zero (by omega)
        subst this
        exact hp)
  obtain ⟨env', w1, found, t', g', s, w2, w3, w4, w5, rfl⟩ := W 0 fuel (by omega) (by show 2 * c - 0 < 1000; omega) [.io (pen ns t g), .v (I c), .own (.lst ((List.range (2 * c)).map I)), .own (.lst [])] ⟨List.range (2 * c), [], t, g, by rw [List.append_nil], rfl, by omega, by omega, hg, rfl⟩
  refine ⟨found, t', g', w2, w3, w4, w5, ?_⟩
  simp only [F__law_figure, mkF, m__law_figure, mSeq, mIfS, mThen, mTst, mOp, mIx, mPeek, mVar, mTake, mSet, mSetIx, mRet, mR, mV, mU, mG, mN, mRd2, mOpN, mAnd, mOr, mNot, mAndV, mOrV, mNotV, mIf, mNil, mCons, mTup, mLst, mPart, mSl, mPar, mPair, mDrop, mM1, mM0, mHere, M.chg, M.bind, M.ret, M.of, Ar.sl, Rs.get, Rs.sl, fIx, fI, fI0, fInt, fLen, setSl, isIo, isL, chg, onL, fSetIx, fApp, Sl.mut, Sl.upd, ioC, ioIx, env0, runF, mCall, rsv, wb, axIx, noIoA, xNil, xV, xSl, mIt, mListRg, mTupRg, fRg, List.length_cons, List.length_nil, List.map_cons, List.map_nil, List.cons_append, List.nil_append, List.replicate_succ, List.replicate_zero, List.append_nil, Nat.reduceAdd, Nat.reduceSub, List.getElem?_cons_zero, List.getElem?_cons_succ, List.getElem?_nil, List.set_cons_zero, List.set_cons_succ, Option.bind_some, Option.bind_none, Option.map_some, Option.map_none, Nat.reduceLT, Nat.reduceEqDiff, Nat.reduceLeDiff, decide_true, decide_false, Bool.and_true, Bool.true_and, Bool.and_false, Bool.false_and, Bool.not_true, Bool.not_false, ↓reduceIte, reduceCtorEq, Bool.false_eq_true, List.length_map, Nat.lt_add_left_iff_pos, Nat.zero_lt_succ, Nat.add_eq, Nat.zero_add, Nat.add_zero, Nat.zero_le, sz0, sz1, sz2, sz3, sz4, sz5, sz6, sz7, sz8, sz9, h4b, hok, e2, rng_eq, w1]
theorem the_pen {ns : List Int} (h : ns.length ≤ 63) : F__law_pen [.v (.scr ns)] = some (.rt (.fr (pen ns 0 0)) none) := by
  have e : cut ns none (some 63) = ns := whole_cut ⟨rfl, by
    rw [show (63 : Int) = ((63 : Nat) : Int) from rfl, HT.sIx_nat]
    omega⟩
  simp only [F__law_pen, mkF, m__law_pen, mSeq, mIfS, mThen, mTst, mOp, mIx, mPeek, mVar, mTake, mSet, mSetIx, mRet, mR, mV, mU, mG, mN, mRd2, mOpN, mAnd, mOr, mNot, mAndV, mOrV, mNotV, mIf, mNil, mCons, mTup, mLst, mPart, mSl, mPar, mPair, mDrop, mM1, mM0, mHere, M.chg, M.bind, M.ret, M.of, Ar.sl, Rs.get, Rs.sl, fIx, fI, fI0, fInt, fLen, setSl, isIo, isL, chg, onL, fSetIx, fApp, Sl.mut, Sl.upd, ioC, ioIx, env0, runF, mCall, rsv, wb, axIx, noIoA, xNil, xV, xSl, mIt, mListRg, mTupRg, fRg, List.length_cons, List.length_nil, List.map_cons, List.map_nil, List.cons_append, List.nil_append, List.replicate_succ, List.replicate_zero, List.append_nil, Nat.reduceAdd, Nat.reduceSub, List.getElem?_cons_zero, List.getElem?_cons_succ, List.getElem?_nil, List.set_cons_zero, List.set_cons_succ, Option.bind_some, Option.bind_none, Option.map_some, Option.map_none, Nat.reduceLT, Nat.reduceEqDiff, Nat.reduceLeDiff, decide_true, decide_false, Bool.and_true, Bool.true_and, Bool.and_false, Bool.false_and, Bool.not_true, Bool.not_false, ↓reduceIte, reduceCtorEq, Bool.false_eq_true, List.length_map, Nat.lt_add_left_iff_pos, Nat.zero_lt_succ, Nat.add_eq, Nat.zero_add, Nat.add_zero, Nat.zero_le, sz0, sz1, sz2, sz3, sz4, sz5, sz6, sz7, sz8, sz9, fSl, inOf, e, fList, pen]
end Za
end

section
set_option Elab.async false
set_option linter.all false
set_option maxRecDepth 100000
namespace Zk04
open PySem L2 Z Za
/-- is_row: slots 0 value -/
def m_is_row : MS := (mRet (mR (mG (fIsiT ["list", "tuple"]) (mPeek 0))))
def F_is_row : DF := mkF 1 1 m_is_row
/-- is_integer: slots 0 value -/
def m_is_integer : MS := (mRet (mR (mAndV (mG (fIsi "int") (mPeek 0)) (mNotV (mG (fIsi "bool") (mPeek 0))))))
def F_is_integer : DF := mkF 1 1 m_is_integer
/-- is_figure: slots 0 value 1 couples 2 place -/
def e1_is_figure : M D := (mV (mCall F_is_integer [] (xV (mVar 2) xNil)))
def m_is_figure : MS := (mSeq (mIfS (mOr (mNot (mTst (mV (mCall F_is_row [] (xV (mVar 0) xNil))))) (mTst (mRd2 (fIn true) (mR (mG fLen (mPeek 0))) (mR (mTup (mCons (M.ret (.int 2)) (mCons (M.ret (.int 4)) (mCons (M.ret (.int 6)) (mCons (M.ret (.int 8)) mNil))))))))) (mRet (mR (M.ret (.bl false)))) mNext)
    (mSeq (mIfS (mAnd (mTst (mRd2 fNotN (mPeek 1) (mR (M.ret .non)))) (mTst (mRd2 fNe (mR (mOp fMul (M.ret (.int 2)) (mVar 1))) (mR (mG fLen (mPeek 0)))))) (mRet (mR (M.ret (.bl false)))) mNext)
    (mSeq (mIfS (mNot (mTst (mG fAll (mLc (mIt items (mVar 0)) (gN 2) (M.ret true) e1_is_figure [2])))) (mRet (mR (M.ret (.bl false)))) mNext)
    (mRet (mR (mRd2 fEq (mN fSorted (mPeek 0)) (mListRg (mG fLen (mPeek 0)))))))))
def F_is_figure : DF := mkF 2 3 m_is_figure
/-- need_figure: slots 0 value -/
def m_need_figure : MS := (mIfS (mNot (mTst (mV (mCall F_is_figure [.non] (xV (mVar 0) xNil))))) mNo mNext)
def F_need_figure : DF := mkF 1 1 m_need_figure
/-- cycles_of: slots 0 row 1 first 2 found 3 seen 4 cycle 5 place -/
def t1_cycles_of : M Bool := (mNot (mTst (mIx (mPeek 3) (mVar 5))))
def b2_cycles_of : MS := (mSeq (mSetIx 3 (M.ret (.bl true)) (mVar 5))
    (mSeq (mDrop (mM1 4 fApp (mVar 5)))
    (mSet 5 (mR (mIx (mPeek 0) (mVar 5))))))
def b3_cycles_of : MS := (mSeq (mIfS (mTst (mIx (mPeek 3) (mVar 1))) mCnt mNext)
    (mSeq (mPar 4 5 (mPair (mLst mNil) (mR (mVar 1))))
    (mSeq (whL t1_cycles_of b2_cycles_of fuel)
    (mDrop (mM1 2 fApp (mG fTuple (mPeek 4)))))))
def m_cycles_of : MS := (mSeq (mPar 2 3 (mPair (mLst mNil) (mOpN fRep (mLst (mCons (M.ret (.bl false)) mNil)) (mR (mG fLen (mPeek 0))))))
    (mSeq (mFor (mIt itR1 (mG fLen (mPeek 0))) (gN 1) b3_cycles_of)
    (mRet (mR (mG fTuple (mPeek 2))))))
def F_cycles_of : DF := mkF 1 6 m_cycles_of
/-- cycles: slots 0 figure -/
def m_cycles : MS := (mSeq (mDrop (mCall F_need_figure [] (xV (mVar 0) xNil)))
    (mRet (mCall F_cycles_of [] (xV (mVar 0) xNil))))
def F_cycles : DF := mkF 1 1 m_cycles
/-- _law_cycles: slots 0 figure 1 found 2 place 3 row 4 at -/
def t1__law_cycles : M Bool := (mAnd (mTst (mRd2 fNe (mPeek 4) (mPeek 2))) (mTst (mOp fLt (mG fLen (mPeek 3)) (M.ret (.int 9)))))
def b2__law_cycles : MS := (mSeq (mDrop (mM1 3 fApp (mVar 4)))
    (mSet 4 (mR (mIx (mPeek 0) (mVar 4)))))
def b3__law_cycles : MS := (mSeq (mPar 3 4 (mPair (mLst (mCons (mVar 2) mNil)) (mR (mIx (mPeek 0) (mVar 2)))))
    (mSeq (whL t1__law_cycles b2__law_cycles fuel)
    (mIfS (mTst (mRd2 fEq (mR (mG fMinL (mPeek 3))) (mPeek 2))) (mDrop (mM1 1 fApp (mG fTuple (mPeek 3)))) mNext)))
def m__law_cycles : MS := (mSeq (mSet 1 (mLst mNil))
    (mSeq (mFor (mIt itR1 (mG fLen (mPeek 0))) (gN 2) b3__law_cycles)
    (mRet (mR (mG fTuple (mPeek 1))))))
def F__law_cycles : DF := mkF 1 5 m__law_cycles
/-- order: slots 0 figure 1 found 2 cycle -/
def b1_order : MS := (mSet 1 (mR (mOp fLcm (mVar 1) (mG fLen (mPeek 2)))))
def m_order : MS := (mSeq (mDrop (mCall F_need_figure [] (xV (mVar 0) xNil)))
    (mSeq (mSet 1 (mR (M.ret (.int 1))))
    (mSeq (mFor (mIt items (mV (mCall F_cycles_of [] (xV (mVar 0) xNil)))) (gN 2) b1_order)
    (mRet (mTake 1)))))
def F_order : DF := mkF 1 3 m_order
/-- _law_order: slots 0 figure 1 found 2 row 3 place -/
def e1__law_order : M D := (mIx (mPeek 0) (mVar 3))
def t2__law_order : M Bool := (mAnd (mTst (mRd2 fNe (mPeek 2) (mListRg (mG fLen (mPeek 0))))) (mTst (mOp fLt (mVar 1) (M.ret (.int 40)))))
def b3__law_order : MS := (mPar 1 2 (mPair (mR (mOp fAdd (mVar 1) (M.ret (.int 1)))) (mLc (mIt items (mVar 2)) (gN 3) (M.ret true) e1__law_order [3])))
def m__law_order : MS := (mSeq (mPar 1 2 (mPair (mR (M.ret (.int 1))) (mN fList (mPeek 0))))
    (mSeq (whL t2__law_order b3__law_order fuel)
    (mRet (mTake 1))))
def F__law_order : DF := mkF 1 4 m__law_order
/-- exchanges: slots 0 figure 1 found 2 cycle 3 place -/
def b1_exchanges : MS := (mDrop (mM1 1 fApp (mTup (mCons (mIx (mPeek 2) (M.ret (.int 0))) (mCons (mVar 3) mNil)))))
def b2_exchanges : MS := (mFor (mIt items (mV (mSl (mPeek 2) (mPart (M.ret (.int 1))) (M.ret none)))) (gN 3) b1_exchanges)
def m_exchanges : MS := (mSeq (mDrop (mCall F_need_figure [] (xV (mVar 0) xNil)))
    (mSeq (mSet 1 (mLst mNil))
    (mSeq (mFor (mIt items (mV (mCall F_cycles_of [] (xV (mVar 0) xNil)))) (gN 2) b2_exchanges)
    (mRet (mR (mG fTuple (mPeek 1)))))))
def F_exchanges : DF := mkF 1 4 m_exchanges
/-- _law_made: slots 0 pairs 1 many 2 standing 3 found 4 place 5 one 6 other -/
def b1__law_made : MS := (mUnp (gT (gsCons (gSt 2 (mVar 5)) (gsCons (gSt 2 (mVar 6)) gsNil))) (mTup (mCons (mIx (mPeek 2) (mVar 6)) (mCons (mIx (mPeek 2) (mVar 5)) mNil))))
def b2__law_made : MS := (mSetIx 3 (mVar 4) (mIx (mPeek 2) (mVar 4)))
def m__law_made : MS := (mSeq (mSet 2 (mListRg (mVar 1)))
    (mSeq (mFor (mIt items (mVar 0)) (gT (gsCons (gN 5) (gsCons (gN 6) gsNil))) b1__law_made)
    (mSeq (mSet 3 (mOpN fRep (mLst (mCons (M.ret (.int 0)) mNil)) (mR (mVar 1))))
    (mSeq (mFor (mIt itR1 (mVar 1)) (gN 4) b2__law_made)
    (mRet (mTake 3))))))
def F__law_made : DF := mkF 2 7 m__law_made
/-- _law_right: slots 0 figure 1 told 2 pair -/
def b1__law_right : MS := (mIfS (mOr (mNot (mTst (mG (fIsi "tuple") (mPeek 2)))) (mOr (mTst (mRd2 fNe (mR (mG fLen (mPeek 2))) (mR (M.ret (.int 2))))) (mNot (mChain (M.ret (.int 0)) [(fLe, (mIx (mPeek 2) (M.ret (.int 0)))), (fLt, (mIx (mPeek 2) (M.ret (.int 1)))), (fLt, (mG fLen (mPeek 0)))])))) (mRet (mR (M.ret (.bl false)))) mNext)
def m__law_right : MS := (mSeq (mIfS (mOr (mTst (mRd2 fNe (mR (mG fRepr (mCall F_cycles [] (xV (mVar 0) xNil)))) (mR (mG fRepr (mCall F__law_cycles [] (xV (mVar 0) xNil)))))) (mTst (mRd2 fNe (mR (mG fRepr (mCall F_order [] (xV (mVar 0) xNil)))) (mR (mG fRepr (mCall F__law_order [] (xV (mVar 0) xNil))))))) (mRet (mR (M.ret (.bl false)))) mNext)
    (mSeq (mIfS (mOr (mTst (mRd2 fNe (mCall F_cycles [] (mKw 0 1 [0] [] mNil (mCons (mVar 0) mNil))) (mCall F_cycles [] (xV (mVar 0) xNil)))) (mOr (mTst (mRd2 fNe (mCall F_order [] (mKw 0 1 [0] [] mNil (mCons (mVar 0) mNil))) (mCall F_order [] (xV (mVar 0) xNil)))) (mTst (mRd2 fNe (mCall F_exchanges [] (mKw 0 1 [0] [] mNil (mCons (mVar 0) mNil))) (mCall F_exchanges [] (xV (mVar 0) xNil)))))) (mRet (mR (M.ret (.bl false)))) mNext)
    (mSeq (mSet 1 (mCall F_exchanges [] (xV (mVar 0) xNil)))
    (mSeq (mIfS (mOr (mNot (mTst (mG (fIsi "tuple") (mPeek 1)))) (mTst (mRd2 fNe (mR (mG fLen (mPeek 1))) (mR (mOp fSub (mG fLen (mPeek 0)) (mG fLen (mCall F__law_cycles [] (xV (mVar 0) xNil)))))))) (mRet (mR (M.ret (.bl false)))) mNext)
    (mSeq (mFor (mIt items (mVar 1)) (gN 2) b1__law_right)
    (mRet (mR (mAndV (mRd2 fEq (mCall F__law_made [] (xV (mVar 1) (xV (mG fLen (mPeek 0)) xNil))) (mN fList (mPeek 0))) (mRd2 fEq (mR (mG fRepr (mCall F_exchanges [] (xV (mV (mN fList (mPeek 0))) xNil)))) (mR (mG fRepr (mPeek 1))))))))))))
def F__law_right : DF := mkF 1 3 m__law_right
/-- law: slots 0 script 1 pen 2 couples 3 figure 4 row 5 great 6 at -/
def b1_law : MS := (mSetIx 5 (mIx (mPeek 4) (mOp fMod (mOp fAdd (mVar 6) (M.ret (.int 1))) (mOp fMul (M.ret (.int 2)) (mVar 2)))) (mIx (mPeek 4) (mVar 6)))
def b2_law : MS := (mSeq (mSet 3 (mCall F__law_figure [] (xSl 1 (xV (mVar 2) xNil))))
    (mSeq (mIfS (mOr (mNot (mTst (mV (mCall F__law_right [] (xV (mVar 3) xNil))))) (mNot (mTst (mV (mCall F__law_right [] (xV (mTupRg (mOp fMul (M.ret (.int 2)) (mVar 2))) xNil)))))) (mRet (mR (M.ret (.bl false)))) mNext)
    (mSeq (mSet 4 (mCall F__law_figure [] (xSl 1 (xV (mVar 2) xNil))))
    (mSeq (mSet 5 (mOpN fRep (mLst (mCons (M.ret (.int 0)) mNil)) (mR (mOp fMul (M.ret (.int 2)) (mVar 2)))))
    (mSeq (mFor (mIt itR1 (mOp fMul (M.ret (.int 2)) (mVar 2))) (gN 6) b1_law)
    (mIfS (mOr (mNot (mTst (mV (mCall F__law_right [] (xV (mG fTuple (mPeek 5)) xNil))))) (mOr (mTst (mRd2 fNe (mR (mG fLen (mCall F_cycles [] (xV (mVar 5) xNil)))) (mR (M.ret (.int 1))))) (mTst (mRd2 fNe (mCall F_order [] (xV (mVar 5) xNil)) (mR (mOp fMul (M.ret (.int 2)) (mVar 2))))))) (mRet (mR (M.ret (.bl false)))) mNext))))))
def m_law : MS := (mSeq (mSet 1 (mCall F__law_pen [] (xV (mVar 0) xNil)))
    (mSeq (mFor (mIt items (mTup (mCons (M.ret (.int 1)) (mCons (M.ret (.int 2)) (mCons (M.ret (.int 3)) (mCons (M.ret (.int 4)) mNil)))))) (gN 2) b2_law)
    (mRet (mR (M.ret (.bl true))))))
def F_law : DF := mkF 1 7 m_law
end Zk04
end

section
set_option Elab.async false
set_option linter.all false
set_option maxRecDepth 100000
set_option maxHeartbeats 4000000
namespace Zk04
open PySem L2 Z Za
def topS (i : Nat) : Stmt := PySem.Challenge.pw_everyline_k04_cycles_orders_exchanges.main.body.getD i (.Pass ⟨0, 0, 0, 0⟩)
structure Tx (mg : Str → Option Value) : Prop where
  z_abs : mg "abs" = none
  z_all : mg "all" = none
  z_bool : mg "bool" = none
  z_int : mg "int" = none
  z_isinstance : mg "isinstance" = none
  z_len : mg "len" = none
  z_list : mg "list" = none
  z_min : mg "min" = none
  z_range : mg "range" = none
  z_repr : mg "repr" = none
  z_sorted : mg "sorted" = none
  z_tuple : mg "tuple" = none
  i_lcm : mg "lcm" = some (.builtin "math.lcm")
section
variable {P : Program} {w : World} {K : PySem.W.Frag} {mg : Str → Option Value} {base : Heap}
abbrev s__law_pen : Stmt := topS 15
theorem sc__law_pen : FnScope ["script"] ["script"] (defScope s__law_pen) := ⟨rfl, rfl, rfl, by decide +kernel, rfl, by decide +kernel, by decide +kernel⟩
theorem ok__law_pen (T : Tx mg) {f : Addr} {od an : Option Addr} {sl : Array (Option Value)} {oc kV dc pm cd ct : Value}
    (l : K.lookup f = some ⟨oc, od, .func (PySem.W.fnOf "_law_pen" "_law_pen" (defArgs s__law_pen) (defBody s__law_pen) (defScope s__law_pen) .none kV dc pm an cd ct), sl⟩) (c : PySem.W.codeIn K cd "_law_pen" = true) :
    FnG P w K mg base (L2.CX P w) 1 f (PySem.W.fnOf "_law_pen" "_law_pen" (defArgs s__law_pen) (defBody s__law_pen) (defScope s__law_pen) .none kV dc pm an cd ct) ["script"] (spM K mg F__law_pen) :=
  fg_body (m := m__law_pen) l c sc__law_pen (fun A fr s H E hr => by
    have sc := sc__law_pen
    have po := passes_of (X := cxOf (L2.CX P w) P w K mg base ["script"] "_law_pen" (defScope s__law_pen) f cd A fr s H E) rfl
    exact (sss_one (ss_ret (sr_lst (sa_cons (sv_r (sr_list (sr_slice (sr_peek (pv 0)) sp_none (sp_some sv_int)) T.z_list)) (sa_cons sv_int (sa_cons sv_int sa_nil))))))) fun _ _ h => mkF_ok h
abbrev s__law_draw : Stmt := topS 16
theorem sc__law_draw : FnScope ["pen", "many", "taken", "cell", "mixed", "digit", "great"] ["pen", "many"] (defScope s__law_draw) := ⟨rfl, rfl, rfl, by decide +kernel, rfl, by decide +kernel, by decide +kernel⟩
theorem ok__law_draw (T : Tx mg) {f : Addr} {od an : Option Addr} {sl : Array (Option Value)} {oc kV dc pm cd ct : Value}
    (l : K.lookup f = some ⟨oc, od, .func (PySem.W.fnOf "_law_draw" "_law_draw" (defArgs s__law_draw) (defBody s__law_draw) (defScope s__law_draw) .none kV dc pm an cd ct), sl⟩) (c : PySem.W.codeIn K cd "_law_draw" = true) :
    FnG P w K mg base (L2.CX P w) 1 f (PySem.W.fnOf "_law_draw" "_law_draw" (defArgs s__law_draw) (defBody s__law_draw) (defScope s__law_draw) .none kV dc pm an cd ct) ["pen", "many"] (spM K mg F__law_draw) :=
  fg_body (m := m__law_draw) l c sc__law_draw (fun A fr s H E hr => by
    have sc := sc__law_draw
    have po := passes_of (X := cxOf (L2.CX P w) P w K mg base ["pen", "many", "taken", "cell", "mixed", "digit", "great"] "_law_draw" (defScope s__law_draw) f cd A fr s H E) rfl
    exact (sss_cons (ss_if (st_gt (sv_ix (sr_peek (pv 0)) sv_int) sv_int) (sss_cons (ss_set (j := 5) (sr_v (sv_mod (sv_toInt (sv_ix (sr_peek (pv 0)) sv_int) T.z_int) (sv_var (pv 1)))) sc.nd rfl (by first | exact Or.inl rfl | exact Or.inr rfl) (.inl rfl))
    (sss_cons (ss_setIx (sv_div (sv_toInt (sv_ix (sr_peek (pv 0)) sv_int) T.z_int) (sv_var (pv 1))) (pv 0) sv_int)
    (sss_one (ss_ret (sr_take (pv 5)))))) sss_nil)
    (sss_cons (ss_set (j := 2) (sr_v (sv_ix (sr_peek (pv 0)) sv_int)) sc.nd rfl (by first | exact Or.inl rfl | exact Or.inr rfl) (.inl rfl))
    (sss_cons (ss_setIx (sv_add (sv_var (pv 2)) sv_int) (pv 0) sv_int)
    (sss_cons (ss_set (j := 3) (sr_v (sv_add (sv_mul sv_int (sv_var (pv 2))) sv_int)) sc.nd rfl (by first | exact Or.inl rfl | exact Or.inr rfl) (.inl rfl))
    (sss_cons (ss_if (st_ne hr.hu (sr_v (sv_ix (sr_peek (pv 0)) sv_int)) (sr_lst sa_nil)) (sss_one (ss_set (j := 3) (sr_v (sv_ix (sr_v (sv_ix (sr_peek (pv 0)) sv_int)) (sv_mod (sv_toInt (sv_var (pv 2)) T.z_int) (sv_len (sr_v (sv_ix (sr_peek (pv 0)) sv_int)) T.z_len)))) sc.nd rfl (by first | exact Or.inl rfl | exact Or.inr rfl) (.inl rfl))) sss_nil)
    (sss_cons (ss_if (st_w (sw_and (st_lt (sv_var (pv 2)) (sv_len (sr_v (sv_ix (sr_peek (pv 0)) sv_int)) T.z_len)) (sw_and1 (st_ge (sv_abs (sv_var (pv 3)) T.z_abs) (sv_pow sv_int sv_int))))) (sss_cons (ss_set (j := 6) (sr_v (sv_add (sv_mul sv_int (sv_sub (sv_abs (sv_var (pv 3)) T.z_abs) (sv_pow sv_int sv_int))) (sv_toInt (sv_lt (sv_var (pv 3)) sv_int) T.z_int))) sc.nd rfl (by first | exact Or.inl rfl | exact Or.inr rfl) (.inl rfl))
    (sss_cons (ss_setIx (sv_div (sv_toInt (sv_var (pv 6)) T.z_int) (sv_var (pv 1))) (pv 0) sv_int)
    (sss_one (ss_ret (sr_v (sv_mod (sv_toInt (sv_var (pv 6)) T.z_int) (sv_var (pv 1)))))))) sss_nil)
    (sss_cons (ss_set (j := 4) (sr_v (sv_mod (sv_toInt (sv_pow (sv_add (sv_add (sv_mod (sv_toInt (sv_var (pv 3)) T.z_int) sv_int) (sv_mul sv_int (sv_var (pv 2)))) sv_int) sv_int) T.z_int) sv_int)) sc.nd rfl (by first | exact Or.inl rfl | exact Or.inr rfl) (.inl rfl))
    (sss_cons (ss_set (j := 4) (sr_v (sv_mod (sv_toInt (sv_pow (sv_add (sv_add (sv_mul (sv_var (pv 4)) (sv_add (sv_mul sv_int (sv_var (pv 2))) sv_int)) (sv_mul (sv_mul sv_int (sv_var (pv 2))) (sv_var (pv 2)))) sv_int) sv_int) T.z_int) sv_int)) sc.nd rfl (by first | exact Or.inl rfl | exact Or.inr rfl) (.inl rfl))
    (sss_one (ss_ret (sr_v (sv_mod (sv_toInt (sv_div (sv_var (pv 4)) sv_int) T.z_int) (sv_var (pv 1))))))))))))))) fun _ _ h => mkF_ok h
abbrev s__law_figure : Stmt := topS 18
theorem sc__law_figure : FnScope ["pen", "couples", "left", "found"] ["pen", "couples"] (defScope s__law_figure) := ⟨rfl, rfl, rfl, by decide +kernel, rfl, by decide +kernel, by decide +kernel⟩
theorem ok__law_figure {a__law_draw : Addr} {d__law_draw : FuncData} (C__law_draw : Cal P w K mg base "_law_draw" 1 a__law_draw d__law_draw ["pen", "many"] F__law_draw) (T : Tx mg) {f : Addr} {od an : Option Addr} {sl : Array (Option Value)} {oc kV dc pm cd ct : Value}
    (l : K.lookup f = some ⟨oc, od, .func (PySem.W.fnOf "_law_figure" "_law_figure" (defArgs s__law_figure) (defBody s__law_figure) (defScope s__law_figure) .none kV dc pm an cd ct), sl⟩) (c : PySem.W.codeIn K cd "_law_figure" = true) :
    FnG P w K mg base (L2.CX P w) 2 f (PySem.W.fnOf "_law_figure" "_law_figure" (defArgs s__law_figure) (defBody s__law_figure) (defScope s__law_figure) .none kV dc pm an cd ct) ["pen", "couples"] (spM K mg F__law_figure) :=
  fg_body (m := m__law_figure) l c sc__law_figure (fun A fr s H E hr => by
    have sc := sc__law_figure
    have po := passes_of (X := cxOf (L2.CX P w) P w K mg base ["pen", "couples", "left", "found"] "_law_figure" (defScope s__law_figure) f cd A fr s H E) rfl
    exact (sss_cons (ss_par (i := 2) (j := 3) (sp_pair (sr_listRg rfl (sv_mul sv_int (sv_var (pv 1))) T.z_list T.z_range) (sr_lst sa_nil)) rfl sc.nd rfl rfl (by decide) rfl rfl (by rfl))
    (sss_cons (ss_while po (st_lt (sv_len (sr_peek (pv 3)) T.z_len) (sv_mul sv_int (sv_var (pv 1)))) (sss_one (ss_expr (sv_append (pv 3) (sv_popAt (pv 2) (sv_r (sr_cal C__law_draw hr (sx_sl (pv 0) (sx_v (sv_len (sr_peek (pv 2)) T.z_len) sx_nil)))))))))
    (sss_one (ss_ret (sr_take (pv 3))))))) fun _ _ h => mkF_ok h
abbrev s_is_row : Stmt := topS 6
theorem sc_is_row : FnScope ["value"] ["value"] (defScope s_is_row) := ⟨rfl, rfl, rfl, by decide +kernel, rfl, by decide +kernel, by decide +kernel⟩
theorem ok_is_row (T : Tx mg) {f : Addr} {od an : Option Addr} {sl : Array (Option Value)} {oc kV dc pm cd ct : Value}
    (l : K.lookup f = some ⟨oc, od, .func (PySem.W.fnOf "is_row" "is_row" (defArgs s_is_row) (defBody s_is_row) (defScope s_is_row) .none kV dc pm an cd ct), sl⟩) (c : PySem.W.codeIn K cd "is_row" = true) :
    FnG P w K mg base (L2.CX P w) 1 f (PySem.W.fnOf "is_row" "is_row" (defArgs s_is_row) (defBody s_is_row) (defScope s_is_row) .none kV dc pm an cd ct) ["value"] (spM K mg F_is_row) :=
  fg_body (m := m_is_row) l c sc_is_row (fun A fr s H E hr => by
    have sc := sc_is_row
    have po := passes_of (X := cxOf (L2.CX P w) P w K mg base ["value"] "is_row" (defScope s_is_row) f cd A fr s H E) rfl
    exact (sss_one (ss_ret (sr_v (sv_isi2 (sr_peek (pv 0)) T.z_isinstance T.z_list (by decide +kernel) T.z_tuple (by decide +kernel)))))) fun _ _ h => mkF_ok h
abbrev s_is_integer : Stmt := topS 5
theorem sc_is_integer : FnScope ["value"] ["value"] (defScope s_is_integer) := ⟨rfl, rfl, rfl, by decide +kernel, rfl, by decide +kernel, by decide +kernel⟩
theorem ok_is_integer (T : Tx mg) {f : Addr} {od an : Option Addr} {sl : Array (Option Value)} {oc kV dc pm cd ct : Value}
    (l : K.lookup f = some ⟨oc, od, .func (PySem.W.fnOf "is_integer" "is_integer" (defArgs s_is_integer) (defBody s_is_integer) (defScope s_is_integer) .none kV dc pm an cd ct), sl⟩) (c : PySem.W.codeIn K cd "is_integer" = true) :
    FnG P w K mg base (L2.CX P w) 1 f (PySem.W.fnOf "is_integer" "is_integer" (defArgs s_is_integer) (defBody s_is_integer) (defScope s_is_integer) .none kV dc pm an cd ct) ["value"] (spM K mg F_is_integer) :=
  fg_body (m := m_is_integer) l c sc_is_integer (fun A fr s H E hr => by
    have sc := sc_is_integer
    have po := passes_of (X := cxOf (L2.CX P w) P w K mg base ["value"] "is_integer" (defScope s_is_integer) f cd A fr s H E) rfl
    exact (sss_one (ss_ret (sr_v (sv_andV (sv_isi (sr_peek (pv 0)) T.z_isinstance T.z_int (by decide +kernel)) (sv_one (sv_notV (sv_isi (sr_peek (pv 0)) T.z_isinstance T.z_bool (by decide +kernel))))))))) fun _ _ h => mkF_ok h
abbrev s_is_figure : Stmt := topS 8
theorem sc_is_figure : FnScope ["value", "couples", "place"] ["value", "couples"] (defScope s_is_figure) := ⟨rfl, rfl, rfl, by decide +kernel, rfl, by decide +kernel, by decide +kernel⟩
theorem ok_is_figure {a_is_row : Addr} {d_is_row : FuncData} (C_is_row : Cal P w K mg base "is_row" 1 a_is_row d_is_row ["value"] F_is_row) {a_is_integer : Addr} {d_is_integer : FuncData} (C_is_integer : Cal P w K mg base "is_integer" 1 a_is_integer d_is_integer ["value"] F_is_integer) (T : Tx mg) {f : Addr} {od an : Option Addr} {sl : Array (Option Value)} {oc dV kV dc pm cd ct : Value}
    (l : K.lookup f = some ⟨oc, od, .func (PySem.W.fnOf "is_figure" "is_figure" (defArgs s_is_figure) (defBody s_is_figure) (defScope s_is_figure) dV kV dc pm an cd ct), sl⟩) (c : PySem.W.codeIn K cd "is_figure" = true) :
    FnG P w K mg base (L2.CX P w) 2 f (PySem.W.fnOf "is_figure" "is_figure" (defArgs s_is_figure) (defBody s_is_figure) (defScope s_is_figure) dV kV dc pm an cd ct) ["value", "couples"] (spM K mg F_is_figure) :=
  fg_body (m := m_is_figure) l c sc_is_figure (fun A fr s H E hr => by
    have sc := sc_is_figure
    have po := passes_of (X := cxOf (L2.CX P w) P w K mg base ["value", "couples", "place"] "is_figure" (defScope s_is_figure) f cd A fr s H E) rfl
    exact (sss_cons (ss_if (st_w (sw_or (st_not (st_v (sv_r (sr_cal C_is_row hr (sx_v (sv_var (pv 0)) sx_nil))))) (sw_or1 (st_notIn (sr_v (sv_len (sr_peek (pv 0)) T.z_len)) (sr_v (sv_tup (sa_cons sv_int (sa_cons sv_int (sa_cons sv_int (sa_cons sv_int sa_nil)))))) (by with_unfolding_all rfl))))) (sss_one (ss_ret (sr_v sv_bl))) sss_nil)
    (sss_cons (ss_if (st_w (sw_and (st_notN (sr_peek (pv 1)) (sr_v sv_non)) (sw_and1 (st_ne hr.hu (sr_v (sv_mul sv_int (sv_var (pv 1)))) (sr_v (sv_len (sr_peek (pv 0)) T.z_len)))))) (sss_one (ss_ret (sr_v sv_bl))) sss_nil)
    (sss_cons (ss_if (st_not (st_v (sv_all rfl (sr_lc (own := [("place", 2)]) (js := [2]) rfl sc.nd (si_seq (sv_var (pv 0))) (blkOk_by (sc := defScope s_is_figure) (by (show blkC ["value", "couples", "place"] _ _ _ = true); decide +kernel)) (fun _ _ _ _ _ => (sg_name sc.nd rfl (by first | exact Or.inl rfl | exact Or.inr rfl) (by first | exact .inl rfl | exact .inr rfl))) (fun _ _ _ _ _ => sif_nil) (fun _ _ _ _ _ => (sv_r (sr_cal C_is_integer hr (sx_v (sv_var (pv 2)) sx_nil)))) (by decide)) T.z_all))) (sss_one (ss_ret (sr_v sv_bl))) sss_nil)
    (sss_one (ss_ret (sr_v (sv_eq hr.hu (sr_sorted (sr_peek (pv 0)) T.z_sorted) (sr_listRg rfl (sv_len (sr_peek (pv 0)) T.z_len) T.z_list T.z_range))))))))) fun _ _ h => mkF_ok h
abbrev s_need_figure : Stmt := topS 9
theorem sc_need_figure : FnScope ["value"] ["value"] (defScope s_need_figure) := ⟨rfl, rfl, rfl, by decide +kernel, rfl, by decide +kernel, by decide +kernel⟩
theorem ok_need_figure {a_is_figure_1 : Addr} {d_is_figure_1 : FuncData} (C_is_figure_1 : CalD P w K mg base "is_figure" 2 a_is_figure_1 d_is_figure_1 ["value", "couples"] F_is_figure [.non] [.non]) (T : Tx mg) {f : Addr} {od an : Option Addr} {sl : Array (Option Value)} {oc kV dc pm cd ct : Value}
    (l : K.lookup f = some ⟨oc, od, .func (PySem.W.fnOf "need_figure" "need_figure" (defArgs s_need_figure) (defBody s_need_figure) (defScope s_need_figure) .none kV dc pm an cd ct), sl⟩) (c : PySem.W.codeIn K cd "need_figure" = true) :
    FnG P w K mg base (L2.CX P w) 3 f (PySem.W.fnOf "need_figure" "need_figure" (defArgs s_need_figure) (defBody s_need_figure) (defScope s_need_figure) .none kV dc pm an cd ct) ["value"] (spM K mg F_need_figure) :=
  fg_body (m := m_need_figure) l c sc_need_figure (fun A fr s H E hr => by
    have sc := sc_need_figure
    have po := passes_of (X := cxOf (L2.CX P w) P w K mg base ["value"] "need_figure" (defScope s_need_figure) f cd A fr s H E) rfl
    exact (sss_one (ss_if (st_not (st_v (sv_r (sr_calD C_is_figure_1 hr (sx_v (sv_var (pv 0)) sx_nil))))) (sss_one ss_never) sss_nil))) fun _ _ h => mkF_ok h
abbrev s_cycles_of : Stmt := topS 10
theorem sc_cycles_of : FnScope ["row", "first", "found", "seen", "cycle", "place"] ["row"] (defScope s_cycles_of) := ⟨rfl, rfl, rfl, by decide +kernel, rfl, by decide +kernel, by decide +kernel⟩
theorem ok_cycles_of (T : Tx mg) {f : Addr} {od an : Option Addr} {sl : Array (Option Value)} {oc kV dc pm cd ct : Value}
    (l : K.lookup f = some ⟨oc, od, .func (PySem.W.fnOf "cycles_of" "cycles_of" (defArgs s_cycles_of) (defBody s_cycles_of) (defScope s_cycles_of) .none kV dc pm an cd ct), sl⟩) (c : PySem.W.codeIn K cd "cycles_of" = true) :
    FnG P w K mg base (L2.CX P w) 1 f (PySem.W.fnOf "cycles_of" "cycles_of" (defArgs s_cycles_of) (defBody s_cycles_of) (defScope s_cycles_of) .none kV dc pm an cd ct) ["row"] (spM K mg F_cycles_of) :=
  fg_body (m := m_cycles_of) l c sc_cycles_of (fun A fr s H E hr => by
    have sc := sc_cycles_of
    have po := passes_of (X := cxOf (L2.CX P w) P w K mg base ["row", "first", "found", "seen", "cycle", "place"] "cycles_of" (defScope s_cycles_of) f cd A fr s H E) rfl
    exact (sss_cons (ss_par (i := 2) (j := 3) (sp_pair (sr_lst sa_nil) (sr_rep (sr_lst (sa_cons sv_bl sa_nil)) (sv_len (sr_peek (pv 0)) T.z_len))) rfl sc.nd rfl rfl (by decide) rfl rfl (by rfl))
    (sss_cons (ss_for po rfl (si_range1 (sv_len (sr_peek (pv 0)) T.z_len) T.z_range) (sg_name sc.nd rfl (by first | exact Or.inl rfl | exact Or.inr rfl) (by first | exact .inl rfl | exact .inr rfl)) (sss_cons (ss_if (st_v (sv_ix (sr_peek (pv 3)) (sv_var (pv 1)))) (sss_one ss_continue) sss_nil)
    (sss_cons (ss_par (i := 4) (j := 5) (sp_pair (sr_lst sa_nil) (sr_v (sv_var (pv 1)))) rfl sc.nd rfl rfl (by decide) rfl rfl (by rfl))
    (sss_cons (ss_while po (st_not (st_v (sv_ix (sr_peek (pv 3)) (sv_var (pv 5))))) (sss_cons (ss_setIx sv_bl (pv 3) (sv_var (pv 5)))
    (sss_cons (ss_expr (sv_append (pv 4) (sv_var (pv 5))))
    (sss_one (ss_set (j := 5) (sr_v (sv_ix (sr_peek (pv 0)) (sv_var (pv 5)))) sc.nd rfl (by first | exact Or.inl rfl | exact Or.inr rfl) (.inl rfl))))))
    (sss_one (ss_expr (sv_append (pv 2) (sv_tuple (sr_peek (pv 4)) T.z_tuple))))))))
    (sss_one (ss_ret (sr_v (sv_tuple (sr_peek (pv 2)) T.z_tuple))))))) fun _ _ h => mkF_ok h
abbrev s_cycles : Stmt := topS 11
theorem sc_cycles : FnScope ["figure"] ["figure"] (defScope s_cycles) := ⟨rfl, rfl, rfl, by decide +kernel, rfl, by decide +kernel, by decide +kernel⟩
theorem ok_cycles {a_need_figure : Addr} {d_need_figure : FuncData} (C_need_figure : Cal P w K mg base "need_figure" 3 a_need_figure d_need_figure ["value"] F_need_figure) {a_cycles_of : Addr} {d_cycles_of : FuncData} (C_cycles_of : Cal P w K mg base "cycles_of" 1 a_cycles_of d_cycles_of ["row"] F_cycles_of) (T : Tx mg) {f : Addr} {od an : Option Addr} {sl : Array (Option Value)} {oc kV dc pm cd ct : Value}
    (l : K.lookup f = some ⟨oc, od, .func (PySem.W.fnOf "cycles" "cycles" (defArgs s_cycles) (defBody s_cycles) (defScope s_cycles) .none kV dc pm an cd ct), sl⟩) (c : PySem.W.codeIn K cd "cycles" = true) :
    FnG P w K mg base (L2.CX P w) 4 f (PySem.W.fnOf "cycles" "cycles" (defArgs s_cycles) (defBody s_cycles) (defScope s_cycles) .none kV dc pm an cd ct) ["figure"] (spM K mg F_cycles) :=
  fg_body (m := m_cycles) l c sc_cycles (fun A fr s H E hr => by
    have sc := sc_cycles
    have po := passes_of (X := cxOf (L2.CX P w) P w K mg base ["figure"] "cycles" (defScope s_cycles) f cd A fr s H E) rfl
    exact (sss_cons (ss_exprR (sr_cal C_need_figure hr (sx_v (sv_var (pv 0)) sx_nil)))
    (sss_one (ss_ret (sr_cal C_cycles_of hr (sx_v (sv_var (pv 0)) sx_nil)))))) fun _ _ h => mkF_ok h
abbrev s__law_cycles : Stmt := topS 19
theorem sc__law_cycles : FnScope ["figure", "found", "place", "row", "at"] ["figure"] (defScope s__law_cycles) := ⟨rfl, rfl, rfl, by decide +kernel, rfl, by decide +kernel, by decide +kernel⟩
theorem ok__law_cycles (T : Tx mg) {f : Addr} {od an : Option Addr} {sl : Array (Option Value)} {oc kV dc pm cd ct : Value}
    (l : K.lookup f = some ⟨oc, od, .func (PySem.W.fnOf "_law_cycles" "_law_cycles" (defArgs s__law_cycles) (defBody s__law_cycles) (defScope s__law_cycles) .none kV dc pm an cd ct), sl⟩) (c : PySem.W.codeIn K cd "_law_cycles" = true) :
    FnG P w K mg base (L2.CX P w) 1 f (PySem.W.fnOf "_law_cycles" "_law_cycles" (defArgs s__law_cycles) (defBody s__law_cycles) (defScope s__law_cycles) .none kV dc pm an cd ct) ["figure"] (spM K mg F__law_cycles) :=
  fg_body (m := m__law_cycles) l c sc__law_cycles (fun A fr s H E hr => by
    have sc := sc__law_cycles
    have po := passes_of (X := cxOf (L2.CX P w) P w K mg base ["figure", "found", "place", "row", "at"] "_law_cycles" (defScope s__law_cycles) f cd A fr s H E) rfl
    exact (sss_cons (ss_set (j := 1) (sr_lst sa_nil) sc.nd rfl (by first | exact Or.inl rfl | exact Or.inr rfl) (.inl rfl))
    (sss_cons (ss_for po rfl (si_range1 (sv_len (sr_peek (pv 0)) T.z_len) T.z_range) (sg_name sc.nd rfl (by first | exact Or.inl rfl | exact Or.inr rfl) (by first | exact .inl rfl | exact .inr rfl)) (sss_cons (ss_par (i := 3) (j := 4) (sp_pair (sr_lst (sa_cons (sv_var (pv 2)) sa_nil)) (sr_v (sv_ix (sr_peek (pv 0)) (sv_var (pv 2))))) rfl sc.nd rfl rfl (by decide) rfl rfl (by rfl))
    (sss_cons (ss_while po (st_w (sw_and (st_ne hr.hu (sr_peek (pv 4)) (sr_peek (pv 2))) (sw_and1 (st_lt (sv_len (sr_peek (pv 3)) T.z_len) sv_int)))) (sss_cons (ss_expr (sv_append (pv 3) (sv_var (pv 4))))
    (sss_one (ss_set (j := 4) (sr_v (sv_ix (sr_peek (pv 0)) (sv_var (pv 4)))) sc.nd rfl (by first | exact Or.inl rfl | exact Or.inr rfl) (.inl rfl)))))
    (sss_one (ss_if (st_eq hr.hu (sr_v (sv_minL rfl (sr_peek (pv 3)) T.z_min)) (sr_peek (pv 2))) (sss_one (ss_expr (sv_append (pv 1) (sv_tuple (sr_peek (pv 3)) T.z_tuple)))) sss_nil)))))
    (sss_one (ss_ret (sr_v (sv_tuple (sr_peek (pv 1)) T.z_tuple))))))) fun _ _ h => mkF_ok h
abbrev s_order : Stmt := topS 12
theorem sc_order : FnScope ["figure", "found", "cycle"] ["figure"] (defScope s_order) := ⟨rfl, rfl, rfl, by decide +kernel, rfl, by decide +kernel, by decide +kernel⟩
theorem ok_order {a_need_figure : Addr} {d_need_figure : FuncData} (C_need_figure : Cal P w K mg base "need_figure" 3 a_need_figure d_need_figure ["value"] F_need_figure) {a_cycles_of : Addr} {d_cycles_of : FuncData} (C_cycles_of : Cal P w K mg base "cycles_of" 1 a_cycles_of d_cycles_of ["row"] F_cycles_of) (T : Tx mg) {f : Addr} {od an : Option Addr} {sl : Array (Option Value)} {oc kV dc pm cd ct : Value}
    (l : K.lookup f = some ⟨oc, od, .func (PySem.W.fnOf "order" "order" (defArgs s_order) (defBody s_order) (defScope s_order) .none kV dc pm an cd ct), sl⟩) (c : PySem.W.codeIn K cd "order" = true) :
    FnG P w K mg base (L2.CX P w) 4 f (PySem.W.fnOf "order" "order" (defArgs s_order) (defBody s_order) (defScope s_order) .none kV dc pm an cd ct) ["figure"] (spM K mg F_order) :=
  fg_body (m := m_order) l c sc_order (fun A fr s H E hr => by
    have sc := sc_order
    have po := passes_of (X := cxOf (L2.CX P w) P w K mg base ["figure", "found", "cycle"] "order" (defScope s_order) f cd A fr s H E) rfl
    exact (sss_cons (ss_exprR (sr_cal C_need_figure hr (sx_v (sv_var (pv 0)) sx_nil)))
    (sss_cons (ss_set (j := 1) (sr_v sv_int) sc.nd rfl (by first | exact Or.inl rfl | exact Or.inr rfl) (.inl rfl))
    (sss_cons (ss_for po rfl (si_seq (sv_r (sr_cal C_cycles_of hr (sx_v (sv_var (pv 0)) sx_nil)))) (sg_name sc.nd rfl (by first | exact Or.inl rfl | exact Or.inr rfl) (by first | exact .inl rfl | exact .inr rfl)) (sss_one (ss_set (j := 1) (sr_v (sv_lcm (sv_var (pv 1)) (sv_len (sr_peek (pv 2)) T.z_len) T.i_lcm)) sc.nd rfl (by first | exact Or.inl rfl | exact Or.inr rfl) (.inl rfl))))
    (sss_one (ss_ret (sr_take (pv 1)))))))) fun _ _ h => mkF_ok h
abbrev s__law_order : Stmt := topS 20
theorem sc__law_order : FnScope ["figure", "found", "row", "place"] ["figure"] (defScope s__law_order) := ⟨rfl, rfl, rfl, by decide +kernel, rfl, by decide +kernel, by decide +kernel⟩
theorem ok__law_order (T : Tx mg) {f : Addr} {od an : Option Addr} {sl : Array (Option Value)} {oc kV dc pm cd ct : Value}
    (l : K.lookup f = some ⟨oc, od, .func (PySem.W.fnOf "_law_order" "_law_order" (defArgs s__law_order) (defBody s__law_order) (defScope s__law_order) .none kV dc pm an cd ct), sl⟩) (c : PySem.W.codeIn K cd "_law_order" = true) :
    FnG P w K mg base (L2.CX P w) 1 f (PySem.W.fnOf "_law_order" "_law_order" (defArgs s__law_order) (defBody s__law_order) (defScope s__law_order) .none kV dc pm an cd ct) ["figure"] (spM K mg F__law_order) :=
  fg_body (m := m__law_order) l c sc__law_order (fun A fr s H E hr => by
    have sc := sc__law_order
    have po := passes_of (X := cxOf (L2.CX P w) P w K mg base ["figure", "found", "row", "place"] "_law_order" (defScope s__law_order) f cd A fr s H E) rfl
    exact (sss_cons (ss_par (i := 1) (j := 2) (sp_pair (sr_v sv_int) (sr_list (sr_peek (pv 0)) T.z_list)) rfl sc.nd rfl rfl (by decide) rfl rfl (by rfl))
    (sss_cons (ss_while po (st_w (sw_and (st_ne hr.hu (sr_peek (pv 2)) (sr_listRg rfl (sv_len (sr_peek (pv 0)) T.z_len) T.z_list T.z_range)) (sw_and1 (st_lt (sv_var (pv 1)) sv_int)))) (sss_one (ss_par (i := 1) (j := 2) (sp_pair (sr_v (sv_add (sv_var (pv 1)) sv_int)) (sr_lc (own := [("place", 3)]) (js := [3]) rfl sc.nd (si_seq (sv_var (pv 2))) (blkOk_by (sc := defScope s__law_order) (by (show blkC ["figure", "found", "row", "place"] _ _ _ = true); decide +kernel)) (fun _ _ _ _ _ => (sg_name sc.nd rfl (by first | exact Or.inl rfl | exact Or.inr rfl) (by first | exact .inl rfl | exact .inr rfl))) (fun _ _ _ _ _ => sif_nil) (fun _ _ _ _ _ => (sv_ix (sr_peek (pv 0)) (sv_var (pv 3)))) (by decide))) rfl sc.nd rfl rfl (by decide) rfl rfl (by rfl))))
    (sss_one (ss_ret (sr_take (pv 1))))))) fun _ _ h => mkF_ok h
abbrev s_exchanges : Stmt := topS 13
theorem sc_exchanges : FnScope ["figure", "found", "cycle", "place"] ["figure"] (defScope s_exchanges) := ⟨rfl, rfl, rfl, by decide +kernel, rfl, by decide +kernel, by decide +kernel⟩
theorem ok_exchanges {a_need_figure : Addr} {d_need_figure : FuncData} (C_need_figure : Cal P w K mg base "need_figure" 3 a_need_figure d_need_figure ["value"] F_need_figure) {a_cycles_of : Addr} {d_cycles_of : FuncData} (C_cycles_of : Cal P w K mg base "cycles_of" 1 a_cycles_of d_cycles_of ["row"] F_cycles_of) (T : Tx mg) {f : Addr} {od an : Option Addr} {sl : Array (Option Value)} {oc kV dc pm cd ct : Value}
    (l : K.lookup f = some ⟨oc, od, .func (PySem.W.fnOf "exchanges" "exchanges" (defArgs s_exchanges) (defBody s_exchanges) (defScope s_exchanges) .none kV dc pm an cd ct), sl⟩) (c : PySem.W.codeIn K cd "exchanges" = true) :
    FnG P w K mg base (L2.CX P w) 4 f (PySem.W.fnOf "exchanges" "exchanges" (defArgs s_exchanges) (defBody s_exchanges) (defScope s_exchanges) .none kV dc pm an cd ct) ["figure"] (spM K mg F_exchanges) :=
  fg_body (m := m_exchanges) l c sc_exchanges (fun A fr s H E hr => by
    have sc := sc_exchanges
    have po := passes_of (X := cxOf (L2.CX P w) P w K mg base ["figure", "found", "cycle", "place"] "exchanges" (defScope s_exchanges) f cd A fr s H E) rfl
    exact (sss_cons (ss_exprR (sr_cal C_need_figure hr (sx_v (sv_var (pv 0)) sx_nil)))
    (sss_cons (ss_set (j := 1) (sr_lst sa_nil) sc.nd rfl (by first | exact Or.inl rfl | exact Or.inr rfl) (.inl rfl))
    (sss_cons (ss_for po rfl (si_seq (sv_r (sr_cal C_cycles_of hr (sx_v (sv_var (pv 0)) sx_nil)))) (sg_name sc.nd rfl (by first | exact Or.inl rfl | exact Or.inr rfl) (by first | exact .inl rfl | exact .inr rfl)) (sss_one (ss_for po rfl (si_seq (sv_r (sr_slice (sr_peek (pv 2)) (sp_some sv_int) sp_none))) (sg_name sc.nd rfl (by first | exact Or.inl rfl | exact Or.inr rfl) (by first | exact .inl rfl | exact .inr rfl)) (sss_one (ss_expr (sv_append (pv 1) (sv_tup (sa_cons (sv_ix (sr_peek (pv 2)) sv_int) (sa_cons (sv_var (pv 3)) sa_nil)))))))))
    (sss_one (ss_ret (sr_v (sv_tuple (sr_peek (pv 1)) T.z_tuple)))))))) fun _ _ h => mkF_ok h
abbrev s__law_made : Stmt := topS 21
theorem sc__law_made : FnScope ["pairs", "many", "standing", "found", "place", "one", "other"] ["pairs", "many"] (defScope s__law_made) := ⟨rfl, rfl, rfl, by decide +kernel, rfl, by decide +kernel, by decide +kernel⟩
theorem ok__law_made (T : Tx mg) {f : Addr} {od an : Option Addr} {sl : Array (Option Value)} {oc kV dc pm cd ct : Value}
    (l : K.lookup f = some ⟨oc, od, .func (PySem.W.fnOf "_law_made" "_law_made" (defArgs s__law_made) (defBody s__law_made) (defScope s__law_made) .none kV dc pm an cd ct), sl⟩) (c : PySem.W.codeIn K cd "_law_made" = true) :
    FnG P w K mg base (L2.CX P w) 1 f (PySem.W.fnOf "_law_made" "_law_made" (defArgs s__law_made) (defBody s__law_made) (defScope s__law_made) .none kV dc pm an cd ct) ["pairs", "many"] (spM K mg F__law_made) :=
  fg_body (m := m__law_made) l c sc__law_made (fun A fr s H E hr => by
    have sc := sc__law_made
    have po := passes_of (X := cxOf (L2.CX P w) P w K mg base ["pairs", "many", "standing", "found", "place", "one", "other"] "_law_made" (defScope s__law_made) f cd A fr s H E) rfl
    exact (sss_cons (ss_set (j := 2) (sr_listRg rfl (sv_var (pv 1)) T.z_list T.z_range) sc.nd rfl (by first | exact Or.inl rfl | exact Or.inr rfl) (.inl rfl))
    (sss_cons (ss_for po rfl (si_seq (sv_var (pv 0))) (sg_tup rfl (sgs_cons (sg_name sc.nd rfl (by first | exact Or.inl rfl | exact Or.inr rfl) (by first | exact .inl rfl | exact .inr rfl)) (sgs_cons (sg_name sc.nd rfl (by first | exact Or.inl rfl | exact Or.inr rfl) (by first | exact .inl rfl | exact .inr rfl)) sgs_nil)) (fun _ _ _ h => gs2_len h)) (sss_one (ss_unp (sv_tup (sa_cons (sv_ix (sr_peek (pv 2)) (sv_var (pv 6))) (sa_cons (sv_ix (sr_peek (pv 2)) (sv_var (pv 5))) sa_nil))) (sg_tup rfl (sgs_cons (sg_sub (pv 2) (sv_var (pv 5))) (sgs_cons (sg_sub (pv 2) (sv_var (pv 6))) sgs_nil)) (fun _ _ _ h => gs2_len h)))))
    (sss_cons (ss_set (j := 3) (sr_rep (sr_lst (sa_cons sv_int sa_nil)) (sv_var (pv 1))) sc.nd rfl (by first | exact Or.inl rfl | exact Or.inr rfl) (.inl rfl))
    (sss_cons (ss_for po rfl (si_range1 (sv_var (pv 1)) T.z_range) (sg_name sc.nd rfl (by first | exact Or.inl rfl | exact Or.inr rfl) (by first | exact .inl rfl | exact .inr rfl)) (sss_one (ss_setIx (sv_var (pv 4)) (pv 3) (sv_ix (sr_peek (pv 2)) (sv_var (pv 4))))))
    (sss_one (ss_ret (sr_take (pv 3))))))))) fun _ _ h => mkF_ok h
abbrev s__law_right : Stmt := topS 22
theorem sc__law_right : FnScope ["figure", "told", "pair"] ["figure"] (defScope s__law_right) := ⟨rfl, rfl, rfl, by decide +kernel, rfl, by decide +kernel, by decide +kernel⟩
theorem ok__law_right {a_cycles : Addr} {d_cycles : FuncData} (C_cycles : Cal P w K mg base "cycles" 4 a_cycles d_cycles ["figure"] F_cycles) {a__law_cycles : Addr} {d__law_cycles : FuncData} (C__law_cycles : Cal P w K mg base "_law_cycles" 1 a__law_cycles d__law_cycles ["figure"] F__law_cycles) {a_order : Addr} {d_order : FuncData} (C_order : Cal P w K mg base "order" 4 a_order d_order ["figure"] F_order) {a__law_order : Addr} {d__law_order : FuncData} (C__law_order : Cal P w K mg base "_law_order" 1 a__law_order d__law_order ["figure"] F__law_order) {a_cycles_0_figure : Addr} {d_cycles_0_figure : FuncData} (C_cycles_0_figure : CalK P w K mg base "cycles" 4 a_cycles_0_figure d_cycles_0_figure ["figure"] F_cycles 0 ["figure"] [0] [] []) {a_order_0_figure : Addr} {d_order_0_figure : FuncData} (C_order_0_figure : CalK P w K mg base "order" 4 a_order_0_figure d_order_0_figure ["figure"] F_order 0 ["figure"] [0] [] []) {a_exchanges_0_figure : Addr} {d_exchanges_0_figure : FuncData} (C_exchanges_0_figure : CalK P w K mg base "exchanges" 4 a_exchanges_0_figure d_exchanges_0_figure ["figure"] F_exchanges 0 ["figure"] [0] [] []) {a_exchanges : Addr} {d_exchanges : FuncData} (C_exchanges : Cal P w K mg base "exchanges" 4 a_exchanges d_exchanges ["figure"] F_exchanges) {a__law_made : Addr} {d__law_made : FuncData} (C__law_made : Cal P w K mg base "_law_made" 1 a__law_made d__law_made ["pairs", "many"] F__law_made) (T : Tx mg) {f : Addr} {od an : Option Addr} {sl : Array (Option Value)} {oc kV dc pm cd ct : Value}
    (l : K.lookup f = some ⟨oc, od, .func (PySem.W.fnOf "_law_right" "_law_right" (defArgs s__law_right) (defBody s__law_right) (defScope s__law_right) .none kV dc pm an cd ct), sl⟩) (c : PySem.W.codeIn K cd "_law_right" = true) :
    FnG P w K mg base (L2.CX P w) 5 f (PySem.W.fnOf "_law_right" "_law_right" (defArgs s__law_right) (defBody s__law_right) (defScope s__law_right) .none kV dc pm an cd ct) ["figure"] (spM K mg F__law_right) :=
  fg_body (m := m__law_right) l c sc__law_right (fun A fr s H E hr => by
    have sc := sc__law_right
    have po := passes_of (X := cxOf (L2.CX P w) P w K mg base ["figure", "told", "pair"] "_law_right" (defScope s__law_right) f cd A fr s H E) rfl
    exact (sss_cons (ss_if (st_w (sw_or (st_ne hr.hu (sr_v (sv_repr hr (sr_cal C_cycles hr (sx_v (sv_var (pv 0)) sx_nil)) T.z_repr)) (sr_v (sv_repr hr (sr_cal C__law_cycles hr (sx_v (sv_var (pv 0)) sx_nil)) T.z_repr))) (sw_or1 (st_ne hr.hu (sr_v (sv_repr hr (sr_cal C_order hr (sx_v (sv_var (pv 0)) sx_nil)) T.z_repr)) (sr_v (sv_repr hr (sr_cal C__law_order hr (sx_v (sv_var (pv 0)) sx_nil)) T.z_repr)))))) (sss_one (ss_ret (sr_v sv_bl))) sss_nil)
    (sss_cons (ss_if (st_w (sw_or (st_ne hr.hu (sr_kw0 C_cycles_0_figure hr (sk_cons (sv_var (pv 0)) sk_nil)) (sr_cal C_cycles hr (sx_v (sv_var (pv 0)) sx_nil))) (sw_or (st_ne hr.hu (sr_kw0 C_order_0_figure hr (sk_cons (sv_var (pv 0)) sk_nil)) (sr_cal C_order hr (sx_v (sv_var (pv 0)) sx_nil))) (sw_or1 (st_ne hr.hu (sr_kw0 C_exchanges_0_figure hr (sk_cons (sv_var (pv 0)) sk_nil)) (sr_cal C_exchanges hr (sx_v (sv_var (pv 0)) sx_nil))))))) (sss_one (ss_ret (sr_v sv_bl))) sss_nil)
    (sss_cons (ss_set (j := 1) (sr_cal C_exchanges hr (sx_v (sv_var (pv 0)) sx_nil)) sc.nd rfl (by first | exact Or.inl rfl | exact Or.inr rfl) (.inl rfl))
    (sss_cons (ss_if (st_w (sw_or (st_not (st_v (sv_isi (sr_peek (pv 1)) T.z_isinstance T.z_tuple (by decide +kernel)))) (sw_or1 (st_ne hr.hu (sr_v (sv_len (sr_peek (pv 1)) T.z_len)) (sr_v (sv_sub (sv_len (sr_peek (pv 0)) T.z_len) (sv_len (sr_cal C__law_cycles hr (sx_v (sv_var (pv 0)) sx_nil)) T.z_len))))))) (sss_one (ss_ret (sr_v sv_bl))) sss_nil)
    (sss_cons (ss_for po rfl (si_seq (sv_var (pv 1))) (sg_name sc.nd rfl (by first | exact Or.inl rfl | exact Or.inr rfl) (by first | exact .inl rfl | exact .inr rfl)) (sss_one (ss_if (st_w (sw_or (st_not (st_v (sv_isi (sr_peek (pv 2)) T.z_isinstance T.z_tuple (by decide +kernel)))) (sw_or (st_ne hr.hu (sr_v (sv_len (sr_peek (pv 2)) T.z_len)) (sr_v sv_int)) (sw_or1 (st_not (st_chain sv_int (sch_cons op_le (says_I0 fun _ _ _ => .bl _) (sv_ix (sr_peek (pv 2)) sv_int) (sch_cons op_lt (says_I0 fun _ _ _ => .bl _) (sv_ix (sr_peek (pv 2)) sv_int) (sch_last op_lt (says_I0 fun _ _ _ => .bl _) (sv_len (sr_peek (pv 0)) T.z_len)))))))))) (sss_one (ss_ret (sr_v sv_bl))) sss_nil)))
    (sss_one (ss_ret (sr_v (sv_andV (sv_eq hr.hu (sr_cal C__law_made hr (sx_v (sv_var (pv 1)) (sx_v (sv_len (sr_peek (pv 0)) T.z_len) sx_nil))) (sr_list (sr_peek (pv 0)) T.z_list)) (sv_one (sv_eq hr.hu (sr_v (sv_repr hr (sr_cal C_exchanges hr (sx_v (sv_r (sr_list (sr_peek (pv 0)) T.z_list)) sx_nil)) T.z_repr)) (sr_v (sv_repr hr (sr_peek (pv 1)) T.z_repr)))))))))))))) fun _ _ h => mkF_ok h
abbrev s_law : Stmt := topS 23
theorem sc_law : FnScope ["script", "pen", "couples", "figure", "row", "great", "at"] ["script"] (defScope s_law) := ⟨rfl, rfl, rfl, by decide +kernel, rfl, by decide +kernel, by decide +kernel⟩
theorem ok_law {a__law_pen : Addr} {d__law_pen : FuncData} (C__law_pen : Cal P w K mg base "_law_pen" 1 a__law_pen d__law_pen ["script"] F__law_pen) {a__law_figure : Addr} {d__law_figure : FuncData} (C__law_figure : Cal P w K mg base "_law_figure" 2 a__law_figure d__law_figure ["pen", "couples"] F__law_figure) {a__law_right : Addr} {d__law_right : FuncData} (C__law_right : Cal P w K mg base "_law_right" 5 a__law_right d__law_right ["figure"] F__law_right) {a_cycles : Addr} {d_cycles : FuncData} (C_cycles : Cal P w K mg base "cycles" 4 a_cycles d_cycles ["figure"] F_cycles) {a_order : Addr} {d_order : FuncData} (C_order : Cal P w K mg base "order" 4 a_order d_order ["figure"] F_order) (T : Tx mg) {f : Addr} {od an : Option Addr} {sl : Array (Option Value)} {oc kV dc pm cd ct : Value}
    (l : K.lookup f = some ⟨oc, od, .func (PySem.W.fnOf "law" "law" (defArgs s_law) (defBody s_law) (defScope s_law) .none kV dc pm an cd ct), sl⟩) (c : PySem.W.codeIn K cd "law" = true) :
    FnG P w K mg base (L2.CX P w) 6 f (PySem.W.fnOf "law" "law" (defArgs s_law) (defBody s_law) (defScope s_law) .none kV dc pm an cd ct) ["script"] (spM K mg F_law) :=
  fg_body (m := m_law) l c sc_law (fun A fr s H E hr => by
    have sc := sc_law
    have po := passes_of (X := cxOf (L2.CX P w) P w K mg base ["script", "pen", "couples", "figure", "row", "great", "at"] "law" (defScope s_law) f cd A fr s H E) rfl
    exact (sss_cons (ss_set (j := 1) (sr_cal C__law_pen hr (sx_v (sv_var (pv 0)) sx_nil)) sc.nd rfl (by first | exact Or.inl rfl | exact Or.inr rfl) (.inl rfl))
    (sss_cons (ss_for po rfl (si_seq (sv_tup (sa_cons sv_int (sa_cons sv_int (sa_cons sv_int (sa_cons sv_int sa_nil)))))) (sg_name sc.nd rfl (by first | exact Or.inl rfl | exact Or.inr rfl) (by first | exact .inl rfl | exact .inr rfl)) (sss_cons (ss_set (j := 3) (sr_cal C__law_figure hr (sx_sl (pv 1) (sx_v (sv_var (pv 2)) sx_nil))) sc.nd rfl (by first | exact Or.inl rfl | exact Or.inr rfl) (.inl rfl))
    (sss_cons (ss_if (st_w (sw_or (st_not (st_v (sv_r (sr_cal C__law_right hr (sx_v (sv_var (pv 3)) sx_nil))))) (sw_or1 (st_not (st_v (sv_r (sr_cal C__law_right hr (sx_v (sv_tupRg rfl (sv_mul sv_int (sv_var (pv 2))) T.z_tuple T.z_range) sx_nil)))))))) (sss_one (ss_ret (sr_v sv_bl))) sss_nil)
    (sss_cons (ss_set (j := 4) (sr_cal C__law_figure hr (sx_sl (pv 1) (sx_v (sv_var (pv 2)) sx_nil))) sc.nd rfl (by first | exact Or.inl rfl | exact Or.inr rfl) (.inl rfl))
    (sss_cons (ss_set (j := 5) (sr_rep (sr_lst (sa_cons sv_int sa_nil)) (sv_mul sv_int (sv_var (pv 2)))) sc.nd rfl (by first | exact Or.inl rfl | exact Or.inr rfl) (.inl rfl))
    (sss_cons (ss_for po rfl (si_range1 (sv_mul sv_int (sv_var (pv 2))) T.z_range) (sg_name sc.nd rfl (by first | exact Or.inl rfl | exact Or.inr rfl) (by first | exact .inl rfl | exact .inr rfl)) (sss_one (ss_setIx (sv_ix (sr_peek (pv 4)) (sv_mod (sv_add (sv_var (pv 6)) sv_int) (sv_mul sv_int (sv_var (pv 2))))) (pv 5) (sv_ix (sr_peek (pv 4)) (sv_var (pv 6))))))
    (sss_one (ss_if (st_w (sw_or (st_not (st_v (sv_r (sr_cal C__law_right hr (sx_v (sv_tuple (sr_peek (pv 5)) T.z_tuple) sx_nil))))) (sw_or (st_ne hr.hu (sr_v (sv_len (sr_cal C_cycles hr (sx_v (sv_var (pv 5)) sx_nil)) T.z_len)) (sr_v sv_int)) (sw_or1 (st_ne hr.hu (sr_cal C_order hr (sx_v (sv_var (pv 5)) sx_nil)) (sr_v (sv_mul sv_int (sv_var (pv 2))))))))) (sss_one (ss_ret (sr_v sv_bl))) sss_nil))))))))
    (sss_one (ss_ret (sr_v sv_bl)))))) fun _ _ h => mkF_ok h
end
theorem all_mk {l : PySem.W.OpenLaw} {w : World} {K : PySem.W.Frag} {h : Heap} {mg : Str → Option Value} {fa : Addr} (X : K.In h) (G : h.Ns mainGlobals mg) (hfa : mg "law" = some (.ref fa))
    {f__law_pen : Addr} {od__law_pen an__law_pen : Option Addr} {sl__law_pen : Array (Option Value)} {oc__law_pen kV__law_pen dc__law_pen pm__law_pen cd__law_pen ct__law_pen : Value}
    {f__law_draw : Addr} {od__law_draw an__law_draw : Option Addr} {sl__law_draw : Array (Option Value)} {oc__law_draw kV__law_draw dc__law_draw pm__law_draw cd__law_draw ct__law_draw : Value}
    {f__law_figure : Addr} {od__law_figure an__law_figure : Option Addr} {sl__law_figure : Array (Option Value)} {oc__law_figure kV__law_figure dc__law_figure pm__law_figure cd__law_figure ct__law_figure : Value}
    {f_is_row : Addr} {od_is_row an_is_row : Option Addr} {sl_is_row : Array (Option Value)} {oc_is_row kV_is_row dc_is_row pm_is_row cd_is_row ct_is_row : Value}
    {f_is_integer : Addr} {od_is_integer an_is_integer : Option Addr} {sl_is_integer : Array (Option Value)} {oc_is_integer kV_is_integer dc_is_integer pm_is_integer cd_is_integer ct_is_integer : Value}
    {f_is_figure : Addr} {od_is_figure an_is_figure : Option Addr} {sl_is_figure : Array (Option Value)} {oc_is_figure kV_is_figure dc_is_figure pm_is_figure cd_is_figure ct_is_figure : Value}
    {T_is_figure : Addr} {ou_is_figure : Value} {ov_is_figure : Option Addr} {ow_is_figure : Array (Option Value)} {on_is_figure : Nat} 
    {f_need_figure : Addr} {od_need_figure an_need_figure : Option Addr} {sl_need_figure : Array (Option Value)} {oc_need_figure kV_need_figure dc_need_figure pm_need_figure cd_need_figure ct_need_figure : Value}
    {f_cycles_of : Addr} {od_cycles_of an_cycles_of : Option Addr} {sl_cycles_of : Array (Option Value)} {oc_cycles_of kV_cycles_of dc_cycles_of pm_cycles_of cd_cycles_of ct_cycles_of : Value}
    {f_cycles : Addr} {od_cycles an_cycles : Option Addr} {sl_cycles : Array (Option Value)} {oc_cycles kV_cycles dc_cycles pm_cycles cd_cycles ct_cycles : Value}
    {f__law_cycles : Addr} {od__law_cycles an__law_cycles : Option Addr} {sl__law_cycles : Array (Option Value)} {oc__law_cycles kV__law_cycles dc__law_cycles pm__law_cycles cd__law_cycles ct__law_cycles : Value}
    {f_order : Addr} {od_order an_order : Option Addr} {sl_order : Array (Option Value)} {oc_order kV_order dc_order pm_order cd_order ct_order : Value}
    {f__law_order : Addr} {od__law_order an__law_order : Option Addr} {sl__law_order : Array (Option Value)} {oc__law_order kV__law_order dc__law_order pm__law_order cd__law_order ct__law_order : Value}
    {f_exchanges : Addr} {od_exchanges an_exchanges : Option Addr} {sl_exchanges : Array (Option Value)} {oc_exchanges kV_exchanges dc_exchanges pm_exchanges cd_exchanges ct_exchanges : Value}
    {f__law_made : Addr} {od__law_made an__law_made : Option Addr} {sl__law_made : Array (Option Value)} {oc__law_made kV__law_made dc__law_made pm__law_made cd__law_made ct__law_made : Value}
    {f__law_right : Addr} {od__law_right an__law_right : Option Addr} {sl__law_right : Array (Option Value)} {oc__law_right kV__law_right dc__law_right pm__law_right cd__law_right ct__law_right : Value}
    {f_law : Addr} {od_law an_law : Option Addr} {sl_law : Array (Option Value)} {oc_law kV_law dc_law pm_law cd_law ct_law : Value}
    (a__law_pen : PySem.W.nsIn K mainGlobals "_law_pen" = some (some (.ref f__law_pen)))
    (l__law_pen : K.lookup f__law_pen = some ⟨oc__law_pen, od__law_pen, .func (PySem.W.fnOf "_law_pen" "_law_pen" (defArgs s__law_pen) (defBody s__law_pen) (defScope s__law_pen) .none kV__law_pen dc__law_pen pm__law_pen an__law_pen cd__law_pen ct__law_pen), sl__law_pen⟩)
    (c__law_pen : PySem.W.codeIn K cd__law_pen "_law_pen" = true)
    (k__law_pen : PySem.W.keepIn K (.ref f__law_pen) = true)
    (a__law_draw : PySem.W.nsIn K mainGlobals "_law_draw" = some (some (.ref f__law_draw)))
    (l__law_draw : K.lookup f__law_draw = some ⟨oc__law_draw, od__law_draw, .func (PySem.W.fnOf "_law_draw" "_law_draw" (defArgs s__law_draw) (defBody s__law_draw) (defScope s__law_draw) .none kV__law_draw dc__law_draw pm__law_draw an__law_draw cd__law_draw ct__law_draw), sl__law_draw⟩)
    (c__law_draw : PySem.W.codeIn K cd__law_draw "_law_draw" = true)
    (k__law_draw : PySem.W.keepIn K (.ref f__law_draw) = true)
    (a__law_figure : PySem.W.nsIn K mainGlobals "_law_figure" = some (some (.ref f__law_figure)))
    (l__law_figure : K.lookup f__law_figure = some ⟨oc__law_figure, od__law_figure, .func (PySem.W.fnOf "_law_figure" "_law_figure" (defArgs s__law_figure) (defBody s__law_figure) (defScope s__law_figure) .none kV__law_figure dc__law_figure pm__law_figure an__law_figure cd__law_figure ct__law_figure), sl__law_figure⟩)
    (c__law_figure : PySem.W.codeIn K cd__law_figure "_law_figure" = true)
    (k__law_figure : PySem.W.keepIn K (.ref f__law_figure) = true)
    (a_is_row : PySem.W.nsIn K mainGlobals "is_row" = some (some (.ref f_is_row)))
    (l_is_row : K.lookup f_is_row = some ⟨oc_is_row, od_is_row, .func (PySem.W.fnOf "is_row" "is_row" (defArgs s_is_row) (defBody s_is_row) (defScope s_is_row) .none kV_is_row dc_is_row pm_is_row an_is_row cd_is_row ct_is_row), sl_is_row⟩)
    (c_is_row : PySem.W.codeIn K cd_is_row "is_row" = true)
    (k_is_row : PySem.W.keepIn K (.ref f_is_row) = true)
    (a_is_integer : PySem.W.nsIn K mainGlobals "is_integer" = some (some (.ref f_is_integer)))
    (l_is_integer : K.lookup f_is_integer = some ⟨oc_is_integer, od_is_integer, .func (PySem.W.fnOf "is_integer" "is_integer" (defArgs s_is_integer) (defBody s_is_integer) (defScope s_is_integer) .none kV_is_integer dc_is_integer pm_is_integer an_is_integer cd_is_integer ct_is_integer), sl_is_integer⟩)
    (c_is_integer : PySem.W.codeIn K cd_is_integer "is_integer" = true)
    (k_is_integer : PySem.W.keepIn K (.ref f_is_integer) = true)
    (a_is_figure : PySem.W.nsIn K mainGlobals "is_figure" = some (some (.ref f_is_figure)))
    (l_is_figure : K.lookup f_is_figure = some ⟨oc_is_figure, od_is_figure, .func (PySem.W.fnOf "is_figure" "is_figure" (defArgs s_is_figure) (defBody s_is_figure) (defScope s_is_figure) (.ref T_is_figure) kV_is_figure dc_is_figure pm_is_figure an_is_figure cd_is_figure ct_is_figure), sl_is_figure⟩)
    (c_is_figure : PySem.W.codeIn K cd_is_figure "is_figure" = true)
    (k_is_figure : PySem.W.keepIn K (.ref f_is_figure) = true)
    (e_is_figure : K.lookup T_is_figure = some ⟨ou_is_figure, ov_is_figure, .seq #[.none] on_is_figure, ow_is_figure⟩)
    (a_need_figure : PySem.W.nsIn K mainGlobals "need_figure" = some (some (.ref f_need_figure)))
    (l_need_figure : K.lookup f_need_figure = some ⟨oc_need_figure, od_need_figure, .func (PySem.W.fnOf "need_figure" "need_figure" (defArgs s_need_figure) (defBody s_need_figure) (defScope s_need_figure) .none kV_need_figure dc_need_figure pm_need_figure an_need_figure cd_need_figure ct_need_figure), sl_need_figure⟩)
    (c_need_figure : PySem.W.codeIn K cd_need_figure "need_figure" = true)
    (k_need_figure : PySem.W.keepIn K (.ref f_need_figure) = true)
    (a_cycles_of : PySem.W.nsIn K mainGlobals "cycles_of" = some (some (.ref f_cycles_of)))
    (l_cycles_of : K.lookup f_cycles_of = some ⟨oc_cycles_of, od_cycles_of, .func (PySem.W.fnOf "cycles_of" "cycles_of" (defArgs s_cycles_of) (defBody s_cycles_of) (defScope s_cycles_of) .none kV_cycles_of dc_cycles_of pm_cycles_of an_cycles_of cd_cycles_of ct_cycles_of), sl_cycles_of⟩)
    (c_cycles_of : PySem.W.codeIn K cd_cycles_of "cycles_of" = true)
    (k_cycles_of : PySem.W.keepIn K (.ref f_cycles_of) = true)
    (a_cycles : PySem.W.nsIn K mainGlobals "cycles" = some (some (.ref f_cycles)))
    (l_cycles : K.lookup f_cycles = some ⟨oc_cycles, od_cycles, .func (PySem.W.fnOf "cycles" "cycles" (defArgs s_cycles) (defBody s_cycles) (defScope s_cycles) .none kV_cycles dc_cycles pm_cycles an_cycles cd_cycles ct_cycles), sl_cycles⟩)
    (c_cycles : PySem.W.codeIn K cd_cycles "cycles" = true)
    (k_cycles : PySem.W.keepIn K (.ref f_cycles) = true)
    (a__law_cycles : PySem.W.nsIn K mainGlobals "_law_cycles" = some (some (.ref f__law_cycles)))
    (l__law_cycles : K.lookup f__law_cycles = some ⟨oc__law_cycles, od__law_cycles, .func (PySem.W.fnOf "_law_cycles" "_law_cycles" (defArgs s__law_cycles) (defBody s__law_cycles) (defScope s__law_cycles) .none kV__law_cycles dc__law_cycles pm__law_cycles an__law_cycles cd__law_cycles ct__law_cycles), sl__law_cycles⟩)
    (c__law_cycles : PySem.W.codeIn K cd__law_cycles "_law_cycles" = true)
    (k__law_cycles : PySem.W.keepIn K (.ref f__law_cycles) = true)
    (a_order : PySem.W.nsIn K mainGlobals "order" = some (some (.ref f_order)))
    (l_order : K.lookup f_order = some ⟨oc_order, od_order, .func (PySem.W.fnOf "order" "order" (defArgs s_order) (defBody s_order) (defScope s_order) .none kV_order dc_order pm_order an_order cd_order ct_order), sl_order⟩)
    (c_order : PySem.W.codeIn K cd_order "order" = true)
    (k_order : PySem.W.keepIn K (.ref f_order) = true)
    (a__law_order : PySem.W.nsIn K mainGlobals "_law_order" = some (some (.ref f__law_order)))
    (l__law_order : K.lookup f__law_order = some ⟨oc__law_order, od__law_order, .func (PySem.W.fnOf "_law_order" "_law_order" (defArgs s__law_order) (defBody s__law_order) (defScope s__law_order) .none kV__law_order dc__law_order pm__law_order an__law_order cd__law_order ct__law_order), sl__law_order⟩)
    (c__law_order : PySem.W.codeIn K cd__law_order "_law_order" = true)
    (k__law_order : PySem.W.keepIn K (.ref f__law_order) = true)
    (a_exchanges : PySem.W.nsIn K mainGlobals "exchanges" = some (some (.ref f_exchanges)))
    (l_exchanges : K.lookup f_exchanges = some ⟨oc_exchanges, od_exchanges, .func (PySem.W.fnOf "exchanges" "exchanges" (defArgs s_exchanges) (defBody s_exchanges) (defScope s_exchanges) .none kV_exchanges dc_exchanges pm_exchanges an_exchanges cd_exchanges ct_exchanges), sl_exchanges⟩)
    (c_exchanges : PySem.W.codeIn K cd_exchanges "exchanges" = true)
    (k_exchanges : PySem.W.keepIn K (.ref f_exchanges) = true)
    (a__law_made : PySem.W.nsIn K mainGlobals "_law_made" = some (some (.ref f__law_made)))
    (l__law_made : K.lookup f__law_made = some ⟨oc__law_made, od__law_made, .func (PySem.W.fnOf "_law_made" "_law_made" (defArgs s__law_made) (defBody s__law_made) (defScope s__law_made) .none kV__law_made dc__law_made pm__law_made an__law_made cd__law_made ct__law_made), sl__law_made⟩)
    (c__law_made : PySem.W.codeIn K cd__law_made "_law_made" = true)
    (k__law_made : PySem.W.keepIn K (.ref f__law_made) = true)
    (a__law_right : PySem.W.nsIn K mainGlobals "_law_right" = some (some (.ref f__law_right)))
    (l__law_right : K.lookup f__law_right = some ⟨oc__law_right, od__law_right, .func (PySem.W.fnOf "_law_right" "_law_right" (defArgs s__law_right) (defBody s__law_right) (defScope s__law_right) .none kV__law_right dc__law_right pm__law_right an__law_right cd__law_right ct__law_right), sl__law_right⟩)
    (c__law_right : PySem.W.codeIn K cd__law_right "_law_right" = true)
    (k__law_right : PySem.W.keepIn K (.ref f__law_right) = true)
    (a_law : PySem.W.nsIn K mainGlobals "law" = some (some (.ref f_law)))
    (l_law : K.lookup f_law = some ⟨oc_law, od_law, .func (PySem.W.fnOf "law" "law" (defArgs s_law) (defBody s_law) (defScope s_law) .none kV_law dc_law pm_law an_law cd_law ct_law), sl_law⟩)
    (c_law : PySem.W.codeIn K cd_law "law" = true)
    (k_law : PySem.W.keepIn K (.ref f_law) = true)
    (z_abs : PySem.W.nsIn K mainGlobals "abs" = some none)
    (z_all : PySem.W.nsIn K mainGlobals "all" = some none)
    (z_bool : PySem.W.nsIn K mainGlobals "bool" = some none)
    (z_int : PySem.W.nsIn K mainGlobals "int" = some none)
    (z_isinstance : PySem.W.nsIn K mainGlobals "isinstance" = some none)
    (z_len : PySem.W.nsIn K mainGlobals "len" = some none)
    (z_list : PySem.W.nsIn K mainGlobals "list" = some none)
    (z_min : PySem.W.nsIn K mainGlobals "min" = some none)
    (z_range : PySem.W.nsIn K mainGlobals "range" = some none)
    (z_repr : PySem.W.nsIn K mainGlobals "repr" = some none)
    (z_sorted : PySem.W.nsIn K mainGlobals "sorted" = some none)
    (z_tuple : PySem.W.nsIn K mainGlobals "tuple" = some none)
    (i_lcm : PySem.W.nsIn K mainGlobals "lcm" = some (some (.builtin "math.lcm")))
    : ∃ fd : FuncData, (∀ (s : Shared) (v : Value), BindsTo s fd ⟨[v], []⟩ [("script", v)]) ∧ ∀ base : Heap, K.In base → base.Ns mainGlobals mg → FnG l.prog w K mg base (L2.CX l.prog w) 6 fa fd ["script"] (spM K mg F_law) := by
  have e := hfa.symm.trans (PySem.W.mg_of X G a_law)
  have e2 : fa = f_law := by
    cases e
    rfl
  rw [e2]
  have T : Tx mg := ⟨PySem.W.mg_none_of X G z_abs, PySem.W.mg_none_of X G z_all, PySem.W.mg_none_of X G z_bool, PySem.W.mg_none_of X G z_int, PySem.W.mg_none_of X G z_isinstance, PySem.W.mg_none_of X G z_len, PySem.W.mg_none_of X G z_list, PySem.W.mg_none_of X G z_min, PySem.W.mg_none_of X G z_range, PySem.W.mg_none_of X G z_repr, PySem.W.mg_none_of X G z_sorted, PySem.W.mg_none_of X G z_tuple, PySem.W.mg_of X G i_lcm⟩
  refine ⟨_, fun s v => BindsTo.of_eq (fd := PySem.W.fnOf "law" "law" (defArgs s_law) (defBody s_law) (defScope s_law) .none kV_law dc_law pm_law an_law cd_law ct_law) rfl, fun base _ _ => ?_⟩
  have G__law_pen : FnG l.prog w K mg base (L2.CX l.prog w) 1 f__law_pen (PySem.W.fnOf "_law_pen" "_law_pen" (defArgs s__law_pen) (defBody s__law_pen) (defScope s__law_pen) .none kV__law_pen dc__law_pen pm__law_pen an__law_pen cd__law_pen ct__law_pen) ["script"] (spM K mg F__law_pen) := ok__law_pen T l__law_pen c__law_pen
  have C__law_pen : Cal l.prog w K mg base "_law_pen" 1 f__law_pen _ ["script"] F__law_pen := ⟨PySem.W.mg_of X G a__law_pen, k__law_pen, .all fun us hl => match us, hl with | [_], _ => rfl, G__law_pen⟩
  have G__law_draw : FnG l.prog w K mg base (L2.CX l.prog w) 1 f__law_draw (PySem.W.fnOf "_law_draw" "_law_draw" (defArgs s__law_draw) (defBody s__law_draw) (defScope s__law_draw) .none kV__law_draw dc__law_draw pm__law_draw an__law_draw cd__law_draw ct__law_draw) ["pen", "many"] (spM K mg F__law_draw) := ok__law_draw T l__law_draw c__law_draw
  have C__law_draw : Cal l.prog w K mg base "_law_draw" 1 f__law_draw _ ["pen", "many"] F__law_draw := ⟨PySem.W.mg_of X G a__law_draw, k__law_draw, .all fun us hl => match us, hl with | [_, _], _ => rfl, G__law_draw⟩
  have G__law_figure : FnG l.prog w K mg base (L2.CX l.prog w) 2 f__law_figure (PySem.W.fnOf "_law_figure" "_law_figure" (defArgs s__law_figure) (defBody s__law_figure) (defScope s__law_figure) .none kV__law_figure dc__law_figure pm__law_figure an__law_figure cd__law_figure ct__law_figure) ["pen", "couples"] (spM K mg F__law_figure) := ok__law_figure C__law_draw T l__law_figure c__law_figure
  have C__law_figure : Cal l.prog w K mg base "_law_figure" 2 f__law_figure _ ["pen", "couples"] F__law_figure := ⟨PySem.W.mg_of X G a__law_figure, k__law_figure, .all fun us hl => match us, hl with | [_, _], _ => rfl, G__law_figure⟩
  have G_is_row : FnG l.prog w K mg base (L2.CX l.prog w) 1 f_is_row (PySem.W.fnOf "is_row" "is_row" (defArgs s_is_row) (defBody s_is_row) (defScope s_is_row) .none kV_is_row dc_is_row pm_is_row an_is_row cd_is_row ct_is_row) ["value"] (spM K mg F_is_row) := ok_is_row T l_is_row c_is_row
  have C_is_row : Cal l.prog w K mg base "is_row" 1 f_is_row _ ["value"] F_is_row := ⟨PySem.W.mg_of X G a_is_row, k_is_row, .all fun us hl => match us, hl with | [_], _ => rfl, G_is_row⟩
  have G_is_integer : FnG l.prog w K mg base (L2.CX l.prog w) 1 f_is_integer (PySem.W.fnOf "is_integer" "is_integer" (defArgs s_is_integer) (defBody s_is_integer) (defScope s_is_integer) .none kV_is_integer dc_is_integer pm_is_integer an_is_integer cd_is_integer ct_is_integer) ["value"] (spM K mg F_is_integer) := ok_is_integer T l_is_integer c_is_integer
  have C_is_integer : Cal l.prog w K mg base "is_integer" 1 f_is_integer _ ["value"] F_is_integer := ⟨PySem.W.mg_of X G a_is_integer, k_is_integer, .all fun us hl => match us, hl with | [_], _ => rfl, G_is_integer⟩
  have G_is_figure : FnG l.prog w K mg base (L2.CX l.prog w) 2 f_is_figure (PySem.W.fnOf "is_figure" "is_figure" (defArgs s_is_figure) (defBody s_is_figure) (defScope s_is_figure) (.ref T_is_figure) kV_is_figure dc_is_figure pm_is_figure an_is_figure cd_is_figure ct_is_figure) ["value", "couples"] (spM K mg F_is_figure) := ok_is_figure C_is_row C_is_integer T l_is_figure c_is_figure
  have C_is_figure_1 : CalD l.prog w K mg base "is_figure" 2 f_is_figure _ ["value", "couples"] F_is_figure [.non] [.non] := ⟨PySem.W.mg_of X G a_is_figure, k_is_figure, ⟨[Value.none], (.cons rfl .nil), fun s us X0 hl => match us, (show us.length = 1 from Nat.add_right_cancel ((List.length_append (as := us)).symm.trans hl)) with | [_], _ => PySem.W.binds_K X0 rfl e_is_figure rfl rfl rfl⟩, fun _ => (.cons .non .nil), G_is_figure⟩
  have G_need_figure : FnG l.prog w K mg base (L2.CX l.prog w) 3 f_need_figure (PySem.W.fnOf "need_figure" "need_figure" (defArgs s_need_figure) (defBody s_need_figure) (defScope s_need_figure) .none kV_need_figure dc_need_figure pm_need_figure an_need_figure cd_need_figure ct_need_figure) ["value"] (spM K mg F_need_figure) := ok_need_figure C_is_figure_1 T l_need_figure c_need_figure
  have C_need_figure : Cal l.prog w K mg base "need_figure" 3 f_need_figure _ ["value"] F_need_figure := ⟨PySem.W.mg_of X G a_need_figure, k_need_figure, .all fun us hl => match us, hl with | [_], _ => rfl, G_need_figure⟩
  have G_cycles_of : FnG l.prog w K mg base (L2.CX l.prog w) 1 f_cycles_of (PySem.W.fnOf "cycles_of" "cycles_of" (defArgs s_cycles_of) (defBody s_cycles_of) (defScope s_cycles_of) .none kV_cycles_of dc_cycles_of pm_cycles_of an_cycles_of cd_cycles_of ct_cycles_of) ["row"] (spM K mg F_cycles_of) := ok_cycles_of T l_cycles_of c_cycles_of
  have C_cycles_of : Cal l.prog w K mg base "cycles_of" 1 f_cycles_of _ ["row"] F_cycles_of := ⟨PySem.W.mg_of X G a_cycles_of, k_cycles_of, .all fun us hl => match us, hl with | [_], _ => rfl, G_cycles_of⟩
  have G_cycles : FnG l.prog w K mg base (L2.CX l.prog w) 4 f_cycles (PySem.W.fnOf "cycles" "cycles" (defArgs s_cycles) (defBody s_cycles) (defScope s_cycles) .none kV_cycles dc_cycles pm_cycles an_cycles cd_cycles ct_cycles) ["figure"] (spM K mg F_cycles) := ok_cycles C_need_figure C_cycles_of T l_cycles c_cycles
  have C_cycles : Cal l.prog w K mg base "cycles" 4 f_cycles _ ["figure"] F_cycles := ⟨PySem.W.mg_of X G a_cycles, k_cycles, .all fun us hl => match us, hl with | [_], _ => rfl, G_cycles⟩
  have C_cycles_0_figure : CalK l.prog w K mg base "cycles" 4 f_cycles _ ["figure"] F_cycles 0 ["figure"] [0] [] [] := ⟨PySem.W.mg_of X G a_cycles, k_cycles, ⟨[], .nil, fun s us ws X0 h1 h2 => match us, ws, h1, h2 with | [], [_], _, _ => .of_eq rfl⟩, fun _ => .nil, G_cycles⟩
  have G__law_cycles : FnG l.prog w K mg base (L2.CX l.prog w) 1 f__law_cycles (PySem.W.fnOf "_law_cycles" "_law_cycles" (defArgs s__law_cycles) (defBody s__law_cycles) (defScope s__law_cycles) .none kV__law_cycles dc__law_cycles pm__law_cycles an__law_cycles cd__law_cycles ct__law_cycles) ["figure"] (spM K mg F__law_cycles) := ok__law_cycles T l__law_cycles c__law_cycles
  have C__law_cycles : Cal l.prog w K mg base "_law_cycles" 1 f__law_cycles _ ["figure"] F__law_cycles := ⟨PySem.W.mg_of X G a__law_cycles, k__law_cycles, .all fun us hl => match us, hl with | [_], _ => rfl, G__law_cycles⟩
  have G_order : FnG l.prog w K mg base (L2.CX l.prog w) 4 f_order (PySem.W.fnOf "order" "order" (defArgs s_order) (defBody s_order) (defScope s_order) .none kV_order dc_order pm_order an_order cd_order ct_order) ["figure"] (spM K mg F_order) := ok_order C_need_figure C_cycles_of T l_order c_order
  have C_order : Cal l.prog w K mg base "order" 4 f_order _ ["figure"] F_order := ⟨PySem.W.mg_of X G a_order, k_order, .all fun us hl => match us, hl with | [_], _ => rfl, G_order⟩
  have C_order_0_figure : CalK l.prog w K mg base "order" 4 f_order _ ["figure"] F_order 0 ["figure"] [0] [] [] := ⟨PySem.W.mg_of X G a_order, k_order, ⟨[], .nil, fun s us ws X0 h1 h2 => match us, ws, h1, h2 with | [], [_], _, _ => .of_eq rfl⟩, fun _ => .nil, G_order⟩
  have G__law_order : FnG l.prog w K mg base (L2.CX l.prog w) 1 f__law_order (PySem.W.fnOf "_law_order" "_law_order" (defArgs s__law_order) (defBody s__law_order) (defScope s__law_order) .none kV__law_order dc__law_order pm__law_order an__law_order cd__law_order ct__law_order) ["figure"] (spM K mg F__law_order) := ok__law_order T l__law_order c__law_order
  have C__law_order : Cal l.prog w K mg base "_law_order" 1 f__law_order _ ["figure"] F__law_order := ⟨PySem.W.mg_of X G a__law_order, k__law_order, .all fun us hl => match us, hl with | [_], _ => rfl, G__law_order⟩
  have G_exchanges : FnG l.prog w K mg base (L2.CX l.prog w) 4 f_exchanges (PySem.W.fnOf "exchanges" "exchanges" (defArgs s_exchanges) (defBody s_exchanges) (defScope s_exchanges) .none kV_exchanges dc_exchanges pm_exchanges an_exchanges cd_exchanges ct_exchanges) ["figure"] (spM K mg F_exchanges) := ok_exchanges C_need_figure C_cycles_of T l_exchanges c_exchanges
  have C_exchanges_0_figure : CalK l.prog w K mg base "exchanges" 4 f_exchanges _ ["figure"] F_exchanges 0 ["figure"] [0] [] [] := ⟨PySem.W.mg_of X G a_exchanges, k_exchanges, ⟨[], .nil, fun s us ws X0 h1 h2 => match us, ws, h1, h2 with | [], [_], _, _ => .of_eq rfl⟩, fun _ => .nil, G_exchanges⟩
  have C_exchanges : Cal l.prog w K mg base "exchanges" 4 f_exchanges _ ["figure"] F_exchanges := ⟨PySem.W.mg_of X G a_exchanges, k_exchanges, .all fun us hl => match us, hl with | [_], _ => rfl, G_exchanges⟩
  have G__law_made : FnG l.prog w K mg base (L2.CX l.prog w) 1 f__law_made (PySem.W.fnOf "_law_made" "_law_made" (defArgs s__law_made) (defBody s__law_made) (defScope s__law_made) .none kV__law_made dc__law_made pm__law_made an__law_made cd__law_made ct__law_made) ["pairs", "many"] (spM K mg F__law_made) := ok__law_made T l__law_made c__law_made
  have C__law_made : Cal l.prog w K mg base "_law_made" 1 f__law_made _ ["pairs", "many"] F__law_made := ⟨PySem.W.mg_of X G a__law_made, k__law_made, .all fun us hl => match us, hl with | [_, _], _ => rfl, G__law_made⟩
  have G__law_right : FnG l.prog w K mg base (L2.CX l.prog w) 5 f__law_right (PySem.W.fnOf "_law_right" "_law_right" (defArgs s__law_right) (defBody s__law_right) (defScope s__law_right) .none kV__law_right dc__law_right pm__law_right an__law_right cd__law_right ct__law_right) ["figure"] (spM K mg F__law_right) := ok__law_right C_cycles C__law_cycles C_order C__law_order C_cycles_0_figure C_order_0_figure C_exchanges_0_figure C_exchanges C__law_made T l__law_right c__law_right
  have C__law_right : Cal l.prog w K mg base "_law_right" 5 f__law_right _ ["figure"] F__law_right := ⟨PySem.W.mg_of X G a__law_right, k__law_right, .all fun us hl => match us, hl with | [_], _ => rfl, G__law_right⟩
  have G_law : FnG l.prog w K mg base (L2.CX l.prog w) 6 f_law (PySem.W.fnOf "law" "law" (defArgs s_law) (defBody s_law) (defScope s_law) .none kV_law dc_law pm_law an_law cd_law ct_law) ["script"] (spM K mg F_law) := ok_law C__law_pen C__law_figure C__law_right C_cycles C_order T l_law c_law
  exact G_law
end Zk04
end

section
set_option Elab.async false
set_option linter.all false
set_option autoImplicit false
/-! Permutations of the numbers below n: iterates, periods, orbits, least members. -/
namespace Zp
def it (f : Nat → Nat) : Nat → Nat → Nat
  | 0, x => x
  | k + 1, x => f (it f k x)
theorem it_add (f : Nat → Nat) (x : Nat) : ∀ a b, it f (a + b) x = it f a (it f b x)
  | 0, b => by rw [Nat.zero_add]; rfl
  | a + 1, b => by
    rw [show a + 1 + b = (a + b) + 1 by omega]
    exact congrArg f (it_add f x a b)
theorem sub_len {α : Type} [DecidableEq α] : ∀ {l m : List α}, l.Nodup → (∀ x ∈ l, x ∈ m) → l.length ≤ m.length
  | [], m, _, _ => Nat.zero_le _
  | x :: l, m, hn, hs => by
    obtain ⟨h1, h2⟩ := List.nodup_cons.mp hn
    have hx := hs x List.mem_cons_self
    have ih := sub_len (l := l) (m := m.erase x) h2 fun y hy => by
      have hy2 := hs y (List.mem_cons_of_mem _ hy)
      exact (List.mem_erase_of_ne (fun e => h1 (by rw [← e]; exact hy))).mpr hy2
    rw [List.length_erase_of_mem hx] at ih
    have := List.length_pos_of_mem hx
    rw [List.length_cons]
    omega
structure Pm (f : Nat → Nat) (n : Nat) : Prop where
  lt : ∀ i, i < n → f i < n
  inj : ∀ i j, i < n → j < n → f i = f j → i = j
section
variable {f : Nat → Nat} {n : Nat}
theorem Pm.it_lt (P : Pm f n) {x : Nat} (hx : x < n) : ∀ k, it f k x < n
  | 0 => hx
  | k + 1 => P.lt _ (P.it_lt hx k)
theorem Pm.it_inj (P : Pm f n) : ∀ (k : Nat) {x y : Nat}, x < n → y < n → it f k x = it f k y → x = y
  | 0, _, _, _, _, e => e
  | k + 1, _, _, hx, hy, e => P.it_inj k hx hy (P.inj _ _ (P.it_lt hx k) (P.it_lt hy k) e)
theorem Pm.per0 (P : Pm f n) {x : Nat} (hx : x < n) : ∃ k, 1 ≤ k ∧ k ≤ n ∧ it f k x = x := by
  apply Classical.byContradiction
  intro hc
  have hnd : ((List.range (n + 1)).map fun k => it f k x).Nodup := by
    unfold List.Nodup
    rw [List.pairwise_map]
    refine List.Pairwise.imp_of_mem ?_ (List.pairwise_lt_range (n := n + 1))
    intro i j hi hj hij e
    have hj2 := List.mem_range.mp hj
    refine hc ⟨j - i, by omega, by omega, ?_⟩
    rw [show j = i + (j - i) by omega, it_add] at e
    exact (P.it_inj i hx (P.it_lt hx _) e).symm
  have := sub_len (m := List.range n) hnd fun y hy => by
    obtain ⟨k, _, rfl⟩ := List.mem_map.mp hy
    exact List.mem_range.mpr (P.it_lt hx k)
  rw [List.length_map, List.length_range, List.length_range] at this
  omega
/-- L is the least period -/
structure Per (f : Nat → Nat) (x L : Nat) : Prop where
  pos : 1 ≤ L
  back : it f L x = x
  least : ∀ j, 1 ≤ j → j < L → it f j x ≠ x
theorem per_of {f : Nat → Nat} {x : Nat} : ∀ (k : Nat), 1 ≤ k → it f k x = x → ∃ L, L ≤ k ∧ Per f x L := fun k => by
  induction k using Nat.strongRecOn with
  | ind k ih =>
    intro h1 h2
    by_cases h : ∃ j, 1 ≤ j ∧ j < k ∧ it f j x = x
    · obtain ⟨j, a, b, c⟩ := h
      obtain ⟨L, l1, l2⟩ := ih j b a c
      exact ⟨L, by omega, l2⟩
    · exact ⟨k, Nat.le_refl _, h1, h2, fun j a b c => h ⟨j, a, b, c⟩⟩
theorem Pm.per (P : Pm f n) {x : Nat} (hx : x < n) : ∃ L, L ≤ n ∧ Per f x L := by
  obtain ⟨k, h1, h2, h3⟩ := P.per0 hx
  obtain ⟨L, h4, h5⟩ := per_of k h1 h3
  exact ⟨L, by omega, h5⟩
theorem Per.mul {x L : Nat} (h : Per f x L) : ∀ q, it f (L * q) x = x
  | 0 => rfl
  | q + 1 => by rw [Nat.mul_succ, it_add, h.back, h.mul q]
theorem Per.mod {x L : Nat} (h : Per f x L) (k : Nat) : it f k x = it f (k % L) x := by
  conv => lhs; rw [← Nat.mod_add_div k L, it_add, h.mul]
theorem Per.dvd {x L : Nat} (h : Per f x L) (k : Nat) : it f k x = x ↔ L ∣ k := by
  constructor
  · intro e
    rw [h.mod] at e
    refine Nat.dvd_of_mod_eq_zero (Classical.byContradiction fun hz => ?_)
    exact h.least (k % L) (by omega) (Nat.mod_lt _ h.pos) e
  · rintro ⟨q, rfl⟩
    exact h.mul q
/-! ### orbits -/
def walk (f : Nat → Nat) (s : Nat) : Nat → Nat → List Nat
  | 0, _ => []
  | m + 1, a => if a = s then [] else a :: walk f s m (f a)
def orb (f : Nat → Nat) (n x : Nat) : List Nat := x :: walk f x n (f x)
theorem walk_spec {s L : Nat} (h : Per f s L) : ∀ m j, 1 ≤ j → j ≤ L → L - j ≤ m → walk f s m (it f j s) = (List.range (L - j)).map fun i => it f (j + i) s
  | 0, j, h1, h2, h3 => by
    rw [show L - j = 0 by omega]
    rfl
  | m + 1, j, h1, h2, h3 => by
    rw [walk]
    by_cases e : j = L
    · subst e
      rw [if_pos h.back, Nat.sub_self]
      rfl
    · rw [if_neg (h.least j h1 (by omega)), show L - j = (L - (j + 1)) + 1 by omega, List.range_succ_eq_map, List.map_cons, List.map_map]
      have ih := walk_spec h m (j + 1) (by omega) (by omega) (by omega)
      show it f j s :: walk f s m (it f (j + 1) s) = _
      rw [ih]
      refine List.cons_eq_cons.mpr ⟨rfl, List.map_congr_left fun i _ => ?_⟩
      show it f (j + 1 + i) s = it f (j + (i + 1)) s
      rw [show j + 1 + i = j + (i + 1) by omega]
theorem orb_eq {x L : Nat} (h : Per f x L) (hL : L ≤ n + 1) : orb f n x = (List.range L).map fun i => it f i x := by
  unfold orb
  rw [show f x = it f 1 x from rfl, walk_spec h n 1 (Nat.le_refl _) h.pos (by omega), show L = (L - 1) + 1 by have := h.pos; omega, List.range_succ_eq_map, List.map_cons, List.map_map]
  refine List.cons_eq_cons.mpr ⟨rfl, List.map_congr_left fun i _ => ?_⟩
  show it f (1 + i) x = it f (i + 1) x
  rw [Nat.add_comm]
def Rel (f : Nat → Nat) (x y : Nat) : Prop := ∃ k, it f k x = y
theorem Rel.refl (x : Nat) : Rel f x x := ⟨0, rfl⟩
theorem Rel.trans {x y z : Nat} : Rel f x y → Rel f y z → Rel f x z := fun ⟨a, h⟩ ⟨b, k⟩ => ⟨b + a, by rw [it_add, h, k]⟩
theorem Rel.symm (P : Pm f n) {x y : Nat} (hx : x < n) : Rel f x y → Rel f y x := fun ⟨k, h⟩ => by
  obtain ⟨L, _, hL⟩ := P.per hx
  refine ⟨L * k - k, ?_⟩
  have : k ≤ L * k := Nat.le_mul_of_pos_left k hL.pos
  rw [← h, ← it_add, show L * k - k + k = L * k by omega, hL.mul]
theorem Pm.mem_orb (P : Pm f n) {x y : Nat} (hx : x < n) : y ∈ orb f n x ↔ Rel f x y := by
  obtain ⟨L, h1, h2⟩ := P.per hx
  rw [orb_eq h2 (by omega)]
  constructor
  · intro h
    obtain ⟨i, _, e⟩ := List.mem_map.mp h
    exact ⟨i, e⟩
  · rintro ⟨k, e⟩
    rw [h2.mod] at e
    exact List.mem_map.mpr ⟨k % L, List.mem_range.mpr (Nat.mod_lt _ h2.pos), e⟩
theorem Pm.rel_lt (P : Pm f n) {x y : Nat} (hx : x < n) (h : Rel f x y) : y < n := by
  obtain ⟨k, rfl⟩ := h
  exact P.it_lt hx k
theorem Pm.orb_nodup (P : Pm f n) {x : Nat} (hx : x < n) : (orb f n x).Nodup := by
  obtain ⟨L, h1, h2⟩ := P.per hx
  rw [orb_eq h2 (by omega)]
  unfold List.Nodup
  rw [List.pairwise_map]
  refine List.Pairwise.imp_of_mem ?_ (List.pairwise_lt_range (n := L))
  intro i j hi hj hij e
  have hj2 := List.mem_range.mp hj
  rw [show j = i + (j - i) by omega, it_add] at e
  exact h2.least (j - i) (by omega) (by omega) (P.it_inj i hx (P.it_lt hx _) e).symm
/-! ### least members -/
def isMin (f : Nat → Nat) (n x : Nat) : Bool := (orb f n x).all fun y => decide (x ≤ y)
theorem Pm.isMin_iff (P : Pm f n) {x : Nat} (hx : x < n) : isMin f n x = true ↔ ∀ y, Rel f x y → x ≤ y := by
  unfold isMin
  rw [List.all_eq_true]
  constructor
  · intro h y hy
    exact of_decide_eq_true (h y ((P.mem_orb hx).mpr hy))
  · intro h y hy
    exact decide_eq_true (h y ((P.mem_orb hx).mp hy))
theorem Pm.min_ex (P : Pm f n) : ∀ x, x < n → ∃ m, m < n ∧ m ≤ x ∧ isMin f n m = true ∧ Rel f m x := fun x => by
  induction x using Nat.strongRecOn with
  | ind x ih =>
    intro hx
    by_cases h : ∃ y, Rel f x y ∧ y < x
    · obtain ⟨y, h1, h2⟩ := h
      obtain ⟨m, m1, m2, m3, m4⟩ := ih y h2 (by omega)
      exact ⟨m, m1, by omega, m3, m4.trans (h1.symm P hx)⟩
    · exact ⟨x, hx, Nat.le_refl _, (P.isMin_iff hx).mpr fun y hy => Classical.byContradiction fun hc => h ⟨y, hy, by omega⟩, .refl x⟩
theorem Pm.min_uniq (P : Pm f n) {a b x : Nat} (ha : a < n) (hb : b < n) (ma : isMin f n a = true) (mb : isMin f n b = true) (ra : Rel f a x) (rb : Rel f b x) : a = b := by
  have h1 := (P.isMin_iff ha).mp ma b (ra.trans (rb.symm P hb))
  have h2 := (P.isMin_iff hb).mp mb a (rb.trans (ra.symm P ha))
  omega
def mins (f : Nat → Nat) (n : Nat) : List Nat := (List.range n).filter (isMin f n)
def cycs (f : Nat → Nat) (n : Nat) : List (List Nat) := (mins f n).map (orb f n)
theorem mem_mins {x : Nat} : x ∈ mins f n ↔ x < n ∧ isMin f n x = true := by
  unfold mins
  rw [List.mem_filter, List.mem_range]
theorem Pm.flat_nodup (P : Pm f n) : (cycs f n).flatten.Nodup := by
  unfold List.Nodup cycs
  rw [List.pairwise_flatten]
  refine ⟨fun l hl => ?_, ?_⟩
  · obtain ⟨x, hx, rfl⟩ := List.mem_map.mp hl
    exact P.orb_nodup (mem_mins.mp hx).1
  · rw [List.pairwise_map]
    have : (mins f n).Pairwise (· ≠ ·) := List.Pairwise.filter _ (List.nodup_range (n := n))
    refine List.Pairwise.imp_of_mem ?_ this
    intro a b ha hb hab u hu v hv e
    subst e
    obtain ⟨a1, a2⟩ := mem_mins.mp ha
    obtain ⟨b1, b2⟩ := mem_mins.mp hb
    exact hab (P.min_uniq a1 b1 a2 b2 ((P.mem_orb a1).mp hu) ((P.mem_orb b1).mp hv))
theorem Pm.flat_mem (P : Pm f n) (x : Nat) : x ∈ (cycs f n).flatten ↔ x < n := by
  rw [List.mem_flatten]
  constructor
  · rintro ⟨l, hl, hx⟩
    obtain ⟨m, hm, rfl⟩ := List.mem_map.mp hl
    have hm := (mem_mins.mp hm).1
    exact P.rel_lt hm ((P.mem_orb hm).mp hx)
  · intro hx
    obtain ⟨m, m1, _, m3, m4⟩ := P.min_ex x hx
    exact ⟨_, List.mem_map.mpr ⟨m, mem_mins.mpr ⟨m1, m3⟩, rfl⟩, (P.mem_orb m1).mpr m4⟩
theorem Pm.flat_len (P : Pm f n) : (cycs f n).flatten.length = n := by
  have h1 := sub_len (m := List.range n) P.flat_nodup fun x hx => List.mem_range.mpr ((P.flat_mem x).mp hx)
  have h2 := sub_len (l := List.range n) (m := (cycs f n).flatten) List.nodup_range fun x hx => (P.flat_mem x).mpr (List.mem_range.mp hx)
  rw [List.length_range] at h1 h2
  omega
/-! ### the order -/
def lcmL (ls : List Nat) : Nat := ls.foldl Nat.lcm 1
theorem lcm_fold (k : Nat) : ∀ (ls : List Nat) (a : Nat), ls.foldl Nat.lcm a ∣ k ↔ a ∣ k ∧ ∀ l ∈ ls, l ∣ k
  | [], a => by simp
  | l :: ls, a => by
    rw [List.foldl_cons, lcm_fold k ls, Nat.lcm_dvd_iff]
    simp only [List.mem_cons, forall_eq_or_imp, and_assoc]
theorem Pm.order (P : Pm f n) (k : Nat) : (∀ x, x < n → it f k x = x) ↔ lcmL ((cycs f n).map List.length) ∣ k := by
  unfold lcmL
  rw [lcm_fold]
  constructor
  · intro h
    refine ⟨Nat.one_dvd _, fun l hl => ?_⟩
    obtain ⟨c, hc, rfl⟩ := List.mem_map.mp hl
    obtain ⟨m, hm, rfl⟩ := List.mem_map.mp hc
    have hm := (mem_mins.mp hm).1
    obtain ⟨L, h1, h2⟩ := P.per hm
    rw [orb_eq h2 (by omega), List.length_map, List.length_range]
    exact (h2.dvd k).mp (h m hm)
  · rintro ⟨_, h⟩ x hx
    obtain ⟨m, m1, _, m3, ⟨j, m4⟩⟩ := P.min_ex x hx
    have h1 := h _ (List.mem_map.mpr ⟨_, List.mem_map.mpr ⟨m, mem_mins.mpr ⟨m1, m3⟩, rfl⟩, rfl⟩)
    obtain ⟨L, h3, h4⟩ := P.per m1
    rw [orb_eq h4 (by omega), List.length_map, List.length_range] at h1
    rw [← m4, ← it_add, Nat.add_comm, it_add, (h4.dvd k).mpr h1]
end
end Zp
end

section
set_option Elab.async false
set_option linter.all false
set_option maxRecDepth 100000
set_option maxHeartbeats 4000000
/-! k04: each function's answer. -/
namespace Zk04
open PySem L2 Z Zb Za
open Zp (it Pm orb walk mins cycs isMin)
theorem lc_map {t : TgM} {el : M D} {vs : List Nat} {g : D → D} {env0 : Z.Env} : ∀ (ds acc : List D), (∀ d ∈ ds, ∃ e1 e3, t d env0 = some e1 ∧ el e1 = some (.ok (g d) e3) ∧ clr e3 vs = env0) → acc.length + ds.length ≤ 1000000 →
    lcL t (M.ret true) el vs ds acc env0 = some (.ok (acc ++ ds.map g) env0)
  | [], acc, _, _ => by rw [List.map_nil, List.append_nil]; rfl
  | d :: ds, acc, h, hz => by
    obtain ⟨e1, e3, h1, h2, h3⟩ := h d List.mem_cons_self
    rw [List.length_cons] at hz
    have ih := lc_map ds (acc ++ [g d]) (fun x hx => h x (List.mem_cons_of_mem _ hx)) (by rw [List.length_append]; show acc.length + 1 + ds.length ≤ 1000000; omega)
    simp only [lcL, h1, M.ret, h2, sz_of (show acc.length ≤ 1000000 by omega), h3, ↓reduceIte]
    rw [ih, List.append_assoc]
    rfl
/-- what an argument that is a figure may be -/
structure Fg (d : D) (f : Nat → Nat) (n : Nat) : Prop where
  pm : Pm f n
  sz : n = 2 ∨ n = 4 ∨ n = 6 ∨ n = 8
  eq : d = .lst ((List.range n).map fun i => I (f i)) ∨ d = .tup ((List.range n).map fun i => I (f i))
theorem at_map {n : Nat} {g : Nat → D} {i : Nat} (h : i < n) : L2.atI ((List.range n).map g) (i : Nat) = some (g i) := by
  refine L2.atI_nat ?_
  rw [List.getElem?_map, List.getElem?_range h]
  rfl
theorem isort_perm_range {f : Nat → Nat} {n : Nat} (P : Pm f n) : isort ((List.range n).map fun i => ((f i : Nat) : Int)) = (List.range n).map fun i => ((i : Nat) : Int) := by
  refine (isort_eq ?_ ?_).symm
  · have hp : (List.range n).Perm ((List.range n).map f) := by
      refine (List.perm_ext_iff_of_nodup List.nodup_range ?_).mpr ?_
      · unfold List.Nodup
        rw [List.pairwise_map]
        refine List.Pairwise.imp_of_mem ?_ (List.nodup_range (n := n))
        intro a b ha hb hab e
        exact hab (P.inj a b (List.mem_range.mp ha) (List.mem_range.mp hb) e)
      · intro x
        rw [List.mem_range, List.mem_map]
        constructor
        · intro hx
          obtain ⟨L, h1, h2⟩ := P.per hx
          refine ⟨it f (L - 1) x, List.mem_range.mpr (P.it_lt hx _), ?_⟩
          have := h2.back
          rw [show L = (L - 1) + 1 by have := h2.pos; omega] at this
          exact this
        · rintro ⟨i, hi, rfl⟩
          exact P.lt i (List.mem_range.mp hi)
    have := hp.map fun i : Nat => (i : Int)
    rw [List.map_map] at this
    exact this
  · rw [List.pairwise_map]
    refine List.Pairwise.imp ?_ List.pairwise_lt_range
    intro a b h
    omega
theorem is_row_fg {d : D} {f : Nat → Nat} {n : Nat} (F : Fg d f n) : F_is_row [.v d] = some (.rt (.v (.bl true)) none) := by
  rcases F.eq with rfl | rfl <;> rfl
theorem is_integer_int (i : Int) : F_is_integer [.v (.int i)] = some (.rt (.v (.bl true)) none) := rfl
theorem is_figure_fg {d : D} {f : Nat → Nat} {n : Nat} (F : Fg d f n) : F_is_figure [.v d, .v .non] = some (.rt (.v (.bl true)) none) := by
  have h1 := is_row_fg F
  have hn : n ≤ 8 := by have := F.sz; omega
  have hin : fIn true (.int (n : Nat)) (.tup [.int 2, .int 4, .int 6, .int 8]) = some (.bl false) := by
    rcases F.sz with rfl | rfl | rfl | rfl <;> rfl
  have hnn : fNotN .non .non = some (.bl false) := rfl
  have hl : ((List.range n).map fun i => I (f i)).length = n := by rw [List.length_map, List.length_range]
  have hs : allOf inOf ((List.range n).map fun i => I (f i)) = some ((List.range n).map fun i => ((f i : Nat) : Int)) := by
    generalize List.range n = l
    induction l with
    | nil => rfl
    | cons a l ih =>
      rw [List.map_cons, allOf, ih]
      rfl
  have hb : allOf blOf (((List.range n).map fun i => I (f i)).map fun _ => D.bl true) = some ((List.range n).map fun _ => true) := by
    generalize List.range n = l
    induction l with
    | nil => rfl
    | cons a l ih =>
      rw [List.map_cons, List.map_cons, allOf, ih]
      rfl
  have hall : ((List.range n).map fun _ => true).all id = true := by
    rw [List.all_eq_true]
    intro x hx
    obtain ⟨_, _, rfl⟩ := List.mem_map.mp hx
    rfl
  have hlc := lc_map (t := gN 2) (el := e1_is_figure) (vs := [2]) (g := fun _ => D.bl true) (env0 := [.v d, .v .non, .no]) ((List.range n).map fun i => I (f i)) [] (fun x hx => by
    obtain ⟨i, _, rfl⟩ := List.mem_map.mp hx
    exact ⟨[.v d, .v .non, .v (I (f i))], [.v d, .v .non, .v (I (f i))], rfl, rfl, rfl⟩) (by rw [hl]; show 0 + n ≤ 1000000; omega)
  have hrg : okRg (n : Nat) = true := by
    unfold okRg
    simp only [Bool.and_eq_true, decide_eq_true_eq]
    omega
  have heq : fEq (.lst (((List.range n).map fun i => ((i : Nat) : Int)).map .int)) (.lst (rng n)) = some (.bl true) := by
    rw [show rng n = ((List.range n).map fun i => ((i : Nat) : Int)).map .int by rw [List.map_map]; rfl, fEq_lints]
    rw [decide_eq_true rfl]
  have hit : ∀ x : Nat, ((x : Nat) : Int).toNat = x := fun x => rfl
  rcases F.eq with rfl | rfl
  · simp only [F_is_figure, mkF, m_is_figure, mSeq, mIfS, mThen, mTst, mOp, mIx, mPeek, mVar, mTake, mSet, mSetIx, mRet, mR, mV, mU, mG, mN, mRd2, mOpN, mAnd, mOr, mNot, mAndV, mOrV, mNotV, mIf, mNil, mCons, mTup, mLst, mPart, mSl, mPar, mPair, mDrop, mM1, mM0, mHere, M.chg, M.bind, M.ret, M.of, Ar.sl, Rs.get, Rs.sl, fIx, fI, fI0, fInt, fLen, setSl, isIo, isL, chg, onL, fSetIx, fApp, Sl.mut, Sl.upd, ioC, ioIx, env0, runF, mCall, rsv, wb, axIx, noIoA, xNil, xV, xSl, mIt, mListRg, mTupRg, fRg, List.length_cons, List.length_nil, List.map_cons, List.map_nil, List.cons_append, List.nil_append, List.replicate_succ, List.replicate_zero, List.append_nil, Nat.reduceAdd, Nat.reduceSub, List.getElem?_cons_zero, List.getElem?_cons_succ, List.getElem?_nil, List.set_cons_zero, List.set_cons_succ, Option.bind_some, Option.bind_none, Option.map_some, Option.map_none, Nat.reduceLT, Nat.reduceEqDiff, Nat.reduceLeDiff, decide_true, decide_false, Bool.and_true, Bool.true_and, Bool.and_false, Bool.false_and, Bool.not_true, Bool.not_false, ↓reduceIte, reduceCtorEq, Bool.false_eq_true, List.length_map, Nat.lt_add_left_iff_pos, Nat.zero_lt_succ, Nat.add_eq, Nat.zero_add, Nat.add_zero, Nat.zero_le, sz0, sz1, sz2, sz3, sz4, sz5, sz6, sz7, sz8, sz9, h1, hl, hin, hnn, mLc, items, noIo, List.all_cons, List.all_nil, clr, unclr, hlc, fAll, hb, hall, fSorted, hs, isort_perm_range F.pm, hrg, heq, hit]
  · simp only [F_is_figure, mkF, m_is_figure, mSeq, mIfS, mThen, mTst, mOp, mIx, mPeek, mVar, mTake, mSet, mSetIx, mRet, mR, mV, mU, mG, mN, mRd2, mOpN, mAnd, mOr, mNot, mAndV, mOrV, mNotV, mIf, mNil, mCons, mTup, mLst, mPart, mSl, mPar, mPair, mDrop, mM1, mM0, mHere, M.chg, M.bind, M.ret, M.of, Ar.sl, Rs.get, Rs.sl, fIx, fI, fI0, fInt, fLen, setSl, isIo, isL, chg, onL, fSetIx, fApp, Sl.mut, Sl.upd, ioC, ioIx, env0, runF, mCall, rsv, wb, axIx, noIoA, xNil, xV, xSl, mIt, mListRg, mTupRg, fRg, List.length_cons, List.length_nil, List.map_cons, List.map_nil, List.cons_append, List.nil_append, List.replicate_succ, List.replicate_zero, List.append_nil, Nat.reduceAdd, Nat.reduceSub, List.getElem?_cons_zero, List.getElem?_cons_succ, List.getElem?_nil, List.set_cons_zero, List.set_cons_succ, Option.bind_some, Option.bind_none, Option.map_some, Option.map_none, Nat.reduceLT, Nat.reduceEqDiff, Nat.reduceLeDiff, decide_true, decide_false, Bool.and_true, Bool.true_and, Bool.and_false, Bool.false_and, Bool.not_true, Bool.not_false, ↓reduceIte, reduceCtorEq, Bool.false_eq_true, List.length_map, Nat.lt_add_left_iff_pos, Nat.zero_lt_succ, Nat.add_eq, Nat.zero_add, Nat.add_zero, Nat.zero_le, sz0, sz1, sz2, sz3, sz4, sz5, sz6, sz7, sz8, sz9, h1, hl, hin, hnn, mLc, items, noIo, List.all_cons, List.all_nil, clr, unclr, hlc, fAll, hb, hall, fSorted, hs, isort_perm_range F.pm, hrg, heq, hit]
end Zk04
end

section
set_option Elab.async false
set_option linter.all false
set_option maxRecDepth 100000
set_option maxHeartbeats 4000000
/-! k04: cycles_of. -/
namespace Zk04
open PySem L2 Z Zb Za
open Zp (it Pm orb walk mins cycs isMin)
theorem need_figure_fg {d : D} {f : Nat → Nat} {n : Nat} (F : Fg d f n) : F_need_figure [.v d] = some (.rt (.v .non) none) := by
  have h := is_figure_fg F
  simp only [F_need_figure, mkF, m_need_figure, mSeq, mIfS, mThen, mTst, mOp, mIx, mPeek, mVar, mTake, mSet, mSetIx, mRet, mR, mV, mU, mG, mN, mRd2, mOpN, mAnd, mOr, mNot, mAndV, mOrV, mNotV, mIf, mNil, mCons, mTup, mLst, mPart, mSl, mPar, mPair, mDrop, mM1, mM0, mHere, M.chg, M.bind, M.ret, M.of, Ar.sl, Rs.get, Rs.sl, fIx, fI, fI0, fInt, fLen, setSl, isIo, isL, chg, onL, fSetIx, fApp, Sl.mut, Sl.upd, ioC, ioIx, env0, runF, mCall, rsv, wb, axIx, noIoA, xNil, xV, xSl, mIt, mListRg, mTupRg, fRg, List.length_cons, List.length_nil, List.map_cons, List.map_nil, List.cons_append, List.nil_append, List.replicate_succ, List.replicate_zero, List.append_nil, Nat.reduceAdd, Nat.reduceSub, List.getElem?_cons_zero, List.getElem?_cons_succ, List.getElem?_nil, List.set_cons_zero, List.set_cons_succ, Option.bind_some, Option.bind_none, Option.map_some, Option.map_none, Nat.reduceLT, Nat.reduceEqDiff, Nat.reduceLeDiff, decide_true, decide_false, Bool.and_true, Bool.true_and, Bool.and_false, Bool.false_and, Bool.not_true, Bool.not_false, ↓reduceIte, reduceCtorEq, Bool.false_eq_true, List.length_map, Nat.lt_add_left_iff_pos, Nat.zero_lt_succ, Nat.add_eq, Nat.zero_add, Nat.add_zero, Nat.zero_le, sz0, sz1, sz2, sz3, sz4, sz5, sz6, sz7, sz8, sz9, h]
theorem set_map {n p : Nat} {g : Nat → D} {v : D} : ((List.range n).map g).set p v = (List.range n).map fun i => if i = p then v else g i := by
  apply List.ext_getElem
  · simp
  · intro i h1 h2
    rw [List.getElem_set]
    simp only [List.getElem_map, List.getElem_range]
    by_cases e : p = i
    · rw [if_pos e, if_pos e.symm]
    · rw [if_neg e, if_neg (fun h => e h.symm)]
theorem ix_nat {n i : Nat} (h : i < n) : ixN n (i : Nat) = some i := by
  unfold ixN
  rw [if_pos (by omega), if_pos (by omega)]
  rfl
abbrev tupN (c : List Nat) : D := .tup (c.map I)
def seenD (n : Nat) (sn : Nat → Bool) : List D := (List.range n).map fun i => D.bl (sn i)
def snk (f : Nat → Nat) (sn : Nat → Bool) (x k y : Nat) : Bool := sn y || (List.range k).any fun j => it f j x == y
theorem snk_succ (f : Nat → Nat) (sn : Nat → Bool) (x k : Nat) : (fun y => if y = it f k x then true else snk f sn x k y) = snk f sn x (k + 1) := by
  funext y
  unfold snk
  rw [List.range_succ, List.any_append]
  simp only [List.any_cons, List.any_nil, Bool.or_false]
  by_cases e : y = it f k x
  · rw [if_pos e, show (it f k x == y) = true by rw [e]; exact beq_self_eq_true _, Bool.or_true, Bool.or_true]
  · rw [if_neg e, show (it f k x == y) = false from beq_false_of_ne fun h => e h.symm, Bool.or_false]
/-- the walk along one cycle -/
theorem one_cycle {d : D} {f : Nat → Nat} {n : Nat} (F : Fg d f n) {sn : Nat → Bool} {x L : Nat} {s1 s2 : Sl} (hx : x < n) (hL : Zp.Per f x L) (hLn : L ≤ n) (hs : ∀ y, Zp.Rel f x y → sn y = false) :
    whL t1_cycles_of b2_cycles_of fuel [.v d, s1, s2, .own (.lst (seenD n sn)), .own (.lst []), .v (I x)] =
      some (.nx [.v d, s1, s2, .own (.lst (seenD n (snk f sn x L))), .own (.lst ((orb f n x).map I)), .v (I x)]) := by
  have hn8 : n ≤ 8 := by have := F.sz; omega
  obtain ⟨env', e1, e2⟩ := whL_inv (t := t1_cycles_of) (b := b2_cycles_of) (n := L)
    (I := fun k env => env = [.v d, s1, s2, .own (.lst (seenD n (snk f sn x k))), .own (.lst ((List.range k).map fun j => I (it f j x))), .v (I (it f k x))])
    (J := fun env => env = [.v d, s1, s2, .own (.lst (seenD n (snk f sn x L))), .own (.lst ((orb f n x).map I)), .v (I x)])
    (fun k env hk e => by
      subst e
      have hlt : it f k x < n := F.pm.it_lt hx k
      have a1 : L2.atI (seenD n (snk f sn x k)) (it f k x : Nat) = some (.bl (snk f sn x k (it f k x))) := at_map hlt
      have a2 : snk f sn x k (it f k x) = false := by
        unfold snk
        rw [hs _ ⟨k, rfl⟩, Bool.false_or, List.any_eq_false]
        intro j hj e
        have hj := List.mem_range.mp hj
        have e := eq_of_beq e
        rw [show k = j + (k - j) by omega, Zp.it_add] at e
        exact hL.least (k - j) (by omega) (by omega) (F.pm.it_inj j hx (F.pm.it_lt hx _) e).symm
      rw [a2] at a1
      have a3 : (seenD n (snk f sn x k)).set (it f k x) (.bl true) = seenD n (snk f sn x (k + 1)) := by
        unfold seenD
        rw [set_map, ← snk_succ]
        refine List.map_congr_left fun i _ => ?_
        by_cases e : i = it f k x
        · simp only [if_pos e]
        · simp only [if_neg e]
      have a4 : (seenD n (snk f sn x k)).length = n := by unfold seenD; rw [List.length_map, List.length_range]
      have a5 : szOk ((List.range k).map fun j => I (it f j x)).length = true := sz_of (by rw [List.length_map, List.length_range]; omega)
      have a6 : L2.atI ((List.range n).map fun i => I (f i)) (it f k x : Nat) = some (I (it f (k + 1) x)) := at_map hlt
      have a7 : ((List.range k).map fun j => I (it f j x)) ++ [I (it f k x)] = (List.range (k + 1)).map fun j => I (it f j x) := by
        rw [List.range_succ, List.map_append]
        rfl
      have a8 := ix_nat hlt
      refine ⟨[.v d, s1, s2, .own (.lst (seenD n (snk f sn x k))), .own (.lst ((List.range k).map fun j => I (it f j x))), .v (I (it f k x))], [.v d, s1, s2, .own (.lst (seenD n (snk f sn x (k + 1)))), .own (.lst ((List.range (k + 1)).map fun j => I (it f j x))), .v (I (it f (k + 1) x))], ?_, .inl ?_, rfl⟩
      · generalize it f k x = p at *
        generalize seenD n (snk f sn x k) = q at *
        simp only [t1_cycles_of, mSeq, mIfS, mThen, mTst, mOp, mIx, mPeek, mVar, mTake, mSet, mSetIx, mRet, mR, mV, mU, mG, mN, mRd2, mOpN, mAnd, mOr, mNot, mAndV, mOrV, mNotV, mIf, mNil, mCons, mTup, mLst, mPart, mSl, mPar, mPair, mDrop, mM1, mM0, mHere, M.chg, M.bind, M.ret, M.of, Ar.sl, Rs.get, Rs.sl, fIx, fI, fI0, fInt, fLen, setSl, isIo, isL, chg, onL, fSetIx, fApp, Sl.mut, Sl.upd, ioC, ioIx, env0, runF, mCall, rsv, wb, axIx, noIoA, xNil, xV, xSl, mIt, mListRg, mTupRg, fRg, List.length_cons, List.length_nil, List.map_cons, List.map_nil, List.cons_append, List.nil_append, List.replicate_succ, List.replicate_zero, List.append_nil, Nat.reduceAdd, Nat.reduceSub, List.getElem?_cons_zero, List.getElem?_cons_succ, List.getElem?_nil, List.set_cons_zero, List.set_cons_succ, Option.bind_some, Option.bind_none, Option.map_some, Option.map_none, Nat.reduceLT, Nat.reduceEqDiff, Nat.reduceLeDiff, decide_true, decide_false, Bool.and_true, Bool.true_and, Bool.and_false, Bool.false_and, Bool.not_true, Bool.not_false, ↓reduceIte, reduceCtorEq, Bool.false_eq_true, List.length_map, Nat.lt_add_left_iff_pos, Nat.zero_lt_succ, Nat.add_eq, Nat.zero_add, Nat.add_zero, Nat.zero_le, sz0, sz1, sz2, sz3, sz4, sz5, sz6, sz7, sz8, sz9, a1]
      · rw [← a7]
        rw [← a3]
        rcases F.eq with rfl | rfl
        · generalize it f k x = p at *
          generalize it f (k + 1) x = p2 at *
          generalize seenD n (snk f sn x k) = q at *
          generalize ((List.range k).map fun j => I (it f j x)) = r at *
          generalize ((List.range n).map fun i => I (f i)) = xs at *
          simp only [b2_cycles_of, mSeq, mIfS, mThen, mTst, mOp, mIx, mPeek, mVar, mTake, mSet, mSetIx, mRet, mR, mV, mU, mG, mN, mRd2, mOpN, mAnd, mOr, mNot, mAndV, mOrV, mNotV, mIf, mNil, mCons, mTup, mLst, mPart, mSl, mPar, mPair, mDrop, mM1, mM0, mHere, M.chg, M.bind, M.ret, M.of, Ar.sl, Rs.get, Rs.sl, fIx, fI, fI0, fInt, fLen, setSl, isIo, isL, chg, onL, fSetIx, fApp, Sl.mut, Sl.upd, ioC, ioIx, env0, runF, mCall, rsv, wb, axIx, noIoA, xNil, xV, xSl, mIt, mListRg, mTupRg, fRg, List.length_cons, List.length_nil, List.map_cons, List.map_nil, List.cons_append, List.nil_append, List.replicate_succ, List.replicate_zero, List.append_nil, Nat.reduceAdd, Nat.reduceSub, List.getElem?_cons_zero, List.getElem?_cons_succ, List.getElem?_nil, List.set_cons_zero, List.set_cons_succ, Option.bind_some, Option.bind_none, Option.map_some, Option.map_none, Nat.reduceLT, Nat.reduceEqDiff, Nat.reduceLeDiff, decide_true, decide_false, Bool.and_true, Bool.true_and, Bool.and_false, Bool.false_and, Bool.not_true, Bool.not_false, ↓reduceIte, reduceCtorEq, Bool.false_eq_true, List.length_map, Nat.lt_add_left_iff_pos, Nat.zero_lt_succ, Nat.add_eq, Nat.zero_add, Nat.add_zero, Nat.zero_le, sz0, sz1, sz2, sz3, sz4, sz5, sz6, sz7, sz8, sz9, a4, a5, a6, a8]
        · generalize it f k x = p at *
          generalize it f (k + 1) x = p2 at *
          generalize seenD n (snk f sn x k) = q at *
          generalize ((List.range k).map fun j => I (it f j x)) = r at *
          generalize ((List.range n).map fun i => I (f i)) = xs at *
          simp only [b2_cycles_of, mSeq, mIfS, mThen, mTst, mOp, mIx, mPeek, mVar, mTake, mSet, mSetIx, mRet, mR, mV, mU, mG, mN, mRd2, mOpN, mAnd, mOr, mNot, mAndV, mOrV, mNotV, mIf, mNil, mCons, mTup, mLst, mPart, mSl, mPar, mPair, mDrop, mM1, mM0, mHere, M.chg, M.bind, M.ret, M.of, Ar.sl, Rs.get, Rs.sl, fIx, fI, fI0, fInt, fLen, setSl, isIo, isL, chg, onL, fSetIx, fApp, Sl.mut, Sl.upd, ioC, ioIx, env0, runF, mCall, rsv, wb, axIx, noIoA, xNil, xV, xSl, mIt, mListRg, mTupRg, fRg, List.length_cons, List.length_nil, List.map_cons, List.map_nil, List.cons_append, List.nil_append, List.replicate_succ, List.replicate_zero, List.append_nil, Nat.reduceAdd, Nat.reduceSub, List.getElem?_cons_zero, List.getElem?_cons_succ, List.getElem?_nil, List.set_cons_zero, List.set_cons_succ, Option.bind_some, Option.bind_none, Option.map_some, Option.map_none, Nat.reduceLT, Nat.reduceEqDiff, Nat.reduceLeDiff, decide_true, decide_false, Bool.and_true, Bool.true_and, Bool.and_false, Bool.false_and, Bool.not_true, Bool.not_false, ↓reduceIte, reduceCtorEq, Bool.false_eq_true, List.length_map, Nat.lt_add_left_iff_pos, Nat.zero_lt_succ, Nat.add_eq, Nat.zero_add, Nat.add_zero, Nat.zero_le, sz0, sz1, sz2, sz3, sz4, sz5, sz6, sz7, sz8, sz9, a4, a5, a6, a8])
    (fun env e => by
      subst e
      have hlt : it f L x < n := F.pm.it_lt hx L
      have a1 : L2.atI (seenD n (snk f sn x L)) (it f L x : Nat) = some (.bl (snk f sn x L (it f L x))) := at_map hlt
      have a2 : snk f sn x L (it f L x) = true := by
        unfold snk
        rw [show (List.range L).any (fun j => it f j x == it f L x) = true from List.any_eq_true.mpr ⟨0, List.mem_range.mpr hL.pos, by rw [hL.back]; exact beq_self_eq_true _⟩, Bool.or_true]
      rw [a2] at a1
      refine ⟨[.v d, s1, s2, .own (.lst (seenD n (snk f sn x L))), .own (.lst ((List.range L).map fun j => I (it f j x))), .v (I (it f L x))], ?_, ?_⟩
      · generalize it f L x = p at *
        generalize seenD n (snk f sn x L) = q at *
        simp only [t1_cycles_of, mSeq, mIfS, mThen, mTst, mOp, mIx, mPeek, mVar, mTake, mSet, mSetIx, mRet, mR, mV, mU, mG, mN, mRd2, mOpN, mAnd, mOr, mNot, mAndV, mOrV, mNotV, mIf, mNil, mCons, mTup, mLst, mPart, mSl, mPar, mPair, mDrop, mM1, mM0, mHere, M.chg, M.bind, M.ret, M.of, Ar.sl, Rs.get, Rs.sl, fIx, fI, fI0, fInt, fLen, setSl, isIo, isL, chg, onL, fSetIx, fApp, Sl.mut, Sl.upd, ioC, ioIx, env0, runF, mCall, rsv, wb, axIx, noIoA, xNil, xV, xSl, mIt, mListRg, mTupRg, fRg, List.length_cons, List.length_nil, List.map_cons, List.map_nil, List.cons_append, List.nil_append, List.replicate_succ, List.replicate_zero, List.append_nil, Nat.reduceAdd, Nat.reduceSub, List.getElem?_cons_zero, List.getElem?_cons_succ, List.getElem?_nil, List.set_cons_zero, List.set_cons_succ, Option.bind_some, Option.bind_none, Option.map_some, Option.map_none, Nat.reduceLT, Nat.reduceEqDiff, Nat.reduceLeDiff, decide_true, decide_false, Bool.and_true, Bool.true_and, Bool.and_false, Bool.false_and, Bool.not_true, Bool.not_false, ↓reduceIte, reduceCtorEq, Bool.false_eq_true, List.length_map, Nat.lt_add_left_iff_pos, Nat.zero_lt_succ, Nat.add_eq, Nat.zero_add, Nat.add_zero, Nat.zero_le, sz0, sz1, sz2, sz3, sz4, sz5, sz6, sz7, sz8, sz9, a1]
      · rw [Zp.orb_eq hL (by omega), List.map_map, hL.back]
        rfl) 0 fuel (Nat.zero_le _) (by show L - 0 < 1000; omega) [.v d, s1, s2, .own (.lst (seenD n sn)), .own (.lst []), .v (I x)] (by
      rw [show snk f sn x 0 = sn by funext y; unfold snk; rw [List.range_zero, List.any_nil, Bool.or_false]]
      rfl)
  rw [e1, e2]
end Zk04
end

section
set_option Elab.async false
set_option linter.all false
set_option maxRecDepth 100000
set_option maxHeartbeats 4000000
/-! k04: cycles_of, cycles. -/
namespace Zk04
open PySem L2 Z Zb Za
open Zp (it Pm orb walk mins cycs isMin)
def cyB (f : Nat → Nat) (n i : Nat) : List (List Nat) := ((List.range i).filter (isMin f n)).map (orb f n)
theorem cyB_succ (f : Nat → Nat) (n i : Nat) : cyB f n (i + 1) = cyB f n i ++ (if isMin f n i = true then [orb f n i] else []) := by
  unfold cyB
  rw [List.range_succ, List.filter_append, List.map_append]
  cases h : isMin f n i <;> simp [h]
theorem cyB_len (f : Nat → Nat) (n i : Nat) : (cyB f n i).length ≤ i := by
  unfold cyB
  rw [List.length_map]
  exact Nat.le_trans (List.length_filter_le _ _) (Nat.le_of_eq List.length_range)
def Junk (i : Nat) (s1 s4 s5 : Sl) : Prop := (i = 0 ∧ s1 = .no ∧ s4 = .no ∧ s5 = .no) ∨ ∃ a b c, s1 = .v a ∧ s4 = .own b ∧ s5 = .v c
theorem rep1 (n : Nat) (d : D) : (List.replicate n [d]).flatten = (List.range n).map fun _ => d := by
  induction n with
  | zero => rfl
  | succ n ih =>
    rw [List.replicate_succ', List.flatten_append, ih, List.range_succ, List.map_append]
    rfl
theorem rep_bl (n : Nat) (hn : n ≤ 1000) : fRep (.lst [.bl false]) (.int (n : Nat)) = some (.lst (seenD n fun _ => false)) := by
  have hrep : (List.replicate n [D.bl false]).flatten = seenD n fun _ => false := rep1 n _
  rw [← hrep]
  unfold fRep
  dsimp only
  rw [Int.toNat_natCast, decide_eq_true (show -1000000 ≤ ((n : Nat) : Int) by omega), decide_eq_true (show ((n : Nat) : Int) ≤ 1000000 by omega), sz_of (show [D.bl false].length * n ≤ 1000000 by show 1 * n ≤ 1000000; omega)]
  rfl
theorem okR_nat (n : Nat) (hn : n ≤ 1000) : okR (n : Nat) = true := by
  unfold okR
  rw [decide_eq_true (show -(2 ^ 61) ≤ ((n : Nat) : Int) by omega), decide_eq_true (show ((n : Nat) : Int) < 2 ^ 61 by omega)]
  rfl
theorem it_rng (n : Nat) (hn : n ≤ 1000) : itR1 (.int (n : Nat)) = some (rng n) := by
  have h := okR_nat n hn
  unfold itR1
  dsimp only
  generalize okR (n : Nat) = b at h ⊢
  rw [h, Int.toNat_natCast]
  rfl
theorem cyc_skip {d : D} {i : Nat} {s4 s5 : Sl} {q r : List D} (a1 : L2.atI r (i : Nat) = some (.bl true)) : b3_cycles_of [.v d, .v (I i), .own (.lst q), .own (.lst r), s4, s5] = some (.ct [.v d, .v (I i), .own (.lst q), .own (.lst r), s4, s5]) := by
  simp only [b3_cycles_of, mSeq, mIfS, mThen, mTst, mOp, mIx, mPeek, mVar, mTake, mSet, mSetIx, mRet, mR, mV, mU, mG, mN, mRd2, mOpN, mAnd, mOr, mNot, mAndV, mOrV, mNotV, mIf, mNil, mCons, mTup, mLst, mPart, mSl, mPar, mPair, mDrop, mM1, mM0, mHere, M.chg, M.bind, M.ret, M.of, Ar.sl, Rs.get, Rs.sl, fIx, fI, fI0, fInt, fLen, setSl, isIo, isL, chg, onL, fSetIx, fApp, Sl.mut, Sl.upd, ioC, ioIx, env0, runF, mCall, rsv, wb, axIx, noIoA, xNil, xV, xSl, mIt, mListRg, mTupRg, fRg, List.length_cons, List.length_nil, List.map_cons, List.map_nil, List.cons_append, List.nil_append, List.replicate_succ, List.replicate_zero, List.append_nil, Nat.reduceAdd, Nat.reduceSub, List.getElem?_cons_zero, List.getElem?_cons_succ, List.getElem?_nil, List.set_cons_zero, List.set_cons_succ, Option.bind_some, Option.bind_none, Option.map_some, Option.map_none, Nat.reduceLT, Nat.reduceEqDiff, Nat.reduceLeDiff, decide_true, decide_false, Bool.and_true, Bool.true_and, Bool.and_false, Bool.false_and, Bool.not_true, Bool.not_false, ↓reduceIte, reduceCtorEq, Bool.false_eq_true, List.length_map, Nat.lt_add_left_iff_pos, Nat.zero_lt_succ, Nat.add_eq, Nat.zero_add, Nat.add_zero, Nat.zero_le, sz0, sz1, sz2, sz3, sz4, sz5, sz6, sz7, sz8, sz9, a1, mCnt]
theorem cyc_take {d : D} {i : Nat} {s4 s5 : Sl} {q r r2 c : List D} (a1 : L2.atI r (i : Nat) = some (.bl false)) {i0 : Nat} {s1 : Sl} (hj : Junk i0 s1 s4 s5) (hsz : szOk q.length = true)
    (w : whL t1_cycles_of b2_cycles_of fuel [.v d, .v (I i), .own (.lst q), .own (.lst r), .own (.lst []), .v (I i)] = some (.nx [.v d, .v (I i), .own (.lst q), .own (.lst r2), .own (.lst c), .v (I i)])) :
    b3_cycles_of [.v d, .v (I i), .own (.lst q), .own (.lst r), s4, s5] = some (.nx [.v d, .v (I i), .own (.lst (q ++ [.tup c])), .own (.lst r2), .own (.lst c), .v (I i)]) := by
  unfold b3_cycles_of
  generalize whL t1_cycles_of b2_cycles_of fuel = W at w ⊢
  have hap : fApp (.tup c) q = some (.non, q ++ [.tup c]) := by
    unfold fApp
    rw [hsz]
    rfl
  generalize fApp = ap at hap ⊢
  rcases hj with ⟨_, rfl, rfl, rfl⟩ | ⟨a, b, e, rfl, rfl, rfl⟩
  · simp only [mSeq, mIfS, mThen, mTst, mOp, mIx, mPeek, mVar, mTake, mSet, mSetIx, mRet, mR, mV, mU, mG, mN, mRd2, mOpN, mAnd, mOr, mNot, mAndV, mOrV, mNotV, mIf, mNil, mCons, mTup, mLst, mPart, mSl, mPar, mPair, mDrop, mM1, mM0, mHere, M.chg, M.bind, M.ret, M.of, Ar.sl, Rs.get, Rs.sl, fIx, fI, fI0, fInt, fLen, setSl, isIo, isL, chg, onL, fSetIx, fApp, Sl.mut, Sl.upd, ioC, ioIx, env0, runF, mCall, rsv, wb, axIx, noIoA, xNil, xV, xSl, mIt, mListRg, mTupRg, fRg, List.length_cons, List.length_nil, List.map_cons, List.map_nil, List.cons_append, List.nil_append, List.replicate_succ, List.replicate_zero, List.append_nil, Nat.reduceAdd, Nat.reduceSub, List.getElem?_cons_zero, List.getElem?_cons_succ, List.getElem?_nil, List.set_cons_zero, List.set_cons_succ, Option.bind_some, Option.bind_none, Option.map_some, Option.map_none, Nat.reduceLT, Nat.reduceEqDiff, Nat.reduceLeDiff, decide_true, decide_false, Bool.and_true, Bool.true_and, Bool.and_false, Bool.false_and, Bool.not_true, Bool.not_false, ↓reduceIte, reduceCtorEq, Bool.false_eq_true, List.length_map, Nat.lt_add_left_iff_pos, Nat.zero_lt_succ, Nat.add_eq, Nat.zero_add, Nat.add_zero, Nat.zero_le, sz0, sz1, sz2, sz3, sz4, sz5, sz6, sz7, sz8, sz9, a1, mNext, w, fTuple, hap]
  · simp only [mSeq, mIfS, mThen, mTst, mOp, mIx, mPeek, mVar, mTake, mSet, mSetIx, mRet, mR, mV, mU, mG, mN, mRd2, mOpN, mAnd, mOr, mNot, mAndV, mOrV, mNotV, mIf, mNil, mCons, mTup, mLst, mPart, mSl, mPar, mPair, mDrop, mM1, mM0, mHere, M.chg, M.bind, M.ret, M.of, Ar.sl, Rs.get, Rs.sl, fIx, fI, fI0, fInt, fLen, setSl, isIo, isL, chg, onL, fSetIx, fApp, Sl.mut, Sl.upd, ioC, ioIx, env0, runF, mCall, rsv, wb, axIx, noIoA, xNil, xV, xSl, mIt, mListRg, mTupRg, fRg, List.length_cons, List.length_nil, List.map_cons, List.map_nil, List.cons_append, List.nil_append, List.replicate_succ, List.replicate_zero, List.append_nil, Nat.reduceAdd, Nat.reduceSub, List.getElem?_cons_zero, List.getElem?_cons_succ, List.getElem?_nil, List.set_cons_zero, List.set_cons_succ, Option.bind_some, Option.bind_none, Option.map_some, Option.map_none, Nat.reduceLT, Nat.reduceEqDiff, Nat.reduceLeDiff, decide_true, decide_false, Bool.and_true, Bool.true_and, Bool.and_false, Bool.false_and, Bool.not_true, Bool.not_false, ↓reduceIte, reduceCtorEq, Bool.false_eq_true, List.length_map, Nat.lt_add_left_iff_pos, Nat.zero_lt_succ, Nat.add_eq, Nat.zero_add, Nat.add_zero, Nat.zero_le, sz0, sz1, sz2, sz3, sz4, sz5, sz6, sz7, sz8, sz9, a1, mNext, w, fTuple, hap]
theorem cyc_all {d : D} {n : Nat} {q r r0 rr : List D} {s1 s4 s5 : Sl} {frp : D → D → Option D} {it1 : D → Option (List D)} (hl : fLen d = some (.int (n : Nat))) (hfr : frp (.lst [.bl false]) (.int (n : Nat)) = some (.lst r0)) (hrg : it1 (.int (n : Nat)) = some rr)
    (w1 : forL (gN 1) b3_cycles_of rr [.v d, .no, .own (.lst []), .own (.lst r0), .no, .no] = some (.nx [.v d, s1, .own (.lst q), .own (.lst r), s4, s5])) :
    runF 6 (mSeq (mPar 2 3 (mPair (mLst mNil) (mOpN frp (mLst (mCons (M.ret (.bl false)) mNil)) (mR (mG fLen (mPeek 0))))))
      (mSeq (mFor (mIt it1 (mG fLen (mPeek 0))) (gN 1) b3_cycles_of)
      (mRet (mR (mG fTuple (mPeek 2)))))) [.v d] = some (.rt (.v (.tup q)) none) := by
  generalize fLen = fl at *
  simp only [mFor, mSeq, mIfS, mThen, mTst, mOp, mIx, mPeek, mVar, mTake, mSet, mSetIx, mRet, mR, mV, mU, mG, mN, mRd2, mOpN, mAnd, mOr, mNot, mAndV, mOrV, mNotV, mIf, mNil, mCons, mTup, mLst, mPart, mSl, mPar, mPair, mDrop, mM1, mM0, mHere, M.chg, M.bind, M.ret, M.of, Ar.sl, Rs.get, Rs.sl, fIx, fI, fI0, fInt, fLen, setSl, isIo, isL, chg, onL, fSetIx, fApp, Sl.mut, Sl.upd, ioC, ioIx, env0, runF, mCall, rsv, wb, axIx, noIoA, xNil, xV, xSl, mIt, mListRg, mTupRg, fRg, List.length_cons, List.length_nil, List.map_cons, List.map_nil, List.cons_append, List.nil_append, List.replicate_succ, List.replicate_zero, List.append_nil, Nat.reduceAdd, Nat.reduceSub, List.getElem?_cons_zero, List.getElem?_cons_succ, List.getElem?_nil, List.set_cons_zero, List.set_cons_succ, Option.bind_some, Option.bind_none, Option.map_some, Option.map_none, Nat.reduceLT, Nat.reduceEqDiff, Nat.reduceLeDiff, decide_true, decide_false, Bool.and_true, Bool.true_and, Bool.and_false, Bool.false_and, Bool.not_true, Bool.not_false, ↓reduceIte, reduceCtorEq, Bool.false_eq_true, List.length_map, Nat.lt_add_left_iff_pos, Nat.zero_lt_succ, Nat.add_eq, Nat.zero_add, Nat.add_zero, Nat.zero_le, sz0, sz1, sz2, sz3, sz4, sz5, sz6, sz7, sz8, sz9, hl, hfr, hrg, w1, fTuple]
theorem cycles_of_fg {d : D} {f : Nat → Nat} {n : Nat} (F : Fg d f n) : F_cycles_of [.v d] = some (.rt (.v (.tup ((cycs f n).map tupN))) none) := by
  have hn8 : n ≤ 8 := by have := F.sz; omega
  obtain ⟨env', w1, s1, s4, s5, sn, _, _, rfl⟩ := forL_inv (t := gN 1) (b := b3_cycles_of) (ds := rng n) (k := 0)
    (I := fun i env => ∃ s1 s4 s5 sn, (∀ y, y < n → (sn y = true ↔ ∃ m, m < i ∧ m < n ∧ isMin f n m = true ∧ Zp.Rel f m y)) ∧ Junk i s1 s4 s5 ∧ env = [.v d, s1, .own (.lst ((cyB f n i).map tupN)), .own (.lst (seenD n sn)), s4, s5])
    (fun i x env hx ⟨s1, s4, s5, sn, hsn, hj, e⟩ => by
      rw [Nat.zero_add] at *
      have hi : i < n := by
        have := (List.getElem?_eq_some_iff.mp hx).1
        rw [rng_len] at this
        exact this
      have ex : x = I i := by
        rw [rng_eq, List.getElem?_map, List.getElem?_range hi] at hx
        exact (Option.some.inj hx).symm
      subst ex
      subst e
      have a1 : L2.atI (seenD n sn) (i : Nat) = some (.bl (sn i)) := at_map hi
      cases hs : sn i with
      | true =>
        rw [hs] at a1
        have hm : isMin f n i = false := by
          cases h : isMin f n i with
          | false => rfl
          | true =>
            obtain ⟨m, m1, m2, m3, m4⟩ := (hsn i hi).mp hs
            have := F.pm.min_uniq m2 hi m3 h m4 (.refl i)
            omega
        refine ⟨[.v d, .v (I i), .own (.lst ((cyB f n i).map tupN)), .own (.lst (seenD n sn)), s4, s5], [.v d, .v (I i), .own (.lst ((cyB f n i).map tupN)), .own (.lst (seenD n sn)), s4, s5], ?_, .inr ?_, .v (I i), s4, s5, sn, fun y hy => ?_, ?_, ?_⟩
        · rcases hj with ⟨hi0, rfl, rfl, rfl⟩ | ⟨a, b, c, rfl, rfl, rfl⟩ <;> rfl
        · exact cyc_skip a1
        · rw [hsn y hy]
          constructor
          · rintro ⟨m, m1, m2⟩
            exact ⟨m, by omega, m2⟩
          · rintro ⟨m, m1, m2, m3, m4⟩
            refine ⟨m, ?_, m2, m3, m4⟩
            rcases Nat.lt_or_ge m i with h | h
            · exact h
            · have : m = i := by omega
              subst this
              rw [hm] at m3
              cases m3
        · rcases hj with ⟨hi0, rfl, rfl, rfl⟩ | ⟨a, b, c, rfl, rfl, rfl⟩
          · exfalso
            obtain ⟨m, m1, _⟩ := (hsn i hi).mp hs
            omega
          · exact .inr ⟨_, _, _, rfl, rfl, rfl⟩
        · rw [cyB_succ, hm]
          simp only [Bool.false_eq_true, ↓reduceIte, List.append_nil]
      | false =>
        rw [hs] at a1
        have hm : isMin f n i = true := by
          obtain ⟨m, m1, m2, m3, m4⟩ := F.pm.min_ex i hi
          rcases Nat.lt_or_ge m i with h | h
          · have := (hsn i hi).mpr ⟨m, h, m1, m3, m4⟩
            rw [hs] at this
            cases this
          · have : m = i := by omega
            rw [← this]
            exact m3
        obtain ⟨L, l1, l2⟩ := F.pm.per hi
        have w := one_cycle F (sn := sn) (s1 := .v (I i)) (s2 := .own (.lst ((cyB f n i).map tupN))) hi l2 l1 (fun y hy => by
          cases h : sn y with
          | false => rfl
          | true =>
            have hyn := F.pm.rel_lt hi hy
            obtain ⟨m, m1, m2, m3, m4⟩ := (hsn y hyn).mp h
            have := (hsn i hi).mpr ⟨m, m1, m2, m3, m4.trans (hy.symm F.pm hi)⟩
            rw [hs] at this
            cases this)
        have hsz : szOk ((cyB f n i).map tupN).length = true := sz_of (by
          rw [List.length_map]
          have := cyB_len f n i
          omega)
        refine ⟨[.v d, .v (I i), .own (.lst ((cyB f n i).map tupN)), .own (.lst (seenD n sn)), s4, s5], [.v d, .v (I i), .own (.lst ((cyB f n i).map tupN ++ [tupN (orb f n i)])), .own (.lst (seenD n (snk f sn i L))), .own (.lst ((orb f n i).map I)), .v (I i)], ?_, .inl ?_, .v (I i), .own (.lst ((orb f n i).map I)), .v (I i), snk f sn i L, fun y hy => ?_, .inr ⟨I i, .lst ((orb f n i).map I), I i, rfl, rfl, rfl⟩, ?_⟩
        · rcases hj with ⟨hi0, rfl, rfl, rfl⟩ | ⟨a, b, c, rfl, rfl, rfl⟩ <;> rfl
        · exact cyc_take a1 hj hsz w
        · unfold snk
          rw [Bool.or_eq_true, hsn y hy, List.any_eq_true]
          constructor
          · rintro (⟨m, m1, m2⟩ | ⟨j, _, e⟩)
            · exact ⟨m, by omega, m2⟩
            · exact ⟨i, by omega, hi, hm, j, eq_of_beq e⟩
          · rintro ⟨m, m1, m2, m3, m4⟩
            rcases Nat.lt_or_ge m i with h | h
            · exact .inl ⟨m, h, m2, m3, m4⟩
            · have : m = i := by omega
              subst this
              obtain ⟨k, e⟩ := m4
              refine .inr ⟨k % L, List.mem_range.mpr (Nat.mod_lt _ l2.pos), ?_⟩
              rw [← l2.mod, e]
              exact beq_self_eq_true _
        · rw [cyB_succ, hm]
          simp only [↓reduceIte, List.map_append, List.map_cons, List.map_nil])
    [.v d, .no, .own (.lst []), .own (.lst (seenD n fun _ => false)), .no, .no] ⟨.no, .no, .no, fun _ => false, fun y _ => ⟨fun h => (nomatch h), fun ⟨m, h, _⟩ => absurd h (Nat.not_lt_zero m)⟩, .inl ⟨rfl, rfl, rfl, rfl⟩, rfl⟩
  rw [rng_len, Nat.zero_add] at w1
  have hl : ((List.range n).map fun i => I (f i)).length = n := by rw [List.length_map, List.length_range]
  have hfr := rep_bl n (by omega)
  have hrg := it_rng n (by omega)
  have hfl : fLen d = some (.int (n : Nat)) := by
    rcases F.eq with rfl | rfl
    · exact congrArg (fun x : Nat => some (D.int x)) hl
    · exact congrArg (fun x : Nat => some (D.int x)) hl
  exact cyc_all hfl hfr hrg w1
end Zk04
end

section
set_option Elab.async false
set_option linter.all false
set_option maxRecDepth 100000
set_option maxHeartbeats 4000000
/-! k04: cycles, the law's own cycles. -/
namespace Zk04
open PySem L2 Z Zb Za
open Zp (it Pm orb walk mins cycs isMin)
theorem cycles_fg {d : D} {f : Nat → Nat} {n : Nat} (F : Fg d f n) : F_cycles [.v d] = some (.rt (.v (.tup ((cycs f n).map tupN))) none) := by
  have h1 := need_figure_fg F
  have h2 := cycles_of_fg F
  unfold F_cycles m_cycles
  generalize F_need_figure = A at h1 ⊢
  generalize F_cycles_of = B at h2 ⊢
  generalize (cycs f n).map tupN = q at h2 ⊢
  simp only [mkF, mSeq, mIfS, mThen, mTst, mOp, mIx, mPeek, mVar, mTake, mSet, mSetIx, mRet, mR, mV, mU, mG, mN, mRd2, mOpN, mAnd, mOr, mNot, mAndV, mOrV, mNotV, mIf, mNil, mCons, mTup, mLst, mPart, mSl, mPar, mPair, mDrop, mM1, mM0, mHere, M.chg, M.bind, M.ret, M.of, Ar.sl, Rs.get, Rs.sl, fIx, fI, fI0, fInt, fLen, setSl, isIo, isL, chg, onL, fSetIx, fApp, Sl.mut, Sl.upd, ioC, ioIx, env0, runF, mCall, rsv, wb, axIx, noIoA, xNil, xV, xSl, mIt, mListRg, mTupRg, fRg, List.length_cons, List.length_nil, List.map_cons, List.map_nil, List.cons_append, List.nil_append, List.replicate_succ, List.replicate_zero, List.append_nil, Nat.reduceAdd, Nat.reduceSub, List.getElem?_cons_zero, List.getElem?_cons_succ, List.getElem?_nil, List.set_cons_zero, List.set_cons_succ, Option.bind_some, Option.bind_none, Option.map_some, Option.map_none, Nat.reduceLT, Nat.reduceEqDiff, Nat.reduceLeDiff, decide_true, decide_false, Bool.and_true, Bool.true_and, Bool.and_false, Bool.false_and, Bool.not_true, Bool.not_false, ↓reduceIte, reduceCtorEq, Bool.false_eq_true, List.length_map, Nat.lt_add_left_iff_pos, Nat.zero_lt_succ, Nat.add_eq, Nat.zero_add, Nat.add_zero, Nat.zero_le, sz0, sz1, sz2, sz3, sz4, sz5, sz6, sz7, sz8, sz9, h1, h2]
theorem Fg.len {d : D} {f : Nat → Nat} {n : Nat} (F : Fg d f n) : fLen d = some (.int (n : Nat)) := by
  have hl : ((List.range n).map fun i => I (f i)).length = n := by rw [List.length_map, List.length_range]
  rcases F.eq with rfl | rfl
  · exact congrArg (fun x : Nat => some (D.int x)) hl
  · exact congrArg (fun x : Nat => some (D.int x)) hl
theorem Fg.ix {d : D} {f : Nat → Nat} {n : Nat} (F : Fg d f n) {i : Nat} (hi : i < n) : fIx d (.int (i : Nat)) = some (I (f i)) := by
  rcases F.eq with rfl | rfl
  · exact at_map hi
  · exact at_map hi
theorem ints_of (l : List Nat) : allOf inOf (l.map I) = some (l.map fun i => ((i : Nat) : Int)) := by
  induction l with
  | nil => rfl
  | cons a l ih =>
    rw [List.map_cons, allOf, ih]
    rfl
theorem foldl_le : ∀ (r : List Int) (i : Int), r.foldl (fun a b => if b < a then b else a) i ≤ i ∧ (∀ y ∈ r, r.foldl (fun a b => if b < a then b else a) i ≤ y) ∧ (r.foldl (fun a b => if b < a then b else a) i = i ∨ r.foldl (fun a b => if b < a then b else a) i ∈ r)
  | [], i => ⟨Int.le_refl _, fun _ h => (nomatch h), .inl rfl⟩
  | j :: r, i => by
    rw [List.foldl_cons]
    obtain ⟨h1, h2, h3⟩ := foldl_le r (if j < i then j else i)
    by_cases e : j < i
    · rw [if_pos e] at h1 h2 h3 ⊢
      refine ⟨by omega, fun y hy => ?_, .inr ?_⟩
      · rcases List.mem_cons.mp hy with rfl | hy
        · exact h1
        · exact h2 y hy
      · rcases h3 with h3 | h3
        · rw [h3]; exact List.mem_cons_self
        · exact List.mem_cons_of_mem _ h3
    · rw [if_neg e] at h1 h2 h3 ⊢
      refine ⟨h1, fun y hy => ?_, ?_⟩
      · rcases List.mem_cons.mp hy with rfl | hy
        · omega
        · exact h2 y hy
      · rcases h3 with h3 | h3
        · exact .inl h3
        · exact .inr (List.mem_cons_of_mem _ h3)
def mnF (l : List Nat) (x : Nat) : Int := (l.map fun i : Nat => (i : Int)).foldl (fun a b => if b < a then b else a) ((x : Nat) : Int)
theorem min_orb {f : Nat → Nat} {n x : Nat} : ∃ m : Int, fMinL (.lst ((orb f n x).map I)) = some (.int m) ∧ decide (m = (x : Nat)) = isMin f n x := by
  refine ⟨mnF (walk f x n (f x)) x, ?_, ?_⟩
  · unfold fMinL
    dsimp only
    rw [ints_of]
    rfl
  · obtain ⟨h1, h2, h3⟩ := foldl_le ((walk f x n (f x)).map fun i : Nat => (i : Int)) ((x : Nat) : Int)
    change mnF (walk f x n (f x)) x ≤ _ at h1
    change ∀ y ∈ _, mnF (walk f x n (f x)) x ≤ y at h2
    change mnF (walk f x n (f x)) x = _ ∨ mnF (walk f x n (f x)) x ∈ _ at h3
    generalize mnF (walk f x n (f x)) x = m at h1 h2 h3 ⊢
    cases hm : isMin f n x with
    | true =>
      refine decide_eq_true ?_
      unfold isMin at hm
      rw [List.all_eq_true] at hm
      rcases h3 with h3 | h3
      · exact h3
      · obtain ⟨y, hy, hym⟩ := List.mem_map.mp h3
        have := of_decide_eq_true (hm y (List.mem_cons_of_mem _ hy))
        omega
    | false =>
      refine decide_eq_false fun e => ?_
      subst e
      have : isMin f n x = true := by
        unfold isMin
        rw [List.all_eq_true]
        intro y hy
        refine decide_eq_true ?_
        rcases List.mem_cons.mp hy with rfl | hy
        · exact Nat.le_refl _
        · have := h2 _ (List.mem_map.mpr ⟨y, hy, rfl⟩)
          omega
      rw [hm] at this
      cases this
theorem lc_t {d : D} {r : List D} {x a k : Nat} {s1 : Sl} {b : Bool} (hne : fNe (.int (a : Nat)) (.int (x : Nat)) = some (.bl b)) (hl : r.length = k) (hk : k < 9) : t1__law_cycles [.v d, s1, .v (I x), .own (.lst r), .v (I a)] = some (.ok b [.v d, s1, .v (I x), .own (.lst r), .v (I a)]) := by
  have h9 : decide ((k : Int) < 9) = true := decide_eq_true (by omega)
  unfold t1__law_cycles
  generalize fNe = ne at hne ⊢
  cases b with
  | true => simp only [mSeq, mIfS, mThen, mTst, mOp, mIx, mPeek, mVar, mTake, mSet, mSetIx, mRet, mR, mV, mU, mG, mN, mRd2, mOpN, mAnd, mOr, mNot, mAndV, mOrV, mNotV, mIf, mNil, mCons, mTup, mLst, mPart, mSl, mPar, mPair, mDrop, mM1, mM0, mHere, M.chg, M.bind, M.ret, M.of, Ar.sl, Rs.get, Rs.sl, fIx, fI, fI0, fInt, fLen, setSl, isIo, isL, chg, onL, fSetIx, fApp, Sl.mut, Sl.upd, ioC, ioIx, env0, runF, mCall, rsv, wb, axIx, noIoA, xNil, xV, xSl, mIt, mListRg, mTupRg, fRg, List.length_cons, List.length_nil, List.map_cons, List.map_nil, List.cons_append, List.nil_append, List.replicate_succ, List.replicate_zero, List.append_nil, Nat.reduceAdd, Nat.reduceSub, List.getElem?_cons_zero, List.getElem?_cons_succ, List.getElem?_nil, List.set_cons_zero, List.set_cons_succ, Option.bind_some, Option.bind_none, Option.map_some, Option.map_none, Nat.reduceLT, Nat.reduceEqDiff, Nat.reduceLeDiff, decide_true, decide_false, Bool.and_true, Bool.true_and, Bool.and_false, Bool.false_and, Bool.not_true, Bool.not_false, ↓reduceIte, reduceCtorEq, Bool.false_eq_true, List.length_map, Nat.lt_add_left_iff_pos, Nat.zero_lt_succ, Nat.add_eq, Nat.zero_add, Nat.add_zero, Nat.zero_le, sz0, sz1, sz2, sz3, sz4, sz5, sz6, sz7, sz8, sz9, hne, hl, h9]
  | false => simp only [mSeq, mIfS, mThen, mTst, mOp, mIx, mPeek, mVar, mTake, mSet, mSetIx, mRet, mR, mV, mU, mG, mN, mRd2, mOpN, mAnd, mOr, mNot, mAndV, mOrV, mNotV, mIf, mNil, mCons, mTup, mLst, mPart, mSl, mPar, mPair, mDrop, mM1, mM0, mHere, M.chg, M.bind, M.ret, M.of, Ar.sl, Rs.get, Rs.sl, fIx, fI, fI0, fInt, fLen, setSl, isIo, isL, chg, onL, fSetIx, fApp, Sl.mut, Sl.upd, ioC, ioIx, env0, runF, mCall, rsv, wb, axIx, noIoA, xNil, xV, xSl, mIt, mListRg, mTupRg, fRg, List.length_cons, List.length_nil, List.map_cons, List.map_nil, List.cons_append, List.nil_append, List.replicate_succ, List.replicate_zero, List.append_nil, Nat.reduceAdd, Nat.reduceSub, List.getElem?_cons_zero, List.getElem?_cons_succ, List.getElem?_nil, List.set_cons_zero, List.set_cons_succ, Option.bind_some, Option.bind_none, Option.map_some, Option.map_none, Nat.reduceLT, Nat.reduceEqDiff, Nat.reduceLeDiff, decide_true, decide_false, Bool.and_true, Bool.true_and, Bool.and_false, Bool.false_and, Bool.not_true, Bool.not_false, ↓reduceIte, reduceCtorEq, Bool.false_eq_true, List.length_map, Nat.lt_add_left_iff_pos, Nat.zero_lt_succ, Nat.add_eq, Nat.zero_add, Nat.add_zero, Nat.zero_le, sz0, sz1, sz2, sz3, sz4, sz5, sz6, sz7, sz8, sz9, hne, hl, h9]
theorem lc_b {d : D} {r r2 : List D} {x a a2 : Nat} {s1 : Sl} (hix : fIx d (.int (a : Nat)) = some (I a2)) (hap : fApp (I a) r = some (.non, r2)) : b2__law_cycles [.v d, s1, .v (I x), .own (.lst r), .v (I a)] = some (.nx [.v d, s1, .v (I x), .own (.lst r2), .v (I a2)]) := by
  unfold b2__law_cycles mIx
  generalize fIx = ix at hix ⊢
  generalize fApp = ap at hap ⊢
  simp only [mSeq, mThen, mDrop, mM1, mHere, isL, mVar, M.bind, M.of, M.chg, chg, onL, Sl.mut, Sl.upd, mSet, mR, M.ret, Rs.sl, setSl, isIo, mPeek, Rs.get, hix, hap, List.length_cons, List.length_nil, Nat.reduceAdd, Nat.reduceLT, decide_true, Bool.not_false, Bool.and_true, Bool.true_and, ↓reduceIte, List.getElem?_cons_zero, List.getElem?_cons_succ, List.set_cons_zero, List.set_cons_succ, Option.bind_some, Bool.and_self]
theorem lc_walk {d : D} {f : Nat → Nat} {n : Nat} (F : Fg d f n) {x : Nat} {s1 : Sl} (hx : x < n) :
    whL t1__law_cycles b2__law_cycles fuel [.v d, s1, .v (I x), .own (.lst [I x]), .v (I (f x))] = some (.nx [.v d, s1, .v (I x), .own (.lst ((orb f n x).map I)), .v (I x)]) := by
  have hn8 : n ≤ 8 := by have := F.sz; omega
  obtain ⟨L, l1, hL⟩ := F.pm.per hx
  obtain ⟨env', e1, e2⟩ := whL_inv (t := t1__law_cycles) (b := b2__law_cycles) (n := L)
    (I := fun k env => 1 ≤ k ∧ env = [.v d, s1, .v (I x), .own (.lst ((List.range k).map fun j => I (it f j x))), .v (I (it f k x))])
    (J := fun env => env = [.v d, s1, .v (I x), .own (.lst ((orb f n x).map I)), .v (I x)])
    (fun k env hk ⟨h1, e⟩ => by
      subst e
      have hlt : it f k x < n := F.pm.it_lt hx k
      have hne : fNe (.int (it f k x : Nat)) (.int (x : Nat)) = some (.bl true) := by
        rw [fNe_int, decide_eq_false]
        · rfl
        · have := hL.least k h1 hk
          omega
      have hap : fApp (I (it f k x)) ((List.range k).map fun j => I (it f j x)) = some (.non, (List.range (k + 1)).map fun j => I (it f j x)) := by
        unfold fApp
        rw [sz_of (show ((List.range k).map fun j => I (it f j x)).length ≤ 1000000 by rw [List.length_map, List.length_range]; omega), List.range_succ, List.map_append]
        rfl
      exact ⟨_, _, lc_t hne (by rw [List.length_map, List.length_range]) (by omega), .inl (lc_b (F.ix hlt) hap), by omega, rfl⟩)
    (fun env ⟨h1, e⟩ => by
      subst e
      have hne : fNe (.int (it f L x : Nat)) (.int (x : Nat)) = some (.bl false) := by
        rw [fNe_int, hL.back, decide_eq_true rfl]
        rfl
      refine ⟨_, lc_t hne (by rw [List.length_map, List.length_range]) (by omega), ?_⟩
      rw [Zp.orb_eq hL (by omega), List.map_map, hL.back]
      rfl) 1 fuel hL.pos (by show L - 1 < 1000; omega) [.v d, s1, .v (I x), .own (.lst [I x]), .v (I (f x))] ⟨Nat.le_refl _, rfl⟩
  rw [e1, e2]
def Junk2 (s2 s3 s4 : Sl) : Prop := (s2 = .no ∧ s3 = .no ∧ s4 = .no) ∨ ∃ a b c, s2 = .v a ∧ s3 = .own b ∧ s4 = .v c
theorem lcy_body {d mi : D} {x : Nat} {s3 s4 : Sl} {q q2 c : List D} {fx : Nat} {b : Bool} {s2 : Sl} (hj : Junk2 s2 s3 s4) (hix : fIx d (.int (x : Nat)) = some (I fx)) (hmin : fMinL (.lst c) = some mi) (heq : fEq mi (.int (x : Nat)) = some (.bl b)) (hap : fApp (.tup c) q = some (.non, q2))
    (w : whL t1__law_cycles b2__law_cycles fuel [.v d, .own (.lst q), .v (I x), .own (.lst [I x]), .v (I fx)] = some (.nx [.v d, .own (.lst q), .v (I x), .own (.lst c), .v (I x)])) :
    b3__law_cycles [.v d, .own (.lst q), .v (I x), s3, s4] = some (.nx [.v d, .own (.lst (if b then q2 else q)), .v (I x), .own (.lst c), .v (I x)]) := by
  unfold b3__law_cycles mIx
  generalize whL t1__law_cycles b2__law_cycles fuel = W at w ⊢
  generalize fIx = ix at hix ⊢
  generalize fMinL = fm at hmin ⊢
  generalize fEq = fe at heq ⊢
  generalize fApp = ap at hap ⊢
  rcases hj with ⟨rfl, rfl, rfl⟩ | ⟨a, b', e, rfl, rfl, rfl⟩
  · cases b with
    | true => simp only [mSeq, mIfS, mThen, mTst, mOp, mPeek, mVar, mTake, mSet, mSetIx, mRet, mR, mV, mU, mG, mN, mRd2, mOpN, mAnd, mOr, mNot, mAndV, mOrV, mNotV, mIf, mNil, mCons, mTup, mLst, mPart, mSl, mPar, mPair, mDrop, mM1, mM0, mHere, M.chg, M.bind, M.ret, M.of, Ar.sl, Rs.get, Rs.sl, setSl, isIo, isL, chg, onL, fSetIx, Sl.mut, Sl.upd, ioC, ioIx, env0, runF, mCall, rsv, wb, axIx, noIoA, xNil, xV, xSl, mIt, mListRg, mTupRg, List.length_cons, List.length_nil, List.map_cons, List.map_nil, List.cons_append, List.nil_append, List.replicate_succ, List.replicate_zero, List.append_nil, Nat.reduceAdd, Nat.reduceSub, List.getElem?_cons_zero, List.getElem?_cons_succ, List.getElem?_nil, List.set_cons_zero, List.set_cons_succ, Option.bind_some, Option.bind_none, Option.map_some, Option.map_none, Nat.reduceLT, Nat.reduceEqDiff, Nat.reduceLeDiff, decide_true, decide_false, Bool.and_true, Bool.true_and, Bool.and_false, Bool.false_and, Bool.not_true, Bool.not_false, ↓reduceIte, reduceCtorEq, Bool.false_eq_true, List.length_map, Nat.lt_add_left_iff_pos, Nat.zero_lt_succ, Nat.add_eq, Nat.zero_add, Nat.add_zero, Nat.zero_le, sz0, sz1, sz2, sz3, sz4, sz5, sz6, sz7, sz8, sz9, mIx, hix, hmin, heq, hap, w, fTuple, mNext]
    | false => simp only [mSeq, mIfS, mThen, mTst, mOp, mPeek, mVar, mTake, mSet, mSetIx, mRet, mR, mV, mU, mG, mN, mRd2, mOpN, mAnd, mOr, mNot, mAndV, mOrV, mNotV, mIf, mNil, mCons, mTup, mLst, mPart, mSl, mPar, mPair, mDrop, mM1, mM0, mHere, M.chg, M.bind, M.ret, M.of, Ar.sl, Rs.get, Rs.sl, setSl, isIo, isL, chg, onL, fSetIx, Sl.mut, Sl.upd, ioC, ioIx, env0, runF, mCall, rsv, wb, axIx, noIoA, xNil, xV, xSl, mIt, mListRg, mTupRg, List.length_cons, List.length_nil, List.map_cons, List.map_nil, List.cons_append, List.nil_append, List.replicate_succ, List.replicate_zero, List.append_nil, Nat.reduceAdd, Nat.reduceSub, List.getElem?_cons_zero, List.getElem?_cons_succ, List.getElem?_nil, List.set_cons_zero, List.set_cons_succ, Option.bind_some, Option.bind_none, Option.map_some, Option.map_none, Nat.reduceLT, Nat.reduceEqDiff, Nat.reduceLeDiff, decide_true, decide_false, Bool.and_true, Bool.true_and, Bool.and_false, Bool.false_and, Bool.not_true, Bool.not_false, ↓reduceIte, reduceCtorEq, Bool.false_eq_true, List.length_map, Nat.lt_add_left_iff_pos, Nat.zero_lt_succ, Nat.add_eq, Nat.zero_add, Nat.add_zero, Nat.zero_le, sz0, sz1, sz2, sz3, sz4, sz5, sz6, sz7, sz8, sz9, mIx, hix, hmin, heq, hap, w, fTuple, mNext]
  · cases b with
    | true => simp only [mSeq, mIfS, mThen, mTst, mOp, mPeek, mVar, mTake, mSet, mSetIx, mRet, mR, mV, mU, mG, mN, mRd2, mOpN, mAnd, mOr, mNot, mAndV, mOrV, mNotV, mIf, mNil, mCons, mTup, mLst, mPart, mSl, mPar, mPair, mDrop, mM1, mM0, mHere, M.chg, M.bind, M.ret, M.of, Ar.sl, Rs.get, Rs.sl, setSl, isIo, isL, chg, onL, fSetIx, Sl.mut, Sl.upd, ioC, ioIx, env0, runF, mCall, rsv, wb, axIx, noIoA, xNil, xV, xSl, mIt, mListRg, mTupRg, List.length_cons, List.length_nil, List.map_cons, List.map_nil, List.cons_append, List.nil_append, List.replicate_succ, List.replicate_zero, List.append_nil, Nat.reduceAdd, Nat.reduceSub, List.getElem?_cons_zero, List.getElem?_cons_succ, List.getElem?_nil, List.set_cons_zero, List.set_cons_succ, Option.bind_some, Option.bind_none, Option.map_some, Option.map_none, Nat.reduceLT, Nat.reduceEqDiff, Nat.reduceLeDiff, decide_true, decide_false, Bool.and_true, Bool.true_and, Bool.and_false, Bool.false_and, Bool.not_true, Bool.not_false, ↓reduceIte, reduceCtorEq, Bool.false_eq_true, List.length_map, Nat.lt_add_left_iff_pos, Nat.zero_lt_succ, Nat.add_eq, Nat.zero_add, Nat.add_zero, Nat.zero_le, sz0, sz1, sz2, sz3, sz4, sz5, sz6, sz7, sz8, sz9, mIx, hix, hmin, heq, hap, w, fTuple, mNext]
    | false => simp only [mSeq, mIfS, mThen, mTst, mOp, mPeek, mVar, mTake, mSet, mSetIx, mRet, mR, mV, mU, mG, mN, mRd2, mOpN, mAnd, mOr, mNot, mAndV, mOrV, mNotV, mIf, mNil, mCons, mTup, mLst, mPart, mSl, mPar, mPair, mDrop, mM1, mM0, mHere, M.chg, M.bind, M.ret, M.of, Ar.sl, Rs.get, Rs.sl, setSl, isIo, isL, chg, onL, fSetIx, Sl.mut, Sl.upd, ioC, ioIx, env0, runF, mCall, rsv, wb, axIx, noIoA, xNil, xV, xSl, mIt, mListRg, mTupRg, List.length_cons, List.length_nil, List.map_cons, List.map_nil, List.cons_append, List.nil_append, List.replicate_succ, List.replicate_zero, List.append_nil, Nat.reduceAdd, Nat.reduceSub, List.getElem?_cons_zero, List.getElem?_cons_succ, List.getElem?_nil, List.set_cons_zero, List.set_cons_succ, Option.bind_some, Option.bind_none, Option.map_some, Option.map_none, Nat.reduceLT, Nat.reduceEqDiff, Nat.reduceLeDiff, decide_true, decide_false, Bool.and_true, Bool.true_and, Bool.and_false, Bool.false_and, Bool.not_true, Bool.not_false, ↓reduceIte, reduceCtorEq, Bool.false_eq_true, List.length_map, Nat.lt_add_left_iff_pos, Nat.zero_lt_succ, Nat.add_eq, Nat.zero_add, Nat.add_zero, Nat.zero_le, sz0, sz1, sz2, sz3, sz4, sz5, sz6, sz7, sz8, sz9, mIx, hix, hmin, heq, hap, w, fTuple, mNext]
theorem lcy_all {d : D} {n : Nat} {q rr : List D} {s2 s3 s4 : Sl} {it1 : D → Option (List D)} {fl : D → Option D} (hl : fl d = some (.int (n : Nat))) (hrg : it1 (.int (n : Nat)) = some rr)
    (w1 : forL (gN 2) b3__law_cycles rr [.v d, .own (.lst []), .no, .no, .no] = some (.nx [.v d, .own (.lst q), s2, s3, s4])) :
    runF 5 (mSeq (mSet 1 (mLst mNil))
    (mSeq (mFor (mIt it1 (mG fl (mPeek 0))) (gN 2) b3__law_cycles)
    (mRet (mR (mG fTuple (mPeek 1)))))) [.v d] = some (.rt (.v (.tup q)) none) := by
  simp only [mFor, mSeq, mIfS, mThen, mTst, mOp, mPeek, mVar, mTake, mSet, mSetIx, mRet, mR, mV, mU, mG, mN, mRd2, mOpN, mAnd, mOr, mNot, mAndV, mOrV, mNotV, mIf, mNil, mCons, mTup, mLst, mPart, mSl, mPar, mPair, mDrop, mM1, mM0, mHere, M.chg, M.bind, M.ret, M.of, Ar.sl, Rs.get, Rs.sl, setSl, isIo, isL, chg, onL, fSetIx, Sl.mut, Sl.upd, ioC, ioIx, env0, runF, mCall, rsv, wb, axIx, noIoA, xNil, xV, xSl, mIt, mListRg, mTupRg, List.length_cons, List.length_nil, List.map_cons, List.map_nil, List.cons_append, List.nil_append, List.replicate_succ, List.replicate_zero, List.append_nil, Nat.reduceAdd, Nat.reduceSub, List.getElem?_cons_zero, List.getElem?_cons_succ, List.getElem?_nil, List.set_cons_zero, List.set_cons_succ, Option.bind_some, Option.bind_none, Option.map_some, Option.map_none, Nat.reduceLT, Nat.reduceEqDiff, Nat.reduceLeDiff, decide_true, decide_false, Bool.and_true, Bool.true_and, Bool.and_false, Bool.false_and, Bool.not_true, Bool.not_false, ↓reduceIte, reduceCtorEq, Bool.false_eq_true, List.length_map, Nat.lt_add_left_iff_pos, Nat.zero_lt_succ, Nat.add_eq, Nat.zero_add, Nat.add_zero, Nat.zero_le, sz0, sz1, sz2, sz3, sz4, sz5, sz6, sz7, sz8, sz9, mIx, hl, hrg, w1, fTuple]
theorem lcycles_fg {d : D} {f : Nat → Nat} {n : Nat} (F : Fg d f n) : F__law_cycles [.v d] = some (.rt (.v (.tup ((cycs f n).map tupN))) none) := by
  have hn8 : n ≤ 8 := by have := F.sz; omega
  obtain ⟨env', w1, s2, s3, s4, _, rfl⟩ := forL_inv (t := gN 2) (b := b3__law_cycles) (ds := rng n) (k := 0)
    (I := fun i env => ∃ s2 s3 s4, Junk2 s2 s3 s4 ∧ env = [.v d, .own (.lst ((cyB f n i).map tupN)), s2, s3, s4])
    (fun i x env hx ⟨s2, s3, s4, hj, e⟩ => by
      rw [Nat.zero_add] at *
      have hi : i < n := by
        have := (List.getElem?_eq_some_iff.mp hx).1
        rw [rng_len] at this
        exact this
      have ex : x = I i := by
        rw [rng_eq, List.getElem?_map, List.getElem?_range hi] at hx
        exact (Option.some.inj hx).symm
      subst ex
      subst e
      obtain ⟨m, m1, m2⟩ := min_orb (f := f) (n := n) (x := i)
      have heq : fEq (.int m) (.int (i : Nat)) = some (.bl (isMin f n i)) := by rw [fEq_int, m2]
      have hap : fApp (tupN (orb f n i)) ((cyB f n i).map tupN) = some (.non, (cyB f n i).map tupN ++ [tupN (orb f n i)]) := by
        unfold fApp
        rw [sz_of (show ((cyB f n i).map tupN).length ≤ 1000000 by
          rw [List.length_map]
          have := cyB_len f n i
          omega)]
        rfl
      have hb := lcy_body hj (F.ix hi) m1 heq hap (lc_walk F (s1 := .own (.lst ((cyB f n i).map tupN))) hi)
      refine ⟨[.v d, .own (.lst ((cyB f n i).map tupN)), .v (I i), s3, s4], _, ?_, .inl hb, .v (I i), .own (.lst ((orb f n i).map I)), .v (I i), .inr ⟨I i, .lst ((orb f n i).map I), I i, rfl, rfl, rfl⟩, ?_⟩
      · rcases hj with ⟨rfl, rfl, rfl⟩ | ⟨a, b, c, rfl, rfl, rfl⟩ <;> rfl
      · rw [cyB_succ]
        cases isMin f n i with
        | true => simp only [↓reduceIte, List.map_append, List.map_cons, List.map_nil]
        | false => simp only [Bool.false_eq_true, ↓reduceIte, List.append_nil])
    [.v d, .own (.lst []), .no, .no, .no] ⟨.no, .no, .no, .inl ⟨rfl, rfl, rfl⟩, rfl⟩
  rw [rng_len, Nat.zero_add] at w1
  exact lcy_all F.len (it_rng n (by omega)) w1
end Zk04
end

section
set_option Elab.async false
set_option linter.all false
set_option maxRecDepth 100000
set_option maxHeartbeats 4000000
/-! k04: order, the law's own order. -/
namespace Zk04
open PySem L2 Z Zb Za
open Zp (it Pm orb walk mins cycs isMin lcmL)
theorem lcm_cube : ∀ (ls : List Nat) (a : Nat), (∀ l ∈ ls, l ≤ 8) → (ls.foldl Nat.lcm a) ^ 3 ≤ a ^ 3 * 3 ^ ls.sum
  | [], a, _ => by simp
  | l :: ls, a, h => by
    rw [List.foldl_cons, List.sum_cons]
    have ih := lcm_cube ls (Nat.lcm a l) fun x hx => h x (List.mem_cons_of_mem _ hx)
    have h1 : Nat.lcm a l ≤ a * l := Nat.div_le_self _ _
    have h2 : l ^ 3 ≤ 3 ^ l := by
      have key : ∀ i, i ≤ 8 → i ^ 3 ≤ 3 ^ i := by decide
      exact key l (h l List.mem_cons_self)
    have h3 : (Nat.lcm a l) ^ 3 ≤ a ^ 3 * 3 ^ l := Nat.le_trans (Nat.pow_le_pow_left h1 3) (by rw [Nat.mul_pow]; exact Nat.mul_le_mul_left _ h2)
    refine Nat.le_trans ih ?_
    rw [Nat.pow_add, ← Nat.mul_assoc]
    exact Nat.mul_le_mul_right _ h3
def lens (f : Nat → Nat) (n : Nat) : List Nat := (cycs f n).map List.length
theorem lens_sum {f : Nat → Nat} {n : Nat} (P : Pm f n) : (lens f n).sum = n := by
  have := P.flat_len
  rw [List.length_flatten] at this
  exact this
theorem le_sum : ∀ {ls : List Nat} {l : Nat}, l ∈ ls → l ≤ ls.sum
  | a :: ls, l, h => by
    rw [List.sum_cons]
    rcases List.mem_cons.mp h with rfl | h
    · omega
    · have := le_sum h
      omega
theorem lens_pos {f : Nat → Nat} {n l : Nat} (h : l ∈ lens f n) : 1 ≤ l := by
  obtain ⟨c, hc, rfl⟩ := List.mem_map.mp h
  obtain ⟨m, _, rfl⟩ := List.mem_map.mp hc
  show 1 ≤ (walk f m n (f m)).length + 1
  omega
theorem lens_le {f : Nat → Nat} {n l : Nat} (P : Pm f n) (h : l ∈ lens f n) : l ≤ n := by
  have := le_sum h
  rw [lens_sum P] at this
  exact this
theorem ord_le {f : Nat → Nat} {n : Nat} (P : Pm f n) (hn : n ≤ 8) : lcmL (lens f n) ≤ 18 := by
  have h := lcm_cube (lens f n) 1 fun l hl => Nat.le_trans (lens_le P hl) hn
  rw [lens_sum P] at h
  have h2 : 1 ^ 3 * 3 ^ n ≤ 6561 := by
    have key : ∀ i, i ≤ 8 → 1 ^ 3 * 3 ^ i ≤ 6561 := by decide
    exact key n hn
  refine Classical.byContradiction fun hc => ?_
  have h3 : 19 ^ 3 ≤ (lcmL (lens f n)) ^ 3 := Nat.pow_le_pow_left (by omega) 3
  unfold lcmL at h3
  omega
theorem lcm_small {f : Nat → Nat} {n : Nat} (P : Pm f n) (hn : n ≤ 8) (i : Nat) : lcmL ((lens f n).take i) ≤ 840 := by
  refine Nat.le_of_dvd (by omega) ?_
  unfold lcmL
  rw [Zp.lcm_fold]
  refine ⟨Nat.one_dvd _, fun l hl => ?_⟩
  have hl := List.mem_of_mem_take hl
  have h1 := lens_pos hl
  have h2 := lens_le P hl
  have key : ∀ i, i ≤ 8 → 1 ≤ i → i ∣ 840 := by decide
  exact key l (by omega) h1
theorem fLcm_nat {a b : Nat} (ha : a ≤ 1000) (hb : b ≤ 1000) : fLcm (.int (a : Nat)) (.int (b : Nat)) = some (.int (Nat.lcm a b : Nat)) := by
  have h : okLcm (a : Nat) (b : Nat) = true := by
    unfold okLcm
    rw [decide_eq_true (show (0 : Int) ≤ ((a : Nat) : Int) by omega), decide_eq_true (show (0 : Int) ≤ ((b : Nat) : Int) by omega), decide_eq_true (show ((a : Nat) : Int) < 2 ^ 60 by omega), decide_eq_true (show ((b : Nat) : Int) < 2 ^ 60 by omega)]
    rfl
  show (if okLcm (a : Nat) (b : Nat) = true then some (D.int ((Nat.lcm ((a : Nat) : Int).natAbs ((b : Nat) : Int).natAbs : Nat) : Int)) else none) = _
  rw [if_pos h, Int.natAbs_natCast, Int.natAbs_natCast]
theorem ord_body {d : D} {a : Int} {c : List Nat} {k : D} (hl : fLcm (.int a) (.int (c.length : Nat)) = some k) : b1_order [.v d, .v (.int a), .v (tupN c)] = some (.nx [.v d, .v k, .v (tupN c)]) := by
  have hc : fLen (tupN c) = some (.int (c.length : Nat)) := by
    show some (D.int ((c.map I).length : Nat)) = _
    rw [List.length_map]
  unfold b1_order
  generalize fLcm = fl at hl ⊢
  generalize fLen = fn at hc ⊢
  generalize tupN c = t at hc ⊢
  simp only [mSeq, mIfS, mThen, mTst, mOp, mPeek, mVar, mTake, mSet, mSetIx, mRet, mR, mV, mU, mG, mN, mRd2, mOpN, mAnd, mOr, mNot, mAndV, mOrV, mNotV, mIf, mNil, mCons, mTup, mLst, mPart, mSl, mPar, mPair, mDrop, mM1, mM0, mHere, M.chg, M.bind, M.ret, M.of, Ar.sl, Rs.get, Rs.sl, setSl, isIo, isL, chg, onL, fSetIx, Sl.mut, Sl.upd, ioC, ioIx, env0, runF, mCall, rsv, wb, axIx, noIoA, xNil, xV, xSl, mIt, mListRg, mTupRg, List.length_cons, List.length_nil, List.map_cons, List.map_nil, List.cons_append, List.nil_append, List.replicate_succ, List.replicate_zero, List.append_nil, Nat.reduceAdd, Nat.reduceSub, List.getElem?_cons_zero, List.getElem?_cons_succ, List.getElem?_nil, List.set_cons_zero, List.set_cons_succ, Option.bind_some, Option.bind_none, Option.map_some, Option.map_none, Nat.reduceLT, Nat.reduceEqDiff, Nat.reduceLeDiff, decide_true, decide_false, Bool.and_true, Bool.true_and, Bool.and_false, Bool.false_and, Bool.not_true, Bool.not_false, ↓reduceIte, reduceCtorEq, Bool.false_eq_true, List.length_map, Nat.lt_add_left_iff_pos, Nat.zero_lt_succ, Nat.add_eq, Nat.zero_add, Nat.add_zero, Nat.zero_le, sz0, sz1, sz2, sz3, sz4, sz5, sz6, sz7, sz8, sz9, mIx, hc, hl]
theorem ord_all {d t k : D} {s2 : Sl} {ds : List D} {A B : DF} (hA : A [.v d] = some (.rt (.v .non) none)) (hB : B [.v d] = some (.rt (.v (.tup ds)) none)) (w1 : forL (gN 2) b1_order ds [.v d, .v (.int 1), .no] = some (.nx [.v d, .v k, s2])) :
    runF 3 (mSeq (mDrop (mCall A [] (xV (mVar 0) xNil)))
    (mSeq (mSet 1 (mR (M.ret (.int 1))))
    (mSeq (mFor (mIt items (mV (mCall B [] (xV (mVar 0) xNil)))) (gN 2) b1_order)
    (mRet (mTake 1))))) [.v d] = some (.rt (.v k) none) := by
  simp only [mFor, mSeq, mIfS, mThen, mTst, mOp, mPeek, mVar, mTake, mSet, mSetIx, mRet, mR, mV, mU, mG, mN, mRd2, mOpN, mAnd, mOr, mNot, mAndV, mOrV, mNotV, mIf, mNil, mCons, mTup, mLst, mPart, mSl, mPar, mPair, mDrop, mM1, mM0, mHere, M.chg, M.bind, M.ret, M.of, Ar.sl, Rs.get, Rs.sl, setSl, isIo, isL, chg, onL, fSetIx, Sl.mut, Sl.upd, ioC, ioIx, env0, runF, mCall, rsv, wb, axIx, noIoA, xNil, xV, xSl, mIt, mListRg, mTupRg, List.length_cons, List.length_nil, List.map_cons, List.map_nil, List.cons_append, List.nil_append, List.replicate_succ, List.replicate_zero, List.append_nil, Nat.reduceAdd, Nat.reduceSub, List.getElem?_cons_zero, List.getElem?_cons_succ, List.getElem?_nil, List.set_cons_zero, List.set_cons_succ, Option.bind_some, Option.bind_none, Option.map_some, Option.map_none, Nat.reduceLT, Nat.reduceEqDiff, Nat.reduceLeDiff, decide_true, decide_false, Bool.and_true, Bool.true_and, Bool.and_false, Bool.false_and, Bool.not_true, Bool.not_false, ↓reduceIte, reduceCtorEq, Bool.false_eq_true, List.length_map, Nat.lt_add_left_iff_pos, Nat.zero_lt_succ, Nat.add_eq, Nat.zero_add, Nat.add_zero, Nat.zero_le, sz0, sz1, sz2, sz3, sz4, sz5, sz6, sz7, sz8, sz9, mIx, hA, hB, items, w1]
theorem order_fg {d : D} {f : Nat → Nat} {n : Nat} (F : Fg d f n) : F_order [.v d] = some (.rt (.v (.int (lcmL (lens f n) : Nat))) none) := by
  have hn8 : n ≤ 8 := by have := F.sz; omega
  obtain ⟨env', w1, s2, _, rfl⟩ := forL_inv (t := gN 2) (b := b1_order) (ds := (cycs f n).map tupN) (k := 0)
    (I := fun i env => ∃ s2, (s2 = .no ∨ ∃ a, s2 = .v a) ∧ env = [.v d, .v (.int (lcmL ((lens f n).take i) : Nat)), s2])
    (fun i x env hx ⟨s2, hj, e⟩ => by
      rw [Nat.zero_add] at *
      subst e
      rw [List.getElem?_map] at hx
      obtain ⟨c, hc, rfl⟩ := Option.map_eq_some_iff.mp hx
      have hcl : (lens f n)[i]? = some c.length := by
        unfold lens
        rw [List.getElem?_map, hc]
        rfl
      have hm : c.length ∈ lens f n := List.mem_of_getElem? hcl
      have hk : lcmL ((lens f n).take (i + 1)) = Nat.lcm (lcmL ((lens f n).take i)) c.length := by
        rw [List.take_add_one, hcl]
        unfold lcmL
        rw [List.foldl_append]
        rfl
      have h1 := lcm_small F.pm hn8 i
      have h2 := lens_le F.pm hm
      refine ⟨[.v d, .v (.int (lcmL ((lens f n).take i) : Nat)), .v (tupN c)], _, ?_, .inl (ord_body (fLcm_nat (by omega) (by omega))), .v (tupN c), .inr ⟨tupN c, rfl⟩, ?_⟩
      · rcases hj with rfl | ⟨a, rfl⟩ <;> rfl
      · rw [hk])
    [.v d, .v (.int 1), .no] ⟨.no, .inl rfl, rfl⟩
  have e : (lens f n).take (0 + ((cycs f n).map tupN).length) = lens f n := by
    rw [Nat.zero_add, List.length_map]
    refine List.take_of_length_le ?_
    unfold lens
    rw [List.length_map]
    exact Nat.le_refl _
  rw [e] at w1
  exact ord_all (t := .non) (need_figure_fg F) (cycles_of_fg F) w1
/-! the law's own order -/
def rowI (f : Nat → Nat) (n k : Nat) : List D := (List.range n).map fun i => I (it f k i)
theorem row_eq (f : Nat → Nat) (n k : Nat) : fNe (.lst (rowI f n k)) (.lst (rng n)) = some (.bl (!decide (∀ x, x < n → it f k x = x))) := by
  have e1 : rowI f n k = ((List.range n).map fun i => ((it f k i : Nat) : Int)).map .int := by
    unfold rowI
    rw [List.map_map]
    rfl
  have e2 : rng n = ((List.range n).map fun i => ((i : Nat) : Int)).map .int := by
    rw [List.map_map]
    rfl
  rw [e1, e2, fNe_lints]
  congr 3
  rw [decide_eq_decide]
  constructor
  · intro h x hx
    have := List.map_inj_left.mp h x (List.mem_range.mpr hx)
    omega
  · intro h
    refine List.map_congr_left fun x hx => ?_
    rw [h x (List.mem_range.mp hx)]
theorem lord_t {d : D} {n k : Nat} {r : List D} {s3 : Sl} {b : Bool} (hl : fLen d = some (.int (n : Nat))) (hn : n ≤ 1000) (hne : fNe (.lst r) (.lst (rng n)) = some (.bl b)) (hk : k < 40) :
    t2__law_order [.v d, .v (.int (k : Nat)), .own (.lst r), s3] = some (.ok b [.v d, .v (.int (k : Nat)), .own (.lst r), s3]) := by
  have h9 : fLt (.int (k : Nat)) (.int 40) = some (.bl true) := by
    show some (D.bl (decide (((k : Nat) : Int) < 40))) = _
    rw [decide_eq_true (by omega)]
  have hrg : fRg (.int (n : Nat)) = some (rng n) := by
    have h : okRg (n : Nat) = true := by
      unfold okRg
      rw [decide_eq_true (show ((n : Nat) : Int) ≤ 1000000 by omega), decide_eq_true (show -1000000 ≤ ((n : Nat) : Int) by omega)]
      rfl
    unfold fRg
    dsimp only
    generalize okRg (n : Nat) = b at h ⊢
    rw [h, Int.toNat_natCast]
    rfl
  unfold t2__law_order mListRg
  generalize fNe = ne at hne ⊢
  generalize fRg = rg at hrg ⊢
  generalize fLen = fl at hl ⊢
  generalize fLt = lt at h9 ⊢
  generalize rng n = rr at hne hrg ⊢
  cases b with
  | true => simp only [mSeq, mIfS, mThen, mTst, mOp, mPeek, mVar, mTake, mSet, mSetIx, mRet, mR, mV, mU, mG, mN, mRd2, mOpN, mAnd, mOr, mNot, mAndV, mOrV, mNotV, mIf, mNil, mCons, mTup, mLst, mPart, mSl, mPar, mPair, mDrop, mM1, mM0, mHere, M.chg, M.bind, M.ret, M.of, Ar.sl, Rs.get, Rs.sl, setSl, isIo, isL, chg, onL, fSetIx, Sl.mut, Sl.upd, ioC, ioIx, env0, runF, mCall, rsv, wb, axIx, noIoA, xNil, xV, xSl, mIt, mListRg, mTupRg, List.length_cons, List.length_nil, List.map_cons, List.map_nil, List.cons_append, List.nil_append, List.replicate_succ, List.replicate_zero, List.append_nil, Nat.reduceAdd, Nat.reduceSub, List.getElem?_cons_zero, List.getElem?_cons_succ, List.getElem?_nil, List.set_cons_zero, List.set_cons_succ, Option.bind_some, Option.bind_none, Option.map_some, Option.map_none, Nat.reduceLT, Nat.reduceEqDiff, Nat.reduceLeDiff, decide_true, decide_false, Bool.and_true, Bool.true_and, Bool.and_false, Bool.false_and, Bool.not_true, Bool.not_false, ↓reduceIte, reduceCtorEq, Bool.false_eq_true, List.length_map, Nat.lt_add_left_iff_pos, Nat.zero_lt_succ, Nat.add_eq, Nat.zero_add, Nat.add_zero, Nat.zero_le, sz0, sz1, sz2, sz3, sz4, sz5, sz6, sz7, sz8, sz9, mIx, hl, hrg, hne, h9]
  | false => simp only [mSeq, mIfS, mThen, mTst, mOp, mPeek, mVar, mTake, mSet, mSetIx, mRet, mR, mV, mU, mG, mN, mRd2, mOpN, mAnd, mOr, mNot, mAndV, mOrV, mNotV, mIf, mNil, mCons, mTup, mLst, mPart, mSl, mPar, mPair, mDrop, mM1, mM0, mHere, M.chg, M.bind, M.ret, M.of, Ar.sl, Rs.get, Rs.sl, setSl, isIo, isL, chg, onL, fSetIx, Sl.mut, Sl.upd, ioC, ioIx, env0, runF, mCall, rsv, wb, axIx, noIoA, xNil, xV, xSl, mIt, mListRg, mTupRg, List.length_cons, List.length_nil, List.map_cons, List.map_nil, List.cons_append, List.nil_append, List.replicate_succ, List.replicate_zero, List.append_nil, Nat.reduceAdd, Nat.reduceSub, List.getElem?_cons_zero, List.getElem?_cons_succ, List.getElem?_nil, List.set_cons_zero, List.set_cons_succ, Option.bind_some, Option.bind_none, Option.map_some, Option.map_none, Nat.reduceLT, Nat.reduceEqDiff, Nat.reduceLeDiff, decide_true, decide_false, Bool.and_true, Bool.true_and, Bool.and_false, Bool.false_and, Bool.not_true, Bool.not_false, ↓reduceIte, reduceCtorEq, Bool.false_eq_true, List.length_map, Nat.lt_add_left_iff_pos, Nat.zero_lt_succ, Nat.add_eq, Nat.zero_add, Nat.add_zero, Nat.zero_le, sz0, sz1, sz2, sz3, sz4, sz5, sz6, sz7, sz8, sz9, mIx, hl, hrg, hne, h9]
theorem lord_b {d : D} {k : Nat} {r r2 : List D} (hlc : lcL (gN 3) (M.ret true) e1__law_order [3] r [] [.v d, .v (.int ((k : Nat) + 1 : Nat)), .v (.lst r), .no] = some (.ok r2 [.v d, .v (.int ((k : Nat) + 1 : Nat)), .v (.lst r), .no]))
    (hlc2 : lcL (gN 3) (M.ret true) e1__law_order [3] r [] [.v d, .v (.int (k : Nat)), .v (.lst r), .no] = some (.ok r2 [.v d, .v (.int (k : Nat)), .v (.lst r), .no])) :
    b3__law_order [.v d, .v (.int (k : Nat)), .own (.lst r), .no] = some (.nx [.v d, .v (.int ((k + 1 : Nat) : Nat)), .own (.lst r2), .no]) := by
  have ha : fAdd (.int (k : Nat)) (.int 1) = some (.int ((k + 1 : Nat) : Nat)) := rfl
  unfold b3__law_order
  generalize fAdd = ad at ha ⊢
  simp only [mSeq, mIfS, mThen, mTst, mOp, mPeek, mVar, mTake, mSet, mSetIx, mRet, mR, mV, mU, mG, mN, mRd2, mOpN, mAnd, mOr, mNot, mAndV, mOrV, mNotV, mIf, mNil, mCons, mTup, mLst, mPart, mSl, mPar, mPair, mDrop, mM1, mM0, mHere, M.chg, M.bind, M.ret, M.of, Ar.sl, Rs.get, Rs.sl, setSl, isIo, isL, chg, onL, fSetIx, Sl.mut, Sl.upd, ioC, ioIx, env0, runF, mCall, rsv, wb, axIx, noIoA, xNil, xV, xSl, mIt, mListRg, mTupRg, List.length_cons, List.length_nil, List.map_cons, List.map_nil, List.cons_append, List.nil_append, List.replicate_succ, List.replicate_zero, List.append_nil, Nat.reduceAdd, Nat.reduceSub, List.getElem?_cons_zero, List.getElem?_cons_succ, List.getElem?_nil, List.set_cons_zero, List.set_cons_succ, Option.bind_some, Option.bind_none, Option.map_some, Option.map_none, Nat.reduceLT, Nat.reduceEqDiff, Nat.reduceLeDiff, decide_true, decide_false, Bool.and_true, Bool.true_and, Bool.and_false, Bool.false_and, Bool.not_true, Bool.not_false, ↓reduceIte, reduceCtorEq, Bool.false_eq_true, List.length_map, Nat.lt_add_left_iff_pos, Nat.zero_lt_succ, Nat.add_eq, Nat.zero_add, Nat.add_zero, Nat.zero_le, sz0, sz1, sz2, sz3, sz4, sz5, sz6, sz7, sz8, sz9, mIx, ha, mLc, items, noIo, List.all_cons, List.all_nil, clr, unclr, hlc2]
theorem lord_all {d k : D} {s2 : Sl} {r : List D} (hr : fList d = some (.lst r)) (w1 : whL t2__law_order b3__law_order fuel [.v d, .v (.int 1), .own (.lst r), .no] = some (.nx [.v d, .v k, s2, .no])) :
    runF 4 m__law_order [.v d] = some (.rt (.v k) none) := by
  unfold m__law_order
  generalize fList = fl at hr ⊢
  generalize whL t2__law_order b3__law_order fuel = W at w1 ⊢
  simp only [mSeq, mIfS, mThen, mTst, mOp, mPeek, mVar, mTake, mSet, mSetIx, mRet, mR, mV, mU, mG, mN, mRd2, mOpN, mAnd, mOr, mNot, mAndV, mOrV, mNotV, mIf, mNil, mCons, mTup, mLst, mPart, mSl, mPar, mPair, mDrop, mM1, mM0, mHere, M.chg, M.bind, M.ret, M.of, Ar.sl, Rs.get, Rs.sl, setSl, isIo, isL, chg, onL, fSetIx, Sl.mut, Sl.upd, ioC, ioIx, env0, runF, mCall, rsv, wb, axIx, noIoA, xNil, xV, xSl, mIt, mListRg, mTupRg, List.length_cons, List.length_nil, List.map_cons, List.map_nil, List.cons_append, List.nil_append, List.replicate_succ, List.replicate_zero, List.append_nil, Nat.reduceAdd, Nat.reduceSub, List.getElem?_cons_zero, List.getElem?_cons_succ, List.getElem?_nil, List.set_cons_zero, List.set_cons_succ, Option.bind_some, Option.bind_none, Option.map_some, Option.map_none, Nat.reduceLT, Nat.reduceEqDiff, Nat.reduceLeDiff, decide_true, decide_false, Bool.and_true, Bool.true_and, Bool.and_false, Bool.false_and, Bool.not_true, Bool.not_false, ↓reduceIte, reduceCtorEq, Bool.false_eq_true, List.length_map, Nat.lt_add_left_iff_pos, Nat.zero_lt_succ, Nat.add_eq, Nat.zero_add, Nat.add_zero, Nat.zero_le, sz0, sz1, sz2, sz3, sz4, sz5, sz6, sz7, sz8, sz9, mIx, hr, w1]
theorem lorder_fg {d : D} {f : Nat → Nat} {n : Nat} (F : Fg d f n) : F__law_order [.v d] = some (.rt (.v (.int (lcmL (lens f n) : Nat))) none) := by
  have hn8 : n ≤ 8 := by have := F.sz; omega
  have hK := ord_le F.pm hn8
  have hK0 : 1 ≤ lcmL (lens f n) := by
    refine Nat.pos_of_ne_zero fun h => ?_
    have h2 := lcm_small F.pm hn8 (lens f n).length
    have : lcmL (lens f n) ∣ 840 := by
      unfold lcmL
      rw [Zp.lcm_fold]
      refine ⟨Nat.one_dvd _, fun l hl => ?_⟩
      have key : ∀ i, i ≤ 8 → 1 ≤ i → i ∣ 840 := by decide
      exact key l (Nat.le_trans (lens_le F.pm hl) hn8) (lens_pos hl)
    rw [h] at this
    obtain ⟨q, hq⟩ := this
    omega
  obtain ⟨env', w1, s2, rfl⟩ := whL_inv (t := t2__law_order) (b := b3__law_order) (n := lcmL (lens f n))
    (I := fun k env => 1 ≤ k ∧ env = [.v d, .v (.int (k : Nat)), .own (.lst (rowI f n k)), .no])
    (J := fun env => ∃ s2, env = [.v d, .v (.int (lcmL (lens f n) : Nat)), s2, .no])
    (fun k env hk ⟨h1, e⟩ => by
      subst e
      have hne := row_eq f n k
      rw [decide_eq_false (fun h => by
        have := Nat.le_of_dvd (by omega) ((F.pm.order k).mp h)
        change lcmL (lens f n) ≤ k at this
        omega)] at hne
      have hlc : ∀ a : D, lcL (gN 3) (M.ret true) e1__law_order [3] (rowI f n k) [] [.v d, .v a, .v (.lst (rowI f n k)), .no] = some (.ok (rowI f n (k + 1)) [.v d, .v a, .v (.lst (rowI f n k)), .no]) := fun a => by
        have h := lc_map (t := gN 3) (el := e1__law_order) (vs := [3]) (g := fun x => match x with | .int z => I (f z.toNat) | _ => .non) (env0 := [.v d, .v a, .v (.lst (rowI f n k)), .no]) (rowI f n k) [] (fun x hx => by
          unfold rowI at hx
          obtain ⟨i, hi, rfl⟩ := List.mem_map.mp hx
          have hlt := F.pm.it_lt (List.mem_range.mp hi) k
          have hix := F.ix hlt
          refine ⟨[.v d, .v a, .v (.lst (rowI f n k)), .v (I (it f k i))], [.v d, .v a, .v (.lst (rowI f n k)), .v (I (it f k i))], rfl, ?_, rfl⟩
          unfold e1__law_order mIx
          generalize fIx = ix at hix ⊢
          generalize rowI f n k = rr
          simp only [mSeq, mIfS, mThen, mTst, mOp, mPeek, mVar, mTake, mSet, mSetIx, mRet, mR, mV, mU, mG, mN, mRd2, mOpN, mAnd, mOr, mNot, mAndV, mOrV, mNotV, mIf, mNil, mCons, mTup, mLst, mPart, mSl, mPar, mPair, mDrop, mM1, mM0, mHere, M.chg, M.bind, M.ret, M.of, Ar.sl, Rs.get, Rs.sl, setSl, isIo, isL, chg, onL, fSetIx, Sl.mut, Sl.upd, ioC, ioIx, env0, runF, mCall, rsv, wb, axIx, noIoA, xNil, xV, xSl, mIt, mListRg, mTupRg, List.length_cons, List.length_nil, List.map_cons, List.map_nil, List.cons_append, List.nil_append, List.replicate_succ, List.replicate_zero, List.append_nil, Nat.reduceAdd, Nat.reduceSub, List.getElem?_cons_zero, List.getElem?_cons_succ, List.getElem?_nil, List.set_cons_zero, List.set_cons_succ, Option.bind_some, Option.bind_none, Option.map_some, Option.map_none, Nat.reduceLT, Nat.reduceEqDiff, Nat.reduceLeDiff, decide_true, decide_false, Bool.and_true, Bool.true_and, Bool.and_false, Bool.false_and, Bool.not_true, Bool.not_false, ↓reduceIte, reduceCtorEq, Bool.false_eq_true, List.length_map, Nat.lt_add_left_iff_pos, Nat.zero_lt_succ, Nat.add_eq, Nat.zero_add, Nat.add_zero, Nat.zero_le, sz0, sz1, sz2, sz3, sz4, sz5, sz6, sz7, sz8, sz9, mIx, hix]
          rfl) (by unfold rowI; rw [List.length_map, List.length_range]; show 0 + n ≤ 1000000; omega)
        rw [h]
        unfold rowI
        rw [List.map_map]
        rfl
      refine ⟨_, _, lord_t F.len (by omega) hne (by omega), .inl (lord_b (hlc _) (hlc _)), by omega, rfl⟩)
    (fun env ⟨h1, e⟩ => by
      subst e
      have hne := row_eq f n (lcmL (lens f n))
      have hall : ∀ x, x < n → it f (lcmL (lens f n)) x = x := (F.pm.order _).mpr (Nat.dvd_refl _)
      rw [decide_eq_true hall] at hne
      exact ⟨_, lord_t F.len (by omega) hne (by omega), .own (.lst (rowI f n (lcmL (lens f n)))), rfl⟩) 1 fuel hK0 (by show _ < 1000; omega) [.v d, .v (.int 1), .own (.lst (rowI f n 1)), .no] ⟨Nat.le_refl _, rfl⟩
  have hfl : fList d = some (.lst (rowI f n 1)) := by
    rcases F.eq with rfl | rfl <;> rfl
  exact lord_all hfl w1
end Zk04
end

section
set_option Elab.async false
set_option linter.all false
set_option autoImplicit false
/-! Permutations as exchanges of two. -/
namespace Zp
def swp (st : Nat → Nat) (p : Nat × Nat) : Nat → Nat := fun i => if i = p.2 then st p.1 else if i = p.1 then st p.2 else st i
def cpairs : List Nat → List (Nat × Nat)
  | [] => []
  | x :: t => t.map fun y => (x, y)
def cyI (f : Nat → Nat) (n i : Nat) : List (List Nat) := ((List.range i).filter (isMin f n)).map (orb f n)
theorem cyI_succ (f : Nat → Nat) (n i : Nat) : cyI f n (i + 1) = cyI f n i ++ (if isMin f n i = true then [orb f n i] else []) := by
  unfold cyI
  rw [List.range_succ, List.filter_append, List.map_append]
  cases h : isMin f n i <;> simp [h]
def exI (f : Nat → Nat) (n i : Nat) : List (Nat × Nat) := ((cyI f n i).map cpairs).flatten
def exch (f : Nat → Nat) (n : Nat) : List (Nat × Nat) := ((cycs f n).map cpairs).flatten
theorem exI_all (f : Nat → Nat) (n : Nat) : exI f n n = exch f n := rfl
section
variable {f : Nat → Nat} {n : Nat}
theorem orb_tail {m L : Nat} (h : Per f m L) (hL : L ≤ n + 1) : cpairs (orb f n m) = (List.range (L - 1)).map fun i => (m, it f (i + 1) m) := by
  rw [orb_eq h hL, show L = (L - 1) + 1 by have := h.pos; omega, List.range_succ_eq_map, List.map_cons, List.map_map]
  show List.map (fun y => (m, y)) (List.map _ _) = _
  rw [List.map_map]
  rfl
theorem Per.ne (P : Pm f n) {m L : Nat} (hm : m < n) (h : Per f m L) {i j : Nat} (hij : i < j) (hj : j < L) : it f j m ≠ it f i m := fun e => by
  rw [show j = i + (j - i) by omega, it_add] at e
  exact h.least (j - i) (by omega) (by omega) (P.it_inj i (P.it_lt hm _) hm e)
theorem cyc_fold (P : Pm f n) {m L : Nat} (hm : m < n) (h : Per f m L) {st : Nat → Nat} (hst : ∀ j, j < L → st (it f j m) = it f j m) : ∀ k, k + 1 ≤ L →
    let s := ((List.range k).map fun i => (m, it f (i + 1) m)).foldl swp st
    s m = it f k m ∧ (∀ i, 1 ≤ i → i ≤ k → s (it f i m) = it f (i - 1) m) ∧ (∀ y, (∀ i, i ≤ k → y ≠ it f i m) → s y = st y)
  | 0, hk => ⟨hst 0 hk, fun i h1 h2 => by omega, fun y _ => rfl⟩
  | k + 1, hk => by
    obtain ⟨a1, a2, a3⟩ := cyc_fold P hm h hst k (by omega)
    intro s
    have es : s = swp (((List.range k).map fun i => (m, it f (i + 1) m)).foldl swp st) (m, it f (k + 1) m) := by
      show (((List.range (k + 1)).map fun i => (m, it f (i + 1) m)).foldl swp st) = _
      rw [List.range_succ, List.map_append, List.foldl_append]
      rfl
    rw [es]
    generalize ((List.range k).map fun i => (m, it f (i + 1) m)).foldl swp st = s0 at a1 a2 a3
    have hb : it f (k + 1) m ≠ m := h.ne P hm (i := 0) (by omega) (by omega)
    refine ⟨?_, fun i h1 h2 => ?_, fun y hy => ?_⟩
    · unfold swp
      dsimp only
      rw [if_neg (fun e => hb e.symm), if_pos rfl, a3 _ fun i hi => h.ne P hm (by omega) (by omega), hst _ (by omega)]
    · unfold swp
      dsimp only
      by_cases e : i = k + 1
      · subst e
        rw [if_pos rfl, a1]
        rfl
      · rw [if_neg (fun e2 => h.ne P hm (i := i) (j := k + 1) (by omega) (by omega) e2.symm), if_neg (show it f i m ≠ m from h.ne P hm (i := 0) (by omega) (by omega)), a2 i h1 (by omega)]
    · unfold swp
      dsimp only
      rw [if_neg (hy (k + 1) (Nat.le_refl _)), if_neg (show y ≠ m from hy 0 (by omega)), a3 y fun i hi => hy i (by omega)]
theorem ex_fold (P : Pm f n) : ∀ i, i ≤ n → (∀ x, x < n → (∃ m, m < i ∧ isMin f n m = true ∧ Rel f m x) → ((exI f n i).foldl swp id) (f x) = x) ∧ (∀ x, x < n → (¬ ∃ m, m < i ∧ isMin f n m = true ∧ Rel f m x) → ((exI f n i).foldl swp id) x = x)
  | 0, _ => ⟨fun x _ ⟨m, h, _⟩ => absurd h (Nat.not_lt_zero _), fun x _ _ => rfl⟩
  | i + 1, hi => by
    obtain ⟨a1, a2⟩ := ex_fold P i (by omega)
    have hin : i < n := hi
    have e : exI f n (i + 1) = exI f n i ++ (if isMin f n i = true then cpairs (orb f n i) else []) := by
      unfold exI
      rw [cyI_succ, List.map_append, List.flatten_append]
      cases isMin f n i <;> simp
    rw [e, List.foldl_append]
    generalize (exI f n i).foldl swp id = s0 at a1 a2
    cases hm : isMin f n i with
    | false =>
      simp only [Bool.false_eq_true, ↓reduceIte, List.foldl_nil]
      have key : ∀ x, (∃ m, m < i + 1 ∧ isMin f n m = true ∧ Rel f m x) → ∃ m, m < i ∧ isMin f n m = true ∧ Rel f m x := fun x ⟨m, h1, h2, h3⟩ => by
        refine ⟨m, ?_, h2, h3⟩
        rcases Nat.lt_or_ge m i with h | h
        · exact h
        · have : m = i := by omega
          subst this
          rw [hm] at h2
          cases h2
      exact ⟨fun x hx h => a1 x hx (key x h), fun x hx h => a2 x hx fun ⟨m, h1, h2⟩ => h ⟨m, by omega, h2⟩⟩
    | true =>
      simp only [↓reduceIte]
      obtain ⟨L, l1, l2⟩ := P.per hin
      have own : ∀ x, Rel f i x → ¬ ∃ m, m < i ∧ isMin f n m = true ∧ Rel f m x := fun x hx ⟨m, h1, h2, h3⟩ => by
        have := P.min_uniq (by omega) hin h2 hm h3 hx
        omega
      have F := cyc_fold P hin l2 (st := s0) (fun j _ => a2 _ (P.it_lt hin j) (own _ ⟨j, rfl⟩)) (L - 1) (by have := l2.pos; omega)
      rw [orb_tail l2 (by omega)]
      dsimp only at F
      generalize ((List.range (L - 1)).map fun k => (i, it f (k + 1) i)).foldl swp s0 = s at F
      obtain ⟨b1, b2, b3⟩ := F
      have mem : ∀ x, Rel f i x → ∃ j, j < L ∧ it f j i = x := fun x ⟨k, hk⟩ => ⟨k % L, Nat.mod_lt _ l2.pos, by rw [← l2.mod, hk]⟩
      refine ⟨fun x hx ⟨m, h1, h2, h3⟩ => ?_, fun x hx h => ?_⟩
      · by_cases hr : Rel f i x
        · obtain ⟨j, j1, rfl⟩ := mem x hr
          by_cases ej : j + 1 = L
          · have : f (it f j i) = i := by
              have := l2.back
              rw [← ej] at this
              exact this
            rw [this, b1, ← ej]
            rfl
          · exact b2 (j + 1) (by omega) (by omega)
        · have hm2 : m < i := by
            rcases Nat.lt_or_ge m i with h | h
            · exact h
            · have : m = i := by omega
              subst this
              exact absurd h3 hr
          rw [b3 _ fun k _ e => hr ?_]
          · exact a1 x hx ⟨m, hm2, h2, h3⟩
          · have : Rel f i (f x) := ⟨k, e.symm⟩
            exact this.trans (Rel.symm P hx ⟨1, rfl⟩)
      · have hr : ¬ Rel f i x := fun hr => h ⟨i, by omega, hm, hr⟩
        rw [b3 _ fun k _ e => hr ⟨k, e.symm⟩]
        exact a2 x hx fun ⟨m, h1, h2⟩ => h ⟨m, by omega, h2⟩
/-- the exchanges, done one behind another, undo the permutation -/
theorem Pm.exch_fold (P : Pm f n) {x : Nat} (hx : x < n) : ((exch f n).foldl swp id) (f x) = x := by
  obtain ⟨m, m1, _, m3, m4⟩ := P.min_ex x hx
  exact (ex_fold P n (Nat.le_refl _)).1 x hx ⟨m, m1, m3, m4⟩
theorem Pm.pairs (P : Pm f n) {p : Nat × Nat} (h : p ∈ exch f n) : p.1 < p.2 ∧ p.2 < n := by
  unfold exch at h
  obtain ⟨l, hl, hp⟩ := List.mem_flatten.mp h
  obtain ⟨c, hc, rfl⟩ := List.mem_map.mp hl
  obtain ⟨m, hm, rfl⟩ := List.mem_map.mp hc
  obtain ⟨m1, m2⟩ := mem_mins.mp hm
  obtain ⟨L, l1, l2⟩ := P.per m1
  rw [orb_tail l2 (by omega)] at hp
  obtain ⟨i, hi, rfl⟩ := List.mem_map.mp hp
  have hi := List.mem_range.mp hi
  have h1 := (P.isMin_iff m1).mp m2 (it f (i + 1) m) ⟨i + 1, rfl⟩
  have h2 : it f (i + 1) m ≠ m := l2.ne P m1 (i := 0) (by omega) (by omega)
  exact ⟨by show m < it f (i + 1) m; omega, P.it_lt m1 _⟩
theorem cpairs_len {c : List Nat} (h : c ≠ []) : (cpairs c).length + 1 = c.length := by
  cases c with
  | nil => exact absurd rfl h
  | cons x t => show (t.map _).length + 1 = _; rw [List.length_map]; rfl
theorem flat_pairs : ∀ {cs : List (List Nat)}, (∀ c ∈ cs, c ≠ []) → ((cs.map cpairs).flatten).length + cs.length = cs.flatten.length
  | [], _ => rfl
  | c :: cs, h => by
    have ih := flat_pairs (cs := cs) fun x hx => h x (List.mem_cons_of_mem _ hx)
    have := cpairs_len (h c List.mem_cons_self)
    simp only [List.map_cons, List.flatten_cons, List.length_append, List.length_cons]
    omega
theorem Pm.exch_len (P : Pm f n) : (exch f n).length + (cycs f n).length = n := by
  have := flat_pairs (cs := cycs f n) fun c hc => by
    obtain ⟨m, _, rfl⟩ := List.mem_map.mp hc
    exact List.cons_ne_nil _ _
  rw [P.flat_len] at this
  exact this
end
end Zp
end

section
set_option Elab.async false
set_option linter.all false
set_option maxRecDepth 100000
set_option maxHeartbeats 4000000
/-! k04: exchanges, the law's making of them. -/
namespace Zk04
open PySem L2 Z Zb Za
open Zp (it Pm orb walk mins cycs isMin swp cpairs exch)
def pD (p : Nat × Nat) : D := .tup [I p.1, I p.2]
theorem ex_b1 {d c t : D} {q q2 : List D} {s3 : Sl} {x y : Nat} (hix : fIx c (.int 0) = some (I x)) (hap : fApp (.tup [I x, I y]) q = some (.non, q2)) :
    b1_exchanges [.v d, .own (.lst q), .v c, .v (I y)] = some (.nx [.v d, .own (.lst q2), .v c, .v (I y)]) := by
  unfold b1_exchanges mIx
  generalize fIx = ix at hix ⊢
  generalize fApp = ap at hap ⊢
  simp only [mSeq, mIfS, mThen, mTst, mOp, mPeek, mVar, mTake, mSet, mSetIx, mRet, mR, mV, mU, mG, mN, mRd2, mOpN, mAnd, mOr, mNot, mAndV, mOrV, mNotV, mIf, mNil, mCons, mTup, mLst, mPart, mSl, mPar, mPair, mDrop, mM1, mM0, mHere, M.chg, M.bind, M.ret, M.of, Ar.sl, Rs.get, Rs.sl, setSl, isIo, isL, chg, onL, fSetIx, Sl.mut, Sl.upd, ioC, ioIx, env0, runF, mCall, rsv, wb, axIx, noIoA, xNil, xV, xSl, mIt, mListRg, mTupRg, List.length_cons, List.length_nil, List.map_cons, List.map_nil, List.cons_append, List.nil_append, List.replicate_succ, List.replicate_zero, List.append_nil, Nat.reduceAdd, Nat.reduceSub, List.getElem?_cons_zero, List.getElem?_cons_succ, List.getElem?_nil, List.set_cons_zero, List.set_cons_succ, Option.bind_some, Option.bind_none, Option.map_some, Option.map_none, Nat.reduceLT, Nat.reduceEqDiff, Nat.reduceLeDiff, decide_true, decide_false, Bool.and_true, Bool.true_and, Bool.and_false, Bool.false_and, Bool.not_true, Bool.not_false, ↓reduceIte, reduceCtorEq, Bool.false_eq_true, List.length_map, Nat.lt_add_left_iff_pos, Nat.zero_lt_succ, Nat.add_eq, Nat.zero_add, Nat.add_zero, Nat.zero_le, sz0, sz1, sz2, sz3, sz4, sz5, sz6, sz7, sz8, sz9, mIx, hix, hap]
theorem ex_inner {d : D} {x : Nat} {t : List Nat} : ∀ (t2 : List Nat) (q : List D) (s3 : Sl), (s3 = .no ∨ ∃ a, s3 = .v a) → q.length + t2.length ≤ 1000 →
    ∃ s3', (s3' = .no ∨ ∃ a, s3' = .v a) ∧ forL (gN 3) b1_exchanges (t2.map I) [.v d, .own (.lst q), .v (tupN (x :: t)), s3] = some (.nx [.v d, .own (.lst (q ++ t2.map fun y => pD (x, y))), .v (tupN (x :: t)), s3'])
  | [], q, s3, h, _ => ⟨s3, h, by rw [List.map_nil, List.map_nil, List.append_nil]; rfl⟩
  | y :: t2, q, s3, h, hz => by
    rw [List.length_cons] at hz
    have hap : fApp (.tup [I x, I y]) q = some (.non, q ++ [pD (x, y)]) := by
      unfold fApp
      rw [sz_of (show q.length ≤ 1000000 by omega)]
      rfl
    have hb := ex_b1 (d := d) (t := .non) (s3 := .no) (c := tupN (x :: t)) (x := x) (y := y) (show L2.atI (I x :: t.map I) ((0 : Nat) : Int) = some (I x) from L2.atI_nat (j := 0) rfl) hap
    obtain ⟨s3', h1, h2⟩ := ex_inner (d := d) (x := x) (t := t) t2 (q ++ [pD (x, y)]) (.v (I y)) (.inr ⟨_, rfl⟩) (by rw [List.length_append]; show q.length + 1 + t2.length ≤ 1000; omega)
    refine ⟨s3', h1, ?_⟩
    have ht : gN 3 (I y) [.v d, .own (.lst q), .v (tupN (x :: t)), s3] = some [.v d, .own (.lst q), .v (tupN (x :: t)), .v (I y)] := by
      rcases h with rfl | ⟨a, rfl⟩ <;> rfl
    rw [List.map_cons]
    simp only [forL, ht, hb]
    rw [h2, List.append_assoc]
    rfl
theorem cut_tail {α : Type} (x : α) (t : List α) : cut (x :: t) (some 1) none = t := by
  unfold cut
  rw [show (1 : Int) = ((1 : Nat) : Int) from rfl, HT.sIx_nat, HT.sIx_none, show min 1 (x :: t).length = 1 by rw [List.length_cons]; omega]
  show (List.drop 0 t).take ((x :: t).length - 1) = t
  rw [List.drop_zero, List.length_cons, Nat.add_sub_cancel]
  exact List.take_length
theorem ex_b2 {d : D} {q q2 : List D} {s3 s3' : Sl} {x : Nat} {t : List Nat} (w : forL (gN 3) b1_exchanges (t.map I) [.v d, .own (.lst q), .v (tupN (x :: t)), s3] = some (.nx [.v d, .own (.lst q2), .v (tupN (x :: t)), s3'])) :
    b2_exchanges [.v d, .own (.lst q), .v (tupN (x :: t)), s3] = some (.nx [.v d, .own (.lst q2), .v (tupN (x :: t)), s3']) := by
  have hs : fSl (some 1) none (tupN (x :: t)) = some (.v (.tup (t.map I))) := by
    show some (Rs.v (.tup (cut (I x :: t.map I) (some 1) none))) = _
    rw [cut_tail]
  unfold b2_exchanges mSl
  generalize fSl = sl at hs ⊢
  generalize tupN (x :: t) = c at hs w ⊢
  simp only [mFor, mSeq, mIfS, mThen, mTst, mOp, mPeek, mVar, mTake, mSet, mSetIx, mRet, mR, mV, mU, mG, mN, mRd2, mOpN, mAnd, mOr, mNot, mAndV, mOrV, mNotV, mIf, mNil, mCons, mTup, mLst, mPart, mSl, mPar, mPair, mDrop, mM1, mM0, mHere, M.chg, M.bind, M.ret, M.of, Ar.sl, Rs.get, Rs.sl, setSl, isIo, isL, chg, onL, fSetIx, Sl.mut, Sl.upd, ioC, ioIx, env0, runF, mCall, rsv, wb, axIx, noIoA, xNil, xV, xSl, mIt, mListRg, mTupRg, List.length_cons, List.length_nil, List.map_cons, List.map_nil, List.cons_append, List.nil_append, List.replicate_succ, List.replicate_zero, List.append_nil, Nat.reduceAdd, Nat.reduceSub, List.getElem?_cons_zero, List.getElem?_cons_succ, List.getElem?_nil, List.set_cons_zero, List.set_cons_succ, Option.bind_some, Option.bind_none, Option.map_some, Option.map_none, Nat.reduceLT, Nat.reduceEqDiff, Nat.reduceLeDiff, decide_true, decide_false, Bool.and_true, Bool.true_and, Bool.and_false, Bool.false_and, Bool.not_true, Bool.not_false, ↓reduceIte, reduceCtorEq, Bool.false_eq_true, List.length_map, Nat.lt_add_left_iff_pos, Nat.zero_lt_succ, Nat.add_eq, Nat.zero_add, Nat.add_zero, Nat.zero_le, sz0, sz1, sz2, sz3, sz4, sz5, sz6, sz7, sz8, sz9, mIx, inOf, hs, items, w]
theorem ex_all {d : D} {ds q : List D} {s2 s3 : Sl} {A B : DF} (hA : A [.v d] = some (.rt (.v .non) none)) (hB : B [.v d] = some (.rt (.v (.tup ds)) none)) (w1 : forL (gN 2) b2_exchanges ds [.v d, .own (.lst []), .no, .no] = some (.nx [.v d, .own (.lst q), s2, s3])) :
    runF 4 (mSeq (mDrop (mCall A [] (xV (mVar 0) xNil)))
    (mSeq (mSet 1 (mLst mNil))
    (mSeq (mFor (mIt items (mV (mCall B [] (xV (mVar 0) xNil)))) (gN 2) b2_exchanges)
    (mRet (mR (mG fTuple (mPeek 1))))))) [.v d] = some (.rt (.v (.tup q)) none) := by
  simp only [mFor, mSeq, mIfS, mThen, mTst, mOp, mPeek, mVar, mTake, mSet, mSetIx, mRet, mR, mV, mU, mG, mN, mRd2, mOpN, mAnd, mOr, mNot, mAndV, mOrV, mNotV, mIf, mNil, mCons, mTup, mLst, mPart, mSl, mPar, mPair, mDrop, mM1, mM0, mHere, M.chg, M.bind, M.ret, M.of, Ar.sl, Rs.get, Rs.sl, setSl, isIo, isL, chg, onL, fSetIx, Sl.mut, Sl.upd, ioC, ioIx, env0, runF, mCall, rsv, wb, axIx, noIoA, xNil, xV, xSl, mIt, mListRg, mTupRg, List.length_cons, List.length_nil, List.map_cons, List.map_nil, List.cons_append, List.nil_append, List.replicate_succ, List.replicate_zero, List.append_nil, Nat.reduceAdd, Nat.reduceSub, List.getElem?_cons_zero, List.getElem?_cons_succ, List.getElem?_nil, List.set_cons_zero, List.set_cons_succ, Option.bind_some, Option.bind_none, Option.map_some, Option.map_none, Nat.reduceLT, Nat.reduceEqDiff, Nat.reduceLeDiff, decide_true, decide_false, Bool.and_true, Bool.true_and, Bool.and_false, Bool.false_and, Bool.not_true, Bool.not_false, ↓reduceIte, reduceCtorEq, Bool.false_eq_true, List.length_map, Nat.lt_add_left_iff_pos, Nat.zero_lt_succ, Nat.add_eq, Nat.zero_add, Nat.add_zero, Nat.zero_le, sz0, sz1, sz2, sz3, sz4, sz5, sz6, sz7, sz8, sz9, mIx, hA, hB, items, w1, fTuple]
def exT (cs : List (List Nat)) : List (Nat × Nat) := (cs.map cpairs).flatten
theorem exT_len : ∀ cs : List (List Nat), (exT cs).length ≤ cs.flatten.length
  | [] => Nat.le_refl _
  | c :: cs => by
    have ih := exT_len cs
    unfold exT at *
    simp only [List.map_cons, List.flatten_cons, List.length_append]
    have : (cpairs c).length ≤ c.length := by
      cases c with
      | nil => exact Nat.le_refl _
      | cons x t => show (t.map _).length ≤ t.length + 1; rw [List.length_map]; omega
    omega
theorem exchanges_fg {d : D} {f : Nat → Nat} {n : Nat} (F : Fg d f n) : F_exchanges [.v d] = some (.rt (.v (.tup ((exch f n).map pD))) none) := by
  have hn8 : n ≤ 8 := by have := F.sz; omega
  have hfl := F.pm.flat_len
  obtain ⟨env', w1, s2, s3, _, _, rfl⟩ := forL_inv (t := gN 2) (b := b2_exchanges) (ds := (cycs f n).map tupN) (k := 0)
    (I := fun i env => ∃ s2 s3, (s2 = .no ∨ ∃ a, s2 = .v a) ∧ (s3 = .no ∨ ∃ a, s3 = .v a) ∧ env = [.v d, .own (.lst ((exT ((cycs f n).take i)).map pD)), s2, s3])
    (fun i x env hx ⟨s2, s3, h2, h3, e⟩ => by
      rw [Nat.zero_add] at *
      subst e
      rw [List.getElem?_map] at hx
      obtain ⟨c, hc, rfl⟩ := Option.map_eq_some_iff.mp hx
      have htk : (cycs f n).take (i + 1) = (cycs f n).take i ++ [c] := by
        rw [List.take_add_one, hc]
        rfl
      have hex : exT ((cycs f n).take (i + 1)) = exT ((cycs f n).take i) ++ cpairs c := by
        unfold exT
        rw [htk, List.map_append, List.flatten_append]
        simp
      have hlen : (exT ((cycs f n).take i)).length + c.length ≤ n := by
        have h1 := exT_len ((cycs f n).take i)
        have h2 : (((cycs f n).take (i + 1)).flatten).length ≤ (cycs f n).flatten.length := by
          conv => rhs; rw [← List.take_append_drop (i + 1) (cycs f n), List.flatten_append, List.length_append]
          omega
        rw [htk, List.flatten_append, List.length_append] at h2
        simp only [List.flatten_cons, List.flatten_nil, List.append_nil] at h2
        omega
      cases c with
      | nil =>
        exfalso
        have := List.mem_of_getElem? hc
        obtain ⟨m, _, e⟩ := List.mem_map.mp this
        exact List.cons_ne_nil _ _ e
      | cons a t =>
        rw [List.length_cons] at hlen
        obtain ⟨s3', k1, k2⟩ := ex_inner (d := d) (x := a) (t := t) t ((exT ((cycs f n).take i)).map pD) s3 h3 (by rw [List.length_map]; omega)
        refine ⟨[.v d, .own (.lst ((exT ((cycs f n).take i)).map pD)), .v (tupN (a :: t)), s3], _, ?_, .inl (ex_b2 k2), .v (tupN (a :: t)), s3', .inr ⟨_, rfl⟩, k1, ?_⟩
        · rcases h2 with rfl | ⟨_, rfl⟩ <;> rfl
        · rw [hex, List.map_append]
          show _ = [Sl.v d, Sl.own (D.lst (_ ++ List.map pD (t.map _))), _, _]
          rw [List.map_map]
          rfl)
    [.v d, .own (.lst []), .no, .no] ⟨.no, .no, .inl rfl, .inl rfl, rfl⟩
  have e : (cycs f n).take (0 + ((cycs f n).map tupN).length) = cycs f n := by
    rw [Nat.zero_add, List.length_map]
    exact List.take_length
  rw [e] at w1
  exact ex_all (need_figure_fg F) (cycles_of_fg F) w1
/-! ### made of them -/
def stD (n : Nat) (st : Nat → Nat) : List D := (List.range n).map fun i => I (st i)
theorem md_b1 {P m s3 s4 a b x y : Sl} {r r1 r2 : List D} {o w u v : D} (h1 : L2.atI r 0 = some u) : True := trivial
theorem made_b1 {P m : D} {s3 s4 : Sl} {n a b : Nat} {st : Nat → Nat} (ha : a < n) (hb : b < n) :
    b1__law_made [.v P, .v m, .own (.lst (stD n st)), s3, s4, .v (I a), .v (I b)] = some (.nx [.v P, .v m, .own (.lst (stD n (swp st (a, b)))), s3, s4, .v (I a), .v (I b)]) := by
  have i1 : fIx (.lst (stD n st)) (.int (b : Nat)) = some (I (st b)) := at_map hb
  have i2 : fIx (.lst (stD n st)) (.int (a : Nat)) = some (I (st a)) := at_map ha
  have l1 : (stD n st).length = n := by unfold stD; rw [List.length_map, List.length_range]
  have j1 : fSetIx (.int (a : Nat)) (I (st b)) (stD n st) = some ((), (stD n st).set a (I (st b))) := by
    unfold fSetIx
    dsimp only
    rw [l1, ix_nat ha]
    rfl
  have j2 : fSetIx (.int (b : Nat)) (I (st a)) ((stD n st).set a (I (st b))) = some ((), stD n (swp st (a, b))) := by
    unfold fSetIx
    dsimp only
    rw [List.length_set, l1, ix_nat hb]
    show some ((), (((stD n st).set a (I (st b))).set b (I (st a)))) = _
    have e : ((stD n st).set a (I (st b))).set b (I (st a)) = stD n (swp st (a, b)) := by
      unfold stD
      rw [set_map, set_map]
      refine List.map_congr_left fun i _ => ?_
      unfold swp
      dsimp only
      by_cases e1 : i = b
      · rw [if_pos e1, if_pos e1]
      · rw [if_neg e1, if_neg e1]
        by_cases e2 : i = a
        · rw [if_pos e2, if_pos e2]
        · rw [if_neg e2, if_neg e2]
    rw [e]
  unfold b1__law_made mIx gSt
  generalize fIx = ix at i1 i2 ⊢
  generalize fSetIx = si at j1 j2 ⊢
  generalize (stD n st).set a (I (st b)) = r1 at j1 j2 ⊢
  generalize stD n (swp st (a, b)) = r2 at j2 ⊢
  generalize stD n st = r at *
  simp only [mUnp, gT, gsCons, gsNil, mSeq, mIfS, mThen, mTst, mOp, mPeek, mVar, mTake, mSet, mSetIx, mRet, mR, mV, mU, mG, mN, mRd2, mOpN, mAnd, mOr, mNot, mAndV, mOrV, mNotV, mIf, mNil, mCons, mTup, mLst, mPart, mSl, mPar, mPair, mDrop, mM1, mM0, mHere, M.chg, M.bind, M.ret, M.of, Ar.sl, Rs.get, Rs.sl, setSl, isIo, isL, chg, onL, fSetIx, Sl.mut, Sl.upd, ioC, ioIx, env0, runF, mCall, rsv, wb, axIx, noIoA, xNil, xV, xSl, mIt, mListRg, mTupRg, List.length_cons, List.length_nil, List.map_cons, List.map_nil, List.cons_append, List.nil_append, List.replicate_succ, List.replicate_zero, List.append_nil, Nat.reduceAdd, Nat.reduceSub, List.getElem?_cons_zero, List.getElem?_cons_succ, List.getElem?_nil, List.set_cons_zero, List.set_cons_succ, Option.bind_some, Option.bind_none, Option.map_some, Option.map_none, Nat.reduceLT, Nat.reduceEqDiff, Nat.reduceLeDiff, decide_true, decide_false, Bool.and_true, Bool.true_and, Bool.and_false, Bool.false_and, Bool.not_true, Bool.not_false, ↓reduceIte, reduceCtorEq, Bool.false_eq_true, List.length_map, Nat.lt_add_left_iff_pos, Nat.zero_lt_succ, Nat.add_eq, Nat.zero_add, Nat.add_zero, Nat.zero_le, sz0, sz1, sz2, sz3, sz4, sz5, sz6, sz7, sz8, sz9, mIx, i1, i2, j1, j2]
theorem made_b2 {P m : D} {s5 s6 s4 : Sl} {n k : Nat} {r q q2 : List D} {x : D} (hix : fIx (.lst r) (.int (k : Nat)) = some x) (hs : fSetIx x (I k) q = some ((), q2)) :
    b2__law_made [.v P, .v m, .own (.lst r), .own (.lst q), .v (I k), s5, s6] = some (.nx [.v P, .v m, .own (.lst r), .own (.lst q2), .v (I k), s5, s6]) := by
  unfold b2__law_made mIx mSetIx
  generalize fIx = ix at hix ⊢
  generalize fSetIx = si at hs ⊢
  simp only [mSeq, mIfS, mThen, mTst, mOp, mPeek, mVar, mTake, mSet, mSetIx, mRet, mR, mV, mU, mG, mN, mRd2, mOpN, mAnd, mOr, mNot, mAndV, mOrV, mNotV, mIf, mNil, mCons, mTup, mLst, mPart, mSl, mPar, mPair, mDrop, mM1, mM0, mHere, M.chg, M.bind, M.ret, M.of, Ar.sl, Rs.get, Rs.sl, setSl, isIo, isL, chg, onL, fSetIx, Sl.mut, Sl.upd, ioC, ioIx, env0, runF, mCall, rsv, wb, axIx, noIoA, xNil, xV, xSl, mIt, mListRg, mTupRg, List.length_cons, List.length_nil, List.map_cons, List.map_nil, List.cons_append, List.nil_append, List.replicate_succ, List.replicate_zero, List.append_nil, Nat.reduceAdd, Nat.reduceSub, List.getElem?_cons_zero, List.getElem?_cons_succ, List.getElem?_nil, List.set_cons_zero, List.set_cons_succ, Option.bind_some, Option.bind_none, Option.map_some, Option.map_none, Nat.reduceLT, Nat.reduceEqDiff, Nat.reduceLeDiff, decide_true, decide_false, Bool.and_true, Bool.true_and, Bool.and_false, Bool.false_and, Bool.not_true, Bool.not_false, ↓reduceIte, reduceCtorEq, Bool.false_eq_true, List.length_map, Nat.lt_add_left_iff_pos, Nat.zero_lt_succ, Nat.add_eq, Nat.zero_add, Nat.add_zero, Nat.zero_le, sz0, sz1, sz2, sz3, sz4, sz5, sz6, sz7, sz8, sz9, mIx, hix, hs]
end Zk04
end

section
set_option Elab.async false
set_option linter.all false
set_option maxRecDepth 100000
set_option maxHeartbeats 4000000
/-! k04: the law's making of exchanges, on. -/
namespace Zk04
open PySem L2 Z Zb Za
open Zp (it Pm orb walk mins cycs isMin swp cpairs exch)
theorem seq_nx {a b : MS} {env env1 : Z.Env} (h : a env = some (.nx env1)) : mSeq a b env = b env1 := by
  unfold mSeq
  rw [h]
theorem then_ok {α : Type} {m : M α} {k : α → MS} {env env1 : Z.Env} {x : α} (h : m env = some (.ok x env1)) : mThen m k env = k x env1 := by
  unfold mThen
  rw [h]
theorem bind_ok {α β : Type} {m : M α} {k : α → M β} {env env1 : Z.Env} {x : α} (h : m env = some (.ok x env1)) : M.bind m k env = k x env1 := by
  unfold M.bind
  rw [h]
theorem md_1 {P x : D} {r0 : List D} (hg : fRg x = some r0) : mSet 2 (mListRg (mVar 1)) [.v P, .v x, .no, .no, .no, .no, .no] = some (.nx [.v P, .v x, .own (.lst r0), .no, .no, .no, .no]) := by
  unfold mListRg
  generalize fRg = a1 at hg ⊢
  simp only [mSeq, mIfS, mThen, mTst, mOp, mPeek, mVar, mTake, mSet, mSetIx, mRet, mR, mV, mU, mG, mN, mRd2, mOpN, mAnd, mOr, mNot, mAndV, mOrV, mNotV, mIf, mNil, mCons, mTup, mLst, mPart, mSl, mPar, mPair, mDrop, mM1, mM0, mHere, M.chg, M.bind, M.ret, M.of, Ar.sl, Rs.get, Rs.sl, setSl, isIo, isL, chg, onL, fSetIx, Sl.mut, Sl.upd, ioC, ioIx, env0, runF, mCall, rsv, wb, axIx, noIoA, xNil, xV, xSl, mIt, mListRg, mTupRg, List.length_cons, List.length_nil, List.map_cons, List.map_nil, List.cons_append, List.nil_append, List.replicate_succ, List.replicate_zero, List.append_nil, Nat.reduceAdd, Nat.reduceSub, List.getElem?_cons_zero, List.getElem?_cons_succ, List.getElem?_nil, List.set_cons_zero, List.set_cons_succ, Option.bind_some, Option.bind_none, Option.map_some, Option.map_none, Nat.reduceLT, Nat.reduceEqDiff, Nat.reduceLeDiff, decide_true, decide_false, Bool.and_true, Bool.true_and, Bool.and_false, Bool.false_and, Bool.not_true, Bool.not_false, ↓reduceIte, reduceCtorEq, Bool.false_eq_true, List.length_map, Nat.lt_add_left_iff_pos, Nat.zero_lt_succ, Nat.add_eq, Nat.zero_add, Nat.add_zero, Nat.zero_le, sz0, sz1, sz2, sz3, sz4, sz5, sz6, sz7, sz8, sz9, mIx, hg]
theorem md_2 {P : List D} {x : D} {s2 s3 s4 s5 s6 : Sl} : (mIt items (mVar 0)) [.v (.tup P), .v x, s2, s3, s4, s5, s6] = some (.ok P [.v (.tup P), .v x, s2, s3, s4, s5, s6]) := rfl
theorem md_3 {P x : D} {r q0 : List D} {s4 s5 s6 : Sl} (hr : fRep (.lst [.int 0]) x = some (.lst q0)) : mSet 3 (mOpN fRep (mLst (mCons (M.ret (.int 0)) mNil)) (mR (mVar 1))) [.v P, .v x, .own (.lst r), .no, s4, s5, s6] = some (.nx [.v P, .v x, .own (.lst r), .own (.lst q0), s4, s5, s6]) := by
  generalize fRep = a1 at hr ⊢
  simp only [mSeq, mIfS, mThen, mTst, mOp, mPeek, mVar, mTake, mSet, mSetIx, mRet, mR, mV, mU, mG, mN, mRd2, mOpN, mAnd, mOr, mNot, mAndV, mOrV, mNotV, mIf, mNil, mCons, mTup, mLst, mPart, mSl, mPar, mPair, mDrop, mM1, mM0, mHere, M.chg, M.bind, M.ret, M.of, Ar.sl, Rs.get, Rs.sl, setSl, isIo, isL, chg, onL, fSetIx, Sl.mut, Sl.upd, ioC, ioIx, env0, runF, mCall, rsv, wb, axIx, noIoA, xNil, xV, xSl, mIt, mListRg, mTupRg, List.length_cons, List.length_nil, List.map_cons, List.map_nil, List.cons_append, List.nil_append, List.replicate_succ, List.replicate_zero, List.append_nil, Nat.reduceAdd, Nat.reduceSub, List.getElem?_cons_zero, List.getElem?_cons_succ, List.getElem?_nil, List.set_cons_zero, List.set_cons_succ, Option.bind_some, Option.bind_none, Option.map_some, Option.map_none, Nat.reduceLT, Nat.reduceEqDiff, Nat.reduceLeDiff, decide_true, decide_false, Bool.and_true, Bool.true_and, Bool.and_false, Bool.false_and, Bool.not_true, Bool.not_false, ↓reduceIte, reduceCtorEq, Bool.false_eq_true, List.length_map, Nat.lt_add_left_iff_pos, Nat.zero_lt_succ, Nat.add_eq, Nat.zero_add, Nat.add_zero, Nat.zero_le, sz0, sz1, sz2, sz3, sz4, sz5, sz6, sz7, sz8, sz9, mIx, hr]
theorem md_4 {P x : D} {rr : List D} {s2 s3 s4 s5 s6 : Sl} (hr : itR1 x = some rr) : (mIt itR1 (mVar 1)) [.v P, .v x, s2, s3, s4, s5, s6] = some (.ok rr [.v P, .v x, s2, s3, s4, s5, s6]) := by
  generalize itR1 = a1 at hr ⊢
  simp only [mSeq, mIfS, mThen, mTst, mOp, mPeek, mVar, mTake, mSet, mSetIx, mRet, mR, mV, mU, mG, mN, mRd2, mOpN, mAnd, mOr, mNot, mAndV, mOrV, mNotV, mIf, mNil, mCons, mTup, mLst, mPart, mSl, mPar, mPair, mDrop, mM1, mM0, mHere, M.chg, M.bind, M.ret, M.of, Ar.sl, Rs.get, Rs.sl, setSl, isIo, isL, chg, onL, fSetIx, Sl.mut, Sl.upd, ioC, ioIx, env0, runF, mCall, rsv, wb, axIx, noIoA, xNil, xV, xSl, mIt, mListRg, mTupRg, List.length_cons, List.length_nil, List.map_cons, List.map_nil, List.cons_append, List.nil_append, List.replicate_succ, List.replicate_zero, List.append_nil, Nat.reduceAdd, Nat.reduceSub, List.getElem?_cons_zero, List.getElem?_cons_succ, List.getElem?_nil, List.set_cons_zero, List.set_cons_succ, Option.bind_some, Option.bind_none, Option.map_some, Option.map_none, Nat.reduceLT, Nat.reduceEqDiff, Nat.reduceLeDiff, decide_true, decide_false, Bool.and_true, Bool.true_and, Bool.and_false, Bool.false_and, Bool.not_true, Bool.not_false, ↓reduceIte, reduceCtorEq, Bool.false_eq_true, List.length_map, Nat.lt_add_left_iff_pos, Nat.zero_lt_succ, Nat.add_eq, Nat.zero_add, Nat.add_zero, Nat.zero_le, sz0, sz1, sz2, sz3, sz4, sz5, sz6, sz7, sz8, sz9, mIx, hr]
theorem md_5 {P x q : D} {s2 s4 s5 s6 : Sl} : mRet (mTake 3) [.v P, .v x, s2, .own q, s4, s5, s6] = some (.rt (.fr q) [.v P, .v x, s2, .no, s4, s5, s6]) := rfl
theorem made_all {P : List D} {n : Nat} {r0 r q0 q : List D} {s4 s5 s6 : Sl} (hg : fRg (.int (n : Nat)) = some r0) (hrep : fRep (.lst [.int 0]) (.int (n : Nat)) = some (.lst q0)) (hrg : itR1 (.int (n : Nat)) = some (rng n))
    (w1 : forL (gT (gsCons (gN 5) (gsCons (gN 6) gsNil))) b1__law_made P [.v (.tup P), .v (I n), .own (.lst r0), .no, .no, .no, .no] = some (.nx [.v (.tup P), .v (I n), .own (.lst r), .no, .no, s5, s6]))
    (w2 : forL (gN 4) b2__law_made (rng n) [.v (.tup P), .v (I n), .own (.lst r), .own (.lst q0), .no, s5, s6] = some (.nx [.v (.tup P), .v (I n), .own (.lst r), .own (.lst q), s4, s5, s6])) :
    m__law_made [.v (.tup P), .v (I n), .no, .no, .no, .no, .no] = some (.rt (.fr (.lst q)) [.v (.tup P), .v (I n), .own (.lst r), .no, s4, s5, s6]) := by
  unfold m__law_made
  rw [seq_nx (md_1 hg)]
  unfold mFor
  rw [seq_nx ((then_ok md_2).trans w1), seq_nx (md_3 hrep), seq_nx ((then_ok (md_4 hrg)).trans w2)]
  exact md_5
theorem made_run {P : List D} {n : Nat} {r q : List D} {s4 s5 s6 : Sl} (h : m__law_made [.v (.tup P), .v (I n), .no, .no, .no, .no, .no] = some (.rt (.fr (.lst q)) [.v (.tup P), .v (I n), .own (.lst r), .no, s4, s5, s6])) : F__law_made [.v (.tup P), .v (I n)] = some (.rt (.fr (.lst q)) none) := by
  unfold F__law_made
  generalize m__law_made = m at h ⊢
  unfold mkF runF
  show (match m [.v (.tup P), .v (I n), .no, .no, .no, .no, .no] with
    | some (.nx env) => some (CO.rt (.v .non) (ioC [.v (.tup P), .v (I n)] env))
    | some (.rt (.v d) env) => some (CO.rt (.v d) (ioC [.v (.tup P), .v (I n)] env))
    | some (.rt (.fr d) env) => some (CO.rt (.fr d) (ioC [.v (.tup P), .v (I n)] env))
    | some (.ex c ns vs env) => some (CO.ex c ns vs (ioC [.v (.tup P), .v (I n)] env))
    | _ => none) = _
  rw [h]
  rfl
theorem made_fg {f : Nat → Nat} {n : Nat} (P : Pm f n) (hn8 : n ≤ 8) : F__law_made [.v (.tup ((exch f n).map pD)), .v (.int (n : Nat))] = some (.rt (.fr (.lst ((List.range n).map fun i => I (f i)))) none) := by
  obtain ⟨env1, w1, s5, s6, hj, rfl⟩ := forL_inv (t := gT (gsCons (gN 5) (gsCons (gN 6) gsNil))) (b := b1__law_made) (ds := (exch f n).map pD) (k := 0)
    (I := fun i env => ∃ s5 s6, ((s5 = .no ∧ s6 = .no) ∨ ∃ a b, s5 = .v a ∧ s6 = .v b) ∧ env = [.v (.tup ((exch f n).map pD)), .v (I n), .own (.lst (stD n (((exch f n).take i).foldl swp id))), .no, .no, s5, s6])
    (fun i x env hx ⟨s5, s6, hj, e⟩ => by
      rw [Nat.zero_add] at *
      subst e
      rw [List.getElem?_map] at hx
      obtain ⟨p, hp, rfl⟩ := Option.map_eq_some_iff.mp hx
      have hpr := P.pairs (List.mem_of_getElem? hp)
      have htk : ((exch f n).take (i + 1)).foldl swp id = swp (((exch f n).take i).foldl swp id) p := by
        rw [List.take_add_one, hp, List.foldl_append]
        rfl
      refine ⟨[.v (.tup ((exch f n).map pD)), .v (I n), .own (.lst (stD n (((exch f n).take i).foldl swp id))), .no, .no, .v (I p.1), .v (I p.2)], _, ?_, .inl (made_b1 (by omega) hpr.2), .v (I p.1), .v (I p.2), .inr ⟨_, _, rfl, rfl⟩, ?_⟩
      · rcases hj with ⟨rfl, rfl⟩ | ⟨a, b, rfl, rfl⟩ <;> rfl
      · rw [htk])
    [.v (.tup ((exch f n).map pD)), .v (I n), .own (.lst (stD n id)), .no, .no, .no, .no] ⟨.no, .no, .inl ⟨rfl, rfl⟩, rfl⟩
  have e : (exch f n).take (0 + ((exch f n).map pD).length) = exch f n := by
    rw [Nat.zero_add, List.length_map]
    exact List.take_length
  rw [e] at w1
  have hst : ∀ k, k < n → ((exch f n).foldl swp id) k < n ∧ f (((exch f n).foldl swp id) k) = k := fun k hk => by
    obtain ⟨L, l1, l2⟩ := P.per hk
    have hx := P.it_lt hk (L - 1)
    have hf : f (it f (L - 1) k) = k := by
      have := l2.back
      rw [show L = (L - 1) + 1 by have := l2.pos; omega] at this
      exact this
    have := P.exch_fold hx
    rw [hf] at this
    rw [this]
    exact ⟨hx, hf⟩
  generalize (exch f n).foldl swp id = st at *
  obtain ⟨env2, w2, s4, hj4, rfl⟩ := forL_inv (t := gN 4) (b := b2__law_made) (ds := rng n) (k := 0)
    (I := fun i env => ∃ s4, (s4 = .no ∨ ∃ a, s4 = .v a) ∧ env = [.v (.tup ((exch f n).map pD)), .v (I n), .own (.lst (stD n st)), .own (.lst (stD n fun y => if f y < i then f y else 0)), s4, s5, s6])
    (fun i x env hx ⟨s4, hj4, e⟩ => by
      rw [Nat.zero_add] at *
      have hi : i < n := by
        have := (List.getElem?_eq_some_iff.mp hx).1
        rw [rng_len] at this
        exact this
      have ex : x = I i := by
        rw [rng_eq, List.getElem?_map, List.getElem?_range hi] at hx
        exact (Option.some.inj hx).symm
      subst ex
      subst e
      obtain ⟨h1, h2⟩ := hst i hi
      have hset : fSetIx (I (st i)) (I i) (stD n fun y => if f y < i then f y else 0) = some ((), stD n fun y => if f y < i + 1 then f y else 0) := by
        unfold fSetIx
        dsimp only
        rw [show (stD n fun y => if f y < i then f y else 0).length = n by unfold stD; rw [List.length_map, List.length_range], ix_nat h1]
        show some ((), (stD n fun y => if f y < i then f y else 0).set (st i) (I i)) = _
        have e : (stD n fun y => if f y < i then f y else 0).set (st i) (I i) = stD n fun y => if f y < i + 1 then f y else 0 := by
          unfold stD
          rw [set_map]
          refine List.map_congr_left fun y hy => ?_
          have hy := List.mem_range.mp hy
          dsimp only
          by_cases e : y = st i
          · subst e
            rw [if_pos rfl, h2, if_pos (by omega)]
          · have hne : f y ≠ i := fun e2 => e (P.inj y (st i) hy h1 (by rw [h2, e2]))
            rw [if_neg e]
            by_cases e3 : f y < i
            · rw [if_pos e3, if_pos (by omega)]
            · rw [if_neg e3, if_neg (by omega)]
        rw [e]
      refine ⟨[.v (.tup ((exch f n).map pD)), .v (I n), .own (.lst (stD n st)), .own (.lst (stD n fun y => if f y < i then f y else 0)), .v (I i), s5, s6], _, ?_, .inl (made_b2 (n := n) (s4 := .no) (at_map hi) hset), .v (I i), .inr ⟨_, rfl⟩, rfl⟩
      rcases hj4 with rfl | ⟨a, rfl⟩ <;> rcases hj with ⟨rfl, rfl⟩ | ⟨a, b, rfl, rfl⟩ <;> rfl)
    [.v (.tup ((exch f n).map pD)), .v (I n), .own (.lst (stD n st)), .own (.lst (stD n fun y => if f y < 0 then f y else 0)), .no, s5, s6] ⟨.no, .inl rfl, rfl⟩
  rw [rng_len, Nat.zero_add] at w2
  have hrep : fRep (.lst [.int 0]) (.int (n : Nat)) = some (.lst (stD n fun y => if f y < 0 then f y else 0)) := by
    have e1 : (stD n fun y => if f y < 0 then f y else 0) = (List.range n).map fun _ => D.int 0 := by
      unfold stD
      exact List.map_congr_left fun y _ => by dsimp only; rw [if_neg (Nat.not_lt_zero _)]; rfl
    rw [e1, ← rep1]
    unfold fRep
    dsimp only
    rw [Int.toNat_natCast, decide_eq_true (show -1000000 ≤ ((n : Nat) : Int) by omega), decide_eq_true (show ((n : Nat) : Int) ≤ 1000000 by omega), sz_of (show [D.int 0].length * n ≤ 1000000 by show 1 * n ≤ 1000000; omega)]
    rfl
  have hg : fRg (.int (n : Nat)) = some (stD n id) := by
    have h : okRg (n : Nat) = true := by
      unfold okRg
      rw [decide_eq_true (show ((n : Nat) : Int) ≤ 1000000 by omega), decide_eq_true (show -1000000 ≤ ((n : Nat) : Int) by omega)]
      rfl
    unfold fRg
    dsimp only
    generalize okRg (n : Nat) = b at h ⊢
    rw [h, Int.toNat_natCast]
    rfl
  have hfin : (stD n fun y => if f y < n then f y else 0) = (List.range n).map fun i => I (f i) := by
    unfold stD
    exact List.map_congr_left fun y hy => by dsimp only; rw [if_pos (P.lt y (List.mem_range.mp hy))]
  rw [hfin] at w2
  exact made_run (made_all hg hrep (it_rng n (by omega)) w1 w2)
end Zk04
end

section
set_option Elab.async false
set_option linter.all false
set_option maxRecDepth 100000
set_option maxHeartbeats 4000000
/-! k04: _law_right says yes. -/
namespace Zk04
open PySem L2 Z Zb Za
open Zp (it Pm orb walk mins cycs isMin swp cpairs exch lcmL)
section
variable {env env1 : Z.Env} {x y z o r d T : D} {b c : Bool} {a e : Sl} {F : DF}
theorem call1 (h : F [.v d] = some (.rt (.v r) none)) : mCall F [] (xV (mVar 0) xNil) [.v d, a, e] = some (.ok (.v r) [.v d, a, e]) := by
  simp only [mSeq, mIfS, mThen, mTst, mOp, mPeek, mVar, mTake, mSet, mSetIx, mRet, mR, mV, mU, mG, mN, mRd2, mOpN, mAnd, mOr, mNot, mAndV, mOrV, mNotV, mIf, mNil, mCons, mTup, mLst, mPart, mSl, mPar, mPair, mDrop, mM1, mM0, mHere, M.chg, M.bind, M.ret, M.of, Ar.sl, Rs.get, Rs.sl, setSl, isIo, isL, chg, onL, fSetIx, Sl.mut, Sl.upd, ioC, ioIx, env0, runF, mCall, rsv, wb, axIx, noIoA, xNil, xV, xSl, mIt, mListRg, mTupRg, List.length_cons, List.length_nil, List.map_cons, List.map_nil, List.cons_append, List.nil_append, List.replicate_succ, List.replicate_zero, List.append_nil, Nat.reduceAdd, Nat.reduceSub, List.getElem?_cons_zero, List.getElem?_cons_succ, List.getElem?_nil, List.set_cons_zero, List.set_cons_succ, Option.bind_some, Option.bind_none, Option.map_some, Option.map_none, Nat.reduceLT, Nat.reduceEqDiff, Nat.reduceLeDiff, decide_true, decide_false, Bool.and_true, Bool.true_and, Bool.and_false, Bool.false_and, Bool.not_true, Bool.not_false, ↓reduceIte, reduceCtorEq, Bool.false_eq_true, List.length_map, Nat.lt_add_left_iff_pos, Nat.zero_lt_succ, Nat.add_eq, Nat.zero_add, Nat.add_zero, Nat.zero_le, sz0, sz1, sz2, sz3, sz4, sz5, sz6, sz7, sz8, sz9, mIx, h]
theorem callK (h : F [.v d] = some (.rt (.v r) none)) : mCall F [] (mKw 0 1 [0] [] mNil (mCons (mVar 0) mNil)) [.v d, a, e] = some (.ok (.v r) [.v d, a, e]) := by
  have hm : mKw 0 1 [0] [] mNil (mCons (mVar 0) mNil) [.v d, a, e] = some (.ok [.v d] [.v d, a, e]) := rfl
  unfold mCall
  rw [bind_ok hm]
  simp only [mSeq, mIfS, mThen, mTst, mOp, mPeek, mVar, mTake, mSet, mSetIx, mRet, mR, mV, mU, mG, mN, mRd2, mOpN, mAnd, mOr, mNot, mAndV, mOrV, mNotV, mIf, mNil, mCons, mTup, mLst, mPart, mSl, mPar, mPair, mDrop, mM1, mM0, mHere, M.chg, M.bind, M.ret, M.of, Ar.sl, Rs.get, Rs.sl, setSl, isIo, isL, chg, onL, fSetIx, Sl.mut, Sl.upd, ioC, ioIx, env0, runF, mCall, rsv, wb, axIx, noIoA, xNil, xV, xSl, mIt, mListRg, mTupRg, List.length_cons, List.length_nil, List.map_cons, List.map_nil, List.cons_append, List.nil_append, List.replicate_succ, List.replicate_zero, List.append_nil, Nat.reduceAdd, Nat.reduceSub, List.getElem?_cons_zero, List.getElem?_cons_succ, List.getElem?_nil, List.set_cons_zero, List.set_cons_succ, Option.bind_some, Option.bind_none, Option.map_some, Option.map_none, Nat.reduceLT, Nat.reduceEqDiff, Nat.reduceLeDiff, decide_true, decide_false, Bool.and_true, Bool.true_and, Bool.and_false, Bool.false_and, Bool.not_true, Bool.not_false, ↓reduceIte, reduceCtorEq, Bool.false_eq_true, List.length_map, Nat.lt_add_left_iff_pos, Nat.zero_lt_succ, Nat.add_eq, Nat.zero_add, Nat.add_zero, Nat.zero_le, sz0, sz1, sz2, sz3, sz4, sz5, sz6, sz7, sz8, sz9, mIx, h]
theorem g_ok {f : D → Option D} {m : M Rs} (h : m env = some (.ok (.v x) env)) (hf : f x = some o) : mG f m env = some (.ok o env) := by
  unfold mG
  rw [bind_ok h]
  simp only [M.of, Rs.get, Option.bind_some, hf]
theorem r_ok {m : M D} (h : m env = some (.ok x env)) : mR m env = some (.ok (.v x) env) := by
  unfold mR
  rw [bind_ok h]
  rfl
theorem rd2_ok {f : D → D → Option D} {m n : M Rs} (h : m env = some (.ok (.v x) env)) (h2 : n env = some (.ok (.v y) env)) (hf : f x y = some z) : mRd2 f m n env = some (.ok z env) := by
  unfold mRd2
  rw [bind_ok h, bind_ok h2]
  simp only [M.of, Rs.get, Option.bind_some, hf]
theorem rd2_fr {f : D → D → Option D} {m n : M Rs} (h : m env = some (.ok (.fr x) env)) (h2 : n env = some (.ok (.fr y) env)) (hf : f x y = some z) : mRd2 f m n env = some (.ok z env) := by
  unfold mRd2
  rw [bind_ok h, bind_ok h2]
  simp only [M.of, Rs.get, Option.bind_some, hf]
theorem op_ok {f : D → D → Option D} {m n : M D} (h : m env = some (.ok x env)) (h2 : n env = some (.ok y env)) (hf : f x y = some z) : mOp f m n env = some (.ok z env) := by
  unfold mOp
  rw [bind_ok h, bind_ok h2]
  simp only [M.of, hf]
theorem t_ok {m : M D} (h : m env = some (.ok (.bl b) env)) : mTst m env = some (.ok b env) := by
  unfold mTst
  rw [bind_ok h]
  rfl
theorem or_ok {m n : M Bool} (h : m env = some (.ok false env)) (h2 : n env = some (.ok b env)) : mOr m n env = some (.ok b env) := by
  unfold mOr
  rw [bind_ok h]
  exact h2
theorem not_ok {m : M Bool} (h : m env = some (.ok b env)) : mNot m env = some (.ok (!b) env) := by
  unfold mNot
  rw [bind_ok h]
  rfl
theorem ifs_no {t : M Bool} {p q : MS} (h : t env = some (.ok false env)) : mIfS t p q env = q env := by
  unfold mIfS
  rw [then_ok h]
  rfl
theorem andV_ok {m n : M D} (h : m env = some (.ok (.bl true) env)) (h2 : n env = some (.ok o env)) : mAndV m n env = some (.ok o env) := by
  unfold mAndV
  rw [bind_ok h]
  exact h2
theorem ret_ok {m : M Rs} {rs : Rs} (h : m env = some (.ok rs env)) : mRet m env = some (.rt rs env) := by
  unfold mRet
  rw [then_ok h]
theorem seq_if {t : M Bool} {p n : MS} (h : t env = some (.ok false env)) : mSeq (mIfS t p mNext) n env = n env := seq_nx (ifs_no h)
end
/-! the answers, as data -/
theorem gk_tupN (c : List Nat) : Gk 1 (tupN c) := gk_tup (gk_mapI _ _ fun x _ => gk_int _)
theorem gk_cycs (cs : List (List Nat)) : Gk 2 (.tup (cs.map tupN)) := gk_tup (gk_mapI _ _ fun x _ => gk_tupN x)
theorem gk_ex (es : List (Nat × Nat)) : Gk 2 (.tup (es.map pD)) := gk_tup (gk_mapI _ _ fun p _ => gk_tup fun d hd => by
  rcases List.mem_cons.mp hd with rfl | hd
  · exact gk_int _
  · rcases List.mem_cons.mp hd with rfl | hd
    · exact gk_int _
    · cases hd)
theorem sh_cycs {f : Nat → Nat} {n : Nat} (P : Pm f n) (hn : n ≤ 8) : Sh 1000 (.tup ((cycs f n).map tupN)) := by
  have hlen : (cycs f n).length ≤ 8 := by
    have := P.exch_len
    omega
  have h1 : ∀ d ∈ (cycs f n).map tupN, Sh 43 d := fun d hd => by
    obtain ⟨c, hc, rfl⟩ := List.mem_map.mp hd
    have hcl : c.length ≤ n := lens_le P (List.mem_map.mpr ⟨c, hc, rfl⟩)
    refine (sh_tup (n := 3) fun x hx => ?_).mono ?_
    · obtain ⟨i, hi, rfl⟩ := List.mem_map.mp hx
      have : i < n := (P.flat_mem i).mp (List.mem_flatten.mpr ⟨c, hc, hi⟩)
      exact sh_nat i (by omega)
    · rw [List.length_map]
      omega
  refine (sh_tup h1).mono ?_
  rw [List.length_map]
  omega
theorem sh_ex {f : Nat → Nat} {n : Nat} (P : Pm f n) (hn : n ≤ 8) : Sh 1000 (.tup ((exch f n).map pD)) := by
  have hlen : (exch f n).length ≤ 8 := by
    have := P.exch_len
    omega
  have h1 : ∀ d ∈ (exch f n).map pD, Sh 13 d := fun d hd => by
    obtain ⟨p, hp, rfl⟩ := List.mem_map.mp hd
    obtain ⟨h1, h2⟩ := P.pairs hp
    refine (sh_tup (n := 3) fun x hx => ?_).mono (by simp)
    rcases List.mem_cons.mp hx with rfl | hx
    · exact sh_nat _ (by omega)
    · rcases List.mem_cons.mp hx with rfl | hx
      · exact sh_nat _ (by omega)
      · cases hx
  refine (sh_tup h1).mono ?_
  rw [List.length_map]
  omega
theorem pair_ok {d T : D} {f : Nat → Nat} {n : Nat} (F : Fg d f n) {p : Nat × Nat} (h1 : p.1 < p.2) (h2 : p.2 < n) : b1__law_right [.v d, .v T, .v (pD p)] = some (.nx [.v d, .v T, .v (pD p)]) := by
  have hl := F.len
  have hk : mPeek 2 [.v d, .v T, .v (pD p)] = some (.ok (.v (pD p)) [.v d, .v T, .v (pD p)]) := rfl
  have hk0 : mPeek 0 [.v d, .v T, .v (pD p)] = some (.ok (.v d) [.v d, .v T, .v (pD p)]) := rfl
  have hi : fIsi "tuple" (pD p) = some (.bl true) := rfl
  have hl2 : fLen (pD p) = some (.int 2) := rfl
  have ht1 : mNot (mTst (mG (fIsi "tuple") (mPeek 2))) [.v d, .v T, .v (pD p)] = some (.ok false [.v d, .v T, .v (pD p)]) := not_ok (t_ok (g_ok hk hi))
  have ht2 : mTst (mRd2 fNe (mR (mG fLen (mPeek 2))) (mR (M.ret (.int 2)))) [.v d, .v T, .v (pD p)] = some (.ok false [.v d, .v T, .v (pD p)]) :=
    t_ok (rd2_ok (r_ok (g_ok hk hl2)) (r_ok rfl) (fNe_self (gk_int 2) (by decide)))
  have i0 : mIx (mPeek 2) (M.ret (.int 0)) [.v d, .v T, .v (pD p)] = some (.ok (I p.1) [.v d, .v T, .v (pD p)]) := rfl
  have i1 : mIx (mPeek 2) (M.ret (.int 1)) [.v d, .v T, .v (pD p)] = some (.ok (I p.2) [.v d, .v T, .v (pD p)]) := rfl
  have i2 : mG fLen (mPeek 0) [.v d, .v T, .v (pD p)] = some (.ok (I n) [.v d, .v T, .v (pD p)]) := g_ok hk0 hl
  have c0 : fLe (.int 0) (I p.1) = some (.bl true) := by
    show some (D.bl (decide ((0 : Int) ≤ ((p.1 : Nat) : Int)))) = _
    rw [decide_eq_true (by omega)]
  have c1 : fLt (I p.1) (I p.2) = some (.bl true) := by
    show some (D.bl (decide (((p.1 : Nat) : Int) < ((p.2 : Nat) : Int)))) = _
    rw [decide_eq_true (by omega)]
  have c2 : fLt (I p.2) (I n) = some (.bl true) := by
    show some (D.bl (decide (((p.2 : Nat) : Int) < ((n : Nat) : Int)))) = _
    rw [decide_eq_true (by omega)]
  have ht3 : mNot (mChain (M.ret (.int 0)) [(fLe, (mIx (mPeek 2) (M.ret (.int 0)))), (fLt, (mIx (mPeek 2) (M.ret (.int 1)))), (fLt, (mG fLen (mPeek 0)))]) [.v d, .v T, .v (pD p)] = some (.ok false [.v d, .v T, .v (pD p)]) := by
    refine not_ok (b := true) ?_
    generalize mIx (mPeek 2) (M.ret (.int 0)) = m0 at i0 ⊢
    generalize mIx (mPeek 2) (M.ret (.int 1)) = m1 at i1 ⊢
    generalize mG fLen (mPeek 0) = m2 at i2 ⊢
    generalize fLe = le at c0 ⊢
    generalize fLt = lt at c1 c2 ⊢
    simp only [mChain, chT, M.bind, M.ret, M.of, i0, i1, i2, c0, c1, c2, ↓reduceIte, Option.bind_some, blOf]
  unfold b1__law_right
  rw [ifs_no (or_ok ht1 (or_ok ht2 ht3))]
theorem Fg.aslist {d : D} {f : Nat → Nat} {n : Nat} (F : Fg d f n) : Fg (.lst ((List.range n).map fun i => I (f i))) f n := ⟨F.pm, F.sz, .inl rfl⟩
theorem Fg.tolist {d : D} {f : Nat → Nat} {n : Nat} (F : Fg d f n) : fList d = some (.lst ((List.range n).map fun i => I (f i))) := by
  rcases F.eq with rfl | rfl <;> rfl
theorem right_1 {d : D} {f : Nat → Nat} {n : Nat} (F : Fg d f n) {a e : Sl} :
    (mOr (mTst (mRd2 fNe (mR (mG fRepr (mCall F_cycles [] (xV (mVar 0) xNil)))) (mR (mG fRepr (mCall F__law_cycles [] (xV (mVar 0) xNil)))))) (mTst (mRd2 fNe (mR (mG fRepr (mCall F_order [] (xV (mVar 0) xNil)))) (mR (mG fRepr (mCall F__law_order [] (xV (mVar 0) xNil))))))) [.v d, a, e] = some (.ok false [.v d, a, e]) := by
  have hn8 : n ≤ 8 := by have := F.sz; omega
  obtain ⟨r1, r2⟩ := fRepr_of (sh_cycs F.pm hn8) (by omega) (gk_cycs (cycs f n)) (by omega)
  obtain ⟨q1, q2⟩ := fRepr_of (sh_nat (lcmL (lens f n)) (by have := ord_le F.pm hn8; omega)) (by omega) (gk_int _) (by omega)
  exact or_ok (t_ok (rd2_ok (r_ok (g_ok (call1 (cycles_fg F)) r1)) (r_ok (g_ok (call1 (lcycles_fg F)) r1)) (fNe_self r2 (by omega))))
    (t_ok (rd2_ok (r_ok (g_ok (call1 (order_fg F)) q1)) (r_ok (g_ok (call1 (lorder_fg F)) q1)) (fNe_self q2 (by omega))))
theorem right_2 {d : D} {f : Nat → Nat} {n : Nat} (F : Fg d f n) {a e : Sl} :
    (mOr (mTst (mRd2 fNe (mCall F_cycles [] (mKw 0 1 [0] [] mNil (mCons (mVar 0) mNil))) (mCall F_cycles [] (xV (mVar 0) xNil)))) (mOr (mTst (mRd2 fNe (mCall F_order [] (mKw 0 1 [0] [] mNil (mCons (mVar 0) mNil))) (mCall F_order [] (xV (mVar 0) xNil)))) (mTst (mRd2 fNe (mCall F_exchanges [] (mKw 0 1 [0] [] mNil (mCons (mVar 0) mNil))) (mCall F_exchanges [] (xV (mVar 0) xNil)))))) [.v d, a, e] = some (.ok false [.v d, a, e]) :=
  or_ok (t_ok (rd2_ok (callK (cycles_fg F)) (call1 (cycles_fg F)) (fNe_self (gk_cycs (cycs f n)) (by omega))))
    (or_ok (t_ok (rd2_ok (callK (order_fg F)) (call1 (order_fg F)) (fNe_self (gk_int _) (by omega))))
    (t_ok (rd2_ok (callK (exchanges_fg F)) (call1 (exchanges_fg F)) (fNe_self (gk_ex (exch f n)) (by omega)))))
theorem right_4 {d : D} {f : Nat → Nat} {n : Nat} (F : Fg d f n) {e : Sl} :
    (mOr (mNot (mTst (mG (fIsi "tuple") (mPeek 1)))) (mTst (mRd2 fNe (mR (mG fLen (mPeek 1))) (mR (mOp fSub (mG fLen (mPeek 0)) (mG fLen (mCall F__law_cycles [] (xV (mVar 0) xNil)))))))) [.v d, .v (.tup ((exch f n).map pD)), e] = some (.ok false [.v d, .v (.tup ((exch f n).map pD)), e]) := by
  have hk1 : mPeek 1 [.v d, .v (.tup ((exch f n).map pD)), e] = some (.ok (.v (.tup ((exch f n).map pD))) [.v d, .v (.tup ((exch f n).map pD)), e]) := rfl
  have hk0 : mPeek 0 [.v d, .v (.tup ((exch f n).map pD)), e] = some (.ok (.v d) [.v d, .v (.tup ((exch f n).map pD)), e]) := rfl
  have hl1 : fLen (.tup ((exch f n).map pD)) = some (.int ((exch f n).length : Nat)) := congrArg (fun x : Nat => some (D.int x)) (List.length_map _)
  have hl2 : fLen (.tup ((cycs f n).map tupN)) = some (.int ((cycs f n).length : Nat)) := congrArg (fun x : Nat => some (D.int x)) (List.length_map _)
  have hs : fSub (.int (n : Nat)) (.int ((cycs f n).length : Nat)) = some (.int ((exch f n).length : Nat)) := by
    have := F.pm.exch_len
    show some (D.int (((n : Nat) : Int) - (((cycs f n).length : Nat) : Int))) = _
    rw [show ((n : Nat) : Int) - (((cycs f n).length : Nat) : Int) = (((exch f n).length : Nat) : Int) by omega]
  exact or_ok (not_ok (b := true) (t_ok (g_ok (o := .bl true) hk1 rfl))) (t_ok (rd2_ok (r_ok (g_ok hk1 hl1)) (r_ok (op_ok (g_ok hk0 F.len) (g_ok (call1 (lcycles_fg F)) hl2) hs)) (fNe_self (gk_int _) (by omega))))
theorem callM {d P x : D} {q : D} {a e : Sl} {G : DF} {m : M D} (h : G [.v P, .v x] = some (.rt (.fr q) none)) (hm : m [.v d, .v P, e] = some (.ok x [.v d, .v P, e])) : mCall G [] (xV (mVar 1) (xV m xNil)) [.v d, .v P, e] = some (.ok (.fr q) [.v d, .v P, e]) := by
  have hm2 : (xV (mVar 1) (xV m xNil)) [.v d, .v P, e] = some (.ok [.v P, .v x] [.v d, .v P, e]) := by
    simp only [xV, xNil, M.bind, M.ret, mVar, List.getElem?_cons_zero, List.getElem?_cons_succ, hm]
  unfold mCall
  rw [bind_ok hm2]
  simp only [mSeq, mIfS, mThen, mTst, mOp, mPeek, mVar, mTake, mSet, mSetIx, mRet, mR, mV, mU, mG, mN, mRd2, mOpN, mAnd, mOr, mNot, mAndV, mOrV, mNotV, mIf, mNil, mCons, mTup, mLst, mPart, mSl, mPar, mPair, mDrop, mM1, mM0, mHere, M.chg, M.bind, M.ret, M.of, Ar.sl, Rs.get, Rs.sl, setSl, isIo, isL, chg, onL, fSetIx, Sl.mut, Sl.upd, ioC, ioIx, env0, runF, mCall, rsv, wb, axIx, noIoA, xNil, xV, xSl, mIt, mListRg, mTupRg, List.length_cons, List.length_nil, List.map_cons, List.map_nil, List.cons_append, List.nil_append, List.replicate_succ, List.replicate_zero, List.append_nil, Nat.reduceAdd, Nat.reduceSub, List.getElem?_cons_zero, List.getElem?_cons_succ, List.getElem?_nil, List.set_cons_zero, List.set_cons_succ, Option.bind_some, Option.bind_none, Option.map_some, Option.map_none, Nat.reduceLT, Nat.reduceEqDiff, Nat.reduceLeDiff, decide_true, decide_false, Bool.and_true, Bool.true_and, Bool.and_false, Bool.false_and, Bool.not_true, Bool.not_false, ↓reduceIte, reduceCtorEq, Bool.false_eq_true, List.length_map, Nat.lt_add_left_iff_pos, Nat.zero_lt_succ, Nat.add_eq, Nat.zero_add, Nat.add_zero, Nat.zero_le, sz0, sz1, sz2, sz3, sz4, sz5, sz6, sz7, sz8, sz9, mIx, h]
theorem callL {d P l r : D} {e : Sl} {G : DF} (hl : fList d = some l) (h : G [.v l] = some (.rt (.v r) none)) : mCall G [] (xV (mV (mN fList (mPeek 0))) xNil) [.v d, .v P, e] = some (.ok (.v r) [.v d, .v P, e]) := by
  generalize fList = fl at hl ⊢
  simp only [mSeq, mIfS, mThen, mTst, mOp, mPeek, mVar, mTake, mSet, mSetIx, mRet, mR, mV, mU, mG, mN, mRd2, mOpN, mAnd, mOr, mNot, mAndV, mOrV, mNotV, mIf, mNil, mCons, mTup, mLst, mPart, mSl, mPar, mPair, mDrop, mM1, mM0, mHere, M.chg, M.bind, M.ret, M.of, Ar.sl, Rs.get, Rs.sl, setSl, isIo, isL, chg, onL, fSetIx, Sl.mut, Sl.upd, ioC, ioIx, env0, runF, mCall, rsv, wb, axIx, noIoA, xNil, xV, xSl, mIt, mListRg, mTupRg, List.length_cons, List.length_nil, List.map_cons, List.map_nil, List.cons_append, List.nil_append, List.replicate_succ, List.replicate_zero, List.append_nil, Nat.reduceAdd, Nat.reduceSub, List.getElem?_cons_zero, List.getElem?_cons_succ, List.getElem?_nil, List.set_cons_zero, List.set_cons_succ, Option.bind_some, Option.bind_none, Option.map_some, Option.map_none, Nat.reduceLT, Nat.reduceEqDiff, Nat.reduceLeDiff, decide_true, decide_false, Bool.and_true, Bool.true_and, Bool.and_false, Bool.false_and, Bool.not_true, Bool.not_false, ↓reduceIte, reduceCtorEq, Bool.false_eq_true, List.length_map, Nat.lt_add_left_iff_pos, Nat.zero_lt_succ, Nat.add_eq, Nat.zero_add, Nat.add_zero, Nat.zero_le, sz0, sz1, sz2, sz3, sz4, sz5, sz6, sz7, sz8, sz9, mIx, hl, h]
theorem right_6 {d : D} {f : Nat → Nat} {n : Nat} (F : Fg d f n) {e : Sl} :
    (mRet (mR (mAndV (mRd2 fEq (mCall F__law_made [] (xV (mVar 1) (xV (mG fLen (mPeek 0)) xNil))) (mN fList (mPeek 0))) (mRd2 fEq (mR (mG fRepr (mCall F_exchanges [] (xV (mV (mN fList (mPeek 0))) xNil)))) (mR (mG fRepr (mPeek 1))))))) [.v d, .v (.tup ((exch f n).map pD)), e] = some (.rt (.v (.bl true)) [.v d, .v (.tup ((exch f n).map pD)), e]) := by
  have hn8 : n ≤ 8 := by have := F.sz; omega
  have hk1 : mPeek 1 [.v d, .v (.tup ((exch f n).map pD)), e] = some (.ok (.v (.tup ((exch f n).map pD))) [.v d, .v (.tup ((exch f n).map pD)), e]) := rfl
  have hk0 : mPeek 0 [.v d, .v (.tup ((exch f n).map pD)), e] = some (.ok (.v d) [.v d, .v (.tup ((exch f n).map pD)), e]) := rfl
  obtain ⟨r1, r2⟩ := fRepr_of (sh_ex F.pm hn8) (by omega) (gk_ex (exch f n)) (by omega)
  have hN : mN fList (mPeek 0) [.v d, .v (.tup ((exch f n).map pD)), e] = some (.ok (.fr (.lst ((List.range n).map fun i => I (f i)))) [.v d, .v (.tup ((exch f n).map pD)), e]) := by
    have hl := F.tolist
    unfold mN
    rw [bind_ok hk0]
    generalize fList = fl at hl ⊢
    simp only [M.of, Rs.get, Option.bind_some, hl]
  have hg : Gk 1 (.lst ((List.range n).map fun i => I (f i))) := gk_lst (gk_mapI _ _ fun x _ => gk_int _)
  exact ret_ok (r_ok (andV_ok (rd2_fr (callM (a := .no) (made_fg F.pm hn8) (g_ok hk0 F.len)) hN (fEq_self hg (by omega))) (rd2_ok (r_ok (g_ok (callL F.tolist (exchanges_fg F.aslist)) r1)) (r_ok (g_ok hk1 r1)) (fEq_self r2 (by omega)))))
theorem right_fg {d : D} {f : Nat → Nat} {n : Nat} (F : Fg d f n) : ∃ env, m__law_right [.v d, .no, .no] = some (.rt (.v (.bl true)) env) := by
  obtain ⟨env', w1, s2, _, rfl⟩ := forL_inv (t := gN 2) (b := b1__law_right) (ds := (exch f n).map pD) (k := 0)
    (I := fun i env => ∃ s2, (s2 = .no ∨ ∃ a, s2 = .v a) ∧ env = [.v d, .v (.tup ((exch f n).map pD)), s2])
    (fun i x env hx ⟨s2, hj, e⟩ => by
      subst e
      rw [List.getElem?_map] at hx
      obtain ⟨p, hp, rfl⟩ := Option.map_eq_some_iff.mp hx
      obtain ⟨h1, h2⟩ := F.pm.pairs (List.mem_of_getElem? hp)
      refine ⟨[.v d, .v (.tup ((exch f n).map pD)), .v (pD p)], _, ?_, .inl (pair_ok F h1 h2), .v (pD p), .inr ⟨_, rfl⟩, rfl⟩
      rcases hj with rfl | ⟨a, rfl⟩ <;> rfl)
    [.v d, .v (.tup ((exch f n).map pD)), .no] ⟨.no, .inl rfl, rfl⟩
  have hset : mSet 1 (mCall F_exchanges [] (xV (mVar 0) xNil)) [.v d, .no, .no] = some (.nx [.v d, .v (.tup ((exch f n).map pD)), .no]) := by
    unfold mSet
    rw [then_ok (call1 (exchanges_fg F))]
    rfl
  have hit : (mIt items (mVar 1)) [.v d, .v (.tup ((exch f n).map pD)), .no] = some (.ok ((exch f n).map pD) [.v d, .v (.tup ((exch f n).map pD)), .no]) := rfl
  refine ⟨[.v d, .v (.tup ((exch f n).map pD)), s2], ?_⟩
  unfold m__law_right mFor
  rw [seq_if (right_1 F), seq_if (right_2 F), seq_nx hset, seq_if (right_4 F), seq_nx ((then_ok hit).trans w1)]
  exact right_6 F
theorem right_true {d : D} {f : Nat → Nat} {n : Nat} (F : Fg d f n) : F__law_right [.v d] = some (.rt (.v (.bl true)) none) := by
  obtain ⟨env, h⟩ := right_fg F
  unfold F__law_right
  generalize m__law_right = m at h ⊢
  unfold mkF runF
  show (match m [.v d, .no, .no] with
    | some (.nx env) => some (CO.rt (.v .non) (ioC [.v d] env))
    | some (.rt (.v r) env) => some (CO.rt (.v r) (ioC [.v d] env))
    | some (.rt (.fr r) env) => some (CO.rt (.fr r) (ioC [.v d] env))
    | some (.ex c ns vs env) => some (CO.ex c ns vs (ioC [.v d] env))
    | _ => none) = _
  rw [h]
  rfl
end Zk04
end

section
set_option Elab.async false
set_option linter.all false
set_option maxRecDepth 100000
set_option maxHeartbeats 4000000
/-! k04: figures drawn; the one great cycle. -/
namespace Zk04
open PySem L2 Z Zb Za
open Zp (it Pm orb walk mins cycs isMin swp cpairs exch lcmL)
theorem getD_at {l : List Nat} {i : Nat} (h : i < l.length) : l.getD i 0 = l[i] := by
  rw [List.getD_eq_getElem?_getD, List.getElem?_eq_getElem h]
  rfl
theorem fig_of {fig : List Nat} {n : Nat} (h : fig.Perm (List.range n)) : ∃ f, Pm f n ∧ fig = (List.range n).map f := by
  have hl : fig.length = n := by rw [h.length_eq, List.length_range]
  have hnd : fig.Nodup := h.nodup_iff.mpr List.nodup_range
  have e : fig = (List.range n).map fun i => fig.getD i 0 := by
    apply List.ext_getElem
    · rw [List.length_map, List.length_range, hl]
    · intro i h1 h2
      rw [List.getElem_map, List.getElem_range, getD_at h1]
  refine ⟨fun i => fig.getD i 0, ⟨fun i hi => ?_, fun i j hi hj hij => ?_⟩, e⟩
  · have hi2 : i < fig.length := by omega
    show fig.getD i 0 < n
    rw [getD_at hi2]
    exact List.mem_range.mp (h.mem_iff.mp (List.getElem_mem hi2))
  · have hi2 : i < fig.length := by omega
    have hj2 : j < fig.length := by omega
    rw [getD_at hi2, getD_at hj2] at hij
    have hp := List.pairwise_iff_getElem.mp hnd
    rcases Nat.lt_trichotomy i j with h | h | h
    · exact absurd hij (hp i j hi2 hj2 h)
    · exact h
    · exact absurd hij.symm (hp j i hj2 hi2 h)
theorem pm_id (n : Nat) : Pm id n := ⟨fun _ h => h, fun _ _ _ _ e => e⟩
theorem great_ex {r : Nat → Nat} {n : Nat} (P : Pm r n) (hn : 1 ≤ n) : ∃ (h idx : Nat → Nat), Pm h n ∧ (∀ k, k < n → idx (r k) = k) ∧ (∀ y, y < n → idx y < n ∧ r (idx y) = y) ∧ (∀ k, k < n → h (r k) = r ((k + 1) % n)) ∧ (cycs h n).length = 1 ∧ lcmL (lens h n) = n := by
  have hs : ∀ y, ∃ k, y < n → k < n ∧ r k = y := fun y => by
    by_cases hy : y < n
    · obtain ⟨L, l1, l2⟩ := P.per hy
      refine ⟨it r (L - 1) y, fun _ => ⟨P.it_lt hy _, ?_⟩⟩
      have := l2.back
      rw [show L = (L - 1) + 1 by have := l2.pos; omega] at this
      exact this
    · exact ⟨0, fun h => absurd h hy⟩
  obtain ⟨idx, hidx⟩ := Classical.skolem.mp hs
  have hir : ∀ k, k < n → idx (r k) = k := fun k hk => by
    obtain ⟨h1, h2⟩ := hidx (r k) (P.lt k hk)
    exact P.inj _ _ h1 hk h2
  have hmod : ∀ k, (k + 1) % n < n := fun k => Nat.mod_lt _ hn
  have hh : ∀ k, k < n → (fun y => r ((idx y + 1) % n)) (r k) = r ((k + 1) % n) := fun k hk => by
    dsimp only
    rw [hir k hk]
  have Ph : Pm (fun y => r ((idx y + 1) % n)) n := by
    refine ⟨fun i _ => P.lt _ (hmod _), fun i j hi hj e => ?_⟩
    have e2 := P.inj _ _ (hmod _) (hmod _) e
    obtain ⟨a1, a2⟩ := hidx i hi
    obtain ⟨b1, b2⟩ := hidx j hj
    have : idx i = idx j := by
      rcases Nat.lt_or_ge (idx i + 1) n with h1 | h1 <;> rcases Nat.lt_or_ge (idx j + 1) n with h2 | h2
      · rw [Nat.mod_eq_of_lt h1, Nat.mod_eq_of_lt h2] at e2
        omega
      · rw [Nat.mod_eq_of_lt h1, show idx j + 1 = n by omega, Nat.mod_self] at e2
        omega
      · rw [Nat.mod_eq_of_lt h2, show idx i + 1 = n by omega, Nat.mod_self] at e2
        omega
      · omega
    rw [← a2, ← b2, this]
  refine ⟨_, idx, Ph, hir, hidx, hh, ?_⟩
  generalize hdef : (fun y => r ((idx y + 1) % n)) = h at Ph hh
  have hit : ∀ k, it h k (r 0) = r (k % n) := fun k => by
    induction k with
    | zero => rw [Nat.zero_mod]; rfl
    | succ k ih =>
      show h (it h k (r 0)) = _
      rw [ih, hh _ (Nat.mod_lt _ hn), Nat.mod_add_mod]
  have hrel : ∀ y, y < n → Zp.Rel h (r 0) y := fun y hy => by
    obtain ⟨h1, h2⟩ := hidx y hy
    exact ⟨idx y, by rw [hit, Nat.mod_eq_of_lt h1, h2]⟩
  have hr0 : r 0 < n := P.lt 0 hn
  have hmin : ∀ m, m ∈ mins h n → m = 0 := fun m hm => by
    obtain ⟨m1, m2⟩ := Zp.mem_mins.mp hm
    have := (Ph.isMin_iff m1).mp m2 0 (((hrel m m1).symm Ph hr0).trans (hrel 0 hn))
    omega
  have hlen : (mins h n).length = 1 := by
    have h1 := Zp.sub_len (l := mins h n) (m := [0]) (List.Pairwise.filter _ List.nodup_range) fun x hx => by rw [hmin x hx]; exact List.mem_singleton.mpr rfl
    obtain ⟨m, m1, _, m3, _⟩ := Ph.min_ex 0 hn
    have h2 := List.length_pos_of_mem (Zp.mem_mins.mpr ⟨m1, m3⟩)
    have h1 : (mins h n).length ≤ 1 := h1
    omega
  have hc : (cycs h n).length = 1 := by
    unfold cycs
    rw [List.length_map, hlen]
  refine ⟨hc, ?_⟩
  have hls := lens_sum Ph
  have hl1 : (lens h n).length = 1 := by unfold lens; rw [List.length_map, hc]
  generalize lens h n = l at hls hl1 ⊢
  match l, hl1 with
  | [a], _ =>
    have : a = n := by simpa using hls
    subst this
    show Nat.lcm 1 a = a
    exact Nat.lcm_one_left a
/-! ### the law's steps -/
def NI (s : Sl) : Prop := isIo (some s) = false
section
variable {S c : D} {p p' fig : D} {s3 s4 s5 s6 : Sl}
theorem l_a {G : DF} (h : G [.io p, .v c] = some (.rt (.fr fig) (some p'))) (h3 : NI s3) : mSet 3 (mCall G [] (xSl 1 (xV (mVar 2) xNil))) [.v S, .own p, .v c, s3, s4, s5, s6] = some (.nx [.v S, .own p', .v c, .own fig, s4, s5, s6]) := by
  cases s3 with
  | io d => cases h3
  | _ => simp only [mSeq, mIfS, mThen, mTst, mOp, mPeek, mVar, mTake, mSet, mSetIx, mRet, mR, mV, mU, mG, mN, mRd2, mOpN, mAnd, mOr, mNot, mAndV, mOrV, mNotV, mIf, mNil, mCons, mTup, mLst, mPart, mSl, mPar, mPair, mDrop, mM1, mM0, mHere, M.chg, M.bind, M.ret, M.of, Ar.sl, Rs.get, Rs.sl, setSl, isIo, isL, chg, onL, fSetIx, Sl.mut, Sl.upd, ioC, ioIx, env0, runF, mCall, rsv, wb, axIx, noIoA, xNil, xV, xSl, mIt, mListRg, mTupRg, List.length_cons, List.length_nil, List.map_cons, List.map_nil, List.cons_append, List.nil_append, List.replicate_succ, List.replicate_zero, List.append_nil, Nat.reduceAdd, Nat.reduceSub, List.getElem?_cons_zero, List.getElem?_cons_succ, List.getElem?_nil, List.set_cons_zero, List.set_cons_succ, Option.bind_some, Option.bind_none, Option.map_some, Option.map_none, Nat.reduceLT, Nat.reduceEqDiff, Nat.reduceLeDiff, decide_true, decide_false, Bool.and_true, Bool.true_and, Bool.and_false, Bool.false_and, Bool.not_true, Bool.not_false, ↓reduceIte, reduceCtorEq, Bool.false_eq_true, List.length_map, Nat.lt_add_left_iff_pos, Nat.zero_lt_succ, Nat.add_eq, Nat.zero_add, Nat.add_zero, Nat.zero_le, sz0, sz1, sz2, sz3, sz4, sz5, sz6, sz7, sz8, sz9, mIx, h]
theorem l_c {G : DF} (h : G [.io p, .v c] = some (.rt (.fr fig) (some p'))) (h4 : NI s4) : mSet 4 (mCall G [] (xSl 1 (xV (mVar 2) xNil))) [.v S, .own p, .v c, s3, s4, s5, s6] = some (.nx [.v S, .own p', .v c, s3, .own fig, s5, s6]) := by
  cases s4 with
  | io d => cases h4
  | _ => simp only [mSeq, mIfS, mThen, mTst, mOp, mPeek, mVar, mTake, mSet, mSetIx, mRet, mR, mV, mU, mG, mN, mRd2, mOpN, mAnd, mOr, mNot, mAndV, mOrV, mNotV, mIf, mNil, mCons, mTup, mLst, mPart, mSl, mPar, mPair, mDrop, mM1, mM0, mHere, M.chg, M.bind, M.ret, M.of, Ar.sl, Rs.get, Rs.sl, setSl, isIo, isL, chg, onL, fSetIx, Sl.mut, Sl.upd, ioC, ioIx, env0, runF, mCall, rsv, wb, axIx, noIoA, xNil, xV, xSl, mIt, mListRg, mTupRg, List.length_cons, List.length_nil, List.map_cons, List.map_nil, List.cons_append, List.nil_append, List.replicate_succ, List.replicate_zero, List.append_nil, Nat.reduceAdd, Nat.reduceSub, List.getElem?_cons_zero, List.getElem?_cons_succ, List.getElem?_nil, List.set_cons_zero, List.set_cons_succ, Option.bind_some, Option.bind_none, Option.map_some, Option.map_none, Nat.reduceLT, Nat.reduceEqDiff, Nat.reduceLeDiff, decide_true, decide_false, Bool.and_true, Bool.true_and, Bool.and_false, Bool.false_and, Bool.not_true, Bool.not_false, ↓reduceIte, reduceCtorEq, Bool.false_eq_true, List.length_map, Nat.lt_add_left_iff_pos, Nat.zero_lt_succ, Nat.add_eq, Nat.zero_add, Nat.add_zero, Nat.zero_le, sz0, sz1, sz2, sz3, sz4, sz5, sz6, sz7, sz8, sz9, mIx, h]
theorem l_b {G : DF} {c2 : D} {rr : List D} (h1 : G [.v fig] = some (.rt (.v (.bl true)) none)) (h2 : G [.v (.tup rr)] = some (.rt (.v (.bl true)) none)) (hm : fMul (.int 2) c = some c2) (hr : fRg c2 = some rr) :
    (mOr (mNot (mTst (mV (mCall G [] (xV (mVar 3) xNil))))) (mNot (mTst (mV (mCall G [] (xV (mTupRg (mOp fMul (M.ret (.int 2)) (mVar 2))) xNil)))))) [.v S, .own p, .v c, .own fig, s4, s5, s6] = some (.ok false [.v S, .own p, .v c, .v fig, s4, s5, s6]) := by
  unfold mTupRg
  generalize fMul = fm at hm ⊢
  generalize fRg = fr at hr ⊢
  simp only [mSeq, mIfS, mThen, mTst, mOp, mPeek, mVar, mTake, mSet, mSetIx, mRet, mR, mV, mU, mG, mN, mRd2, mOpN, mAnd, mOr, mNot, mAndV, mOrV, mNotV, mIf, mNil, mCons, mTup, mLst, mPart, mSl, mPar, mPair, mDrop, mM1, mM0, mHere, M.chg, M.bind, M.ret, M.of, Ar.sl, Rs.get, Rs.sl, setSl, isIo, isL, chg, onL, fSetIx, Sl.mut, Sl.upd, ioC, ioIx, env0, runF, mCall, rsv, wb, axIx, noIoA, xNil, xV, xSl, mIt, mListRg, mTupRg, List.length_cons, List.length_nil, List.map_cons, List.map_nil, List.cons_append, List.nil_append, List.replicate_succ, List.replicate_zero, List.append_nil, Nat.reduceAdd, Nat.reduceSub, List.getElem?_cons_zero, List.getElem?_cons_succ, List.getElem?_nil, List.set_cons_zero, List.set_cons_succ, Option.bind_some, Option.bind_none, Option.map_some, Option.map_none, Nat.reduceLT, Nat.reduceEqDiff, Nat.reduceLeDiff, decide_true, decide_false, Bool.and_true, Bool.true_and, Bool.and_false, Bool.false_and, Bool.not_true, Bool.not_false, ↓reduceIte, reduceCtorEq, Bool.false_eq_true, List.length_map, Nat.lt_add_left_iff_pos, Nat.zero_lt_succ, Nat.add_eq, Nat.zero_add, Nat.add_zero, Nat.zero_le, sz0, sz1, sz2, sz3, sz4, sz5, sz6, sz7, sz8, sz9, mIx, h1, h2, hm, hr]
theorem l_d {c2 : D} {q : D} (hm : fMul (.int 2) c = some c2) (hr : fRep (.lst [.int 0]) c2 = some q) (h5 : NI s5) : mSet 5 (mOpN fRep (mLst (mCons (M.ret (.int 0)) mNil)) (mR (mOp fMul (M.ret (.int 2)) (mVar 2)))) [.v S, .own p, .v c, s3, s4, s5, s6] = some (.nx [.v S, .own p, .v c, s3, s4, .own q, s6]) := by
  generalize fMul = fm at hm ⊢
  generalize fRep = fr at hr ⊢
  cases s5 with
  | io d => cases h5
  | _ => simp only [mSeq, mIfS, mThen, mTst, mOp, mPeek, mVar, mTake, mSet, mSetIx, mRet, mR, mV, mU, mG, mN, mRd2, mOpN, mAnd, mOr, mNot, mAndV, mOrV, mNotV, mIf, mNil, mCons, mTup, mLst, mPart, mSl, mPar, mPair, mDrop, mM1, mM0, mHere, M.chg, M.bind, M.ret, M.of, Ar.sl, Rs.get, Rs.sl, setSl, isIo, isL, chg, onL, fSetIx, Sl.mut, Sl.upd, ioC, ioIx, env0, runF, mCall, rsv, wb, axIx, noIoA, xNil, xV, xSl, mIt, mListRg, mTupRg, List.length_cons, List.length_nil, List.map_cons, List.map_nil, List.cons_append, List.nil_append, List.replicate_succ, List.replicate_zero, List.append_nil, Nat.reduceAdd, Nat.reduceSub, List.getElem?_cons_zero, List.getElem?_cons_succ, List.getElem?_nil, List.set_cons_zero, List.set_cons_succ, Option.bind_some, Option.bind_none, Option.map_some, Option.map_none, Nat.reduceLT, Nat.reduceEqDiff, Nat.reduceLeDiff, decide_true, decide_false, Bool.and_true, Bool.true_and, Bool.and_false, Bool.false_and, Bool.not_true, Bool.not_false, ↓reduceIte, reduceCtorEq, Bool.false_eq_true, List.length_map, Nat.lt_add_left_iff_pos, Nat.zero_lt_succ, Nat.add_eq, Nat.zero_add, Nat.add_zero, Nat.zero_le, sz0, sz1, sz2, sz3, sz4, sz5, sz6, sz7, sz8, sz9, mIx, hm, hr]
theorem l_e {c2 : D} {rr : List D} (hm : fMul (.int 2) c = some c2) (hr : itR1 c2 = some rr) : (mIt itR1 (mOp fMul (M.ret (.int 2)) (mVar 2))) [.v S, .own p, .v c, s3, s4, s5, s6] = some (.ok rr [.v S, .own p, .v c, s3, s4, s5, s6]) := by
  generalize fMul = fm at hm ⊢
  generalize itR1 = fr at hr ⊢
  simp only [mSeq, mIfS, mThen, mTst, mOp, mPeek, mVar, mTake, mSet, mSetIx, mRet, mR, mV, mU, mG, mN, mRd2, mOpN, mAnd, mOr, mNot, mAndV, mOrV, mNotV, mIf, mNil, mCons, mTup, mLst, mPart, mSl, mPar, mPair, mDrop, mM1, mM0, mHere, M.chg, M.bind, M.ret, M.of, Ar.sl, Rs.get, Rs.sl, setSl, isIo, isL, chg, onL, fSetIx, Sl.mut, Sl.upd, ioC, ioIx, env0, runF, mCall, rsv, wb, axIx, noIoA, xNil, xV, xSl, mIt, mListRg, mTupRg, List.length_cons, List.length_nil, List.map_cons, List.map_nil, List.cons_append, List.nil_append, List.replicate_succ, List.replicate_zero, List.append_nil, Nat.reduceAdd, Nat.reduceSub, List.getElem?_cons_zero, List.getElem?_cons_succ, List.getElem?_nil, List.set_cons_zero, List.set_cons_succ, Option.bind_some, Option.bind_none, Option.map_some, Option.map_none, Nat.reduceLT, Nat.reduceEqDiff, Nat.reduceLeDiff, decide_true, decide_false, Bool.and_true, Bool.true_and, Bool.and_false, Bool.false_and, Bool.not_true, Bool.not_false, ↓reduceIte, reduceCtorEq, Bool.false_eq_true, List.length_map, Nat.lt_add_left_iff_pos, Nat.zero_lt_succ, Nat.add_eq, Nat.zero_add, Nat.add_zero, Nat.zero_le, sz0, sz1, sz2, sz3, sz4, sz5, sz6, sz7, sz8, sz9, mIx, hm, hr]
theorem l_g {c2 k k1 k2 i x : D} {q q2 : List D} {rw' : D} (hm : fMul (.int 2) c = some c2) (ha : fAdd k (.int 1) = some k1) (hd : fMod k1 c2 = some k2) (h1 : fIx rw' k2 = some x) (h2 : fIx rw' k = some i) (hs : fSetIx i x q = some ((), q2)) :
    b1_law [.v S, .own p, .v c, s3, .own rw', .own (.lst q), .v k] = some (.nx [.v S, .own p, .v c, s3, .own rw', .own (.lst q2), .v k]) := by
  unfold b1_law mIx mSetIx
  generalize fMul = f1 at hm ⊢
  generalize fAdd = f2 at ha ⊢
  generalize fMod = f3 at hd ⊢
  generalize fIx = f4 at h1 h2 ⊢
  generalize fSetIx = f5 at hs ⊢
  simp only [mSeq, mIfS, mThen, mTst, mOp, mPeek, mVar, mTake, mSet, mSetIx, mRet, mR, mV, mU, mG, mN, mRd2, mOpN, mAnd, mOr, mNot, mAndV, mOrV, mNotV, mIf, mNil, mCons, mTup, mLst, mPart, mSl, mPar, mPair, mDrop, mM1, mM0, mHere, M.chg, M.bind, M.ret, M.of, Ar.sl, Rs.get, Rs.sl, setSl, isIo, isL, chg, onL, fSetIx, Sl.mut, Sl.upd, ioC, ioIx, env0, runF, mCall, rsv, wb, axIx, noIoA, xNil, xV, xSl, mIt, mListRg, mTupRg, List.length_cons, List.length_nil, List.map_cons, List.map_nil, List.cons_append, List.nil_append, List.replicate_succ, List.replicate_zero, List.append_nil, Nat.reduceAdd, Nat.reduceSub, List.getElem?_cons_zero, List.getElem?_cons_succ, List.getElem?_nil, List.set_cons_zero, List.set_cons_succ, Option.bind_some, Option.bind_none, Option.map_some, Option.map_none, Nat.reduceLT, Nat.reduceEqDiff, Nat.reduceLeDiff, decide_true, decide_false, Bool.and_true, Bool.true_and, Bool.and_false, Bool.false_and, Bool.not_true, Bool.not_false, ↓reduceIte, reduceCtorEq, Bool.false_eq_true, List.length_map, Nat.lt_add_left_iff_pos, Nat.zero_lt_succ, Nat.add_eq, Nat.zero_add, Nat.add_zero, Nat.zero_le, sz0, sz1, sz2, sz3, sz4, sz5, sz6, sz7, sz8, sz9, mIx, hm, ha, hd, h1, h2, hs]
theorem l_f {c2 C O cl : D} {q : List D} {G A B : DF} (h1 : G [.v (.tup q)] = some (.rt (.v (.bl true)) none)) (h2 : A [.v (.lst q)] = some (.rt (.v C) none)) (hl : fLen C = some cl) (hn1 : fNe cl (.int 1) = some (.bl false)) (h3 : B [.v (.lst q)] = some (.rt (.v O) none)) (hm : fMul (.int 2) c = some c2) (hn2 : fNe O c2 = some (.bl false)) :
    (mOr (mNot (mTst (mV (mCall G [] (xV (mG fTuple (mPeek 5)) xNil))))) (mOr (mTst (mRd2 fNe (mR (mG fLen (mCall A [] (xV (mVar 5) xNil)))) (mR (M.ret (.int 1))))) (mTst (mRd2 fNe (mCall B [] (xV (mVar 5) xNil)) (mR (mOp fMul (M.ret (.int 2)) (mVar 2))))))) [.v S, .own p, .v c, s3, s4, .own (.lst q), s6] = some (.ok false [.v S, .own p, .v c, s3, s4, .v (.lst q), s6]) := by
  generalize fMul = f1 at hm ⊢
  generalize fNe = f2 at hn1 hn2 ⊢
  generalize fLen = f3 at hl ⊢
  simp only [mSeq, mIfS, mThen, mTst, mOp, mPeek, mVar, mTake, mSet, mSetIx, mRet, mR, mV, mU, mG, mN, mRd2, mOpN, mAnd, mOr, mNot, mAndV, mOrV, mNotV, mIf, mNil, mCons, mTup, mLst, mPart, mSl, mPar, mPair, mDrop, mM1, mM0, mHere, M.chg, M.bind, M.ret, M.of, Ar.sl, Rs.get, Rs.sl, setSl, isIo, isL, chg, onL, fSetIx, Sl.mut, Sl.upd, ioC, ioIx, env0, runF, mCall, rsv, wb, axIx, noIoA, xNil, xV, xSl, mIt, mListRg, mTupRg, List.length_cons, List.length_nil, List.map_cons, List.map_nil, List.cons_append, List.nil_append, List.replicate_succ, List.replicate_zero, List.append_nil, Nat.reduceAdd, Nat.reduceSub, List.getElem?_cons_zero, List.getElem?_cons_succ, List.getElem?_nil, List.set_cons_zero, List.set_cons_succ, Option.bind_some, Option.bind_none, Option.map_some, Option.map_none, Nat.reduceLT, Nat.reduceEqDiff, Nat.reduceLeDiff, decide_true, decide_false, Bool.and_true, Bool.true_and, Bool.and_false, Bool.false_and, Bool.not_true, Bool.not_false, ↓reduceIte, reduceCtorEq, Bool.false_eq_true, List.length_map, Nat.lt_add_left_iff_pos, Nat.zero_lt_succ, Nat.add_eq, Nat.zero_add, Nat.add_zero, Nat.zero_le, sz0, sz1, sz2, sz3, sz4, sz5, sz6, sz7, sz8, sz9, mIx, fTuple, h1, h2, hl, hn1, h3, hm, hn2]
end
end Zk04
end

section
set_option Elab.async false
set_option linter.all false
set_option maxRecDepth 100000
set_option maxHeartbeats 4000000
/-! k04: the law. -/
namespace Zk04
open PySem L2 Z Zb Za
open Zp (it Pm orb walk mins cycs isMin swp cpairs exch lcmL)
theorem mul2 (c : Nat) : fMul (.int 2) (.int (c : Nat)) = some (.int ((2 * c : Nat) : Int)) := by
  have h : cMul 2 (c : Nat) = true := by
    unfold cMul
    rw [show decide ((2 : Int).natAbs < 2 ^ 64) = true by decide]
    rfl
  show (if cMul 2 (c : Nat) = true then some (D.int (2 * ((c : Nat) : Int))) else none) = _
  generalize cMul 2 (c : Nat) = b at h ⊢
  rw [h, Int.natCast_mul]
  rfl
theorem rg_nat (n : Nat) (hn : n ≤ 1000) : fRg (.int (n : Nat)) = some (rng n) := by
  have h : okRg (n : Nat) = true := by
    unfold okRg
    rw [decide_eq_true (show ((n : Nat) : Int) ≤ 1000000 by omega), decide_eq_true (show -1000000 ≤ ((n : Nat) : Int) by omega)]
    rfl
  unfold fRg
  dsimp only
  generalize okRg (n : Nat) = b at h ⊢
  rw [h, Int.toNat_natCast]
  rfl
theorem rep_0 (n : Nat) (hn : n ≤ 1000) : fRep (.lst [.int 0]) (.int (n : Nat)) = some (.lst (stD n fun _ => 0)) := by
  have e1 : (stD n fun _ => 0) = (List.range n).map fun _ => D.int 0 := rfl
  rw [e1, ← rep1]
  unfold fRep
  dsimp only
  rw [Int.toNat_natCast, decide_eq_true (show -1000000 ≤ ((n : Nat) : Int) by omega), decide_eq_true (show ((n : Nat) : Int) ≤ 1000000 by omega), sz_of (show [D.int 0].length * n ≤ 1000000 by show 1 * n ≤ 1000000; omega)]
  rfl
theorem mod_nat {a n : Nat} (hn : 1 ≤ n) : fMod (.int (a : Nat)) (.int (n : Nat)) = some (.int ((a % n : Nat) : Int)) := by
  have h : cMod (a : Nat) (n : Nat) = true := decide_eq_true (by omega)
  show (if cMod (a : Nat) (n : Nat) = true then some (D.int (((a : Nat) : Int).fmod ((n : Nat) : Int))) else none) = _
  generalize cMod (a : Nat) (n : Nat) = b at h ⊢
  rw [h, Int.fmod_eq_emod_of_nonneg _ (by omega), Int.natCast_emod]
  rfl
theorem great_loop {S p X : D} {c n : Nat} {r h idx : Nat → Nat} {s6 : Sl} (hc : 2 * c = n) (hn : 1 ≤ n) (P : Pm r n) (hir : ∀ k, k < n → idx (r k) = k) (hidx : ∀ y, y < n → idx y < n ∧ r (idx y) = y) (hh : ∀ k, k < n → h (r k) = r ((k + 1) % n)) (h6 : NI s6) :
    ∃ s6', NI s6' ∧ forL (gN 6) b1_law (rng n) [.v S, .own p, .v (I c), .v X, .own (.lst (stD n r)), .own (.lst (stD n fun _ => 0)), s6] = some (.nx [.v S, .own p, .v (I c), .v X, .own (.lst (stD n r)), .own (.lst (stD n h)), s6']) := by
  obtain ⟨env', w1, s6', k6, rfl⟩ := forL_inv (t := gN 6) (b := b1_law) (ds := rng n) (k := 0)
    (I := fun k env => ∃ s6, NI s6 ∧ env = [.v S, .own p, .v (I c), .v X, .own (.lst (stD n r)), .own (.lst (stD n fun y => if idx y < k then h y else 0)), s6])
    (fun k x env hx ⟨s6, h6, e⟩ => by
      rw [Nat.zero_add] at *
      have hi : k < n := by
        have := (List.getElem?_eq_some_iff.mp hx).1
        rw [rng_len] at this
        exact this
      have ex : x = I k := by
        rw [rng_eq, List.getElem?_map, List.getElem?_range hi] at hx
        exact (Option.some.inj hx).symm
      subst ex
      subst e
      have hm := mul2 c
      rw [hc] at hm
      have hmod : (k + 1) % n < n := Nat.mod_lt _ hn
      have hset : fSetIx (I (r k)) (I (r ((k + 1) % n))) (stD n fun y => if idx y < k then h y else 0) = some ((), stD n fun y => if idx y < k + 1 then h y else 0) := by
        unfold fSetIx
        dsimp only
        rw [show (stD n fun y => if idx y < k then h y else 0).length = n by unfold stD; rw [List.length_map, List.length_range], ix_nat (P.lt k hi)]
        show some ((), (stD n fun y => if idx y < k then h y else 0).set (r k) (I (r ((k + 1) % n)))) = _
        have e : (stD n fun y => if idx y < k then h y else 0).set (r k) (I (r ((k + 1) % n))) = stD n fun y => if idx y < k + 1 then h y else 0 := by
          unfold stD
          rw [set_map]
          refine List.map_congr_left fun y hy => ?_
          have hy := List.mem_range.mp hy
          dsimp only
          by_cases e : y = r k
          · subst e
            rw [if_pos rfl, hir k hi, if_pos (by omega), hh k hi]
          · have hne : idx y ≠ k := fun e2 => e (by rw [← e2, (hidx y hy).2])
            rw [if_neg e]
            by_cases e3 : idx y < k
            · rw [if_pos e3, if_pos (by omega)]
            · rw [if_neg e3, if_neg (by omega)]
        rw [e]
      refine ⟨[.v S, .own p, .v (I c), .v X, .own (.lst (stD n r)), .own (.lst (stD n fun y => if idx y < k then h y else 0)), .v (I k)], _, ?_, .inl (l_g hm (k1 := .int ((k + 1 : Nat) : Int)) rfl (mod_nat hn) (at_map hmod) (at_map hi) hset), .v (I k), rfl, rfl⟩
      cases s6 with
      | io d => cases h6
      | _ => rfl)
    [.v S, .own p, .v (I c), .v X, .own (.lst (stD n r)), .own (.lst (stD n fun y => if idx y < 0 then h y else 0)), s6] ⟨s6, h6, rfl⟩
  rw [rng_len, Nat.zero_add] at w1
  have e0 : (stD n fun y => if idx y < 0 then h y else 0) = stD n fun _ => 0 := by
    unfold stD
    exact List.map_congr_left fun y _ => by dsimp only; rw [if_neg (Nat.not_lt_zero _)]
  have e1 : (stD n fun y => if idx y < n then h y else 0) = stD n h := by
    unfold stD
    exact List.map_congr_left fun y hy => by dsimp only; rw [if_pos (hidx y (List.mem_range.mp hy)).1]
  rw [e0, e1] at w1
  exact ⟨s6', k6, w1⟩
theorem body {ns : List Int} {S : D} {t g : Int} {c : Nat} {s3 s4 s5 s6 : Sl} (hc : 1 ≤ c) (hc4 : c ≤ 4) (h0 : 0 ≤ t) (ht : t ≤ 1000) (hg : 0 ≤ g) (h3 : NI s3) (h4 : NI s4) (h5 : NI s5) (h6 : NI s6) :
    ∃ t' g' s3' s4' s5' s6', 0 ≤ t' ∧ t' ≤ t + 16 ∧ 0 ≤ g' ∧ NI s3' ∧ NI s4' ∧ NI s5' ∧ NI s6' ∧ b2_law [.v S, .own (pen ns t g), .v (I c), s3, s4, s5, s6] = some (.nx [.v S, .own (pen ns t' g'), .v (I c), s3', s4', s5', s6']) := by
  obtain ⟨n, hn⟩ : ∃ n, 2 * c = n := ⟨_, rfl⟩
  have hsz : n = 2 ∨ n = 4 ∨ n = 6 ∨ n = 8 := by omega
  obtain ⟨fig, t1, g1, p1, p2, p3, p4, e1⟩ := figure (ns := ns) (c := c) h0 (by omega) hg (by omega)
  obtain ⟨row, t2, g2, q1, q2, q3, q4, e2⟩ := figure (ns := ns) (t := t1) (c := c) (by omega) (by omega) p4 (by omega)
  rw [hn] at p1 q1
  obtain ⟨f, Pf, rfl⟩ := fig_of p1
  obtain ⟨r, Pr, rfl⟩ := fig_of q1
  rw [List.map_map] at e1 e2
  change _ = some (CO.rt (.fr (.lst (stD n f))) _) at e1
  change _ = some (CO.rt (.fr (.lst (stD n r))) _) at e2
  obtain ⟨h, idx, Ph, hir, hidx, hh, hcl, hol⟩ := great_ex Pr (by omega)
  obtain ⟨s6', k6, w⟩ := great_loop (S := S) (p := pen ns t2 g2) (X := .lst (stD n f)) (c := c) hn (by omega) Pr hir hidx hh h6
  have hm := mul2 c
  rw [hn] at hm
  have F1 : Fg (.lst (stD n f)) f n := ⟨Pf, hsz, .inl rfl⟩
  have F2 : Fg (.tup (rng n)) id n := ⟨pm_id n, hsz, .inr rfl⟩
  have F3 : Fg (.tup (stD n h)) h n := ⟨Ph, hsz, .inr rfl⟩
  have F4 : Fg (.lst (stD n h)) h n := ⟨Ph, hsz, .inl rfl⟩
  have hcy := cycles_fg F4
  have hor := order_fg F4
  rw [hol] at hor
  have hl : fLen (.tup ((cycs h n).map tupN)) = some (.int 1) := by
    have := congrArg (fun x : Nat => some (D.int x)) ((List.length_map (as := cycs h n) tupN).trans hcl)
    exact this
  refine ⟨t2, g2, .v (.lst (stD n f)), .own (.lst (stD n r)), .v (.lst (stD n h)), s6', by omega, by omega, q4, rfl, rfl, rfl, k6, ?_⟩
  unfold b2_law mFor
  rw [seq_nx (l_a e1 h3)]
  have hb := l_b (S := S) (p := pen ns t1 g1) (c := I c) (s4 := s4) (s5 := s5) (s6 := s6) (right_true F1) (right_true F2) hm (rg_nat n (by omega))
  have step : ∀ {t : M Bool} {p m : MS} {env env1 : Z.Env}, t env = some (.ok false env1) → mSeq (mIfS t p mNext) m env = m env1 := fun {t p m env env1} ht => by
    refine seq_nx ?_
    unfold mIfS
    rw [then_ok ht]
    rfl
  refine (step hb).trans ?_
  rw [seq_nx (l_c e2 h4), seq_nx (l_d hm (rep_0 n (by omega)) h5), seq_nx ((then_ok (l_e hm (it_rng n (by omega)))).trans w)]
  have hf := l_f (S := S) (p := pen ns t2 g2) (c := I c) (s3 := .v (.lst (stD n f))) (s4 := .own (.lst (stD n r))) (s6 := s6') (right_true F3) hcy hl (fNe_self (gk_int 1) (by omega)) hor hm (fNe_self (gk_int _) (by omega))
  unfold mIfS
  rw [then_ok hf]
  rfl
theorem law_run {ns : List Int} (h : ns.length ≤ 63) : ∃ env, m_law [.v (.scr ns), .no, .no, .no, .no, .no, .no] = some (.rt (.v (.bl true)) env) := by
  have hp := the_pen h
  have hset : mSet 1 (mCall F__law_pen [] (xV (mVar 0) xNil)) [.v (.scr ns), .no, .no, .no, .no, .no, .no] = some (.nx [.v (.scr ns), .own (pen ns 0 0), .no, .no, .no, .no, .no]) := by
    generalize F__law_pen = G at hp ⊢
    generalize pen ns 0 0 = p at hp ⊢
    simp only [mSeq, mIfS, mThen, mTst, mOp, mPeek, mVar, mTake, mSet, mSetIx, mRet, mR, mV, mU, mG, mN, mRd2, mOpN, mAnd, mOr, mNot, mAndV, mOrV, mNotV, mIf, mNil, mCons, mTup, mLst, mPart, mSl, mPar, mPair, mDrop, mM1, mM0, mHere, M.chg, M.bind, M.ret, M.of, Ar.sl, Rs.get, Rs.sl, setSl, isIo, isL, chg, onL, fSetIx, Sl.mut, Sl.upd, ioC, ioIx, env0, runF, mCall, rsv, wb, axIx, noIoA, xNil, xV, xSl, mIt, mListRg, mTupRg, List.length_cons, List.length_nil, List.map_cons, List.map_nil, List.cons_append, List.nil_append, List.replicate_succ, List.replicate_zero, List.append_nil, Nat.reduceAdd, Nat.reduceSub, List.getElem?_cons_zero, List.getElem?_cons_succ, List.getElem?_nil, List.set_cons_zero, List.set_cons_succ, Option.bind_some, Option.bind_none, Option.map_some, Option.map_none, Nat.reduceLT, Nat.reduceEqDiff, Nat.reduceLeDiff, decide_true, decide_false, Bool.and_true, Bool.true_and, Bool.and_false, Bool.false_and, Bool.not_true, Bool.not_false, ↓reduceIte, reduceCtorEq, Bool.false_eq_true, List.length_map, Nat.lt_add_left_iff_pos, Nat.zero_lt_succ, Nat.add_eq, Nat.zero_add, Nat.add_zero, Nat.zero_le, sz0, sz1, sz2, sz3, sz4, sz5, sz6, sz7, sz8, sz9, mIx, hp]
  obtain ⟨env', w1, t, g, s2, s3, s4, s5, s6, _, _, _, _, _, _, _, _, rfl⟩ := forL_inv (t := gN 2) (b := b2_law) (ds := [.int 1, .int 2, .int 3, .int 4]) (k := 0)
    (I := fun i env => ∃ (t g : Int) (s2 s3 s4 s5 s6 : Sl), 0 ≤ t ∧ t ≤ 16 * i ∧ 0 ≤ g ∧ NI s2 ∧ NI s3 ∧ NI s4 ∧ NI s5 ∧ NI s6 ∧ env = [.v (.scr ns), .own (pen ns t g), s2, s3, s4, s5, s6])
    (fun i x env hx ⟨t, g, s2, s3, s4, s5, s6, h0, ht, hg, h2, h3, h4, h5, h6, e⟩ => by
      rw [Nat.zero_add] at *
      subst e
      have hi : i < 4 := (List.getElem?_eq_some_iff.mp hx).1
      have ex : x = I (i + 1) := by
        have : i = 0 ∨ i = 1 ∨ i = 2 ∨ i = 3 := by omega
        rcases this with rfl | rfl | rfl | rfl <;> exact (Option.some.inj hx).symm
      subst ex
      obtain ⟨t', g', s3', s4', s5', s6', b1, b2, b3, b4, b5, b6, b7, b8⟩ := body (ns := ns) (S := .scr ns) (c := i + 1) (by omega) (by omega) h0 (by omega) hg h3 h4 h5 h6
      refine ⟨[.v (.scr ns), .own (pen ns t g), .v (I (i + 1)), s3, s4, s5, s6], _, ?_, .inl b8, t', g', .v (I (i + 1)), s3', s4', s5', s6', b1, by omega, b3, rfl, b4, b5, b6, b7, rfl⟩
      cases s2 with
      | io d => cases h2
      | _ => rfl)
    [.v (.scr ns), .own (pen ns 0 0), .no, .no, .no, .no, .no] ⟨0, 0, .no, .no, .no, .no, .no, by omega, by omega, by omega, rfl, rfl, rfl, rfl, rfl, rfl⟩
  have hit : (mIt items (mTup (mCons (M.ret (.int 1)) (mCons (M.ret (.int 2)) (mCons (M.ret (.int 3)) (mCons (M.ret (.int 4)) mNil)))))) [.v (.scr ns), .own (pen ns 0 0), .no, .no, .no, .no, .no] = some (.ok [.int 1, .int 2, .int 3, .int 4] [.v (.scr ns), .own (pen ns 0 0), .no, .no, .no, .no, .no]) := rfl
  refine ⟨[.v (.scr ns), .own (pen ns t g), s2, s3, s4, s5, s6], ?_⟩
  unfold m_law mFor
  rw [seq_nx hset, seq_nx ((then_ok hit).trans w1)]
  rfl
theorem law_holds : ∀ ns : List Int, ns.length ≤ 63 → (∀ z ∈ ns, Builtin.Int.intBits z ≤ 1048576) → F_law [.v (.scr ns)] = some (.rt (.v (.bl true)) none) := fun ns hn _ => by
  obtain ⟨env, h⟩ := law_run hn
  unfold F_law
  generalize m_law = m at h ⊢
  unfold mkF runF
  show (match m [.v (.scr ns), .no, .no, .no, .no, .no, .no] with
    | some (.nx env) => some (CO.rt (.v .non) (ioC [.v (.scr ns)] env))
    | some (.rt (.v r) env) => some (CO.rt (.v r) (ioC [.v (.scr ns)] env))
    | some (.rt (.fr r) env) => some (CO.rt (.fr r) (ioC [.v (.scr ns)] env))
    | some (.ex c ns vs env) => some (CO.ex c ns vs (ioC _ env))
    | _ => none) = _
  rw [h]
  rfl
end Zk04
end

section
set_option Elab.async false
set_option linter.all false
set_option maxRecDepth 100000
open PySem PySem.W PyProof.Rows
set_option maxHeartbeats 0 in
theorem PySem.Challenge.cw_everyline_k04_cycles_orders_exchanges_holds : PySem.Challenge.rw_everyline_k04_cycles_orders_exchanges.Holds := by
  w_on; o_law; k_head; (case hw => w_witness2)
  k_fill
  refine Z.walkZ (l := PySem.Challenge.rw_everyline_k04_cycles_orders_exchanges) (n := 63) (k := 6) (x := "script") (F := Zk04.F_law) rfl (by decide) rfl ⟨⟨rfl, by decide, by decide⟩, rfl⟩ (fun w h Y => PySem.W.kIn_of Y) ?G Zk04.law_holds
  case G =>
    intro w mg fa h KX G hmg
    refine' Zk04.all_mk KX G hmg ?a__law_pen ?l__law_pen ?c__law_pen ?k__law_pen ?a__law_draw ?l__law_draw ?c__law_draw ?k__law_draw ?a__law_figure ?l__law_figure ?c__law_figure ?k__law_figure ?a_is_row ?l_is_row ?c_is_row ?k_is_row ?a_is_integer ?l_is_integer ?c_is_integer ?k_is_integer ?a_is_figure ?l_is_figure ?c_is_figure ?k_is_figure ?e_is_figure ?a_need_figure ?l_need_figure ?c_need_figure ?k_need_figure ?a_cycles_of ?l_cycles_of ?c_cycles_of ?k_cycles_of ?a_cycles ?l_cycles ?c_cycles ?k_cycles ?a__law_cycles ?l__law_cycles ?c__law_cycles ?k__law_cycles ?a_order ?l_order ?c_order ?k_order ?a__law_order ?l__law_order ?c__law_order ?k__law_order ?a_exchanges ?l_exchanges ?c_exchanges ?k_exchanges ?a__law_made ?l__law_made ?c__law_made ?k__law_made ?a__law_right ?l__law_right ?c__law_right ?k__law_right ?a_law ?l_law ?c_law ?k_law ?z_abs ?z_all ?z_bool ?z_int ?z_isinstance ?z_len ?z_list ?z_min ?z_range ?z_repr ?z_sorted ?z_tuple ?i_lcm
    (case a__law_pen => k_is); (case l__law_pen => k_is); (case c__law_pen => k_is); (case k__law_pen => k_is); (case a__law_draw => k_is); (case l__law_draw => k_is); (case c__law_draw => k_is); (case k__law_draw => k_is); (case a__law_figure => k_is); (case l__law_figure => k_is); (case c__law_figure => k_is); (case k__law_figure => k_is); (case a_is_row => k_is); (case l_is_row => k_is); (case c_is_row => k_is); (case k_is_row => k_is); (case a_is_integer => k_is); (case l_is_integer => k_is); (case c_is_integer => k_is); (case k_is_integer => k_is); (case a_is_figure => k_is); (case l_is_figure => k_is); (case c_is_figure => k_is); (case k_is_figure => k_is); (case e_is_figure => k_is); (case a_need_figure => k_is); (case l_need_figure => k_is); (case c_need_figure => k_is); (case k_need_figure => k_is); (case a_cycles_of => k_is); (case l_cycles_of => k_is); (case c_cycles_of => k_is); (case k_cycles_of => k_is); (case a_cycles => k_is); (case l_cycles => k_is); (case c_cycles => k_is); (case k_cycles => k_is); (case a__law_cycles => k_is); (case l__law_cycles => k_is); (case c__law_cycles => k_is); (case k__law_cycles => k_is); (case a_order => k_is); (case l_order => k_is); (case c_order => k_is); (case k_order => k_is); (case a__law_order => k_is); (case l__law_order => k_is); (case c__law_order => k_is); (case k__law_order => k_is); (case a_exchanges => k_is); (case l_exchanges => k_is); (case c_exchanges => k_is); (case k_exchanges => k_is); (case a__law_made => k_is); (case l__law_made => k_is); (case c__law_made => k_is); (case k__law_made => k_is); (case a__law_right => k_is); (case l__law_right => k_is); (case c__law_right => k_is); (case k__law_right => k_is); (case a_law => k_is); (case l_law => k_is); (case c_law => k_is); (case k_law => k_is); (case z_abs => k_is); (case z_all => k_is); (case z_bool => k_is); (case z_int => k_is); (case z_isinstance => k_is); (case z_len => k_is); (case z_list => k_is); (case z_min => k_is); (case z_range => k_is); (case z_repr => k_is); (case z_sorted => k_is); (case z_tuple => k_is); (case i_lcm => k_is)
end
