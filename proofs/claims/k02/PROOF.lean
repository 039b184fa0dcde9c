import PyProof.Rows.All
import Wide.All
import OpenK.AllK
import Wide.FinOn
import HandS.ForMost
import HandS.IsInst
import HandS.Wide
import HandS.TupAny
import KE.DataCmp
import KE.DataEq
import HandS.Defaults
import HandS.HeadHook1
import HandS.HeadHook2
import KE.KRevSl
import KE.GoesMore
import PyProof.Draws
import PyProof.EnumMake
import KE.DataMinMax
import HandS.TupSets
import HandS.Text
import HandS.Dict
import HandS.RaiseMore
import PySem.Challenge.RW_lockwright_k02_whole_texts_of_ranges
import KE.KStateDown
import Lean
import HandS.HeadEnd
import HandS.Head2
set_option Elab.async false
set_option linter.all false
set_option maxRecDepth 100000
set_option maxHeartbeats 4000000
/-! D1: data, how the heap bears it, what a step leaves as it was. -/
namespace Dl
open PySem
open L2

/-- what a program of ours computes with: immutable things by value, lists and dicts as they stand -/
inductive D where
  | non | bl (b : Bool) | int (i : Int) | str (x : Str)
  | tup (xs : List D) | lst (xs : List D) | dct (ks : List Key) (xs : List D) | hnd

/-- the one thing that changes under everybody's hands -/
structure Amb (S : Type) where
  at' : S → Hp → Prop
  own : Addr → Prop
  hA : Addr
  there : ∀ s H p, at' s H → own p → H p ≠ none
  stay : ∀ s H H', at' s H → (∀ p o, own p → H p = some o → H' p = some o) → at' s H'

mutual
/-- the value v is the data d, as the still heap F bears it -/
def Dv (K : PySem.W.Frag) {S : Type} (B : Amb S) (F : Hp) : D → V → Prop
  | .non, v => v = .non
  | .bl b, v => v = .bl b
  | .int i, v => v = .int i
  | .str x, v => v = .str x
  | .tup ds, v => ∃ a vs, v = .ref a ∧ SqT K F a vs ∧ DvL K B F ds vs
  | .lst ds, v => ∃ a vs, v = .ref a ∧ F a = some (.lst vs) ∧ DvL K B F ds vs
  | .dct ks ds, v => ∃ a kvs, v = .ref a ∧ F a = some (.dK kvs) ∧ kvs.map (·.1) = ks ∧ DvL K B F ds (kvs.map (·.2))
  | .hnd, v => v = .ref B.hA
def DvL (K : PySem.W.Frag) {S : Type} (B : Amb S) (F : Hp) : List D → List V → Prop
  | [], vs => vs = []
  | d :: ds, vs => ∃ v r, vs = v :: r ∧ Dv K B F d v ∧ DvL K B F ds r
end

theorem rd_ext {F F' : Hp} {a : Addr} {u : HO} (e : Same F F') (h : Rd F a u) : Rd F' a u := by
  rcases h with h | ⟨o, h⟩
  · exact .inl (e a _ h)
  · exact .inr ⟨o, e a _ h⟩
theorem sqT_ext {K : PySem.W.Frag} {F F' : Hp} {a : Addr} {vs : List V} (e : Same F F') (h : SqT K F a vs) : SqT K F' a vs := by
  rcases h with h | h
  · exact .inl (rd_ext e h)
  · exact .inr h

section
variable {K : PySem.W.Frag} {S : Type} {B : Amb S} {F F' : Hp}
mutual
theorem Dv.ext (e : Same F F') : ∀ {d : D} {v : V}, Dv K B F d v → Dv K B F' d v
  | .non, _, h => h
  | .bl _, _, h => h
  | .int _, _, h => h
  | .str _, _, h => h
  | .hnd, _, h => h
  | .tup _, _, ⟨a, vs, h1, h2, h3⟩ => ⟨a, vs, h1, sqT_ext e h2, DvL.ext e h3⟩
  | .lst _, _, ⟨a, vs, h1, h2, h3⟩ => ⟨a, vs, h1, e a _ h2, DvL.ext e h3⟩
  | .dct _ _, _, ⟨a, kvs, h1, h2, h3, h4⟩ => ⟨a, kvs, h1, e a _ h2, h3, DvL.ext e h4⟩
theorem DvL.ext (e : Same F F') : ∀ {ds : List D} {vs : List V}, DvL K B F ds vs → DvL K B F' ds vs
  | [], _, h => h
  | _ :: _, _, ⟨v, r, h1, h2, h3⟩ => ⟨v, r, h1, Dv.ext e h2, DvL.ext e h3⟩
end
theorem DvL.len : ∀ {ds : List D} {vs : List V}, DvL K B F ds vs → vs.length = ds.length
  | [], _, h => by
    cases h
    rfl
  | _ :: _, _, ⟨v, r, h1, _, h3⟩ => by
    subst h1
    rw [List.length_cons, List.length_cons, DvL.len h3]
theorem DvL.get : ∀ {ds : List D} {vs : List V} {i : Nat} {d : D}, DvL K B F ds vs → ds[i]? = some d → ∃ v, vs[i]? = some v ∧ Dv K B F d v
  | [], _, _, _, _, e => by simp at e
  | d0 :: ds, _, 0, d, ⟨v, r, h1, h2, h3⟩, e => by
    subst h1
    simp at e
    subst e
    exact ⟨v, by simp, h2⟩
  | d0 :: ds, _, i + 1, d, ⟨v, r, h1, h2, h3⟩, e => by
    subst h1
    obtain ⟨w, e1, e2⟩ := DvL.get (i := i) (d := d) h3 (by simpa using e)
    exact ⟨w, by simpa using e1, e2⟩
theorem DvL.getV : ∀ {ds : List D} {vs : List V} {i : Nat} {v : V}, DvL K B F ds vs → vs[i]? = some v → ∃ d, ds[i]? = some d ∧ Dv K B F d v
  | [], _, i, _, h, e => by
    cases h
    simp at e
  | d0 :: ds, _, 0, v, ⟨v', r, h1, h2, h3⟩, e => by
    subst h1
    simp at e
    subst e
    exact ⟨d0, by simp, h2⟩
  | d0 :: ds, _, i + 1, v, ⟨v', r, h1, h2, h3⟩, e => by
    subst h1
    obtain ⟨w, e1, e2⟩ := DvL.getV (i := i) (v := v) h3 (by simpa using e)
    exact ⟨w, by simpa using e1, e2⟩
theorem DvL.app : ∀ {ds es : List D} {vs us : List V}, DvL K B F ds vs → DvL K B F es us → DvL K B F (ds ++ es) (vs ++ us)
  | [], _, _, _, h, k => by
    cases h
    exact k
  | _ :: _, _, _, _, ⟨v, r, h1, h2, h3⟩, k => by
    subst h1
    exact ⟨v, _, rfl, h2, DvL.app h3 k⟩
theorem DvL.one {d : D} {v : V} (h : Dv K B F d v) : DvL K B F [d] [v] := ⟨v, [], rfl, h, rfl⟩
theorem DvL.take : ∀ {ds : List D} {vs : List V} (n : Nat), DvL K B F ds vs → DvL K B F (ds.take n) (vs.take n)
  | _, _, 0, _ => by
    rw [List.take_zero, List.take_zero]
    exact rfl
  | [], _, n + 1, h => by
    cases h
    exact rfl
  | _ :: _, _, n + 1, ⟨v, r, h1, h2, h3⟩ => by
    subst h1
    exact ⟨v, _, rfl, h2, DvL.take n h3⟩
theorem DvL.drop : ∀ {ds : List D} {vs : List V} (n : Nat), DvL K B F ds vs → DvL K B F (ds.drop n) (vs.drop n)
  | _, _, 0, h => h
  | [], _, n + 1, h => by
    cases h
    exact rfl
  | _ :: _, _, n + 1, ⟨v, r, h1, h2, h3⟩ => by
    subst h1
    exact DvL.drop n h3
theorem DvL.set : ∀ {ds : List D} {vs : List V} {d : D} {v : V} (n : Nat), DvL K B F ds vs → Dv K B F d v → DvL K B F (ds.set n d) (vs.set n v)
  | [], _, _, _, n, h, _ => by
    cases h
    exact rfl
  | _ :: _, _, d, v, 0, ⟨v', r, h1, h2, h3⟩, k => by
    subst h1
    exact ⟨v, _, rfl, k, h3⟩
  | _ :: _, _, d, v, n + 1, ⟨v', r, h1, h2, h3⟩, k => by
    subst h1
    exact ⟨v', _, rfl, h2, DvL.set n h3 k⟩
theorem DvL.rev : ∀ {ds : List D} {vs : List V}, DvL K B F ds vs → DvL K B F ds.reverse vs.reverse
  | [], _, h => by
    cases h
    exact rfl
  | _ :: _, _, ⟨v, r, h1, h2, h3⟩ => by
    subst h1
    rw [List.reverse_cons, List.reverse_cons]
    exact DvL.app (DvL.rev h3) (DvL.one h2)
theorem DvL.ints : ∀ {ns : List Int} {vs : List V}, DvL K B F (ns.map D.int) vs → vs = ns.map V.int
  | [], _, h => h
  | n :: ns, _, ⟨v, r, h1, h2, h3⟩ => by
    subst h1
    rw [List.map_cons, DvL.ints h3]
    have e : v = V.int n := h2
    rw [e]
theorem DvL.bls : ∀ {ns : List Bool} {vs : List V}, DvL K B F (ns.map D.bl) vs → vs = ns.map V.bl
  | [], _, h => h
  | n :: ns, _, ⟨v, r, h1, h2, h3⟩ => by
    subst h1
    rw [List.map_cons, DvL.bls h3]
    have e : v = V.bl n := h2
    rw [e]
theorem DvL.strs : ∀ {ns : List Str} {vs : List V}, DvL K B F (ns.map D.str) vs → vs = ns.map V.str
  | [], _, h => h
  | n :: ns, _, ⟨v, r, h1, h2, h3⟩ => by
    subst h1
    rw [List.map_cons, DvL.strs h3]
    have e : v = V.str n := h2
    rw [e]
theorem DvL.of_ints : ∀ {ns : List Int}, DvL K B F (ns.map D.int) (ns.map V.int)
  | [] => rfl
  | n :: ns => ⟨_, _, rfl, rfl, DvL.of_ints⟩
end

/-! ### states -/
structure Ok {S : Type} (B : Amb S) (F H : Hp) (s : S) : Prop where
  sub : Same F H
  ap : ∀ p, B.own p → F p = none
  am : B.at' s H
structure Ev {S : Type} (B : Amb S) (F H : Hp) (F' H' : Hp) (s' : S) : Prop where
  fs : ∀ p, H p ≠ none → F' p = F p
  hs : ∀ p o, H p = some o → ¬ B.own p → H' p = some o
  ok : Ok B F' H' s'
section
variable {S : Type} {B : Amb S} {F H F1 H1 F2 H2 : Hp} {s s1 s2 : S}
theorem Ok.refl (o : Ok B F H s) : Ev B F H F H s := ⟨fun _ _ => rfl, fun _ _ h _ => h, o⟩
theorem Ev.sameF (o : Ok B F H s) (e : Ev B F H F1 H1 s1) : Same F F1 := fun p u h => by
  rw [e.fs p (by rw [o.sub p u h]; exact fun z => nomatch z)]
  exact h
theorem Ev.dom (e : Ev B F H F1 H1 s1) {p : Addr} (h : H p ≠ none) : H1 p ≠ none := by
  by_cases hp : B.own p
  · exact B.there s1 H1 p e.ok.am hp
  · cases q : H p with
    | none => exact absurd q h
    | some o =>
      rw [e.hs p o q hp]
      exact fun z => nomatch z
theorem Ev.free (e : Ev B F H F1 H1 s1) {p : Addr} (h : H1 p = none) : H p = none := by
  cases q : H p with
  | none => rfl
  | some o => exact absurd h (e.dom (by rw [q]; exact fun z => nomatch z))
theorem Ev.trans (e1 : Ev B F H F1 H1 s1) (e2 : Ev B F1 H1 F2 H2 s2) : Ev B F H F2 H2 s2 :=
  ⟨fun p h => (e2.fs p (e1.dom h)).trans (e1.fs p h), fun p o h hp => e2.hs p o (e1.hs p o h hp) hp, e2.ok⟩
theorem ne_own (o : Ok B F H s) {p : Addr} (h : H p = none) : ¬ B.own p := fun z => B.there s H p o.am z h
/-- a new thing that stays as it is -/
theorem Ev.new (o : Ok B F H s) {p : Addr} (u : HO) (h : H p = none) : Ev B F H (upd F p u) (upd H p u) s := by
  have hf : F p = none := by
    cases q : F p with
    | none => rfl
    | some x =>
      rw [o.sub p x q] at h
      cases h
  refine ⟨fun q hq => upd_ne fun z => hq (z ▸ h), fun q x hx _ => ?_, ⟨fun q x hx => ?_, fun q hq => ?_, B.stay s H _ o.am fun q x _ hx => ?_⟩⟩
  · rw [upd_ne (ne_of_none hx h)]
    exact hx
  · by_cases hb : q = p
    · subst hb
      rw [upd_same] at hx ⊢
      exact hx
    · rw [upd_ne hb] at hx ⊢
      exact o.sub q x hx
  · have z : q ≠ p := fun z => ne_own o h (z ▸ hq)
    rw [upd_ne z]
    exact o.ap q hq
  · rw [upd_ne (ne_of_none hx h)]
    exact hx
/-- a new thing of one's own: it may change -/
theorem Ev.newO (o : Ok B F H s) {p : Addr} (u : HO) (h : H p = none) : Ev B F H F (upd H p u) s := by
  refine ⟨fun _ _ => rfl, fun q x hx _ => ?_, ⟨fun q x hx => ?_, o.ap, B.stay s H _ o.am fun q x _ hx => ?_⟩⟩
  · rw [upd_ne (ne_of_none hx h)]
    exact hx
  · have e := o.sub q x hx
    rw [upd_ne (ne_of_none e h)]
    exact e
  · rw [upd_ne (ne_of_none hx h)]
    exact hx
end
end Dl

set_option Elab.async false
set_option linter.all false
set_option maxRecDepth 100000
set_option maxHeartbeats 4000000
/-! D2: a frame's names, expressions. -/
namespace Dl
open PySem
open L2

inductive Slot where
  | dat (d : D) | own (xs : List D)
abbrev DE := List (Option Slot)

structure EnvOk (K : PySem.W.Frag) {S : Type} (B : Amb S) (F H : Hp) (σ : L2.St) (env : DE) : Prop where
  len : σ.length = env.length
  dat : ∀ (i : Nat) (d : D), env[i]? = some (some (.dat d)) → ∃ v, σ[i]? = some (some v) ∧ Dv K B F d v
  own : ∀ (i : Nat) (xs : List D), env[i]? = some (some (.own xs)) → ∃ a vs, σ[i]? = some (some (.ref a)) ∧ F a = none ∧ ¬ B.own a ∧ H a = some (.lst vs) ∧ DvL K B F xs vs
  inj : ∀ (i j : Nat) (xs ys : List D) (a : Addr), env[i]? = some (some (.own xs)) → env[j]? = some (some (.own ys)) → σ[i]? = some (some (.ref a)) → σ[j]? = some (some (.ref a)) → i = j
section
variable {K : PySem.W.Frag} {S : Type} {B : Amb S} {F H F1 H1 : Hp} {s s1 : S} {σ : L2.St} {env : DE}
theorem EnvOk.step (E : EnvOk K B F H σ env) (o : Ok B F H s) (e : Ev B F H F1 H1 s1) : EnvOk K B F1 H1 σ env := by
  refine ⟨E.len, fun i d h => ?_, fun i xs h => ?_, E.inj⟩
  · obtain ⟨v, h1, h2⟩ := E.dat i d h
    exact ⟨v, h1, h2.ext (e.sameF o)⟩
  · obtain ⟨a, vs, h1, h2, h3, h4, h5⟩ := E.own i xs h
    exact ⟨a, vs, h1, (e.fs a (by rw [h4]; exact fun z => nomatch z)).trans h2, h3, e.hs a _ h4 h3, h5.ext (e.sameF o)⟩
end

abbrev ME (S : Type) := DE → S → Option (D × S)
abbrev MT (S : Type) := DE → S → Option (Bool × S)
abbrev ML (S : Type) := DE → S → Option (List D × S)
abbrev MO (S : Type) := DE → S → Option (Option Int × S)
def tD (K : PySem.W.Frag) {S : Type} (B : Amb S) (m : ME S) : TE := fun σ H Q => ∃ env F s d s', EnvOk K B F H σ env ∧ Ok B F H s ∧ m env s = some (d, s') ∧ ∀ v F' H', Ev B F H F' H' s' → Dv K B F' d v → Q v H'
def tT (K : PySem.W.Frag) {S : Type} (B : Amb S) (m : MT S) : TT := fun σ H Q => ∃ env F s b s', EnvOk K B F H σ env ∧ Ok B F H s ∧ m env s = some (b, s') ∧ ∀ F' H', Ev B F H F' H' s' → Q b H'
def tL (K : PySem.W.Frag) {S : Type} (B : Amb S) (m : ML S) : TA := fun σ H Q => ∃ env F s ds s', EnvOk K B F H σ env ∧ Ok B F H s ∧ m env s = some (ds, s') ∧ ∀ vs F' H', Ev B F H F' H' s' → DvL K B F' ds vs → Q vs H'
def tO (K : PySem.W.Frag) {S : Type} (B : Amb S) (m : MO S) : TO := fun σ H Q => ∃ env F s o s', EnvOk K B F H σ env ∧ Ok B F H s ∧ m env s = some (o, s') ∧ ∀ F' H', Ev B F H F' H' s' → Q o H'

section
variable {X : Cx} {e : Expr}
theorem pe_w {t t' : TE} (h : PE X e t) (hi : ∀ σ H Q, t' σ H Q → t σ H Q) : PE X e t' := ⟨fun pins s σ H Q I hw => h.run pins s σ H Q I (hi σ H Q hw)⟩
theorem pt_w {t t' : TT} (h : PT X e t) (hi : ∀ σ H Q, t' σ H Q → t σ H Q) : PT X e t' := ⟨fun pins s σ H Q I hw => h.run pins s σ H Q I (hi σ H Q hw)⟩
theorem pw_w {t t' : TT} (h : PW X e t) (hi : ∀ σ H Q, t' σ H Q → t σ H Q) : PW X e t' := ⟨fun wh pins s σ H Q I hw => h.run wh pins s σ H Q I (hi σ H Q hw)⟩
theorem pa_w {es : List Expr} {t t' : TA} (h : PA X es t) (hi : ∀ σ H Q, t' σ H Q → t σ H Q) : PA X es t' := ⟨fun pos pins s σ H Q I hw => h.run pos pins s σ H Q I (hi σ H Q hw)⟩
theorem po_w {e : Option Expr} {t t' : TO} (h : PO X e t) (hi : ∀ σ H Q, t' σ H Q → t σ H Q) : PO X e t' := ⟨fun pins s σ H Q I hw => h.run pins s σ H Q I (hi σ H Q hw)⟩
end

/-! ### the words of a mirror -/
section
variable {S : Type} {B : Amb S}
def mVar (i : Nat) : ME S := fun env s => match env[i]? with
  | some (some (.dat d)) => some (d, s)
  | _ => none
def mC (d : D) : ME S := fun _ s => some (d, s)
def mU (f : D → Option D) (a : ME S) : ME S := fun env s => (a env s).bind fun p => (f p.1).map fun z => (z, p.2)
def mB (f : D → D → Option D) (a b : ME S) : ME S := fun env s => (a env s).bind fun p => (b env p.2).bind fun q => (f p.1 q.1).map fun z => (z, q.2)
def mNil : ML S := fun _ s => some ([], s)
def mCons (a : ME S) (l : ML S) : ML S := fun env s => (a env s).bind fun p => (l env p.2).map fun q => (p.1 :: q.1, q.2)
def mF (f : List D → Option D) (l : ML S) : ME S := fun env s => (l env s).bind fun p => (f p.1).map fun z => (z, p.2)
def blD : D → Option Bool
  | .bl b => some b
  | _ => none
def mIsT (a : ME S) : MT S := fun env s => (a env s).bind fun p => (blD p.1).map fun b => (b, p.2)
def mAndT (a b : MT S) : MT S := fun env s => (a env s).bind fun p => if p.1 = true then b env p.2 else some (false, p.2)
def mOrT (a b : MT S) : MT S := fun env s => (a env s).bind fun p => if p.1 = true then some (true, p.2) else b env p.2
def mNotT (a : MT S) : MT S := fun env s => (a env s).map fun p => (!p.1, p.2)
def mAnd (a b : ME S) : ME S := fun env s => (a env s).bind fun p => (blD p.1).bind fun c => if c = true then b env p.2 else some (.bl false, p.2)
def mOr (a b : ME S) : ME S := fun env s => (a env s).bind fun p => (blD p.1).bind fun c => if c = true then some (.bl true, p.2) else b env p.2
def mNot (a : ME S) : ME S := fun env s => (a env s).bind fun p => (blD p.1).map fun c => (.bl (!c), p.2)
def mIf (t : MT S) (a b : ME S) : ME S := fun env s => (t env s).bind fun p => if p.1 = true then a env p.2 else b env p.2
/-- two comparisons in a row -/
def mChain (f g : D → D → Option D) (a b c : ME S) : ME S := fun env s => (a env s).bind fun p => (b env p.2).bind fun q => (f p.1 q.1).bind fun z => (blD z).bind fun k =>
  if k = true then (c env q.2).bind fun r => (g q.1 r.1).map fun z => (z, r.2) else some (.bl false, q.2)
def mPart (a : ME S) : MO S := fun env s => (a env s).bind fun p => match p.1 with
  | .int i => some (some i, p.2)
  | _ => none
def mNoPart : MO S := fun _ s => some (none, s)
def mSl (f : D → Option Int → Option Int → Option D) (a : ME S) (l u : MO S) : ME S := fun env s => (a env s).bind fun p => (l env p.2).bind fun q => (u env q.2).bind fun r => (f p.1 q.1 r.1).map fun z => (z, r.2)
end

/-! ### what a rule by values is worth over data -/
def OpD (K : PySem.W.Frag) {S : Type} (B : Amb S) (r : R2) (f : D → D → Option D) : Prop := ∀ (F H : Hp) (s : S) (dx dy dz : D) (x y : V) (Q : VK), Ok B F H s → Dv K B F dx x → Dv K B F dy y → f dx dy = some dz →
  (∀ v F' H', Ev B F H F' H' s → Dv K B F' dz v → Q v H') → r x y H Q
def UnD (K : PySem.W.Frag) {S : Type} (B : Amb S) (r : V → Hp → VK → Prop) (f : D → Option D) : Prop := ∀ (F H : Hp) (s : S) (dx dz : D) (x : V) (Q : VK), Ok B F H s → Dv K B F dx x → f dx = some dz →
  (∀ v F' H', Ev B F H F' H' s → Dv K B F' dz v → Q v H') → r x H Q
def CallD (K : PySem.W.Frag) {S : Type} (B : Amb S) (r : List V → Hp → VK → Prop) (f : List D → Option D) : Prop := ∀ (F H : Hp) (s : S) (ds : List D) (dz : D) (vs : List V) (Q : VK), Ok B F H s → DvL K B F ds vs → f ds = some dz →
  (∀ v F' H', Ev B F H F' H' s → Dv K B F' dz v → Q v H') → r vs H Q

section
variable {X : Cx} {S : Type} {B : Amb S} {a b c : Expr} {es : List Expr} {pos : Pos} {ma mb mc : ME S} {ml : ML S}
theorem d_var {i : Nat} (h : PE X a (tVar i)) : PE X a (tD X.K B (mVar i)) := pe_w h fun σ H Q ⟨env, F, s, d, s', E, o, hm, hq⟩ => by
  unfold mVar at hm
  split at hm
  · rename_i d' hd
    cases hm
    obtain ⟨v, h1, h2⟩ := E.dat i d hd
    exact ⟨v, h1, hq v F H o.refl h2⟩
  · cases hm
theorem d_c {v : V} {d : D} (h : PE X a (tC v)) (hd : ∀ F, Dv X.K B F d v) : PE X a (tD X.K B (mC d)) := pe_w h fun σ H Q ⟨env, F, s, d', s', E, o, hm, hq⟩ => by
  have e : (d, s) = (d', s') := Option.some.inj hm
  cases e
  exact hq v F H o.refl (hd F)
theorem bin_un {f : D → D → Option D} {env : DE} {s s' : S} {d : D} (h : mB f ma mb env s = some (d, s')) : ∃ x s1 y, ma env s = some (x, s1) ∧ mb env s1 = some (y, s') ∧ f x y = some d := by
  unfold mB at h
  cases e1 : ma env s with
  | none => simp [e1] at h
  | some p =>
    cases e2 : mb env p.2 with
    | none => simp [e1, e2] at h
    | some q =>
      cases e3 : f p.1 q.1 with
      | none => simp [e1, e2, e3] at h
      | some z =>
        simp [e1, e2, e3] at h
        obtain ⟨h1, h2⟩ := h
        subst h1 h2
        exact ⟨p.1, p.2, q.1, rfl, e2, e3⟩
theorem un_un {f : D → Option D} {env : DE} {s s' : S} {d : D} (h : mU f ma env s = some (d, s')) : ∃ x, ma env s = some (x, s') ∧ f x = some d := by
  unfold mU at h
  cases e1 : ma env s with
  | none => simp [e1] at h
  | some p =>
    cases e3 : f p.1 with
    | none => simp [e1, e3] at h
    | some z =>
      simp [e1, e3] at h
      obtain ⟨h1, h2⟩ := h
      subst h1 h2
      exact ⟨p.1, rfl, e3⟩
theorem f_un {f : List D → Option D} {env : DE} {s s' : S} {d : D} (h : mF f ml env s = some (d, s')) : ∃ x, ml env s = some (x, s') ∧ f x = some d := by
  unfold mF at h
  cases e1 : ml env s with
  | none => simp [e1] at h
  | some p =>
    cases e3 : f p.1 with
    | none => simp [e1, e3] at h
    | some z =>
      simp [e1, e3] at h
      obtain ⟨h1, h2⟩ := h
      subst h1 h2
      exact ⟨p.1, rfl, e3⟩
/-- two parts, one behind the other, then a rule by values -/
theorem two_D {r : R2} {f : D → D → Option D} (hd : OpD X.K B r f) {σ : L2.St} {H : Hp} {Q : VK} (h : tD X.K B (mB f ma mb) σ H Q) : tOp r (tD X.K B ma) (tD X.K B mb) σ H Q := by
  obtain ⟨env, F, s, d, s', E, o, hm, hq⟩ := h
  obtain ⟨x, s1, y, e1, e2, e3⟩ := bin_un hm
  refine ⟨env, F, s, x, s1, E, o, e1, fun v F1 H1 v1 hx => ?_⟩
  refine ⟨env, F1, s1, y, s', E.step o v1, v1.ok, e2, fun u F2 H2 v2 hy => ?_⟩
  exact hd F2 H2 s' x y d v u Q v2.ok (hx.ext (v2.sameF v1.ok)) hy e3 fun z F3 H3 v3 hz => hq z F3 H3 ((v1.trans v2).trans v3) hz
theorem d_op {op : Operator} {r : R2} {f : D → D → Option D} (ho : OpR X (binaryOp op) r) (hd : OpD X.K B r f) (ha : PE X a (tD X.K B ma)) (hb : PE X b (tD X.K B mb)) : PE X (.BinOp a op b pos) (tD X.K B (mB f ma mb)) :=
  pe_w (pe_op ho ha hb) fun _ _ _ h => two_D hd h
theorem d_cmp {op : CmpOp} {r : R2} {f : D → D → Option D} (ho : OpR X (compareOp op) r) (hd : OpD X.K B r f) (ha : PE X a (tD X.K B ma)) (hb : PE X b (tD X.K B mb)) (hm : behindInMarks op b = false := by first | exact nomark _ | rfl) :
    PE X (.Compare a [op] [b] pos) (tD X.K B (mB f ma mb)) := pe_w (pe_cmpR ho ha hb hm) fun _ _ _ h => two_D hd h
theorem d_ix {r : R2} {f : D → D → Option D} (ho : IxR X r) (hd : OpD X.K B r f) (ha : PE X a (tD X.K B ma)) (hb : PE X b (tD X.K B mb)) (hs : PlainIx b := by exact fun _ _ => rfl) : PE X (.Subscript a b pos) (tD X.K B (mB f ma mb)) :=
  pe_w (pe_ix ho ha hb hs) fun _ _ _ h => two_D hd h
theorem d_un {op : UnaryOp} {r : V → Hp → VK → Prop} {f : D → Option D} (ho : UnR X (unaryOp op) r) (hd : UnD X.K B r f) (ha : PE X a (tD X.K B ma)) : PE X (.UnaryOp op a pos) (tD X.K B (mU f ma)) :=
  pe_w (pe_un ho ha) fun σ H Q ⟨env, F, s, d, s', E, o, hm, hq⟩ => by
    obtain ⟨x, e1, e3⟩ := un_un hm
    exact ⟨env, F, s, x, s', E, o, e1, fun v F1 H1 v1 hx => hd F1 H1 s' x d v Q v1.ok hx e3 fun z F3 H3 v3 hz => hq z F3 H3 (v1.trans v3) hz⟩

/-! argument lists, displays -/
theorem l_nil : PA X [] (tL X.K B mNil) := pa_w pa_nil fun σ H Q ⟨env, F, s, d, s', E, o, hm, hq⟩ => by
  have e : ([], s) = (d, s') := Option.some.inj hm
  cases e
  exact hq [] F H o.refl rfl
theorem l_cons (ha : PE X a (tD X.K B ma)) (hl : PA X es (tL X.K B ml)) (hs : starEach (a :: es) X.env = (false, eval a X.env) :: starEach es X.env := by rfl) : PA X (a :: es) (tL X.K B (mCons ma ml)) :=
  pa_w (pa_cons ha hl hs) fun σ H Q ⟨env, F, s, d, s', E, o, hm, hq⟩ => by
    unfold mCons at hm
    cases e1 : ma env s with
    | none => simp [e1] at hm
    | some p =>
      cases e2 : ml env p.2 with
      | none => simp [e1, e2] at hm
      | some q =>
        simp [e1, e2] at hm
        obtain ⟨h1, h2⟩ := hm
        subst h1 h2
        exact ⟨env, F, s, p.1, p.2, E, o, e1, fun v F1 H1 v1 hx => ⟨env, F1, p.2, q.1, q.2, E.step o v1, v1.ok, e2, fun vs F2 H2 v2 hy =>
          hq _ F2 H2 (v1.trans v2) ⟨v, vs, rfl, hx.ext (v2.sameF v1.ok), hy⟩⟩⟩
def tupD : List D → Option D := fun ds => if ds.length ≤ sizeLine then some (.tup ds) else none
def lstD : List D → Option D := fun ds => if ds.length ≤ sizeLine then some (.lst ds) else none
theorem new_tup {K : PySem.W.Frag} {F H : Hp} {s : S} {ds : List D} {vs : List V} {p : Addr} (o : Ok B F H s) (hp : H p = none) (h : DvL K B F ds vs) : Dv K B (upd F p (.tup vs)) (.tup ds) (.ref p) :=
  ⟨p, vs, rfl, SqT.of upd_same, h.ext ((Ev.new o (.tup vs) hp).sameF o)⟩
theorem new_lst {K : PySem.W.Frag} {F H : Hp} {s : S} {ds : List D} {vs : List V} {p : Addr} (o : Ok B F H s) (hp : H p = none) (h : DvL K B F ds vs) : Dv K B (upd F p (.lst vs)) (.lst ds) (.ref p) :=
  ⟨p, vs, rfl, upd_same, h.ext ((Ev.new o (.lst vs) hp).sameF o)⟩
theorem d_tup {x1} (hl : PA X es (tL X.K B ml)) : PE X (.Tuple es x1 pos) (tD X.K B (mF tupD ml)) := pe_w (pe_tup hl) fun σ H Q ⟨env, F, s, d, s', E, o, hm, hq⟩ => by
  obtain ⟨ds, e1, e2⟩ := f_un hm
  unfold tupD at e2
  split at e2
  · rename_i hz
    cases e2
    refine ⟨env, F, s, ds, s', E, o, e1, fun vs F1 H1 v1 hv => ⟨by rw [hv.len]; exact hz, fun p hp => ?_⟩⟩
    exact hq _ _ _ (v1.trans (Ev.new v1.ok _ hp)) (new_tup v1.ok hp hv)
  · cases e2
theorem d_lst (hl : PA X es (tL X.K B ml)) : PE X (.List es pos) (tD X.K B (mF lstD ml)) := pe_w (pe_lst hl) fun σ H Q ⟨env, F, s, d, s', E, o, hm, hq⟩ => by
  obtain ⟨ds, e1, e2⟩ := f_un hm
  unfold lstD at e2
  split at e2
  · rename_i hz
    cases e2
    refine ⟨env, F, s, ds, s', E, o, e1, fun vs F1 H1 v1 hv => ⟨by rw [hv.len]; exact hz, fun p hp => ?_⟩⟩
    exact hq _ _ _ (v1.trans (Ev.new v1.ok _ hp)) (new_lst v1.ok hp hv)
  · cases e2
/-- a built-in function, a built-in class, by their rules -/
theorem call_D {r : List V → Hp → VK → Prop} {f : List D → Option D} (hd : CallD X.K B r f) {σ : L2.St} {H : Hp} {Q : VK} (h : tD X.K B (mF f ml) σ H Q) : tCB r (tL X.K B ml) σ H Q := by
  obtain ⟨env, F, s, d, s', E, o, hm, hq⟩ := h
  obtain ⟨ds, e1, e2⟩ := f_un hm
  exact ⟨env, F, s, ds, s', E, o, e1, fun vs F1 H1 v1 hv => hd F1 H1 s' ds d vs Q v1.ok hv e2 fun z F3 H3 v3 hz => hq z F3 H3 (v1.trans v3) hz⟩
theorem d_callB {x : Str} {p : Pos} {id : String} {r : List V → Hp → VK → Prop} {f : List D → Option D} (hc : CallR X (.builtin id) r) (hd : CallD X.K B r f) (hm : X.mg x = none) (hv : bootBuiltins x = some (.builtin id)) (ha : PA X (a :: es) (tL X.K B ml))
    (hg : Gl X x := by rfl) (hn : x ≠ "__name__" := by decide) (hdb : (x == ("__debug__" : Str)) = false := by decide)
    (he : starEach (a :: es) X.env = (false, eval a X.env) :: starEach es X.env := by rfl) (hpl : (backTo pos (starEach es X.env)).any (·.1) = false := by rfl) : PE X (.Call (.Name x p) (a :: es) [] pos) (tD X.K B (mF f ml)) :=
  pe_w (pe_callB hc hg hm hv ha hn hdb he hpl) fun _ _ _ h => call_D hd h
theorem d_callTy {x : Str} {p : Pos} {T : String} {r : List V → Hp → VK → Prop} {f : List D → Option D} (hc : CallR X (.type T) r) (hd : CallD X.K B r f) (hm : X.mg x = none) (hv : bootBuiltins x = some (.type T)) (ha : PA X (a :: es) (tL X.K B ml))
    (hg : Gl X x := by rfl) (hn : x ≠ "__name__" := by decide) (hdb : (x == ("__debug__" : Str)) = false := by decide)
    (he : starEach (a :: es) X.env = (false, eval a X.env) :: starEach es X.env := by rfl) (hpl : (backTo pos (starEach es X.env)).any (·.1) = false := by rfl) : PE X (.Call (.Name x p) (a :: es) [] pos) (tD X.K B (mF f ml)) :=
  pe_w (pe_callTy hc hg hm hv ha hn hdb he hpl) fun _ _ _ h => call_D hd h

/-! tests -/
theorem dt_val (h : PE X a (tD X.K B ma)) (he : ∀ whole, isTrue a X.env whole = (do let v ← whole; standAt a.pos; holding [v] (truthy v)) := by intro _; rfl) : PT X a (tT X.K B (mIsT ma)) := pt_w (pt_val h he) fun σ H Q ⟨env, F, s, d, s', E, o, hm, hq⟩ => by
  unfold mIsT at hm
  cases e1 : ma env s with
  | none => simp [e1] at hm
  | some p =>
    cases e2 : blD p.1 with
    | none => simp [e1, e2] at hm
    | some k =>
      simp [e1, e2] at hm
      obtain ⟨h1, h2⟩ := hm
      subst h1 h2
      obtain ⟨d, s1⟩ := p
      cases d with
      | bl c =>
        cases e2
        exact ⟨env, F, s, .bl k, s1, E, o, e1, fun v F1 H1 v1 hx => ⟨k, hx, hq F1 H1 v1⟩⟩
      | _ => cases e2
theorem dt_cmp {op : CmpOp} {r : R2} {f : D → D → Option D} (ho : OpR X (compareOp op) r) (hd : OpD X.K B r f) (ha : PE X a (tD X.K B ma)) (hb : PE X b (tD X.K B mb)) (hm : behindInMarks op b = false := by first | exact nomark _ | rfl) :
    PT X (.Compare a [op] [b] pos) (tT X.K B (mIsT (mB f ma mb))) := pt_w (pt_cmpR ho ha hb hm) fun σ H Q ⟨env, F, s, d, s', E, o, hm, hq⟩ => by
  unfold mIsT at hm
  cases e1 : mB f ma mb env s with
  | none => simp [e1] at hm
  | some p =>
    cases e2 : blD p.1 with
    | none => simp [e1, e2] at hm
    | some k =>
      simp [e1, e2] at hm
      obtain ⟨h1, h2⟩ := hm
      subst h1 h2
      obtain ⟨d, s1⟩ := p
      cases d with
      | bl c =>
        cases e2
        exact two_D hd ⟨env, F, s, .bl k, s1, E, o, e1, fun v F1 H1 v1 hx => ⟨k, hx, hq F1 H1 v1⟩⟩
      | _ => cases e2
variable {ta tb : MT S} {rest : List Expr}
theorem dw_and1 (h : PT X a (tT X.K B ta)) : PW X (.BoolOp .And [a] pos) (tT X.K B ta) := pw_and1 h
theorem dw_or1 (h : PT X a (tT X.K B ta)) : PW X (.BoolOp .Or [a] pos) (tT X.K B ta) := pw_or1 h
theorem dw_and (ha : PT X a (tT X.K B ta)) (hb : PW X (.BoolOp .And (b :: rest) pos) (tT X.K B tb)) : PW X (.BoolOp .And (a :: b :: rest) pos) (tT X.K B (mAndT ta tb)) := pw_w (pw_and ha hb) fun σ H Q ⟨env, F, s, d, s', E, o, hm, hq⟩ => by
  unfold mAndT at hm
  cases e1 : ta env s with
  | none => simp [e1] at hm
  | some p =>
    obtain ⟨k, s1⟩ := p
    simp only [e1, Option.bind_some] at hm
    refine ⟨env, F, s, k, s1, E, o, e1, fun F1 H1 v1 => ?_⟩
    cases k with
    | true => exact ⟨env, F1, s1, d, s', E.step o v1, v1.ok, hm, fun F2 H2 v2 => hq F2 H2 (v1.trans v2)⟩
    | false =>
      cases hm
      exact hq F1 H1 v1
theorem dw_or (ha : PT X a (tT X.K B ta)) (hb : PW X (.BoolOp .Or (b :: rest) pos) (tT X.K B tb)) : PW X (.BoolOp .Or (a :: b :: rest) pos) (tT X.K B (mOrT ta tb)) := pw_w (pw_or ha hb) fun σ H Q ⟨env, F, s, d, s', E, o, hm, hq⟩ => by
  unfold mOrT at hm
  cases e1 : ta env s with
  | none => simp [e1] at hm
  | some p =>
    obtain ⟨k, s1⟩ := p
    simp only [e1, Option.bind_some] at hm
    refine ⟨env, F, s, k, s1, E, o, e1, fun F1 H1 v1 => ?_⟩
    cases k with
    | false => exact ⟨env, F1, s1, d, s', E.step o v1, v1.ok, hm, fun F2 H2 v2 => hq F2 H2 (v1.trans v2)⟩
    | true =>
      cases hm
      exact hq F1 H1 v1
theorem dt_w (h : PW X a (tT X.K B ta)) : PT X a (tT X.K B ta) := h.pt
theorem dt_not (h : PT X a (tT X.K B ta)) : PT X (.UnaryOp .Not a pos) (tT X.K B (mNotT ta)) := pt_w (pt_not h) fun σ H Q ⟨env, F, s, d, s', E, o, hm, hq⟩ => by
  unfold mNotT at hm
  cases e1 : ta env s with
  | none => simp [e1] at hm
  | some p =>
    obtain ⟨k, s1⟩ := p
    simp only [e1, Option.map_some, Option.some.injEq, Prod.mk.injEq] at hm
    obtain ⟨rfl, rfl⟩ := hm
    exact ⟨env, F, s, k, s1, E, o, e1, fun F1 H1 v1 => hq F1 H1 v1⟩
/-! and, or, not, if as values -/
theorem d_one {op} (h : PE X a (tD X.K B ma)) : PE X (.BoolOp op [a] pos) (tD X.K B ma) := pe_one h
theorem d_and (ha : PE X a (tD X.K B ma)) (hb : PE X (.BoolOp .And (b :: rest) pos) (tD X.K B mb)) : PE X (.BoolOp .And (a :: b :: rest) pos) (tD X.K B (mAnd ma mb)) := pe_w (pe_and ha hb) fun σ H Q ⟨env, F, s, d, s', E, o, hm, hq⟩ => by
  unfold mAnd at hm
  cases e1 : ma env s with
  | none => simp [e1] at hm
  | some p =>
    obtain ⟨dk, s1⟩ := p
    cases dk with
    | bl k =>
      simp only [e1, Option.bind_some, blD] at hm
      refine ⟨env, F, s, .bl k, s1, E, o, e1, fun v F1 H1 v1 hx => ⟨k, hx, ?_⟩⟩
      cases k with
      | true => exact ⟨env, F1, s1, d, s', E.step o v1, v1.ok, hm, fun v F2 H2 v2 hz => hq v F2 H2 (v1.trans v2) hz⟩
      | false =>
        cases hm
        exact hq _ F1 H1 v1 rfl
    | _ => simp [e1, blD] at hm
theorem d_or (ha : PE X a (tD X.K B ma)) (hb : PE X (.BoolOp .Or (b :: rest) pos) (tD X.K B mb)) : PE X (.BoolOp .Or (a :: b :: rest) pos) (tD X.K B (mOr ma mb)) := pe_w (pe_or ha hb) fun σ H Q ⟨env, F, s, d, s', E, o, hm, hq⟩ => by
  unfold mOr at hm
  cases e1 : ma env s with
  | none => simp [e1] at hm
  | some p =>
    obtain ⟨dk, s1⟩ := p
    cases dk with
    | bl k =>
      simp only [e1, Option.bind_some, blD] at hm
      refine ⟨env, F, s, .bl k, s1, E, o, e1, fun v F1 H1 v1 hx => ⟨k, hx, ?_⟩⟩
      cases k with
      | false => exact ⟨env, F1, s1, d, s', E.step o v1, v1.ok, hm, fun v F2 H2 v2 hz => hq v F2 H2 (v1.trans v2) hz⟩
      | true =>
        cases hm
        exact hq _ F1 H1 v1 rfl
    | _ => simp [e1, blD] at hm
theorem d_not (ha : PE X a (tD X.K B ma)) : PE X (.UnaryOp .Not a pos) (tD X.K B (mNot ma)) := pe_w (pe_not ha) fun σ H Q ⟨env, F, s, d, s', E, o, hm, hq⟩ => by
  unfold mNot at hm
  cases e1 : ma env s with
  | none => simp [e1] at hm
  | some p =>
    obtain ⟨dk, s1⟩ := p
    cases dk with
    | bl k =>
      simp [e1, blD] at hm
      obtain ⟨h1, h2⟩ := hm
      subst h1 h2
      exact ⟨env, F, s, .bl k, s1, E, o, e1, fun v F1 H1 v1 hx => ⟨k, hx, hq _ F1 H1 v1 rfl⟩⟩
    | _ => simp [e1, blD] at hm
theorem d_if {t : MT S} (hc : PT X c (tT X.K B t)) (ha : PE X a (tD X.K B ma)) (hb : PE X b (tD X.K B mb)) : PE X (.IfExp c a b pos) (tD X.K B (mIf t ma mb)) := pe_w (pe_ifExp hc ha hb) fun σ H Q ⟨env, F, s, d, s', E, o, hm, hq⟩ => by
  unfold mIf at hm
  cases e1 : t env s with
  | none => simp [e1] at hm
  | some p =>
    obtain ⟨k, s1⟩ := p
    simp only [e1, Option.bind_some] at hm
    refine ⟨env, F, s, k, s1, E, o, e1, fun F1 H1 v1 => ?_⟩
    cases k with
    | true => exact ⟨env, F1, s1, d, s', E.step o v1, v1.ok, hm, fun v F2 H2 v2 hz => hq v F2 H2 (v1.trans v2) hz⟩
    | false => exact ⟨env, F1, s1, d, s', E.step o v1, v1.ok, hm, fun v F2 H2 v2 hz => hq v F2 H2 (v1.trans v2) hz⟩
theorem chain_D {r r' : R2} {f g : D → D → Option D} (hd : OpD X.K B r f) (hd' : OpD X.K B r' g) {σ : L2.St} {H : Hp} {Q : VK} (h : tD X.K B (mChain f g ma mb mc) σ H Q) : tChain r r' (tD X.K B ma) (tD X.K B mb) (tD X.K B mc) σ H Q := by
  obtain ⟨env, F, s, d, s', E, o, hm, hq⟩ := h
  unfold mChain at hm
  cases e1 : ma env s with
  | none => simp [e1] at hm
  | some p =>
    obtain ⟨x, s1⟩ := p
    simp only [e1, Option.bind_some] at hm
    cases e2 : mb env s1 with
    | none => simp [e2] at hm
    | some q =>
      obtain ⟨y, s2⟩ := q
      simp only [e2, Option.bind_some] at hm
      cases e3 : f x y with
      | none => simp [e3] at hm
      | some z =>
        simp only [e3, Option.bind_some] at hm
        cases z with
        | bl k =>
          simp only [blD, Option.bind_some] at hm
          refine ⟨env, F, s, x, s1, E, o, e1, fun vx F1 H1 v1 hx => ⟨env, F1, s1, y, s2, E.step o v1, v1.ok, e2, fun vy F2 H2 v2 hy => ?_⟩⟩
          refine hd F2 H2 s2 x y (.bl k) vx vy _ v2.ok (hx.ext (v2.sameF v1.ok)) hy e3 fun vz F3 H3 v3 hz => ⟨k, hz, ?_⟩
          have o3 : Ev B F H F3 H3 s2 := (v1.trans v2).trans v3
          cases k with
          | true =>
            rw [if_pos rfl] at hm ⊢
            cases e4 : mc env s2 with
            | none => simp [e4] at hm
            | some t =>
              obtain ⟨w, s4⟩ := t
              simp only [e4, Option.bind_some] at hm
              cases e5 : g y w with
              | none => simp [e5] at hm
              | some u =>
                simp only [e5, Option.map_some, Option.some.injEq, Prod.mk.injEq] at hm
                obtain ⟨rfl, rfl⟩ := hm
                refine ⟨env, F3, s2, w, s4, E.step o o3, o3.ok, e4, fun vw F4 H4 v4 hw => ?_⟩
                exact hd' F4 H4 s4 y w u vy vw Q v4.ok (hy.ext ((v3.sameF v2.ok).trans (v4.sameF v3.ok))) hw e5 fun v F5 H5 v5 h5 => hq v F5 H5 ((o3.trans v4).trans v5) h5
          | false =>
            rw [if_neg Bool.false_ne_true] at hm ⊢
            cases hm
            exact hq _ F3 H3 o3 rfl
        | _ => simp [blD] at hm
theorem d_chain {op op' : CmpOp} {r r' : R2} {f g : D → D → Option D} (ho : OpR X (compareOp op) r) (hd : OpD X.K B r f) (ho' : OpR X (compareOp op') r') (hd' : OpD X.K B r' g) (ha : PE X a (tD X.K B ma)) (hb : PE X b (tD X.K B mb)) (hc : PE X c (tD X.K B mc))
    (hm : lastMarks [op, op'] [b, c] = false := by with_unfolding_all rfl) : PE X (.Compare a [op, op'] [b, c] pos) (tD X.K B (mChain f g ma mb mc)) := pe_w (pe_chain ho ho' ha hb hc hm) fun _ _ _ h => chain_D hd hd' h
theorem dt_chain {op op' : CmpOp} {r r' : R2} {f g : D → D → Option D} (ho : OpR X (compareOp op) r) (hd : OpD X.K B r f) (ho' : OpR X (compareOp op') r') (hd' : OpD X.K B r' g) (ha : PE X a (tD X.K B ma)) (hb : PE X b (tD X.K B mb)) (hc : PE X c (tD X.K B mc))
    (hm : lastMarks [op, op'] [b, c] = false := by with_unfolding_all rfl) : PT X (.Compare a [op, op'] [b, c] pos) (tT X.K B (mIsT (mChain f g ma mb mc))) := pt_w (pt_chain ho ho' ha hb hc hm) fun σ H Q ⟨env, F, s, d, s', E, o, hm, hq⟩ => by
  unfold mIsT at hm
  cases e1 : mChain f g ma mb mc env s with
  | none => simp [e1] at hm
  | some p =>
    obtain ⟨dk, s1⟩ := p
    cases dk with
    | bl k =>
      simp only [e1, Option.bind_some, blD, Option.map_some, Option.some.injEq, Prod.mk.injEq] at hm
      obtain ⟨rfl, rfl⟩ := hm
      exact chain_D hd hd' ⟨env, F, s, .bl k, s1, E, o, e1, fun v F1 H1 v1 hx => ⟨k, hx, hq F1 H1 v1⟩⟩
    | _ => simp [e1, blD] at hm
/-! parts of a slice -/
theorem do_none : PO X none (tO X.K B mNoPart) := po_w po_none fun σ H Q ⟨env, F, s, d, s', E, o, hm, hq⟩ => by
  have e : (none, s) = (d, s') := Option.some.inj hm
  cases e
  exact hq F H o.refl
theorem do_some (h : PE X a (tD X.K B ma)) : PO X (some a) (tO X.K B (mPart ma)) := po_w (po_some h) fun σ H Q ⟨env, F, s, d, s', E, o, hm, hq⟩ => by
  unfold mPart at hm
  cases e1 : ma env s with
  | none => simp [e1] at hm
  | some p =>
    obtain ⟨dk, s1⟩ := p
    cases dk with
    | int i =>
      simp only [e1, Option.bind_some, Option.some.injEq, Prod.mk.injEq] at hm
      obtain ⟨rfl, rfl⟩ := hm
      exact ⟨env, F, s, .int i, s1, E, o, e1, fun v F1 H1 v1 hx => ⟨i, hx, hq F1 H1 v1⟩⟩
    | _ => simp [e1] at hm
def SlD (K : PySem.W.Frag) {S : Type} (B : Amb S) (r : V → Option Int → Option Int → Hp → VK → Prop) (f : D → Option Int → Option Int → Option D) : Prop := ∀ (F H : Hp) (s : S) (dx dz : D) (lo hi : Option Int) (x : V) (Q : VK), Ok B F H s → Dv K B F dx x → f dx lo hi = some dz →
  (∀ v F' H', Ev B F H F' H' s → Dv K B F' dz v → Q v H') → r x lo hi H Q
theorem d_sl {lo hi : Option Expr} {p2 : Pos} {ml mh : MO S} {r : V → Option Int → Option Int → Hp → VK → Prop} {f : D → Option Int → Option Int → Option D} (hr : SlR X r) (hd : SlD X.K B r f) (ha : PE X a (tD X.K B ma)) (hl : PO X lo (tO X.K B ml)) (hu : PO X hi (tO X.K B mh)) :
    PE X (.Subscript a (.Slice lo hi none p2) pos) (tD X.K B (mSl f ma ml mh)) := pe_w (pe_slice hr ha hl hu) fun σ H Q ⟨env, F, s, d, s', E, o, hm, hq⟩ => by
  unfold mSl at hm
  cases e1 : ma env s with
  | none => simp [e1] at hm
  | some p =>
    obtain ⟨x, s1⟩ := p
    simp only [e1, Option.bind_some] at hm
    cases e2 : ml env s1 with
    | none => simp [e2] at hm
    | some q =>
      obtain ⟨l, s2⟩ := q
      simp only [e2, Option.bind_some] at hm
      cases e3 : mh env s2 with
      | none => simp [e3] at hm
      | some r' =>
        obtain ⟨u, s3⟩ := r'
        simp only [e3, Option.bind_some] at hm
        cases e4 : f x l u with
        | none => simp [e4] at hm
        | some z =>
          simp only [e4, Option.map_some, Option.some.injEq, Prod.mk.injEq] at hm
          obtain ⟨rfl, rfl⟩ := hm
          refine ⟨env, F, s, x, s1, E, o, e1, fun vx F1 H1 v1 hx => ⟨env, F1, s1, l, s2, E.step o v1, v1.ok, e2, fun F2 H2 v2 => ⟨env, F2, s2, u, s3, E.step o (v1.trans v2), v2.ok, e3, fun F3 H3 v3 => ?_⟩⟩⟩
          exact hd F3 H3 s3 x z l u vx Q v3.ok (hx.ext ((v2.sameF v1.ok).trans (v3.sameF v2.ok))) e4 fun v F4 H4 v4 h4 => hq v F4 H4 (((v1.trans v2).trans v3).trans v4) h4
end
end Dl

set_option Elab.async false
set_option linter.all false
set_option maxRecDepth 100000
set_option maxHeartbeats 4000000
/-! D3: operators over data. -/
namespace Dl
open PySem
open L2
open PySem.W (alike dataLt)

mutual
def toPy : D → Option PyData
  | .non => some .none
  | .bl b => some (.bool b)
  | .int i => some (.int i)
  | .str x => some (.str x)
  | .tup ds => (toPyL ds).map .tuple
  | .lst ds => (toPyL ds).map .list
  | .dct _ _ => none
  | .hnd => none
def toPyL : List D → Option (List PyData)
  | [] => some []
  | d :: ds => match toPy d, toPyL ds with
    | some p, some ps => some (p :: ps)
    | _, _ => none
end

section
variable {K : PySem.W.Frag} {S : Type} {B : Amb S} {F H : Hp}
mutual
theorem dp_of (e : Same F H) : ∀ {d : D} {v : V} {p : PyData}, toPy d = some p → Dv K B F d v → Dp K H v p
  | .non, _, _, h, k => by
    cases h
    cases (show _ = V.non from k)
    exact .non
  | .bl b, _, _, h, k => by
    cases h
    cases (show _ = V.bl b from k)
    exact .bl b
  | .int i, _, _, h, k => by
    cases h
    cases (show _ = V.int i from k)
    exact .int i
  | .str x, _, _, h, k => by
    cases h
    cases (show _ = V.str x from k)
    exact .str x
  | .tup ds, _, p, h, ⟨a, vs, h1, h2, h3⟩ => by
    subst h1
    unfold toPy at h
    cases q : toPyL ds with
    | none => simp [q] at h
    | some ps =>
      simp [q] at h
      subst h
      exact .tup (sqT_ext e h2) (dpL_of e q h3)
  | .lst ds, _, p, h, ⟨a, vs, h1, h2, h3⟩ => by
    subst h1
    unfold toPy at h
    cases q : toPyL ds with
    | none => simp [q] at h
    | some ps =>
      simp [q] at h
      subst h
      exact .lst (SqL.of (e a _ h2)) (dpL_of e q h3)
  | .dct _ _, _, _, h, _ => by cases h
  | .hnd, _, _, h, _ => by cases h
theorem dpL_of (e : Same F H) : ∀ {ds : List D} {vs : List V} {ps : List PyData}, toPyL ds = some ps → DvL K B F ds vs → DpAll K H vs ps
  | [], _, _, h, k => by
    cases h
    cases (show _ = [] from k)
    exact .nil
  | d :: ds, _, _, h, ⟨v, r, h1, h2, h3⟩ => by
    subst h1
    unfold toPyL at h
    cases q1 : toPy d with
    | none => simp [q1] at h
    | some p1 =>
      cases q2 : toPyL ds with
      | none => simp [q1, q2] at h
      | some ps =>
        simp [q1, q2] at h
        subst h
        exact .cons (dp_of e q1 h2) (dpL_of e q2 h3)
end
end

/-! ### relations -/
def rRel (K : PySem.W.Frag) (f : PyData → PyData → Option Bool) : R2 := fun x y H Q => ∃ d e b, Dp K H x d ∧ Dp K H y e ∧ f d e = some b ∧ Q (.bl b) H
def relD (f : PyData → PyData → Option Bool) (x y : D) : Option D := match toPy x, toPy y with
  | some a, some b => (f a b).map D.bl
  | _, _ => none
theorem relD_ok {K : PySem.W.Frag} {S : Type} {B : Amb S} (f : PyData → PyData → Option Bool) : OpD K B (rRel K f) (relD f) := fun F H s dx dy dz x y Q o hx hy hf hq => by
  unfold relD at hf
  cases e1 : toPy dx with
  | none => simp [e1] at hf
  | some a =>
    cases e2 : toPy dy with
    | none => simp [e1, e2] at hf
    | some b =>
      cases e3 : f a b with
      | none => simp [e1, e2, e3] at hf
      | some k =>
        simp [e1, e2, e3] at hf
        subst hf
        exact ⟨a, b, k, dp_of o.sub e1 hx, dp_of o.sub e2 hy, e3, hq _ F H o.refl rfl⟩
def isNone : PyData → Bool
  | .none => true
  | _ => false
def eqP (d e : PyData) : Option Bool := if d.plain = true ∧ e.plain = true ∧ min d.depth e.depth ≤ 64 then some (PyData.eqv d e) else none
def neP (d e : PyData) : Option Bool := if d.plain = true ∧ e.plain = true ∧ min d.depth e.depth ≤ 64 then some (!PyData.eqv d e) else none
def ltP (d e : PyData) : Option Bool := if alike d e = true ∧ isNone d = false ∧ min d.depth e.depth ≤ 64 then some (dataLt d e) else none
def gtP (d e : PyData) : Option Bool := if alike d e = true ∧ isNone d = false ∧ min d.depth e.depth ≤ 64 then some (dataLt e d) else none
def leP (d e : PyData) : Option Bool := if alike d e = true ∧ isNone d = false ∧ min d.depth e.depth ≤ 64 then some (!dataLt e d) else none
def geP (d e : PyData) : Option Bool := if alike d e = true ∧ isNone d = false ∧ min d.depth e.depth ≤ 64 then some (!dataLt d e) else none
theorem notNone {d : PyData} (h : isNone d = false) : d ≠ .none := fun e => by
  subst e
  cases h
section
variable {X : Cx}
theorem op_eqP (hu : X.A.units + 64 < cLine) : OpR X (compareOp .Eq) (rRel X.K eqP) := by
  intro pins s σ H x y v u Q I rx ry h
  obtain ⟨d, e, b, hd, he, hf, q⟩ := h
  unfold eqP at hf
  split at hf
  · rename_i c
    cases hf
    obtain ⟨as, r1⟩ := Dp.reads I d x v hd rx
    obtain ⟨bs, r2⟩ := Dp.reads I e y u he ry
    exact PySem.SeqAt.eq_plain r1 r2 c.1 c.2.1 (by have := c.2.2; omega) ⟨.bl _, H, I, rfl, q⟩
  · cases hf
theorem op_neP (hu : X.A.units + 64 < cLine) : OpR X (compareOp .NotEq) (rRel X.K neP) := by
  intro pins s σ H x y v u Q I rx ry h
  obtain ⟨d, e, b, hd, he, hf, q⟩ := h
  unfold neP at hf
  split at hf
  · rename_i c
    cases hf
    obtain ⟨as, r1⟩ := Dp.reads I d x v hd rx
    obtain ⟨bs, r2⟩ := Dp.reads I e y u he ry
    exact PySem.SeqAt.ne_plain r1 r2 c.1 c.2.1 (by have := c.2.2; omega) ⟨.bl _, H, I, rfl, q⟩
  · cases hf
theorem op_ltP (hu : X.A.units + 64 < cLine) : OpR X (compareOp .Lt) (rRel X.K ltP) := by
  intro pins s σ H x y v u Q I rx ry h
  obtain ⟨d, e, b, hd, he, hf, q⟩ := h
  unfold ltP at hf
  split at hf
  · rename_i c
    cases hf
    obtain ⟨as, r1⟩ := Dp.reads I d x v hd rx
    obtain ⟨bs, r2⟩ := Dp.reads I e y u he ry
    exact PySem.W.lt_data r1 r2 c.1 (notNone c.2.1) (by have := c.2.2; omega) ⟨.bl _, H, I, rfl, q⟩
  · cases hf
theorem op_gtP (hu : X.A.units + 64 < cLine) : OpR X (compareOp .Gt) (rRel X.K gtP) := by
  intro pins s σ H x y v u Q I rx ry h
  obtain ⟨d, e, b, hd, he, hf, q⟩ := h
  unfold gtP at hf
  split at hf
  · rename_i c
    cases hf
    obtain ⟨as, r1⟩ := Dp.reads I d x v hd rx
    obtain ⟨bs, r2⟩ := Dp.reads I e y u he ry
    exact PySem.W.gt_data r1 r2 c.1 (notNone c.2.1) (by have := c.2.2; omega) ⟨.bl _, H, I, rfl, q⟩
  · cases hf
theorem op_leP (hu : X.A.units + 64 < cLine) : OpR X (compareOp .LtE) (rRel X.K leP) := by
  intro pins s σ H x y v u Q I rx ry h
  obtain ⟨d, e, b, hd, he, hf, q⟩ := h
  unfold leP at hf
  split at hf
  · rename_i c
    cases hf
    obtain ⟨as, r1⟩ := Dp.reads I d x v hd rx
    obtain ⟨bs, r2⟩ := Dp.reads I e y u he ry
    exact PySem.W.le_data r1 r2 c.1 (notNone c.2.1) (by have := c.2.2; omega) ⟨.bl _, H, I, rfl, q⟩
  · cases hf
theorem op_geP (hu : X.A.units + 64 < cLine) : OpR X (compareOp .GtE) (rRel X.K geP) := by
  intro pins s σ H x y v u Q I rx ry h
  obtain ⟨d, e, b, hd, he, hf, q⟩ := h
  unfold geP at hf
  split at hf
  · rename_i c
    cases hf
    obtain ⟨as, r1⟩ := Dp.reads I d x v hd rx
    obtain ⟨bs, r2⟩ := Dp.reads I e y u he ry
    exact PySem.W.ge_data r1 r2 c.1 (notNone c.2.1) (by have := c.2.2; omega) ⟨.bl _, H, I, rfl, q⟩
  · cases hf
end

/-! ### +, -, *, //, % -/
section
variable {K : PySem.W.Frag} {S : Type} {B : Amb S}
def addD : D → D → Option D
  | .int i, .int j => some (.int (i + j))
  | .str x, .str y => if x.length + y.length ≤ sizeLine then some (.str (x ++ y)) else none
  | .tup xs, .tup ys => if xs.length + ys.length ≤ sizeLine then some (.tup (xs ++ ys)) else none
  | .lst xs, .lst ys => if xs.length + ys.length ≤ sizeLine then some (.lst (xs ++ ys)) else none
  | _, _ => none
def rAddA (K : PySem.W.Frag) : R2 := fun x y H Q => rI0 (fun i j => .int (i + j)) x y H Q ∨ (∃ i j, x = .str i ∧ y = .str j ∧ i.length + j.length ≤ sizeLine ∧ Q (.str (i ++ j)) H) ∨ rCatA K x y H Q ∨ rCat x y H Q
theorem op_addA {X : Cx} : OpR X (binaryOp .Add) (rAddA X.K) := op_add.or (op_add_str.or (op_catA.or op_cat))
theorem addD_ok : OpD K B (rAddA K) addD := fun F H s dx dy dz x y Q o hx hy hf hq => by
  unfold addD at hf
  split at hf
  · rename_i i j
    cases hf
    exact .inl ⟨i, j, hx, hy, hq _ F H o.refl rfl⟩
  · rename_i i j
    split at hf
    · rename_i c
      cases hf
      exact .inr (.inl ⟨i, j, hx, hy, c, hq _ F H o.refl rfl⟩)
    · cases hf
  · rename_i ds es
    split at hf
    · rename_i c
      cases hf
      obtain ⟨a, vs, ea, h2, h3⟩ := hx
      obtain ⟨b, us, eb, k2, k3⟩ := hy
      refine .inr (.inr (.inl ⟨a, b, vs, us, ea, eb, sqT_ext o.sub h2, sqT_ext o.sub k2, by rw [h3.len, k3.len]; exact c, fun e => ?_, fun _ e => ?_, fun _ _ p hp => ?_⟩))
      · subst e
        have l0 := h3.len
        have e0 : ds = [] := List.eq_nil_of_length_eq_zero l0.symm
        subst e0
        exact hq _ F H o.refl ⟨b, us, rfl, k2, k3⟩
      · subst e
        have l0 := k3.len
        have e0 : es = [] := List.eq_nil_of_length_eq_zero l0.symm
        subst e0
        refine hq _ F H o.refl ⟨a, vs, rfl, h2, ?_⟩
        rw [List.append_nil]
        exact h3
      · exact hq _ _ _ (Ev.new o _ hp) (new_tup o hp (h3.app k3))
    · cases hf
  · rename_i ds es
    split at hf
    · rename_i c
      cases hf
      obtain ⟨a, vs, ea, h2, h3⟩ := hx
      obtain ⟨b, us, eb, k2, k3⟩ := hy
      exact .inr (.inr (.inr ⟨a, b, vs, us, ea, eb, o.sub a _ h2, o.sub b _ k2, by rw [h3.len, k3.len]; exact c, fun p hp => hq _ _ _ (Ev.new o _ hp) (new_lst o hp (h3.app k3))⟩))
    · cases hf
  · cases hf
def intD (f : Int → Int → Option Int) : D → D → Option D
  | .int i, .int j => (f i j).map D.int
  | _, _ => none
theorem intD_ok {C : Int → Int → Prop} {g : Int → Int → Int} {f : Int → Int → Option Int} (h : ∀ i j k, f i j = some k → C i j ∧ k = g i j) : OpD K B (rI C fun i j => .int (g i j)) (intD f) := fun F H s dx dy dz x y Q o hx hy hf hq => by
  unfold intD at hf
  split at hf
  · rename_i i j
    cases e : f i j with
    | none => simp [e] at hf
    | some k =>
      simp [e] at hf
      subst hf
      obtain ⟨c, e2⟩ := h i j k e
      subst e2
      exact ⟨i, j, hx, hy, c, hq _ F H o.refl rfl⟩
  · cases hf
def subD : D → D → Option D := intD fun i j => some (i - j)
theorem op_subA {X : Cx} : OpR X (binaryOp .Sub) (rI (fun _ _ => True) fun i j => .int (i - j)) := fun pins s σ H x y v u Q I rx ry ⟨i, j, e1, e2, _, q⟩ => op_sub pins s σ H x y v u Q I rx ry ⟨i, j, e1, e2, q⟩
theorem subD_ok : OpD K B (rI (fun _ _ => True) fun i j => .int (i - j)) subD := intD_ok fun _ _ _ e => ⟨trivial, (Option.some.inj e).symm⟩
def CMulA (i j : Int) : Prop := CMulW i j ∨ CMul i j
theorem op_mulA {X : Cx} : OpR X (binaryOp .Mult) (rI CMulA fun i j => .int (i * j)) := fun pins s σ H x y v u Q I rx ry ⟨i, j, e1, e2, c, q⟩ => by
  rcases c with c | c
  · exact op_mulW pins s σ H x y v u Q I rx ry ⟨i, j, e1, e2, c, q⟩
  · exact op_mul pins s σ H x y v u Q I rx ry ⟨i, j, e1, e2, c, q⟩
def mulI (i j : Int) : Option Int := if i.natAbs.log2 + j.natAbs.log2 < 1000000 ∨ (-(2 ^ 64) < i ∧ i < 2 ^ 64) ∨ (-(2 ^ 64) < j ∧ j < 2 ^ 64) then some (i * j) else none
def mulD : D → D → Option D := intD mulI
theorem mulD_ok : OpD K B (rI CMulA fun i j => .int (i * j)) mulD := intD_ok fun i j k e => by
  unfold mulI at e
  split at e
  · rename_i c
    cases e
    exact ⟨c, rfl⟩
  · cases e
def divI (i j : Int) : Option Int := if 0 < j ∧ j.natAbs.log2 < 9000 then some (i / j) else none
def divD : D → D → Option D := intD divI
theorem divD_ok : OpD K B (rI CDivW fun i j => .int (i / j)) divD := intD_ok fun i j k e => by
  unfold divI at e
  split at e
  · rename_i c
    cases e
    exact ⟨c, rfl⟩
  · cases e
def modI (i j : Int) : Option Int := if 0 < j then some (i % j) else none
def modD : D → D → Option D := intD modI
theorem modD_ok : OpD K B (rI (fun _ j => 0 < j) fun i j => .int (i % j)) modD := intD_ok fun i j k e => by
  unfold modI at e
  split at e
  · rename_i c
    cases e
    exact ⟨c, rfl⟩
  · cases e
def powI (i j : Int) : Option Int := if 0 ≤ j ∧ j ≤ 1000000 ∧ i.natAbs < 2 ^ 64 then some (i ^ j.toNat) else none
def powD : D → D → Option D := intD powI
theorem powD_ok : OpD K B (rI CPow fun i j => .int (i ^ j.toNat)) powD := intD_ok fun i j k e => by
  unfold powI at e
  split at e
  · rename_i c
    cases e
    exact ⟨c, rfl⟩
  · cases e
def negD : D → Option D
  | .int i => some (.int (-i))
  | _ => none
theorem negD_ok : UnD K B (rU fun i => .int (-i)) negD := fun F H s dx dz x Q o hx hf hq => by
  unfold negD at hf
  split at hf
  · rename_i i
    cases hf
    exact ⟨i, hx, hq _ F H o.refl rfl⟩
  · cases hf

/-! is None -/
def isNonD : D → Bool
  | .non => true
  | _ => false
theorem isNon_of {F : Hp} {d : D} {v : V} (h : Dv K B F d v) : decide (v = .non) = isNonD d := by
  cases d with
  | non => rw [show v = V.non from h]; rfl
  | bl b => rw [show v = V.bl b from h]; rfl
  | int i => rw [show v = V.int i from h]; rfl
  | str x => rw [show v = V.str x from h]; rfl
  | hnd => rw [show v = V.ref B.hA from h]; rfl
  | tup ds => obtain ⟨a, vs, e, _⟩ := h; rw [e]; rfl
  | lst ds => obtain ⟨a, vs, e, _⟩ := h; rw [e]; rfl
  | dct ks ds => obtain ⟨a, vs, e, _⟩ := h; rw [e]; rfl
def isND : D → D → Option D
  | x, .non => some (.bl (isNonD x))
  | _, _ => none
def notND : D → D → Option D
  | x, .non => some (.bl (!isNonD x))
  | _, _ => none
theorem isND_ok : OpD K B (fun x y H Q => y = .non ∧ Q (.bl (decide (x = .non))) H) isND := fun F H s dx dy dz x y Q o hx hy hf hq => by
  unfold isND at hf
  split at hf
  · cases hf
    refine ⟨hy, ?_⟩
    rw [isNon_of hx]
    exact hq _ F H o.refl rfl
  · cases hf
theorem notND_ok : OpD K B (fun x y H Q => y = .non ∧ Q (.bl (!decide (x = .non))) H) notND := fun F H s dx dy dz x y Q o hx hy hf hq => by
  unfold notND at hf
  split at hf
  · cases hf
    refine ⟨hy, ?_⟩
    rw [isNon_of hx]
    exact hq _ F H o.refl rfl
  · cases hf

/-! ### items, slices, lengths -/
def ixD : D → D → Option D
  | .tup ds, .int i => atI ds i
  | .lst ds, .int i => atI ds i
  | .str x, .int i => if x.length ≤ sizeLine then (atI x.cps.toList i).map fun c => .str ⟨#[c]⟩ else none
  | _, _ => none
theorem atI_dv {F : Hp} {ds : List D} {vs : List V} {i : Int} {d : D} (h : DvL K B F ds vs) (e : atI ds i = some d) : ∃ v, atI vs i = some v ∧ Dv K B F d v := by
  unfold atI at e ⊢
  rw [h.len]
  cases q : ixN ds.length i with
  | none => rw [q] at e; cases e
  | some j =>
    rw [q] at e
    exact h.get e
theorem ixD_ok : OpD K B (rIx K) ixD := fun F H s dx dy dz x y Q o hx hy hf hq => by
  unfold ixD at hf
  split at hf
  · rename_i ds i
    obtain ⟨a, vs, ea, h2, h3⟩ := hx
    obtain ⟨v, e1, e2⟩ := atI_dv h3 hf
    exact .inr (.inl ⟨a, vs, i, v, ea, hy, sqT_ext o.sub h2, e1, hq _ F H o.refl e2⟩)
  · rename_i ds i
    obtain ⟨a, vs, ea, h2, h3⟩ := hx
    obtain ⟨v, e1, e2⟩ := atI_dv h3 hf
    exact .inl ⟨a, vs, i, v, ea, hy, SqL.of (o.sub a _ h2), e1, hq _ F H o.refl e2⟩
  · rename_i z i
    split at hf
    · rename_i c
      cases e : atI z.cps.toList i with
      | none => simp [e] at hf
      | some k =>
        simp [e] at hf
        subst hf
        exact .inr (.inr ⟨z, i, k, hx, hy, c, e, hq _ F H o.refl rfl⟩)
    · cases hf
  · cases hf
def cutD (ds : List D) (lo hi : Option Int) : List D := (ds.drop (HT.sIx ds.length 0 lo)).take (HT.sIx ds.length ds.length hi - HT.sIx ds.length 0 lo)
theorem cut_dv {F : Hp} {ds : List D} {vs : List V} (h : DvL K B F ds vs) (lo hi : Option Int) : DvL K B F (cutD ds lo hi) (cutV vs lo hi) := by
  unfold cutD cutV
  rw [h.len]
  exact (h.drop _).take _
def slT : D → Option Int → Option Int → Option D
  | .tup ds, lo, hi => some (.tup (cutD ds lo hi))
  | _, _, _ => none
theorem slT_ok : SlD K B (rSlA K) slT := fun F H s dx dz lo hi x Q o hx hf hq => by
  cases dx with
  | tup ds =>
    cases (show some (D.tup (cutD ds lo hi)) = some dz from hf)
    obtain ⟨a, vs, ea, h2, h3⟩ := hx
    refine ⟨a, vs, ea, sqT_ext o.sub h2, fun c => ?_, fun _ p hp => hq _ _ _ (Ev.new o _ hp) (new_tup o hp (cut_dv h3 lo hi))⟩
    refine hq _ F H o.refl ⟨a, vs, rfl, h2, ?_⟩
    unfold cutD
    rw [h3.len] at c
    rw [c.1, c.2, Nat.sub_zero, List.drop_zero, List.take_length]
    exact h3
  | _ => cases hf
def slL : D → Option Int → Option Int → Option D
  | .lst ds, lo, hi => some (.lst (cutD ds lo hi))
  | _, _, _ => none
theorem slL_ok : SlD K B (rSlL K) slL := fun F H s dx dz lo hi x Q o hx hf hq => by
  cases dx with
  | lst ds =>
    cases (show some (D.lst (cutD ds lo hi)) = some dz from hf)
    obtain ⟨a, vs, ea, h2, h3⟩ := hx
    exact ⟨a, vs, ea, SqL.of (o.sub a _ h2), fun p hp => hq _ _ _ (Ev.new o _ hp) (new_lst o hp (cut_dv h3 lo hi))⟩
  | _ => cases hf
def lenD : List D → Option D
  | [.tup ds] => some (.int ds.length)
  | [.lst ds] => some (.int ds.length)
  | [.str x] => if x.length ≤ sizeLine then some (.int x.length) else none
  | _ => none
theorem lenD_ok : CallD K B (fun xs H Q => ∃ x n, xs = [x] ∧ LenV K x H n ∧ Q (.int n) H) lenD := fun F H s ds dz vs Q o hv hf hq => by
  unfold lenD at hf
  split at hf
  · rename_i ds
    cases hf
    obtain ⟨v, r, e, hx, hr⟩ := hv
    have hr' : r = [] := hr
    subst e hr'
    obtain ⟨a, us, ea, h2, h3⟩ := hx
    refine ⟨v, us.length, rfl, ?_, ?_⟩
    · rw [ea]
      exact .inr ⟨us, sqT_ext o.sub h2, rfl⟩
    · rw [h3.len]
      exact hq _ F H o.refl rfl
  · rename_i ds
    cases hf
    obtain ⟨v, r, e, hx, hr⟩ := hv
    have hr' : r = [] := hr
    subst e hr'
    obtain ⟨a, us, ea, h2, h3⟩ := hx
    refine ⟨v, us.length, rfl, ?_, ?_⟩
    · rw [ea]
      exact .inl ⟨us, SqL.of (o.sub a _ h2), rfl⟩
    · rw [h3.len]
      exact hq _ F H o.refl rfl
  · rename_i x
    split at hf
    · rename_i c
      cases hf
      obtain ⟨v, r, e, hx, hr⟩ := hv
      have hr' : r = [] := hr
      subst e hr'
      have ea : v = V.str x := hx
      refine ⟨v, x.length, rfl, ?_, hq _ F H o.refl rfl⟩
      rw [ea]
      exact ⟨c, rfl⟩
    · cases hf
  · cases hf
theorem one_of {F : Hp} {d : D} {vs : List V} (h : DvL K B F [d] vs) : ∃ v, vs = [v] ∧ Dv K B F d v := by
  obtain ⟨v, r, e, hx, hr⟩ := h
  have hr' : r = [] := hr
  subst hr'
  exact ⟨v, e, hx⟩
theorem two_of {F : Hp} {d e : D} {vs : List V} (h : DvL K B F [d, e] vs) : ∃ v u, vs = [v, u] ∧ Dv K B F d v ∧ Dv K B F e u := by
  obtain ⟨v, r, e1, hx, hr⟩ := h
  obtain ⟨u, e2, hy⟩ := one_of hr
  subst e2
  exact ⟨v, u, e1, hx, hy⟩
def absD : List D → Option D
  | [.int i] => some (.int (if i < 0 then -i else i))
  | _ => none
theorem absD_ok : CallD K B (fun xs H Q => ∃ i, xs = [.int i] ∧ Q (.int (if i < 0 then -i else i)) H) absD := fun F H s ds dz vs Q o hv hf hq => by
  unfold absD at hf
  split at hf
  · rename_i i
    cases hf
    obtain ⟨v, e, hx⟩ := one_of hv
    have ev : v = V.int i := hx
    subst e ev
    exact ⟨i, rfl, hq _ F H o.refl rfl⟩
  · cases hf
def intCD : List D → Option D
  | [.int i] => some (.int i)
  | [.bl k] => some (.int (if k then 1 else 0))
  | _ => none
theorem intCD_ok : CallD K B (fun xs H Q => (∃ i, xs = [.int i] ∧ Q (.int i) H) ∨ ∃ k, xs = [.bl k] ∧ Q (.int (if k then 1 else 0)) H) intCD := fun F H s ds dz vs Q o hv hf hq => by
  unfold intCD at hf
  split at hf
  · rename_i i
    cases hf
    obtain ⟨v, e, hx⟩ := one_of hv
    have ev : v = V.int i := hx
    subst e ev
    exact .inl ⟨i, rfl, hq _ F H o.refl rfl⟩
  · rename_i k
    cases hf
    obtain ⟨v, e, hx⟩ := one_of hv
    have ev : v = V.bl k := hx
    subst e ev
    exact .inr ⟨k, rfl, hq _ F H o.refl rfl⟩
  · cases hf
def tupleCD : List D → Option D
  | [.tup ds] => some (.tup ds)
  | [.lst ds] => some (.tup ds)
  | _ => none
theorem tupleCD_ok : CallD K B (fun xs H Q => ∃ p ys, xs = [.ref p] ∧ ((SqL K H p ys ∧ ∀ l, H l = none → Q (.ref l) (upd H l (.tup ys))) ∨ (SqT K H p ys ∧ Q (.ref p) H))) tupleCD := fun F H s ds dz vs Q o hv hf hq => by
  unfold tupleCD at hf
  split at hf
  · rename_i ds
    cases hf
    obtain ⟨v, e, hx⟩ := one_of hv
    obtain ⟨a, us, ea, h2, h3⟩ := id hx
    subst e
    refine ⟨a, us, by rw [ea], .inr ⟨sqT_ext o.sub h2, ?_⟩⟩
    rw [← ea]
    exact hq _ F H o.refl hx
  · rename_i ds
    cases hf
    obtain ⟨v, e, hx⟩ := one_of hv
    obtain ⟨a, us, ea, h2, h3⟩ := hx
    subst e
    exact ⟨a, us, by rw [ea], .inl ⟨SqL.of (o.sub a _ h2), fun p hp => hq _ _ _ (Ev.new o _ hp) (new_tup o hp h3)⟩⟩
  · cases hf
def listCD : List D → Option D
  | [.tup ds] => some (.lst ds)
  | [.lst ds] => some (.lst ds)
  | _ => none
theorem listCD_ok : CallD K B (fun xs H Q => ∃ p ys, xs = [.ref p] ∧ (SqL K H p ys ∨ SqT K H p ys) ∧ ∀ l, H l = none → Q (.ref l) (upd H l (.lst ys))) listCD := fun F H s ds dz vs Q o hv hf hq => by
  unfold listCD at hf
  split at hf
  · rename_i ds
    cases hf
    obtain ⟨v, e, hx⟩ := one_of hv
    obtain ⟨a, us, ea, h2, h3⟩ := hx
    subst e
    exact ⟨a, us, by rw [ea], .inr (sqT_ext o.sub h2), fun p hp => hq _ _ _ (Ev.new o _ hp) (new_lst o hp h3)⟩
  · rename_i ds
    cases hf
    obtain ⟨v, e, hx⟩ := one_of hv
    obtain ⟨a, us, ea, h2, h3⟩ := hx
    subst e
    exact ⟨a, us, by rw [ea], .inl (SqL.of (o.sub a _ h2)), fun p hp => hq _ _ _ (Ev.new o _ hp) (new_lst o hp h3)⟩
  · cases hf
def blsD : List D → Option (List Bool)
  | [] => some []
  | .bl b :: ds => (blsD ds).map fun bs => b :: bs
  | _ => none
theorem blsD_eq : ∀ {ds : List D} {bs : List Bool}, blsD ds = some bs → ds = bs.map D.bl
  | [], _, h => by
    cases h
    rfl
  | d :: ds, bs, h => by
    cases d with
    | bl b =>
      unfold blsD at h
      cases q : blsD ds with
      | none => simp [q] at h
      | some cs =>
        simp [q] at h
        subst h
        rw [blsD_eq q]
        rfl
    | _ => simp [blsD] at h
def allD : List D → Option D
  | [.lst ds] => (blsD ds).map fun bs => .bl (bs.all id)
  | _ => none
theorem allD_ok : CallD K B (rAll K) allD := fun F H s ds dz vs Q o hv hf hq => by
  unfold allD at hf
  split at hf
  · rename_i ds
    cases q : blsD ds with
    | none => simp [q] at hf
    | some bs =>
      simp [q] at hf
      subst hf
      obtain ⟨v, e, hx⟩ := one_of hv
      obtain ⟨a, us, ea, h2, h3⟩ := hx
      subst e
      have eq := blsD_eq q
      subst eq
      have eu := h3.bls
      subst eu
      exact ⟨a, bs, by rw [ea], SqL.of (o.sub a _ h2), hq _ F H o.refl rfl⟩
  · cases hf
def anyD : List D → Option D
  | [.lst ds] => (blsD ds).map fun bs => .bl (bs.any id)
  | _ => none
theorem anyD_ok : CallD K B (rAny K) anyD := fun F H s ds dz vs Q o hv hf hq => by
  unfold anyD at hf
  split at hf
  · rename_i ds
    cases q : blsD ds with
    | none => simp [q] at hf
    | some bs =>
      simp [q] at hf
      subst hf
      obtain ⟨v, e, hx⟩ := one_of hv
      obtain ⟨a, us, ea, h2, h3⟩ := hx
      subst e
      have eq := blsD_eq q
      subst eq
      have eu := h3.bls
      subst eu
      exact ⟨a, bs, by rw [ea], SqL.of (o.sub a _ h2), hq _ F H o.refl rfl⟩
  · cases hf
end
end Dl

set_option Elab.async false
set_option linter.all false
set_option maxRecDepth 100000
set_option maxHeartbeats 4000000
/-! D4: isinstance, what a loop walks, comprehensions, calls. -/
namespace Dl
open PySem
open L2

/-! ### isinstance -/
inductive Ty where
  | tInt | tBool | tStr | tTuple | tList | tDict | tBytes
def tyN : Ty → String
  | .tInt => "int" | .tBool => "bool" | .tStr => "str" | .tTuple => "tuple" | .tList => "list" | .tDict => "dict" | .tBytes => "bytes"
/-- the class of a thing -/
def nmD : D → Option String
  | .non => some "NoneType" | .bl _ => some "bool" | .int _ => some "int" | .str _ => some "str" | .tup _ => some "tuple" | .lst _ => some "list" | .dct _ _ => some "dict" | .hnd => none
def isI : Ty → D → Bool
  | .tInt, .int _ => true | .tInt, .bl _ => true | .tBool, .bl _ => true | .tStr, .str _ => true | .tTuple, .tup _ => true | .tList, .lst _ => true | .tDict, .dct _ _ => true | _, _ => false
def isiD (T : Ty) : D → Option D
  | .hnd => none
  | d => some (.bl (isI T d))
def isiTD (Ts : List Ty) : D → Option D
  | .hnd => none
  | d => some (.bl (Ts.any fun T => isI T d))
theorem kit_table : ∀ (T : Ty) (d : D) (n : String), nmD d = some n → kitB n (tyN T) = some (isI T d) := by
  intro T d n h
  cases T <;> cases d <;> first | cases h | skip
  all_goals first
    | (show _ = some true; decide +kernel)
    | (show _ = some false; decide +kernel)
section
variable {K : PySem.W.Frag} {S : Type} {B : Amb S} {F H : Hp}
theorem tyX_of (e : Same F H) {d : D} {v : V} {n : String} (hn : nmD d = some n) (h : Dv K B F d v) : TyX K H v (.type n) := by
  cases d with
  | non => cases hn; rw [show v = V.non from h]; exact .base .non
  | bl b => cases hn; rw [show v = V.bl b from h]; exact .base (.bl b)
  | int i => cases hn; rw [show v = V.int i from h]; exact .base (.int i)
  | str x => cases hn; rw [show v = V.str x from h]; exact .base (.str x)
  | hnd => cases hn
  | tup ds =>
    cases hn
    obtain ⟨a, vs, ea, h2, _⟩ := h
    rw [ea]
    rcases h2 with (h2 | ⟨o, h2⟩) | ⟨o, its, m, hk, hc, _⟩
    · exact .base (.tup (e a _ h2))
    · exact .fTuple (e a _ h2)
    · exact .kTuple hk hc
  | lst ds =>
    cases hn
    obtain ⟨a, vs, ea, h2, _⟩ := h
    rw [ea]
    exact .base (.lst (e a _ h2))
  | dct ks ds =>
    cases hn
    obtain ⟨a, vs, ea, h2, _⟩ := h
    rw [ea]
    exact .base (.dK (e a _ h2))
theorem isiD_nm {T : Ty} {d z : D} (h : isiD T d = some z) : (∃ n, nmD d = some n) ∧ z = .bl (isI T d) := by
  cases d with
  | hnd => cases h
  | _ => cases h; exact ⟨⟨_, rfl⟩, rfl⟩
theorem isiTD_nm {Ts : List Ty} {d z : D} (h : isiTD Ts d = some z) : (∃ n, nmD d = some n) ∧ z = .bl (Ts.any fun T => isI T d) := by
  cases d with
  | hnd => cases h
  | _ => cases h; exact ⟨⟨_, rfl⟩, rfl⟩
theorem any_table {d : D} {n : String} (hn : nmD d = some n) : ∀ Ts : List Ty, PySem.W.kitAny K (.type n) (Ts.map fun T => Value.type (tyN T)) = some (Ts.any fun T => isI T d)
  | [] => rfl
  | T :: Ts => by
    rw [List.map_cons, List.any_cons]
    have h1 : PySem.W.kitOne K (.type n) (.type (tyN T)) = some (isI T d) := kit_ty (kit_table T d n hn)
    cases q : isI T d with
    | true =>
      rw [q] at h1
      exact kitAny_cons h1 (fun z => nomatch z) fun _ => rfl
    | false =>
      rw [q] at h1
      exact kitAny_cons h1 (fun _ => any_table hn Ts) fun z => nomatch z
/-- a row of class names -/
def tTys (Ts : List Ty) : TA := fun _ H Q => Q (Ts.map fun T => V.ty (tyN T)) H
end
section
variable {X : Cx} {S : Type} {B : Amb S} {a b : Expr} {es : List Expr} {pos : Pos} {ma : ME S}
theorem pe_ty {x : Str} {p : Pos} (T : Ty) (hm : X.mg x = none) (hv : bootBuiltins x = some (.type (tyN T))) (hg : Gl X x := by rfl) (hn : x ≠ "__name__" := by decide) (hd : (x == ("__debug__" : Str)) = false := by decide) :
    PE X (.Name x p) (tC (.ty (tyN T))) := pe_bltn hg hm hv rfl hn hd
theorem tys_nil : PA X [] (tTys []) := pa_w pa_nil fun _ _ _ h => h
theorem tys_cons {T : Ty} {Ts : List Ty} (hb : PE X b (tC (.ty (tyN T)))) (hl : PA X es (tTys Ts)) (hs : starEach (b :: es) X.env = (false, eval b X.env) :: starEach es X.env := by rfl) : PA X (b :: es) (tTys (T :: Ts)) :=
  pa_w (pa_cons hb hl hs) fun _ _ _ h => h
theorem d_isi {p : Pos} {T : Ty} (hm : X.mg "isinstance" = none) (ha : PE X a (tD X.K B ma)) (hb : PE X b (tC (.ty (tyN T)))) (hv : bootBuiltins "isinstance" = some (.builtin "isinstance") := by decide +kernel) (hg : Gl X "isinstance" := by rfl)
    (hs1 : starEach [b] X.env = (false, eval b X.env) :: starEach [] X.env := by rfl)
    (he : starEach (a :: [b]) X.env = (false, eval a X.env) :: starEach [b] X.env := by rfl) (hpl : (backTo pos (starEach [b] X.env)).any (·.1) = false := by rfl) :
    PE X (.Call (.Name "isinstance" p) [a, b] [] pos) (tD X.K B (mU (isiD T) ma)) :=
  pe_w (pe_callB call_isi hg hm hv (pa_cons ha (pa_cons hb pa_nil hs1) he) (by decide) (by decide) he hpl) fun σ H Q ⟨env, F, s, d, s', E, o, hm, hq⟩ => by
    obtain ⟨x, e1, e2⟩ := un_un hm
    obtain ⟨⟨n, hn⟩, ez⟩ := isiD_nm e2
    subst ez
    exact ⟨env, F, s, x, s', E, o, e1, fun v F1 H1 v1 hx => ⟨v, .ty (tyN T), .type n, .type (tyN T), _, rfl, .ty _, tyX_of v1.ok.sub hn hx, kit_ty (kit_table T x n hn), hq _ F1 H1 v1 rfl⟩⟩
theorem paired_ty : ∀ Ts : List Ty, Paired ClsV (Ts.map fun T => V.ty (tyN T)) (Ts.map fun T => Value.type (tyN T))
  | [] => .nil
  | T :: Ts => .cons (.ty _) (paired_ty Ts)
theorem d_isiT {p p2 : Pos} {x1} {Ts : List Ty} (hm : X.mg "isinstance" = none) (ha : PE X a (tD X.K B ma)) (hb : PA X es (tTys Ts)) (hv : bootBuiltins "isinstance" = some (.builtin "isinstance") := by decide +kernel) (hg : Gl X "isinstance" := by rfl)
    (hz : Ts.length ≤ sizeLine := by decide)
    (hs1 : starEach [Expr.Tuple es x1 p2] X.env = (false, eval (Expr.Tuple es x1 p2) X.env) :: starEach [] X.env := by rfl)
    (he : starEach (a :: [Expr.Tuple es x1 p2]) X.env = (false, eval a X.env) :: starEach [Expr.Tuple es x1 p2] X.env := by rfl) (hpl : (backTo pos (starEach [Expr.Tuple es x1 p2] X.env)).any (·.1) = false := by rfl) :
    PE X (.Call (.Name "isinstance" p) [a, Expr.Tuple es x1 p2] [] pos) (tD X.K B (mU (isiTD Ts) ma)) :=
  pe_w (pe_callB call_isiT hg hm hv (pa_cons ha (pa_cons (pe_tup hb) pa_nil hs1) he) (by decide) (by decide) he hpl) fun σ H Q ⟨env, F, s, d, s', E, o, hm, hq⟩ => by
    obtain ⟨x, e1, e2⟩ := un_un hm
    obtain ⟨⟨n, hn⟩, ez⟩ := isiTD_nm e2
    subst ez
    refine ⟨env, F, s, x, s', E, o, e1, fun v F1 H1 v1 hx => ⟨by rw [List.length_map]; exact hz, fun p hp => ?_⟩⟩
    have v2 := v1.trans (Ev.new v1.ok (.tup (Ts.map fun T => V.ty (tyN T))) hp)
    exact ⟨v, p, _, .type n, _, _, rfl, upd_same, paired_ty Ts, tyX_of v2.ok.sub hn (hx.ext ((Ev.new v1.ok (.tup (Ts.map fun T => V.ty (tyN T))) hp).sameF v1.ok)), any_table hn Ts, hq _ _ _ v2 rfl⟩
end

/-! ### calls of the program's own defs -/
/-- a def's promise: over data it is f -/
def spD (K : PySem.W.Frag) {S : Type} (B : Amb S) (n : Nat) (f : List D → S → Option (D × S)) : Sp := fun vs H Q _ => vs.length = n ∧ ∃ F s ds d s', DvL K B F ds vs ∧ Ok B F H s ∧ f ds s = some (d, s') ∧ ∀ v F' H', Ev B F H F' H' s' → Dv K B F' d v → Q v H'
def mCall {S : Type} (f : List D → S → Option (D × S)) (l : ML S) : ME S := fun env s => (l env s).bind fun p => f p.1 p.2
section
variable {X : Cx} {S : Type} {B : Amb S} {a b e : Expr} {es : List Expr} {pos p : Pos} {ma : ME S} {ml : ML S} {k : Nat} {f : Addr} {fd : FuncData} {ps : List Str} {x : Str} {g : List D → S → Option (D × S)}
theorem d_call {CX : CXT} {E : XK} (G : FnOk X.prog X.w X.K X.mg X.base CX k f fd ps (spD X.K B ps.length g)) (hr : Room k X.A) (hm : X.mg x = some (.ref f)) (hk : PySem.W.keepIn X.K (.ref f) = true) (hb : Binds X.K fd ps []) (hx : Passes CX X E) (ha : PA X (e :: es) (tL X.K B ml))
    (hl : ∀ env s ds s', ml env s = some (ds, s') → ds.length = ps.length)
    (hg : Gl X x := by rfl) (hdb : (x == ("__debug__" : Str)) = false := by decide) (he : starEach (e :: es) X.env = (false, eval e X.env) :: starEach es X.env := by rfl) (hpl : (backTo pos (starEach es X.env)).any (·.1) = false := by rfl) :
    PE X (.Call (.Name x p) (e :: es) [] pos) (tD X.K B (mCall g ml)) :=
  pe_w (pe_call G hr hg hm hk hb .nil hx ha hdb he hpl) fun σ H Q ⟨env, F, s, d, s', E, o, hm, hq⟩ => by
    unfold mCall at hm
    cases e1 : ml env s with
    | none => simp [e1] at hm
    | some q =>
      obtain ⟨ds, s1⟩ := q
      simp only [e1, Option.bind_some] at hm
      refine ⟨env, F, s, ds, s1, E, o, e1, fun vs F1 H1 v1 hv => ?_⟩
      show spD X.K B ps.length g (vs ++ []) H1 Q _
      rw [List.append_nil]
      exact ⟨by rw [hv.len]; exact hl _ _ _ _ e1, F1, s1, ds, d, s', hv, v1.ok, hm, fun v F2 H2 v2 hz => hq v F2 H2 (v1.trans v2) hz⟩
end
theorem len_nil {S : Type} : ∀ env s ds s', (mNil : ML S) env s = some (ds, s') → ds.length = 0 := fun env s ds s' h => by
  cases h
  rfl
theorem len_cons {S : Type} {ma : ME S} {ml : ML S} {n : Nat} (h : ∀ env s ds s', ml env s = some (ds, s') → ds.length = n) : ∀ env s ds s', mCons ma ml env s = some (ds, s') → ds.length = n + 1 := fun env s ds s' hm => by
  unfold mCons at hm
  cases e1 : ma env s with
  | none => simp [e1] at hm
  | some p =>
    cases e2 : ml env p.2 with
    | none => simp [e1, e2] at hm
    | some q =>
      simp [e1, e2] at hm
      obtain ⟨h1, h2⟩ := hm
      subst h1 h2
      rw [List.length_cons, h env p.2 q.1 q.2 e2]
end Dl

set_option Elab.async false
set_option linter.all false
set_option maxRecDepth 100000
set_option maxHeartbeats 4000000
/-! D5: targets, what is walked, comprehensions. -/
namespace Dl
open PySem
open L2

/-- p is a list of this frame's own -/
def Own (σ : L2.St) (env : DE) (p : Addr) : Prop := ∃ (i : Nat) (xs : List D), env[i]? = some (some (.own xs)) ∧ σ[i]? = some (some (.ref p))

section
variable {K : PySem.W.Frag} {S : Type} {B : Amb S} {F H F1 H1 : Hp} {s : S}
theorem Ok.mut (o : Ok B F H s) {p : Addr} {u : HO} (hf : F p = none) (hn : ¬ B.own p) : Ok B F (upd H p u) s := by
  refine ⟨fun q x hq => ?_, o.ap, B.stay s H _ o.am fun q x ho hq => ?_⟩
  · have z : q ≠ p := ne_of_none hq hf
    rw [upd_ne z]
    exact o.sub q x hq
  · have z : q ≠ p := fun e => hn (e ▸ ho)
    rw [upd_ne z]
    exact hq
theorem Ok.frz (o : Ok B F H s) {p : Addr} {u : HO} (hp : H p = some u) (hn : ¬ B.own p) : Ok B (upd F p u) H s := by
  refine ⟨fun q x hq => ?_, fun q ho => ?_, o.am⟩
  · by_cases z : q = p
    · subst z
      rw [upd_same] at hq
      cases hq
      exact hp
    · rw [upd_ne z] at hq
      exact o.sub q x hq
  · have z : q ≠ p := fun e => hn (e ▸ ho)
    rw [upd_ne z]
    exact o.ap q ho
end

/-! ### targets -/
theorem wipe_set {σ : L2.St} {x : Option V} : ∀ {vs : List Nat} {i : Nat}, i ∈ vs → wipe (σ.set i x) vs = wipe σ vs
  | [], i, h => by cases h
  | v :: vs, i, h => by
    show (wipe (σ.set i x) vs).set v none = (wipe σ vs).set v none
    by_cases hi : i ∈ vs
    · rw [wipe_set hi]
    · have e : i = v := by
        rcases List.mem_cons.mp h with z | z
        · exact z
        · exact absurd z hi
      subst e
      have e2 : ∀ ws : List Nat, i ∉ ws → wipe (σ.set i x) ws = (wipe σ ws).set i x := by
        intro ws
        induction ws with
        | nil => intro _; rfl
        | cons w ws ih =>
          intro hw
          have hw1 : i ≠ w := fun z => hw (by rw [z]; exact List.mem_cons_self)
          have hw2 : i ∉ ws := fun z => hw (List.mem_cons_of_mem _ z)
          show (wipe (σ.set i x) ws).set w none = ((wipe σ ws).set w none).set i x
          rw [ih hw2, List.set_comm _ _ hw1]
      rw [e2 vs hi, List.set_set]
def wipeE (env : DE) : List Nat → DE
  | [] => env
  | v :: vs => (wipeE env vs).set v none
def GD (K : PySem.W.Frag) {S : Type} (B : Amb S) (is : List Nat) (g : TG) (gd : D → DE → Option DE) : Prop := ∀ (d : D) (v : V) (F H : Hp) (s : S) (σ : L2.St) (env env' : DE) (Q : L2.St → Hp → Prop), EnvOk K B F H σ env → Ok B F H s → Dv K B F d v → gd d env = some env' →
  (∀ σ', EnvOk K B F H σ' env' → (∀ p, Own σ' env' p → Own σ env p) → (∀ vs : List Nat, (∀ i ∈ is, i ∈ vs) → wipe σ' vs = wipe σ vs) → Q σ' H) → g v σ H Q
def GDs (K : PySem.W.Frag) {S : Type} (B : Amb S) (is : List Nat) (g : TGs) (gd : List D → DE → Option DE) : Prop := ∀ (ds : List D) (vs : List V) (F H : Hp) (s : S) (σ : L2.St) (env env' : DE) (Q : L2.St → Hp → Prop), EnvOk K B F H σ env → Ok B F H s → DvL K B F ds vs → gd ds env = some env' →
  (∀ σ', EnvOk K B F H σ' env' → (∀ p, Own σ' env' p → Own σ env p) → (∀ ws : List Nat, (∀ i ∈ is, i ∈ ws) → wipe σ' ws = wipe σ ws) → Q σ' H) → g vs σ H Q
def gdName (i : Nat) : D → DE → Option DE := fun d env => some (env.set i (some (.dat d)))
def gdNil : List D → DE → Option DE
  | [], env => some env
  | _ :: _, _ => none
def gdCons (g : D → DE → Option DE) (gs : List D → DE → Option DE) : List D → DE → Option DE
  | [], _ => none
  | d :: ds, env => (g d env).bind fun e => gs ds e
def gdTup (n : Nat) (gs : List D → DE → Option DE) : D → DE → Option DE
  | .tup ds, env => if ds.length = n then gs ds env else none
  | _, _ => none
section
variable {K : PySem.W.Frag} {S : Type} {B : Amb S} {F H : Hp} {σ : L2.St} {env : DE}
theorem set_get {α : Type} {l : List α} {i j : Nat} {x y : α} (h : (l.set i x)[j]? = some y) : (j = i ∧ x = y ∧ i < l.length) ∨ (j ≠ i ∧ l[j]? = some y) := by
  by_cases e : i = j
  · subst e
    by_cases hl : i < l.length
    · rw [List.getElem?_set_self hl] at h
      exact .inl ⟨rfl, Option.some.inj h, hl⟩
    · rw [List.getElem?_eq_none (by simpa using hl)] at h
      cases h
  · rw [List.getElem?_set_ne e] at h
    exact .inr ⟨fun z => e z.symm, h⟩
/-- a name is given data -/
theorem EnvOk.put (E : EnvOk K B F H σ env) {i : Nat} {d : D} {v : V} (h : Dv K B F d v) : EnvOk K B F H (σ.set i (some v)) (env.set i (some (.dat d))) ∧ ∀ p, Own (σ.set i (some v)) (env.set i (some (.dat d))) p → Own σ env p := by
  have other : ∀ {j : Nat} {xs : List D}, (env.set i (some (.dat d)))[j]? = some (some (.own xs)) → j ≠ i ∧ env[j]? = some (some (.own xs)) := fun {j xs} q => by
    rcases set_get q with ⟨_, z, _⟩ | z
    · cases z
    · exact z
  have back : ∀ {j : Nat} {x : Option V}, j ≠ i → (σ.set i (some v))[j]? = some x → σ[j]? = some x := fun {j x} hj q => by
    rcases set_get q with ⟨z, _⟩ | z
    · exact absurd z hj
    · exact z.2
  refine ⟨⟨by rw [List.length_set, List.length_set]; exact E.len, fun j e q => ?_, fun j xs q => ?_, fun j k xs ys a q1 q2 r1 r2 => ?_⟩, fun p ⟨j, xs, q, r⟩ => ?_⟩
  · rcases set_get q with ⟨z, z2, z3⟩ | ⟨z, z2⟩
    · subst z
      cases z2
      exact ⟨v, List.getElem?_set_self (by rw [E.len]; exact z3), h⟩
    · obtain ⟨u, h1, h2⟩ := E.dat j e z2
      exact ⟨u, by rw [List.getElem?_set_ne (Ne.symm z)]; exact h1, h2⟩
  · obtain ⟨hj, q'⟩ := other q
    obtain ⟨a, vs, h1, h2⟩ := E.own j xs q'
    exact ⟨a, vs, by rw [List.getElem?_set_ne (Ne.symm hj)]; exact h1, h2⟩
  · obtain ⟨hj, q1'⟩ := other q1
    obtain ⟨hk, q2'⟩ := other q2
    exact E.inj j k xs ys a q1' q2' (back hj r1) (back hk r2)
  · obtain ⟨hj, q'⟩ := other q
    exact ⟨j, xs, q', back hj r⟩
/-- names forgotten -/
theorem EnvOk.wipe (E : EnvOk K B F H σ env) : ∀ vs : List Nat, EnvOk K B F H (wipe σ vs) (wipeE env vs)
  | [] => E
  | v :: vs => by
    have E1 := EnvOk.wipe E vs
    show EnvOk K B F H ((L2.wipe σ vs).set v none) ((wipeE env vs).set v none)
    have back : ∀ {j : Nat} {x : V}, ((L2.wipe σ vs).set v none)[j]? = some (some x) → j ≠ v ∧ (L2.wipe σ vs)[j]? = some (some x) := fun {j x} q => by
      rcases set_get q with ⟨_, z, _⟩ | z
      · cases z
      · exact z
    have bak2 : ∀ {j : Nat} {x : Slot}, ((wipeE env vs).set v none)[j]? = some (some x) → j ≠ v ∧ (wipeE env vs)[j]? = some (some x) := fun {j x} q => by
      rcases set_get q with ⟨_, z, _⟩ | z
      · cases z
      · exact z
    refine ⟨by rw [List.length_set, List.length_set]; exact E1.len, fun j e q => ?_, fun j xs q => ?_, fun j k xs ys a q1 q2 r1 r2 => E1.inj j k xs ys a (bak2 q1).2 (bak2 q2).2 (back r1).2 (back r2).2⟩
    · obtain ⟨hj, q'⟩ := bak2 q
      obtain ⟨u, h1, h2⟩ := E1.dat j e q'
      exact ⟨u, by rw [List.getElem?_set_ne (Ne.symm hj)]; exact h1, h2⟩
    · obtain ⟨hj, q'⟩ := bak2 q
      obtain ⟨a, us, h1, h2⟩ := E1.own j xs q'
      exact ⟨a, us, by rw [List.getElem?_set_ne (Ne.symm hj)]; exact h1, h2⟩
theorem g_name (i : Nat) : GD K B [i] (gName i) (gdName i) := fun d v F H s σ env env' Q E o h hg hq => by
  cases hg
  obtain ⟨E1, ho⟩ := E.put (i := i) h
  exact hq _ E1 ho fun vs hv => wipe_set (hv i List.mem_cons_self)
theorem g_nil : GDs K B [] gNil gdNil := fun ds vs F H s σ env env' Q E o h hg hq => by
  cases ds with
  | nil =>
    cases hg
    exact ⟨h, hq σ E (fun p z => z) fun _ _ => rfl⟩
  | cons d ds => cases hg
theorem g_cons {is js : List Nat} {g : TG} {gs : TGs} {gd : D → DE → Option DE} {gds : List D → DE → Option DE} (h1 : GD K B is g gd) (h2 : GDs K B js gs gds) : GDs K B (is ++ js) (gCons g gs) (gdCons gd gds) := fun ds vs F H s σ env env' Q E o h hg hq => by
  cases ds with
  | nil => cases hg
  | cons d ds =>
    obtain ⟨v, r, e, hd, hr⟩ := h
    cases q : gd d env with
    | none => simp [gdCons, q] at hg
    | some e1 =>
      simp only [gdCons, q, Option.bind_some] at hg
      refine ⟨v, r, e, h1 d v F H s σ env e1 _ E o hd q fun σ1 E1 o1 w1 => ?_⟩
      refine h2 ds r F H s σ1 e1 env' _ E1 o hr hg fun σ2 E2 o2 w2 => hq σ2 E2 (fun p z => o1 p (o2 p z)) fun ws hw => ?_
      rw [w2 ws fun i hi => hw i (List.mem_append_right _ hi), w1 ws fun i hi => hw i (List.mem_append_left _ hi)]
theorem g_tup {is : List Nat} {n : Nat} {gs : TGs} {gds : List D → DE → Option DE} (h : GDs K B is gs gds) : GD K B is (gTup K n gs) (gdTup n gds) := fun d v F H s σ env env' Q E o hd hg hq => by
  cases d with
  | tup ds =>
    obtain ⟨a, vs, ea, h2, h3⟩ := hd
    have hg' : (if ds.length = n then gds ds env else none) = some env' := hg
    by_cases c : ds.length = n
    · rw [if_pos c] at hg'
      exact ⟨a, vs, ea, sqT_ext o.sub h2, by rw [h3.len]; exact c, h ds vs F H s σ env env' Q E o h3 hg' hq⟩
    · rw [if_neg c] at hg'
      cases hg'
  | _ => cases hg
end

/-! ### what is walked -/
structure JD (K : PySem.W.Frag) {S : Type} (B : Amb S) (J : It) (xs : List D) (F1 : Hp) : Prop where
  go : ∀ (i : Nat) (F H : Hp) (s : S), Same F1 F → Ok B F H s → i < xs.length → J.go i H
  yld : ∀ (i : Nat) (F H : Hp) (s : S) (x : V) (H' : Hp) (d : D), Same F1 F → Ok B F H s → J.yld i H x H' → xs[i]? = some d → ∃ F', Ev B F H F' H' s ∧ Dv K B F' d x
  stop : ∀ (i : Nat) (F H : Hp) (s : S), Same F1 F → Ok B F H s → xs.length ≤ i → J.stop i H
def tI (K : PySem.W.Frag) {S : Type} (B : Amb S) (m : ML S) : TI := fun σ H R => ∃ env F s xs s', EnvOk K B F H σ env ∧ Ok B F H s ∧ m env s = some (xs, s') ∧ ∀ J F1 H1, Ev B F H F1 H1 s' → JD K B J xs F1 → xs.length ≤ sizeLine → R J H1
section
variable {X : Cx} {S : Type} {B : Amb S} {tg a b : Expr} {es : List Expr} {pos p : Pos} {ma : ME S} {ml : ML S}
theorem pi_w {it : Expr} {wi wi' : TI} (h : PI X tg it wi) (hi : ∀ σ H R, wi' σ H R → wi σ H R) : PI X tg it wi' := ⟨fun pins s σ H R I hw => h.run pins s σ H R I (hi σ H R hw)⟩
theorem pi_bd {it : Expr} {wi : TI} (h : PI X tg it wi) : PI X tg it (fun σ H R => wi σ H fun J H1 => (∀ a vs, SqT X.K H1 a vs → vs.length ≤ sizeLine) → (∀ a vs, SqL X.K H1 a vs → vs.length ≤ sizeLine) → R J H1) :=
  ⟨fun pins s σ H R I h' => thn (h.run pins s σ H _ I h') fun v s1 h1 => thn h1 fun itv s2 ⟨it, fp, tn, J, H', e, I2, T, t0, f, r⟩ => ⟨it, fp, tn, J, H', e, I2, T, t0, f, r (fun a vs q => by
    obtain ⟨_, _, _, z⟩ := I2.tuple q
    exact z) (fun a vs q => by
    obtain ⟨_, _, _, z⟩ := I2.list q
    exact z)⟩⟩
def tupItems : D → Option (List D)
  | .tup ds => some ds
  | _ => none
def lstItems : D → Option (List D)
  | .lst ds => some ds
  | _ => none
def mIt (f : D → Option (List D)) (a : ME S) : ML S := fun env s => (a env s).bind fun p => (f p.1).map fun xs => (xs, p.2)
theorem it_un {f : D → Option (List D)} {env : DE} {s s' : S} {xs : List D} (h : mIt f ma env s = some (xs, s')) : ∃ x, ma env s = some (x, s') ∧ f x = some xs := by
  unfold mIt at h
  cases e1 : ma env s with
  | none => simp [e1] at h
  | some p =>
    cases e3 : f p.1 with
    | none => simp [e1, e3] at h
    | some z =>
      simp [e1, e3] at h
      obtain ⟨h1, h2⟩ := h
      subst h1 h2
      exact ⟨p.1, rfl, e3⟩
theorem i_tup (ha : PE X a (tD X.K B ma)) : PI X tg a (tI X.K B (mIt tupItems ma)) := pi_w (pi_bd (pi_tup ha)) fun σ H R ⟨env, F, s, xs, s', E, o, hm, hq⟩ => by
  obtain ⟨x, e1, e2⟩ := it_un hm
  cases x with
  | tup ds =>
    cases e2
    refine ⟨env, F, s, .tup xs, s', E, o, e1, fun v F1 H1 v1 hx => ?_⟩
    obtain ⟨a, vs, ea, h2, h3⟩ := hx
    refine ⟨a, ea, ⟨vs, sqT_ext v1.ok.sub h2⟩, fun b1 b2 => hq _ F1 H1 v1 ⟨fun i F2 H2 s2 h4 o2 hi => ?_, fun i F2 H2 s2 y H3 d h4 o2 hy hd => ?_, fun i F2 H2 s2 h4 o2 hi => ?_⟩ (by rw [← h3.len]; exact b1 a vs (sqT_ext v1.ok.sub h2))⟩
    · have hi' : i < vs.length := by rw [h3.len]; exact hi
      exact ⟨vs, vs[i], sqT_ext (h4.trans o2.sub) h2, by simp [hi']⟩
    · obtain ⟨e, q⟩ := hy
      subst e
      have q' := q vs (sqT_ext (h4.trans o2.sub) h2)
      obtain ⟨d', hd', hv⟩ := h3.getV q'
      rw [hd] at hd'
      cases hd'
      exact ⟨F2, o2.refl, hv.ext h4⟩
    · exact ⟨vs, sqT_ext (h4.trans o2.sub) h2, by rw [h3.len]; exact hi⟩
  | _ => cases e2
theorem i_lst (ha : PE X a (tD X.K B ma)) : PI X tg a (tI X.K B (mIt lstItems ma)) := pi_w (pi_bd (pi_list ha)) fun σ H R ⟨env, F, s, xs, s', E, o, hm, hq⟩ => by
  obtain ⟨x, e1, e2⟩ := it_un hm
  cases x with
  | lst ds =>
    cases e2
    refine ⟨env, F, s, .lst xs, s', E, o, e1, fun v F1 H1 v1 hx => ?_⟩
    obtain ⟨a, vs, ea, h2, h3⟩ := hx
    refine ⟨a, ea, ⟨vs, SqL.of (v1.ok.sub a _ h2)⟩, fun b1 b2 => hq _ F1 H1 v1 ⟨fun i F2 H2 s2 h4 o2 hi => ?_, fun i F2 H2 s2 y H3 d h4 o2 hy hd => ?_, fun i F2 H2 s2 h4 o2 hi => ?_⟩ (by rw [← h3.len]; exact b2 a vs (SqL.of (v1.ok.sub a _ h2)))⟩
    · have hi' : i < vs.length := by rw [h3.len]; exact hi
      exact ⟨vs, vs[i], SqL.of (o2.sub a _ (h4 a _ h2)), by simp [hi']⟩
    · obtain ⟨e, q⟩ := hy
      subst e
      have q' := q vs (SqL.of (o2.sub a _ (h4 a _ h2)))
      obtain ⟨d', hd', hv⟩ := h3.getV q'
      rw [hd] at hd'
      cases hd'
      exact ⟨F2, o2.refl, hv.ext h4⟩
    · exact ⟨vs, SqL.of (o2.sub a _ (h4 a _ h2)), by rw [h3.len]; exact hi⟩
  | _ => cases e2
/-- range(n), range(a, b) -/
def rngOf (lo : Int) (n : Nat) : List D := (List.range n).map fun (i : Nat) => .int (lo + i)
theorem jd_rng {K : PySem.W.Frag} {lo : Int} {n : Nat} {F1 : Hp} : JD K B (Itr lo n) (rngOf lo n) F1 := by
  refine ⟨fun i F H s _ _ hi => ?_, fun i F H s x H' d _ o hy hd => ?_, fun i F H s _ _ hi => ?_⟩
  · show i < n
    simpa [rngOf] using hi
  · obtain ⟨e1, e2⟩ := hy
    subst e1 e2
    have e : (.int (lo + i) : D) = d := by
      unfold rngOf at hd
      rw [List.getElem?_map] at hd
      cases q : (List.range n)[i]? with
      | none => simp [q] at hd
      | some j =>
        rw [q] at hd
        have hj : i = j := by
          have z := (List.getElem?_eq_some_iff.mp q).2
          rw [List.getElem_range] at z
          exact z
        subst hj
        exact Option.some.inj hd
    subst e
    exact ⟨F, o.refl, rfl⟩
  · show n ≤ i
    simpa [rngOf] using hi
def rng1D : List D → Option (List D)
  | [.int n] => if -(2 ^ 62) ≤ n ∧ n < 2 ^ 62 ∧ n.toNat ≤ sizeLine then some (rngOf 0 n.toNat) else none
  | _ => none
def rng2D : List D → Option (List D)
  | [.int a, .int b] => if -(2 ^ 62) ≤ a ∧ a < 2 ^ 62 ∧ -(2 ^ 62) ≤ b ∧ b < 2 ^ 62 ∧ (b - a).toNat ≤ sizeLine then some (rngOf a (b - a).toNat) else none
  | _ => none
def mRng (f : List D → Option (List D)) (l : ML S) : ML S := fun env s => (l env s).bind fun p => (f p.1).map fun xs => (xs, p.2)
theorem rng_un {f : List D → Option (List D)} {env : DE} {s s' : S} {xs : List D} (h : mRng f ml env s = some (xs, s')) : ∃ x, ml env s = some (x, s') ∧ f x = some xs := by
  unfold mRng at h
  cases e1 : ml env s with
  | none => simp [e1] at h
  | some p =>
    cases e3 : f p.1 with
    | none => simp [e1, e3] at h
    | some z =>
      simp [e1, e3] at h
      obtain ⟨h1, h2⟩ := h
      subst h1 h2
      exact ⟨p.1, rfl, e3⟩
theorem rng_len {lo : Int} {n : Nat} : (rngOf lo n).length = n := by simp [rngOf]
theorem i_rng1 (hm : X.mg "range" = none) (ha : PA X [a] (tL X.K B ml)) (hg : Gl X "range" := by rfl) (hs : starEach [a] X.env = [(false, eval a X.env)] := by rfl) : PI X tg (.Call (.Name "range" p) [a] [] pos) (tI X.K B (mRng rng1D ml)) :=
  pi_w (pi_range1 hg hm ha hs) fun σ H R ⟨env, F, s, xs, s', E, o, hm, hq⟩ => by
    obtain ⟨x, e1, e2⟩ := rng_un hm
    unfold rng1D at e2
    split at e2
    · rename_i n
      split at e2
      · rename_i c
        cases e2
        refine ⟨env, F, s, _, s', E, o, e1, fun vs F1 H1 v1 hv => ?_⟩
        obtain ⟨v, ev, hx⟩ := one_of hv
        have ei : v = V.int n := hx
        subst ev ei
        exact ⟨n, rfl, c.1, c.2.1, hq _ F1 H1 v1 jd_rng (by rw [rng_len]; exact c.2.2)⟩
      · cases e2
    · cases e2
theorem i_rng2 (hm : X.mg "range" = none) (ha : PA X [a, b] (tL X.K B ml)) (hg : Gl X "range" := by rfl) (hs : starEach [a, b] X.env = [(false, eval a X.env), (false, eval b X.env)] := by rfl) (hs2 : starEach [b] X.env = [(false, eval b X.env)] := by rfl) :
    PI X tg (.Call (.Name "range" p) [a, b] [] pos) (tI X.K B (mRng rng2D ml)) :=
  pi_w (pi_range2 hg hm ha hs hs2) fun σ H R ⟨env, F, s, xs, s', E, o, hm, hq⟩ => by
    obtain ⟨x, e1, e2⟩ := rng_un hm
    unfold rng2D at e2
    split at e2
    · rename_i i j
      split at e2
      · rename_i c
        cases e2
        refine ⟨env, F, s, _, s', E, o, e1, fun vs F1 H1 v1 hv => ?_⟩
        obtain ⟨v, u, ev, hx, hy⟩ := two_of hv
        have ei : v = V.int i := hx
        have ej : u = V.int j := hy
        subst ev ei ej
        exact ⟨i, j, rfl, ⟨c.1, c.2.1, c.2.2.1, c.2.2.2.1⟩, hq _ F1 H1 v1 jd_rng (by rw [rng_len]; exact c.2.2.2.2)⟩
      · cases e2
    · cases e2
end

/-! ### comprehensions -/
def compL {S : Type} (g : D → DE → Option DE) (c : MT S) (e : ME S) (env : DE) : List D → S → Option (List D × S)
  | [], s => some ([], s)
  | x :: xs, s => (g x env).bind fun env1 => (c env1 s).bind fun p => if p.1 = true then (e env1 p.2).bind fun q => (compL g c e env xs q.2).map fun r => (q.1 :: r.1, r.2) else compL g c e env xs p.2
def mComp {S : Type} (src : ML S) (g : D → DE → Option DE) (c : MT S) (e : ME S) (vs : List Nat) : ME S := fun env s => (src env s).bind fun p => (compL g c e (wipeE env vs) p.1 p.2).map fun r => (.lst r.1, r.2)
def mYes {S : Type} : MT S := fun _ s => some (true, s)
section
variable {X : Cx} {S : Type} {B : Amb S}
theorem pts_w {ifs : List Expr} {t t' : TT} (h : PTs X ifs t) (hi : ∀ σ H Q, t' σ H Q → t σ H Q) : PTs X ifs t' := ⟨fun pins s σ H Q I hw => h.run pins s σ H Q I (hi σ H Q hw)⟩
theorem dts_nil : PTs X [] (tT X.K B mYes) := pts_w pts_nil fun σ H Q ⟨env, F, s, b, s', E, o, hm, hq⟩ => by
  cases hm
  exact hq F H o.refl
theorem dts_one {c : Expr} {t : MT S} (h : PT X c (tT X.K B t)) : PTs X [c] (tT X.K B t) := pts_one h
theorem comp_D {K : PySem.W.Frag} {src : ML S} {g : TG} {gd : D → DE → Option DE} {is vs : List Nat} {c : MT S} {e : ME S} (hg : GD K B is g gd) (his : ∀ i ∈ is, i ∈ vs) {σ : L2.St} {H : Hp} {Q : VK} (h : tD K B (mComp src gd c e vs) σ H Q) :
    tLc (tI K B src) g (tT K B c) (tD K B e) vs σ H Q := by
  obtain ⟨env, F, s, d, s', E, o, hm, hq⟩ := h
  unfold mComp at hm
  cases e1 : src env s with
  | none => simp [e1] at hm
  | some p =>
    obtain ⟨xs, s1⟩ := p
    simp only [e1, Option.bind_some] at hm
    cases e2 : compL gd c e (wipeE env vs) xs s1 with
    | none => simp [e2] at hm
    | some r =>
      obtain ⟨rs, s2⟩ := r
      simp only [e2, Option.map_some, Option.some.injEq, Prod.mk.injEq] at hm
      obtain ⟨rfl, rfl⟩ := hm
      refine ⟨env, F, s, xs, s1, E, o, e1, fun J F1 H1 v1 jd hz L hL => ?_⟩
      have nL : ¬ B.own L := ne_own v1.ok hL
      refine ⟨fun i m H2 => m = xs.length - i ∧ i ≤ xs.length ∧ ∃ F2 t2 acc accv ys, Ev B F1 H1 F2 H2 t2 ∧ F2 L = none ∧ H2 L = some (.lst accv) ∧ DvL K B F2 acc accv ∧ acc.length ≤ i ∧ compL gd c e (wipeE env vs) (xs.drop i) t2 = some (ys, s2) ∧ acc ++ ys = rs,
        ⟨xs.length, by simp, Nat.zero_le _, F1, s1, [], [], rs, ?_, ?_, upd_same, rfl, Nat.le_refl _, e2, rfl⟩, ?_⟩
      · exact Ev.newO v1.ok _ hL
      · cases q : F1 L with
        | none => rfl
        | some u => rw [v1.ok.sub L u q] at hL; cases hL
      · rintro i m H2 ⟨rfl, hi, F2, t2, acc, accv, ys, v2, hF, hH, hv, hl, hc, he⟩
        have E2 : EnvOk K B F2 H2 (L2.wipe σ vs) (wipeE env vs) := (E.step o (v1.trans v2)).wipe vs
        by_cases hlt : i < xs.length
        · refine .inr ⟨jd.go i F2 H2 t2 (v2.sameF v1.ok) v2.ok hlt, fun H' => i + 1 ≤ xs.length ∧ ∃ F2 t2 acc accv ys, Ev B F1 H1 F2 H' t2 ∧ F2 L = none ∧ H' L = some (.lst accv) ∧ DvL K B F2 acc accv ∧ acc.length ≤ i + 1 ∧ compL gd c e (wipeE env vs) (xs.drop (i + 1)) t2 = some (ys, s2) ∧ acc ++ ys = rs,
            fun H' p' => ⟨xs.length - (i + 1), by omega, rfl, p'⟩, fun x H3 hy => ?_⟩
          obtain ⟨F3, v3, hx⟩ := jd.yld i F2 H2 t2 x H3 xs[i] (v2.sameF v1.ok) v2.ok hy (by simp [hlt])
          rw [List.drop_eq_getElem_cons hlt] at hc
          unfold compL at hc
          cases q1 : gd xs[i] (wipeE env vs) with
          | none => simp [q1] at hc
          | some env1 =>
            simp only [q1, Option.bind_some] at hc
            cases q2 : c env1 t2 with
            | none => simp [q2] at hc
            | some w =>
              obtain ⟨k, t3⟩ := w
              simp only [q2, Option.bind_some] at hc
              have hF3 : F3 L = none := (v3.fs L (by rw [hH]; exact fun z => nomatch z)).trans hF
              refine hg xs[i] x F3 H3 t2 (L2.wipe σ vs) (wipeE env vs) env1 _ (E2.step v2.ok v3) v3.ok hx q1 fun σ2 E3 _ w3 => ⟨?_, ?_⟩
              · rw [w3 vs his]
                have ww : ∀ (ws us : List Nat), (∀ i ∈ us, i ∈ ws) → L2.wipe (L2.wipe σ ws) us = L2.wipe σ ws := by
                  intro ws us
                  induction us with
                  | nil => intro _; rfl
                  | cons u us ih =>
                    intro hu
                    show (L2.wipe (L2.wipe σ ws) us).set u none = L2.wipe σ ws
                    rw [ih fun i hi => hu i (List.mem_cons_of_mem _ hi)]
                    have hm : u ∈ ws := hu u List.mem_cons_self
                    apply List.ext_getElem?
                    intro j
                    by_cases hj : u = j
                    · subst hj
                      by_cases hl2 : u < (L2.wipe σ ws).length
                      · rw [List.getElem?_set_self hl2]
                        cases qq : (L2.wipe σ ws)[u]? with
                        | none => exact absurd (List.getElem?_eq_none_iff.mp qq) (by omega)
                        | some y =>
                          cases y with
                          | none => rfl
                          | some y => exact absurd hm (wipe_some qq).2
                      · rw [List.getElem?_eq_none (by simpa using hl2), List.getElem?_eq_none (by simpa using hl2)]
                    · rw [List.getElem?_set_ne hj]
                exact ww vs vs fun i hi => hi
              · refine ⟨env1, F3, t2, k, t3, E3, v3.ok, q2, fun F4 H4 v4 => ?_⟩
                have hF4 : F4 L = none := (v4.fs L (v3.dom (by rw [hH]; exact fun z => nomatch z))).trans hF3
                have hH3 : H3 L = some (.lst accv) := v3.hs L _ hH nL
                have hH4 : H4 L = some (.lst accv) := v4.hs L _ hH3 nL
                have v14 := (v2.trans v3).trans v4
                have hv4 := hv.ext ((v3.sameF v2.ok).trans (v4.sameF v3.ok))
                cases k with
                | false =>
                  dsimp only at hc ⊢
                  rw [if_neg Bool.false_ne_true] at hc ⊢
                  exact ⟨hlt, F4, t3, acc, accv, ys, v14, hF4, hH4, hv4, Nat.le_succ_of_le hl, hc, he⟩
                | true =>
                  dsimp only at hc ⊢
                  rw [if_pos rfl] at hc ⊢
                  cases q3 : e env1 t3 with
                  | none => simp [q3] at hc
                  | some w =>
                    obtain ⟨y, t4⟩ := w
                    simp only [q3, Option.bind_some] at hc
                    cases q4 : compL gd c e (wipeE env vs) (xs.drop (i + 1)) t4 with
                    | none => simp [q4] at hc
                    | some w =>
                      obtain ⟨zs, t5⟩ := w
                      simp only [q4, Option.map_some, Option.some.injEq, Prod.mk.injEq] at hc
                      obtain ⟨rfl, rfl⟩ := hc
                      refine ⟨env1, F4, t3, y, t4, E3.step v3.ok v4, v4.ok, q3, fun v F5 H5 v5 hyv => ?_⟩
                      have hF5 : F5 L = none := (v5.fs L (by rw [hH4]; exact fun z => nomatch z)).trans hF4
                      have hH5 : H5 L = some (.lst accv) := v5.hs L _ hH4 nL
                      have v15 := v14.trans v5
                      refine ⟨accv, hH5, by rw [hv.len]; omega, hlt, F5, t4, acc ++ [y], accv ++ [v], zs, ⟨v15.fs, fun p u hp hn => ?_, v15.ok.mut hF5 nL⟩, hF5, upd_same, (hv4.ext (v5.sameF v4.ok)).app (DvL.one hyv), by rw [List.length_append]; simp; exact hl, q4, by rw [← he]; simp⟩
                      have z : p ≠ L := ne_of_none hp hL
                      rw [upd_ne z]
                      exact v15.hs p u hp hn
        · have hi2 : xs.length ≤ i := Nat.le_of_not_lt hlt
          refine .inl ⟨jd.stop i F2 H2 t2 (v2.sameF v1.ok) v2.ok hi2, ?_⟩
          rw [List.drop_of_length_le hi2] at hc
          cases hc
          rw [List.append_nil] at he
          subst he
          have vv := v1.trans v2
          refine hq _ (upd F2 L (.lst accv)) H2 ⟨fun p hp => ?_, vv.hs, v2.ok.frz hH nL⟩ ⟨L, accv, rfl, upd_same, hv.ext fun p u hp => ?_⟩
          · have z : p ≠ L := fun e => hp (by rw [e]; exact v1.free hL)
            rw [upd_ne z]
            exact vv.fs p hp
          · have z : p ≠ L := ne_of_none hp hF
            rw [upd_ne z]
            exact hp
theorem d_lc {elt tg iter : Expr} {ifs : List Expr} {scope : Scope} {own : List (Str × Nat)} {pos : Pos} {src : ML S} {g : TG} {gd : D → DE → Option DE} {is : List Nat} {c : MT S} {e : ME S} (hc : X.calm = true) (hN : X.N.Nodup) (hi : PI X tg iter (tI X.K B src)) (ok : BlkOk X.N X.env.scope scope own)
    (hg : ∀ (s : Shared) (H : Hp) (C : Addr) (cl : List (Str × Addr)) (fp : List Addr), PG (X.blk s H scope (compEnvC scope cl C X.env) fp) tg g) (hgd : GD X.K B is g gd)
    (ht : ∀ (s : Shared) (H : Hp) (C : Addr) (cl : List (Str × Addr)) (fp : List Addr), PTs (X.blk s H scope (compEnvC scope cl C X.env) fp) ifs (tT X.K B c))
    (he : ∀ (s : Shared) (H : Hp) (C : Addr) (cl : List (Str × Addr)) (fp : List Addr), PE (X.blk s H scope (compEnvC scope cl C X.env) fp) elt (tD X.K B e))
    (his : ∀ i ∈ is, i ∈ own.map (·.2) := by decide) (hs : ∀ x, foldedSetIterable iter X.env x = pure x := by intro _; rfl) :
    PE X (.ListComp elt [⟨tg, iter, ifs, 0⟩] scope pos) (tD X.K B (mComp src gd c e (own.map (·.2)))) := pe_w (pe_lc hc hN hi ok hg ht he hs) fun _ _ _ h => comp_D hgd his h
end
end Dl

set_option Elab.async false
set_option linter.all false
set_option maxRecDepth 100000
set_option maxHeartbeats 4000000
/-! D6: statements, defs. -/
namespace Dl
open PySem
open L2

inductive OutS (S : Type) where
  | nx (env : DE) (s : S) | rt (d : D) (s : S) | bk (env : DE) (s : S) | ct (env : DE) (s : S)
abbrev MS (S : Type) := DE → S → Option (OutS S)
structure Sv {S : Type} (B : Amb S) (F H : Hp) (own : Addr → Prop) (F' H' : Hp) (own' : Addr → Prop) (s' : S) : Prop where
  fs : ∀ p, H p ≠ none → ¬ own p → F' p = F p
  hs : ∀ p o, H p = some o → ¬ B.own p → ¬ own p → H' p = some o
  os : ∀ p, own' p → own p ∨ H p = none
  th : ∀ p, own p → H' p ≠ none
  ok : Ok B F' H' s'
section
variable {K : PySem.W.Frag} {S : Type} {B : Amb S} {F H F1 H1 F2 H2 : Hp} {o o1 o2 : Addr → Prop} {s s1 s2 : S} {σ : L2.St} {env : DE}
theorem Own.at (E : EnvOk K B F H σ env) {p : Addr} (h : Own σ env p) : F p = none ∧ ¬ B.own p ∧ ∃ (i : Nat) (xs : List D) (vs : List V), env[i]? = some (some (.own xs)) ∧ σ[i]? = some (some (.ref p)) ∧ H p = some (.lst vs) ∧ DvL K B F xs vs := by
  obtain ⟨i, xs, h1, h2⟩ := h
  obtain ⟨a, vs, e1, e2, e3, e4, e5⟩ := E.own i xs h1
  rw [h2] at e1
  cases e1
  exact ⟨e2, e3, i, xs, vs, h1, h2, e4, e5⟩
theorem Sv.dom (e : Sv B F H o F1 H1 o1 s1) {p : Addr} (h : H p ≠ none) : H1 p ≠ none := by
  by_cases hp : B.own p
  · exact B.there s1 H1 p e.ok.am hp
  · by_cases ho : o p
    · exact e.th p ho
    · cases q : H p with
      | none => exact absurd q h
      | some u =>
        rw [e.hs p u q hp ho]
        exact fun z => nomatch z
theorem Sv.trans (a : Sv B F H o F1 H1 o1 s1) (b : Sv B F1 H1 o1 F2 H2 o2 s2) : Sv B F H o F2 H2 o2 s2 := by
  have no : ∀ p, H p ≠ none → ¬ o p → ¬ o1 p := fun p h n z => by
    rcases a.os p z with q | q
    · exact n q
    · exact h q
  refine ⟨fun p h n => (b.fs p (a.dom h) (no p h n)).trans (a.fs p h n), fun p u h hb n => ?_, fun p h => ?_, fun p h => ?_, b.ok⟩
  · exact b.hs p u (a.hs p u h hb n) hb (no p (by rw [h]; exact fun z => nomatch z) n)
  · rcases b.os p h with q | q
    · exact a.os p q
    · cases r : H p with
      | none => exact .inr rfl
      | some u => exact absurd q (a.dom (by rw [r]; exact fun z => nomatch z))
  · exact b.dom (a.th p h)
theorem Sv.of (E : EnvOk K B F H σ env) (e : Ev B F H F1 H1 s1) : Sv B F H (Own σ env) F1 H1 (Own σ env) s1 :=
  ⟨fun p h _ => e.fs p h, fun p u h hb _ => e.hs p u h hb, fun p h => .inl h, fun p h => by
    obtain ⟨_, _, i, xs, vs, _, _, e4, _⟩ := Own.at E h
    exact e.dom (by rw [e4]; exact fun z => nomatch z), e.ok⟩
theorem Sv.refl (E : EnvOk K B F H σ env) (k : Ok B F H s) : Sv B F H (Own σ env) F H (Own σ env) s := Sv.of E k.refl
theorem Sv.less (e : Sv B F H o F1 H1 o1 s1) (h : ∀ p, o2 p → o1 p) : Sv B F H o F1 H1 o2 s1 := ⟨e.fs, e.hs, fun p q => e.os p (h p q), e.th, e.ok⟩
theorem Sv.sameF (E : EnvOk K B F H σ env) (k : Ok B F H s) (e : Sv B F H (Own σ env) F1 H1 o1 s1) : Same F F1 := fun p u h => by
  have hh := k.sub p u h
  have n : ¬ Own σ env p := fun z => by
    have q := (Own.at E z).1
    rw [h] at q
    cases q
  rw [e.fs p (by rw [hh]; exact fun z => nomatch z) n]
  exact h
/-- from a def's own start -/
theorem Sv.ev (e : Sv B F H o F1 H1 o1 s1) (h : ∀ p, ¬ o p) : Ev B F H F1 H1 s1 := ⟨fun p q => e.fs p q (h p), fun p u q hb => e.hs p u q hb (h p), e.ok⟩
end
def OutOk (K : PySem.W.Frag) {S : Type} (B : Amb S) (F H : Hp) (own : Addr → Prop) (Dn : Ends) : OutS S → Prop
  | .nx env' s' => ∀ σ' F' H', EnvOk K B F' H' σ' env' → Sv B F H own F' H' (Own σ' env') s' → Dn.nx σ' H'
  | .rt d s' => ∀ v F' H' own', Sv B F H own F' H' own' s' → Dv K B F' d v → Dn.rt v H'
  | .bk env' s' => ∀ σ' F' H', EnvOk K B F' H' σ' env' → Sv B F H own F' H' (Own σ' env') s' → Dn.bk σ' H'
  | .ct env' s' => ∀ σ' F' H', EnvOk K B F' H' σ' env' → Sv B F H own F' H' (Own σ' env') s' → Dn.ct σ' H'
theorem OutOk.back {K : PySem.W.Frag} {S : Type} {B : Amb S} {F H F1 H1 : Hp} {o o1 : Addr → Prop} {s1 : S} {Dn : Ends} (e : Sv B F H o F1 H1 o1 s1) : ∀ {out : OutS S}, OutOk K B F H o Dn out → OutOk K B F1 H1 o1 Dn out
  | .nx _ _, h => fun σ' F' H' E v => h σ' F' H' E (e.trans v)
  | .rt _ _, h => fun v F' H' own' w d => h v F' H' own' (e.trans w) d
  | .bk _ _, h => fun σ' F' H' E v => h σ' F' H' E (e.trans v)
  | .ct _ _, h => fun σ' F' H' E v => h σ' F' H' E (e.trans v)
def tS (K : PySem.W.Frag) {S : Type} (B : Amb S) (m : MS S) : TS := fun Dn σ H => ∃ env F s out, EnvOk K B F H σ env ∧ Ok B F H s ∧ m env s = some out ∧ OutOk K B F H (Own σ env) Dn out

section
variable {S : Type} {B : Amb S}
def sNil : MS S := fun env s => some (.nx env s)
def thenS (o : OutS S) (b : MS S) : Option (OutS S) := match o with
  | .nx env s => b env s
  | o => some o
def sSeq (a b : MS S) : MS S := fun env s => (a env s).bind fun o => thenS o b
def sAsg (gd : D → DE → Option DE) (e : ME S) : MS S := fun env s => (e env s).bind fun p => (gd p.1 env).map fun env' => .nx env' p.2
def sIf (t : MT S) (a b : MS S) : MS S := fun env s => (t env s).bind fun p => if p.1 = true then a env p.2 else b env p.2
def sRet (e : ME S) : MS S := fun env s => (e env s).map fun p => .rt p.1 p.2
def sRetN : MS S := fun _ s => some (.rt .non s)
def sDrop (e : ME S) : MS S := fun env s => (e env s).map fun p => .nx env p.2
def sBrk : MS S := fun env s => some (.bk env s)
def sCnt : MS S := fun env s => some (.ct env s)
def loopS (gd : D → DE → Option DE) (body : MS S) : List D → DE → S → Option (OutS S)
  | [], env, s => some (.nx env s)
  | x :: xs, env, s => (gd x env).bind fun env1 => (body env1 s).bind fun o => match o with
    | .nx e2 s2 => loopS gd body xs e2 s2
    | .ct e2 s2 => loopS gd body xs e2 s2
    | .bk e2 s2 => some (.nx e2 s2)
    | .rt d s2 => some (.rt d s2)
def sFor (src : ML S) (gd : D → DE → Option DE) (body : MS S) : MS S := fun env s => (src env s).bind fun p => loopS gd body p.1 env p.2
/-- a list of this frame's own, as it is made -/
def sOwn (i : Nat) (l : ML S) : MS S := fun env s => (l env s).bind fun p => if p.1.length ≤ sizeLine then some (.nx (env.set i (some (.own p.1))) p.2) else none
def ownAt (env : DE) (i : Nat) : Option (List D) := match env[i]? with
  | some (some (.own xs)) => some xs
  | _ => none
def intOf : D → Option Int
  | .int z => some z
  | _ => none
def sApp (i : Nat) (e : ME S) : MS S := fun env s => (e env s).bind fun p => (ownAt env i).bind fun xs => if xs.length < sizeLine then some (.nx (env.set i (some (.own (xs ++ [p.1])))) p.2) else none
def sExt (i : Nat) (e : ME S) : MS S := fun env s => (e env s).bind fun p => (ownAt env i).bind fun xs => (lstItems p.1).bind fun ys => if xs.length + ys.length ≤ sizeLine then some (.nx (env.set i (some (.own (xs ++ ys)))) p.2) else none
/-- xs[k] = v: v first, then k -/
def sPut (i : Nat) (k v : ME S) : MS S := fun env s => (v env s).bind fun p => (k env p.2).bind fun q => (ownAt env i).bind fun xs => (intOf q.1).bind fun z => (ixN xs.length z).map fun j => .nx (env.set i (some (.own (xs.set j p.1)))) q.2
/-- from here on it stays as it is -/
def sFrz (i : Nat) (m : MS S) : MS S := fun env s => (ownAt env i).bind fun xs => m (env.set i (some (.dat (.lst xs)))) s
def sPar (i j : Nat) (a b : ME S) : MS S := fun env s => (a env s).bind fun p => (b env p.2).map fun q => .nx ((env.set i (some (.dat p.1))).set j (some (.dat q.1))) q.2
/-! reading one's own list -/
def mIxO (i : Nat) (k : ME S) : ME S := fun env s => (ownAt env i).bind fun xs => (k env s).bind fun p => (intOf p.1).bind fun z => (atI xs z).map fun d => (d, p.2)
def mLenO (i : Nat) : ME S := fun env s => (ownAt env i).map fun xs => (.int xs.length, s)
def mTupO (i : Nat) : ME S := fun env s => (ownAt env i).map fun xs => (.tup xs, s)
theorem ownAt_eq {env : DE} {i : Nat} {xs : List D} (h : ownAt env i = some xs) : env[i]? = some (some (.own xs)) := by
  unfold ownAt at h
  split at h
  · rename_i q
    cases h
    exact q
  · cases h
theorem intOf_eq {d : D} {z : Int} (h : intOf d = some z) : d = .int z := by
  cases d <;> first | cases h | skip
  rfl
theorem lstItems_eq {d : D} {xs : List D} (h : lstItems d = some xs) : d = .lst xs := by
  cases d <;> first | cases h | skip
  rfl
end

section
variable {X : Cx} {S : Type} {B : Amb S} {a b c : Expr} {es : List Expr} {st : Stmt} {sts : List Stmt} {pos p : Pos} {ma mb mc : ME S} {ml : ML S} {m m' : MS S}
theorem ps_w {t t' : TS} (h : PS X st t) (hi : ∀ Dn σ H, t' Dn σ H → t Dn σ H) : PS X st t' := ⟨fun pins s σ H Dn I hw => h.run pins s σ H Dn I (hi Dn σ H hw)⟩
theorem pss_w {t t' : TS} (h : PSs X sts t) (hi : ∀ Dn σ H, t' Dn σ H → t Dn σ H) : PSs X sts t' := ⟨fun pins s σ H Dn I hw => h.run pins s σ H Dn I (hi Dn σ H hw)⟩
theorem s_nil : PSs X [] (tS X.K B sNil) := pss_w pss_nil fun Dn σ H ⟨env, F, s, out, E, o, hm, hq⟩ => by
  cases hm
  exact hq σ F H E (Sv.refl E o)
theorem seq_D {K : PySem.W.Frag} {Dn : Ends} {σ : L2.St} {H : Hp} (h : tS K B (sSeq m m') Dn σ H) : tSeq (tS K B m) (tS K B m') Dn σ H := by
  obtain ⟨env, F, s, out, E, o, hm, hq⟩ := h
  unfold sSeq at hm
  cases e1 : m env s with
  | none => simp [e1] at hm
  | some o1 =>
    simp only [e1, Option.bind_some] at hm
    refine ⟨env, F, s, o1, E, o, e1, ?_⟩
    cases o1 with
    | nx env' s' => exact fun σ' F' H' E' v => ⟨env', F', s', out, E', v.ok, hm, hq.back v⟩
    | rt d s' => cases hm; exact hq
    | bk env' s' => cases hm; exact hq
    | ct env' s' => cases hm; exact hq
theorem s_cons (h1 : PS X st (tS X.K B m)) (h2 : PSs X sts (tS X.K B m')) : PSs X (st :: sts) (tS X.K B (sSeq m m')) := pss_w (pss_cons h1 h2) fun _ _ _ h => seq_D h
theorem s_one (h1 : PS X st (tS X.K B m)) : PSs X [st] (tS X.K B m) := pss_one h1
theorem asg_D {K : PySem.W.Frag} {is : List Nat} {g : TG} {gd : D → DE → Option DE} (hg : GD K B is g gd) {Dn : Ends} {σ : L2.St} {H : Hp} (h : tS K B (sAsg gd ma) Dn σ H) : tAsg (tD K B ma) g Dn σ H := by
  obtain ⟨env, F, s, out, E, o, hm, hq⟩ := h
  unfold sAsg at hm
  cases e1 : ma env s with
  | none => simp [e1] at hm
  | some w =>
    obtain ⟨d, s1⟩ := w
    simp only [e1, Option.bind_some] at hm
    cases e2 : gd d env with
    | none => simp [e2] at hm
    | some env' =>
      simp only [e2, Option.map_some, Option.some.injEq] at hm
      subst hm
      refine ⟨env, F, s, d, s1, E, o, e1, fun v F1 H1 v1 hx => ?_⟩
      refine hg d v F1 H1 s1 σ env env' _ (E.step o v1) v1.ok hx e2 fun σ' E' ho _ => ?_
      exact hq σ' F1 H1 E' ((Sv.of E v1).less ho)
theorem s_set {i : Nat} {x : Str} {p' : Pos} (hN : X.N.Nodup) (he : PE X a (tD X.K B ma)) (hi : X.N[i]? = some x := by rfl) (hx : Loc X.env.scope x := by first | exact Or.inl rfl | exact Or.inr rfl) (hs : swapsWith a (some (.Name x p')) pos.line X.env = pure false := by rfl)
    (hf : X.fn x = true ∨ X.env.scope.names.lookup x = some .local := by first | exact .inl rfl | exact .inr rfl) : PS X (.Assign [.Name x p'] a pos) (tS X.K B (sAsg (gdName i) ma)) :=
  ps_w (ps_set (i := i) hN hi hx he hs hf) fun _ _ _ h => asg_D (g_name i) h
theorem s_asg {tg : Expr} {is : List Nat} {g : TG} {gd : D → DE → Option DE} (hg : GD X.K B is g gd) (he : PE X a (tD X.K B ma)) (ht : PG X tg g) (hs : swapsWithSole [tg] a pos.line X.env = pure false := by rfl) (hw : swappedStores [tg] a X.env = pure none := by rfl)
    (h1 : (assignEach [tg] X.env).map (·.2) = [assign tg X.env] := by rfl) : PS X (.Assign [tg] a pos) (tS X.K B (sAsg gd ma)) := ps_w (ps_asg he ht hs hw h1) fun _ _ _ h => asg_D hg h
theorem s_if {t : MT S} {stt sff : List Stmt} (hc : PT X c (tT X.K B t)) (ha : PSs X stt (tS X.K B m)) (hb : PSs X sff (tS X.K B m')) : PS X (.If c stt sff pos) (tS X.K B (sIf t m m')) := ps_w (ps_if hc ha hb) fun Dn σ H ⟨env, F, s, out, E, o, hm, hq⟩ => by
  unfold sIf at hm
  cases e1 : t env s with
  | none => simp [e1] at hm
  | some w =>
    obtain ⟨k, s1⟩ := w
    simp only [e1, Option.bind_some] at hm
    refine ⟨env, F, s, k, s1, E, o, e1, fun F1 H1 v1 => ?_⟩
    cases k with
    | true => exact ⟨env, F1, s1, out, E.step o v1, v1.ok, hm, hq.back (Sv.of E v1)⟩
    | false => exact ⟨env, F1, s1, out, E.step o v1, v1.ok, hm, hq.back (Sv.of E v1)⟩
theorem s_ret (he : PE X a (tD X.K B ma)) : PS X (.Return (some a) pos) (tS X.K B (sRet ma)) := ps_w (ps_ret he) fun Dn σ H ⟨env, F, s, out, E, o, hm, hq⟩ => by
  unfold sRet at hm
  cases e1 : ma env s with
  | none => simp [e1] at hm
  | some w =>
    obtain ⟨d, s1⟩ := w
    simp only [e1, Option.map_some, Option.some.injEq] at hm
    subst hm
    exact ⟨env, F, s, d, s1, E, o, e1, fun v F1 H1 v1 hx => hq v F1 H1 _ (Sv.of E v1) hx⟩
theorem s_retN : PS X (.Return none pos) (tS X.K B sRetN) := ps_w ps_retN fun Dn σ H ⟨env, F, s, out, E, o, hm, hq⟩ => by
  cases hm
  exact hq _ F H _ (Sv.refl E o) rfl
theorem s_drop (he : PE X a (tD X.K B ma)) (hs : swapsWith a none pos.line X.env = pure false := by rfl) : PS X (.Expr a pos) (tS X.K B (sDrop ma)) := ps_w (ps_expr he hs) fun Dn σ H ⟨env, F, s, out, E, o, hm, hq⟩ => by
  unfold sDrop at hm
  cases e1 : ma env s with
  | none => simp [e1] at hm
  | some w =>
    obtain ⟨d, s1⟩ := w
    simp only [e1, Option.map_some, Option.some.injEq] at hm
    subst hm
    exact ⟨env, F, s, d, s1, E, o, e1, fun v F1 H1 v1 hx => hq σ F1 H1 (E.step o v1) (Sv.of E v1)⟩
theorem s_brk : PS X (.Break pos) (tS X.K B sBrk) := ps_w ps_break fun Dn σ H ⟨env, F, s, out, E, o, hm, hq⟩ => by
  cases hm
  exact hq σ F H E (Sv.refl E o)
theorem s_cnt : PS X (.Continue pos) (tS X.K B sCnt) := ps_w ps_continue fun Dn σ H ⟨env, F, s, out, E, o, hm, hq⟩ => by
  cases hm
  exact hq σ F H E (Sv.refl E o)
theorem s_pass : PS X (.Pass pos) (tS X.K B sNil) := ps_w ps_pass fun Dn σ H ⟨env, F, s, out, E, o, hm, hq⟩ => by
  cases hm
  exact hq σ F H E (Sv.refl E o)
theorem for_D {K : PySem.W.Frag} {src : ML S} {is : List Nat} {g : TG} {gd : D → DE → Option DE} (hg : GD K B is g gd) {Dn : Ends} {σ : L2.St} {H : Hp} (h : tS K B (sFor src gd m) Dn σ H) : tFor (tI K B src) g (tS K B m) Dn σ H := by
  obtain ⟨env, F, s, out, E, o, hm, hq⟩ := h
  unfold sFor at hm
  cases e1 : src env s with
  | none => simp [e1] at hm
  | some w =>
    obtain ⟨xs, s1⟩ := w
    simp only [e1, Option.bind_some] at hm
    refine ⟨env, F, s, xs, s1, E, o, e1, fun J F1 H1 v1 jd hz => ?_⟩
    have E1 : EnvOk K B F1 H1 σ env := E.step o v1
    have hq1 : OutOk K B F1 H1 (Own σ env) Dn out := hq.back (Sv.of E v1)
    refine ⟨fun i n σ2 H2 => n = xs.length - i ∧ i ≤ xs.length ∧ ∃ env2 F2 s2, EnvOk K B F2 H2 σ2 env2 ∧ Sv B F1 H1 (Own σ env) F2 H2 (Own σ2 env2) s2 ∧ loopS gd m (xs.drop i) env2 s2 = some out,
      ⟨xs.length, by simp, Nat.zero_le _, env, F1, s1, E1, Sv.refl E1 v1.ok, hm⟩, ?_⟩
    rintro i n σ2 H2 ⟨rfl, hi, env2, F2, s2, E2, v2, hl⟩
    have sF := v2.sameF E1 v1.ok
    by_cases hlt : i < xs.length
    · refine .inr ⟨jd.go i F2 H2 s2 sF v2.ok hlt, fun σ' H' => i + 1 ≤ xs.length ∧ ∃ env2 F2 s2, EnvOk K B F2 H' σ' env2 ∧ Sv B F1 H1 (Own σ env) F2 H' (Own σ' env2) s2 ∧ loopS gd m (xs.drop (i + 1)) env2 s2 = some out,
        fun σ' H' p' => ⟨xs.length - (i + 1), by omega, rfl, p'⟩, fun x H3 hy => ?_⟩
      obtain ⟨F3, v3, hx⟩ := jd.yld i F2 H2 s2 x H3 xs[i] sF v2.ok hy (by simp [hlt])
      rw [List.drop_eq_getElem_cons hlt] at hl
      unfold loopS at hl
      cases q1 : gd xs[i] env2 with
      | none => simp [q1] at hl
      | some env3 =>
        simp only [q1, Option.bind_some] at hl
        cases q2 : m env3 s2 with
        | none => simp [q2] at hl
        | some ob =>
          simp only [q2, Option.bind_some] at hl
          refine hg xs[i] x F3 H3 s2 σ2 env2 env3 _ (E2.step v2.ok v3) v3.ok hx q1 fun σ3 E3 ho _ => ?_
          have v23 : Sv B F1 H1 (Own σ env) F3 H3 (Own σ3 env3) s2 := v2.trans ((Sv.of E2 v3).less ho)
          refine ⟨env3, F3, s2, ob, E3, v3.ok, q2, ?_⟩
          have hq3 := hq1.back v23
          cases ob with
          | nx e4 s4 => exact fun σ4 F4 H4 E4 v4 => ⟨hlt, e4, F4, s4, E4, v23.trans v4, hl⟩
          | ct e4 s4 => exact fun σ4 F4 H4 E4 v4 => ⟨hlt, e4, F4, s4, E4, v23.trans v4, hl⟩
          | bk e4 s4 =>
            cases hl
            exact hq3
          | rt d s4 =>
            cases hl
            exact hq3
    · have hi2 : xs.length ≤ i := Nat.le_of_not_lt hlt
      refine .inl ⟨jd.stop i F2 H2 s2 sF v2.ok hi2, ?_⟩
      rw [List.drop_of_length_le hi2] at hl
      cases hl
      exact hq1 σ2 F2 H2 E2 v2
theorem s_for {tg iter : Expr} {body : List Stmt} {src : ML S} {is : List Nat} {g : TG} {gd : D → DE → Option DE} (hp : PassesOwn (model X.prog X.w) X.A X.env X.xe) (hc : X.calm = true) (hi : PI X tg iter (tI X.K B src)) (hg : PG X tg g) (hgd : GD X.K B is g gd) (hb : PSs X body (tS X.K B m))
    (hs : ∀ x, foldedSetIterable iter X.env x = pure x := by intro _; rfl) : PS X (.For tg iter body [] pos) (tS X.K B (sFor src gd m)) := ps_w (ps_for hp hc hi hg hb hs) fun _ _ _ h => for_D hgd h

/-! ### a list of one's own -/
theorem EnvOk.putO {K : PySem.W.Frag} {F H : Hp} {σ : L2.St} {env : DE} (E : EnvOk K B F H σ env) {i : Nat} {xs : List D} {vs : List V} {q : Addr} (hF : F q = none) (hB : ¬ B.own q) (hH : H q = some (.lst vs)) (hv : DvL K B F xs vs) (hn : ∀ j ys, j ≠ i → env[j]? = some (some (.own ys)) → σ[j]? ≠ some (some (.ref q))) :
    EnvOk K B F H (σ.set i (some (.ref q))) (env.set i (some (.own xs))) ∧ ∀ p, Own (σ.set i (some (.ref q))) (env.set i (some (.own xs))) p → p = q ∨ Own σ env p := by
  have back : ∀ {j : Nat} {x : Option V}, j ≠ i → (σ.set i (some (.ref q)))[j]? = some x → σ[j]? = some x := fun {j x} hj e => by
    rcases set_get e with ⟨z, _⟩ | z
    · exact absurd z hj
    · exact z.2
  refine ⟨⟨by rw [List.length_set, List.length_set]; exact E.len, fun j d e => ?_, fun j ys e => ?_, fun j k ys zs a q1 q2 r1 r2 => ?_⟩, fun p ⟨j, ys, e, r⟩ => ?_⟩
  · rcases set_get e with ⟨_, z, _⟩ | ⟨z, z2⟩
    · cases z
    · obtain ⟨u, h1, h2⟩ := E.dat j d z2
      exact ⟨u, by rw [List.getElem?_set_ne (Ne.symm z)]; exact h1, h2⟩
  · rcases set_get e with ⟨z, z2, z3⟩ | ⟨z, z2⟩
    · subst z
      cases z2
      exact ⟨q, vs, List.getElem?_set_self (by rw [E.len]; exact z3), hF, hB, hH, hv⟩
    · obtain ⟨a, us, h1, h2⟩ := E.own j ys z2
      exact ⟨a, us, by rw [List.getElem?_set_ne (Ne.symm z)]; exact h1, h2⟩
  · by_cases hj : j = i
    · by_cases hk : k = i
      · rw [hj, hk]
      · subst hj
        have ea : a = q := by
          rcases set_get r1 with ⟨_, z, _⟩ | z
          · cases z
            rfl
          · exact absurd rfl z.1
        subst ea
        rcases set_get q2 with ⟨z, _⟩ | z
        · exact absurd z hk
        · exact absurd (back hk r2) (hn k zs hk z.2)
    · rcases set_get q1 with ⟨z, _⟩ | z1
      · exact absurd z hj
      · by_cases hk : k = i
        · subst hk
          have ea : a = q := by
            rcases set_get r2 with ⟨_, z, _⟩ | z
            · cases z
              rfl
            · exact absurd rfl z.1
          subst ea
          exact absurd (back hj r1) (hn j ys hj z1.2)
        · rcases set_get q2 with ⟨z, _⟩ | z2
          · exact absurd z hk
          · exact E.inj j k ys zs a z1.2 z2.2 (back hj r1) (back hk r2)
  · rcases set_get e with ⟨z, _, z3⟩ | ⟨z, z2⟩
    · subst z
      rw [List.getElem?_set_self (by rw [E.len]; exact z3)] at r
      cases r
      exact .inl rfl
    · exact .inr ⟨j, ys, z2, back z r⟩
theorem s_own {i : Nat} {x : Str} {p' p2 : Pos} (hN : X.N.Nodup) (hl : PA X es (tL X.K B ml)) (hi : X.N[i]? = some x := by rfl) (hx : Loc X.env.scope x := by first | exact Or.inl rfl | exact Or.inr rfl) (hs : swapsWith (.List es p2) (some (.Name x p')) pos.line X.env = pure false := by rfl)
    (hf : X.fn x = true ∨ X.env.scope.names.lookup x = some .local := by first | exact .inl rfl | exact .inr rfl) : PS X (.Assign [.Name x p'] (.List es p2) pos) (tS X.K B (sOwn i ml)) :=
  ps_w (ps_set (i := i) hN hi hx (pe_lst hl) hs hf) fun Dn σ H ⟨env, F, s, out, E, o, hm, hq⟩ => by
    unfold sOwn at hm
    cases e1 : ml env s with
    | none => simp [e1] at hm
    | some w =>
      obtain ⟨ds, s1⟩ := w
      simp only [e1, Option.bind_some] at hm
      split at hm
      · rename_i c
        cases hm
        refine ⟨env, F, s, ds, s1, E, o, e1, fun vs F1 H1 v1 hv => ⟨by rw [hv.len]; exact c, fun q hq' => ?_⟩⟩
        have v2 : Ev B F1 H1 F1 (upd H1 q (.lst vs)) s1 := Ev.newO v1.ok _ hq'
        have E2 := E.step o (v1.trans v2)
        have hF1 : F1 q = none := by
          cases r : F1 q with
          | none => rfl
          | some u => rw [v1.ok.sub q u r] at hq'; cases hq'
        obtain ⟨E3, ho⟩ := E2.putO (i := i) (xs := ds) hF1 (ne_own v1.ok hq') upd_same hv fun j ys hj q1 q2 => by
          obtain ⟨a, us, h1, _, _, h4, _⟩ := (E.step o v1).own j ys q1
          rw [q2] at h1
          cases h1
          rw [hq'] at h4
          cases h4
        refine hq _ F1 _ E3 ?_
        have w := Sv.of E (v1.trans v2)
        exact ⟨w.fs, w.hs, fun p hp => by
          rcases ho p hp with z | z
          · exact .inr (by rw [z]; exact v1.free hq')
          · exact .inl z, w.th, w.ok⟩
      · cases hm
end
end Dl

set_option Elab.async false
set_option linter.all false
set_option maxRecDepth 100000
set_option maxHeartbeats 4000000
/-! D7: lists of a frame's own, defs. -/
namespace Dl
open PySem
open L2

section
variable {K : PySem.W.Frag} {S : Type} {B : Amb S} {F H : Hp} {σ : L2.St} {env : DE} {s : S}
/-- one's own list changes -/
theorem EnvOk.mut (E : EnvOk K B F H σ env) (o : Ok B F H s) {i : Nat} {xs ys : List D} {us : List V} {a : Addr} (he : env[i]? = some (some (.own xs))) (hσ : σ[i]? = some (some (.ref a))) (hv : DvL K B F ys us) :
    EnvOk K B F (upd H a (.lst us)) σ (env.set i (some (.own ys))) ∧ Sv B F H (Own σ env) F (upd H a (.lst us)) (Own σ (env.set i (some (.own ys)))) s := by
  obtain ⟨a', vs, h1, h2, h3, h4, h5⟩ := E.own i xs he
  rw [hσ] at h1
  cases h1
  have hil : i < env.length := (List.getElem?_eq_some_iff.mp he).1
  have ow : ∀ p, Own σ (env.set i (some (.own ys))) p → Own σ env p := fun p ⟨j, zs, q, r⟩ => by
    rcases set_get q with ⟨z, _, _⟩ | ⟨z, z2⟩
    · exact ⟨i, xs, he, z ▸ r⟩
    · exact ⟨j, zs, z2, r⟩
  refine ⟨⟨by rw [List.length_set]; exact E.len, fun j d q => ?_, fun j zs q => ?_, fun j k y1 y2 b q1 q2 r1 r2 => ?_⟩, ⟨fun _ _ _ => rfl, fun p u hp hb hn => ?_, fun p hp => .inl (ow p hp), fun p hp => ?_, o.mut h2 h3⟩⟩
  · rcases set_get q with ⟨_, z, _⟩ | ⟨z, z2⟩
    · cases z
    · exact E.dat j d z2
  · rcases set_get q with ⟨z, z2, _⟩ | ⟨z, z2⟩
    · subst z
      cases z2
      exact ⟨a, us, hσ, h2, h3, upd_same, hv⟩
    · obtain ⟨b, ws, k1, k2, k3, k4, k5⟩ := E.own j zs z2
      have hb : b ≠ a := fun e => z (E.inj j i zs xs a z2 he (e ▸ k1) hσ)
      exact ⟨b, ws, k1, k2, k3, by rw [upd_ne hb]; exact k4, k5⟩
  · have g : ∀ {j : Nat} {y : List D}, (env.set i (some (.own ys)))[j]? = some (some (.own y)) → ∃ y', env[j]? = some (some (.own y')) := fun {j y} q => by
      rcases set_get q with ⟨z, _, _⟩ | ⟨z, z2⟩
      · exact ⟨xs, by rw [z]; exact he⟩
      · exact ⟨y, z2⟩
    obtain ⟨z1, g1⟩ := g q1
    obtain ⟨z2, g2⟩ := g q2
    exact E.inj j k z1 z2 b g1 g2 r1 r2
  · have z : p ≠ a := fun e => hn ⟨i, xs, he, e ▸ hσ⟩
    rw [upd_ne z]
    exact hp
  · by_cases z : p = a
    · rw [z, upd_same]
      exact fun q => nomatch q
    · rw [upd_ne z]
      obtain ⟨_, _, _, _, ws, _, _, k4, _⟩ := Own.at E hp
      rw [k4]
      exact fun q => nomatch q
/-- it is to stay -/
theorem EnvOk.frz (E : EnvOk K B F H σ env) (o : Ok B F H s) {i : Nat} {xs : List D} {a : Addr} {vs : List V} (he : env[i]? = some (some (.own xs))) (hσ : σ[i]? = some (some (.ref a))) (h4 : H a = some (.lst vs)) (h2 : F a = none) (h3 : ¬ B.own a) (hv : DvL K B F xs vs) :
    EnvOk K B (upd F a (.lst vs)) H σ (env.set i (some (.dat (.lst xs)))) ∧ Sv B F H (Own σ env) (upd F a (.lst vs)) H (Own σ (env.set i (some (.dat (.lst xs))))) s := by
  have hil : i < env.length := (List.getElem?_eq_some_iff.mp he).1
  have sF : Same F (upd F a (.lst vs)) := fun p u hp => by
    have z : p ≠ a := ne_of_none hp h2
    rw [upd_ne z]
    exact hp
  have bk : ∀ {j : Nat} {y : List D}, (env.set i (some (.dat (.lst xs))))[j]? = some (some (.own y)) → j ≠ i ∧ env[j]? = some (some (.own y)) := fun {j y} q => by
    rcases set_get q with ⟨_, z, _⟩ | z
    · cases z
    · exact z
  refine ⟨⟨by rw [List.length_set]; exact E.len, fun j d q => ?_, fun j zs q => ?_, fun j k y1 y2 b q1 q2 r1 r2 => E.inj j k y1 y2 b (bk q1).2 (bk q2).2 r1 r2⟩, ⟨fun p hp hn => ?_, fun p u hp _ _ => hp, fun p ⟨j, y, q, r⟩ => .inl ⟨j, y, (bk q).2, r⟩, fun p hp => ?_, o.frz h4 h3⟩⟩
  · rcases set_get q with ⟨z, z2, _⟩ | ⟨z, z2⟩
    · subst z
      cases z2
      exact ⟨.ref a, hσ, a, vs, rfl, upd_same, hv.ext sF⟩
    · obtain ⟨u, k1, k2⟩ := E.dat j d z2
      exact ⟨u, k1, k2.ext sF⟩
  · obtain ⟨hj, q'⟩ := bk q
    obtain ⟨b, ws, k1, k2, k3, k4, k5⟩ := E.own j zs q'
    have hb : b ≠ a := fun e => hj (E.inj j i zs xs a q' he (e ▸ k1) hσ)
    exact ⟨b, ws, k1, by rw [upd_ne hb]; exact k2, k3, k4, k5.ext sF⟩
  · have z : p ≠ a := fun e => hn ⟨i, xs, he, e ▸ hσ⟩
    exact upd_ne z
  · obtain ⟨_, _, _, _, ws, _, _, k4, _⟩ := Own.at E hp
    rw [k4]
    exact fun q => nomatch q
end

section
variable {X : Cx} {S : Type} {B : Amb S} {a b c e : Expr} {es : List Expr} {st : Stmt} {sts : List Stmt} {pos p : Pos} {ma mb mc : ME S} {ml : ML S} {m m' : MS S}
theorem s_app {i : Nat} {o : Expr} {apos cpos : Pos} (ho : PE X o (tVar i)) (he : PE X e (tD X.K B ma)) (hs1 : starEach (e :: []) X.env = (false, eval e X.env) :: starEach [] X.env := by rfl)
    (hbase : attributeBase o "append" X.env (eval o X.env) = eval o X.env := by rfl)
    (hfew : ((backTo cpos (starEach (e :: []) X.env)).all (fun x => !x.1) && (backToKw cpos (keywordEach [] X.env)).all (fun x => x.1.isSome)
      && decide ((e :: []).length + ([] : List Keyword).length + (if ([] : List Keyword).isEmpty then 0 else 1) < 30)) = true := by rfl)
    (hline : (apos.endLine == cpos.line) = true := by rfl) (hplain : (backTo cpos (starEach [] X.env)).any (·.1) = false := by rfl)
    (hs : swapsWith (.Call (.Attribute o "append" apos) [e] [] cpos) none pos.line X.env = pure false := by rfl) :
    PS X (.Expr (.Call (.Attribute o "append" apos) [e] [] cpos) pos) (tS X.K B (sApp i ma)) :=
  ps_w (ps_expr (pe_bm PySem.F.plainAttrs_list PySem.F.slot_list_append PySem.F.type_list_append mt_append ho (l_cons he l_nil hs1) hbase hfew hline hs1 hplain) hs) fun Dn σ H ⟨env, F, s, out, E, o, hm, hq⟩ => by
    unfold sApp at hm
    cases e1 : ma env s with
    | none => simp [e1] at hm
    | some w =>
      obtain ⟨d, s1⟩ := w
      simp only [e1, Option.bind_some] at hm
      cases e2 : ownAt env i with
      | none => simp [e2] at hm
      | some xs =>
        have hx := ownAt_eq e2
        simp only [e2, Option.bind_some] at hm
        split at hm
        · rename_i c
          cases hm
          obtain ⟨q, vs, h1, h2, h3, h4, h5⟩ := E.own i xs hx
          refine ⟨.ref q, h1, .inl ⟨rfl, vs, SqL.of h4⟩, env, F, s, [d], s1, E, o, ?_, fun us F1 H1 v1 hv => ?_⟩
          · show mCons ma mNil env s = some ([d], s1)
            simp [mCons, e1, mNil]
          · obtain ⟨v, ev, hd⟩ := one_of hv
            have h4' := v1.hs q _ h4 h3
            refine ⟨q, vs, v, rfl, ev, h4', by rw [h5.len]; exact c, ?_⟩
            obtain ⟨E2, w2⟩ := (E.step o v1).mut v1.ok hx h1 ((h5.ext (v1.sameF o)).app (DvL.one hd))
            exact hq σ F1 _ E2 ((Sv.of E v1).trans w2)
        · cases hm
theorem s_ext {i : Nat} {o : Expr} {apos cpos : Pos} (ho : PE X o (tVar i)) (he : PE X e (tD X.K B ma)) (hs1 : starEach (e :: []) X.env = (false, eval e X.env) :: starEach [] X.env := by rfl)
    (hbase : attributeBase o "extend" X.env (eval o X.env) = eval o X.env := by rfl)
    (hfew : ((backTo cpos (starEach (e :: []) X.env)).all (fun x => !x.1) && (backToKw cpos (keywordEach [] X.env)).all (fun x => x.1.isSome)
      && decide ((e :: []).length + ([] : List Keyword).length + (if ([] : List Keyword).isEmpty then 0 else 1) < 30)) = true := by rfl)
    (hline : (apos.endLine == cpos.line) = true := by rfl) (hplain : (backTo cpos (starEach [] X.env)).any (·.1) = false := by rfl)
    (hs : swapsWith (.Call (.Attribute o "extend" apos) [e] [] cpos) none pos.line X.env = pure false := by rfl) :
    PS X (.Expr (.Call (.Attribute o "extend" apos) [e] [] cpos) pos) (tS X.K B (sExt i ma)) :=
  ps_w (ps_expr (pe_bm PySem.F.plainAttrs_list PySem.F.slot_list_extend PySem.F.type_list_extend mt_extend ho (l_cons he l_nil hs1) hbase hfew hline hs1 hplain) hs) fun Dn σ H ⟨env, F, s, out, E, o, hm, hq⟩ => by
    unfold sExt at hm
    cases e1 : ma env s with
    | none => simp [e1] at hm
    | some w =>
      obtain ⟨d, s1⟩ := w
      simp only [e1, Option.bind_some] at hm
      cases e2 : ownAt env i with
      | none => simp [e2] at hm
      | some xs =>
       have hx := ownAt_eq e2
       simp only [e2, Option.bind_some] at hm
       cases e3 : lstItems d with
       | none => simp [e3] at hm
       | some ys =>
        have hy := lstItems_eq e3
        simp only [e3, Option.bind_some] at hm
        split at hm
        · rename_i c
          cases hm
          obtain ⟨q, vs, h1, h2, h3, h4, h5⟩ := E.own i xs hx
          refine ⟨.ref q, h1, .inl ⟨rfl, vs, SqL.of h4⟩, env, F, s, [d], s1, E, o, ?_, fun us F1 H1 v1 hv => ?_⟩
          · show mCons ma mNil env s = some ([d], s1)
            simp [mCons, e1, mNil]
          · obtain ⟨v, ev, hd⟩ := one_of hv
            have hd' : Dv X.K B F1 (.lst ys) v := by
              have z : d = .lst ys := hy
              rw [← z]
              exact hd
            obtain ⟨b, zs, eb, k2, k3⟩ := hd'
            have h4' := v1.hs q _ h4 h3
            refine ⟨q, b, vs, zs, rfl, by rw [ev, eb], h4', v1.ok.sub b _ k2, by rw [h5.len, k3.len]; exact c, ?_⟩
            obtain ⟨E2, w2⟩ := (E.step o v1).mut v1.ok hx h1 ((h5.ext (v1.sameF o)).app k3)
            exact hq σ F1 _ E2 ((Sv.of E v1).trans w2)
        · cases hm
theorem ixN_lt {n : Nat} {z : Int} {j : Nat} (h : ixN n z = some j) : j < n := by
  unfold ixN at h
  split at h
  · split at h
    · cases h
      omega
    · cases h
  · split at h
    · cases h
      omega
    · cases h
/-- xs[k] = v -/
theorem s_put {i : Nat} {o k v : Expr} {p2 : Pos} {mk mv : ME S} (ho : PE X o (tVar i)) (hk : PE X k (tD X.K B mk)) (hv : PE X v (tD X.K B mv))
    (hg : ∀ {to ti : TE}, PE X o to → PE X k ti → PG X (.Subscript o k p2) (gSub to ti rSetL)) (hs : swapsWithSole [.Subscript o k p2] v pos.line X.env = pure false := by rfl) (hw : swappedStores [.Subscript o k p2] v X.env = pure none := by rfl)
    (h1 : (assignEach [.Subscript o k p2] X.env).map (·.2) = [assign (.Subscript o k p2) X.env] := by rfl) : PS X (.Assign [.Subscript o k p2] v pos) (tS X.K B (sPut i mk mv)) :=
  ps_w (ps_asg hv (hg ho hk) hs hw h1) fun Dn σ H ⟨env, F, s, out, E, o, hm, hq⟩ => by
    unfold sPut at hm
    cases e1 : mv env s with
    | none => simp [e1] at hm
    | some w =>
      obtain ⟨d, s1⟩ := w
      simp only [e1, Option.bind_some] at hm
      cases e2 : mk env s1 with
      | none => simp [e2] at hm
      | some w =>
        obtain ⟨dk, s2⟩ := w
        simp only [e2, Option.bind_some] at hm
        cases e4 : ownAt env i with
        | none => simp [e4] at hm
        | some xs =>
         have hx := ownAt_eq e4
         simp only [e4, Option.bind_some] at hm
         cases e5 : intOf dk with
         | none => simp [e5] at hm
         | some z =>
          have hz := intOf_eq e5
          simp only [e5, Option.bind_some] at hm
          cases e3 : ixN xs.length z with
          | none => simp [e3] at hm
          | some j =>
            simp only [e3, Option.map_some, Option.some.injEq] at hm
            subst hm
            refine ⟨env, F, s, d, s1, E, o, e1, fun vv F1 H1 v1 hd => ?_⟩
            obtain ⟨q, vs, g1, g2, g3, g4, g5⟩ := E.own i xs hx
            refine ⟨.ref q, g1, env, F1, s1, dk, s2, E.step o v1, v1.ok, e2, fun vk F2 H2 v2 hdk => ?_⟩
            have hz' : vk = V.int z := by
              have y : dk = .int z := hz
              rw [y] at hdk
              exact hdk
            have v12 := v1.trans v2
            refine ⟨q, vs, z, j, rfl, hz', v12.hs q _ g4 g3, by rw [g5.len]; exact e3, ?_⟩
            obtain ⟨E2, w2⟩ := (E.step o v12).mut v12.ok hx g1 ((g5.ext (v12.sameF o)).set j (hd.ext (v2.sameF v1.ok)))
            exact hq σ F2 _ E2 ((Sv.of E v12).trans w2)
/-- a ghost: the list of slot i stays as it is from here on -/
theorem s_frz (i : Nat) (h : PSs X sts (tS X.K B m)) : PSs X sts (tS X.K B (sFrz i m)) := pss_w h fun Dn σ H ⟨env, F, s, out, E, o, hm, hq⟩ => by
  unfold sFrz at hm
  cases e2 : ownAt env i with
  | none => simp [e2] at hm
  | some xs =>
    have hx := ownAt_eq e2
    simp only [e2, Option.bind_some] at hm
    obtain ⟨q, vs, h1, h2, h3, h4, h5⟩ := E.own i xs hx
    obtain ⟨E2, w2⟩ := E.frz o hx h1 h4 h2 h3 h5
    exact ⟨_, _, s, out, E2, w2.ok, hm, hq.back w2⟩
theorem s_par {i j : Nat} {x y : Str} {px py pt : Pos} {kt k2 pt2} (hc : X.calm = true) (hN : X.N.Nodup) (hl : PA X [a, b] (tL X.K B (mCons ma (mCons mb mNil)))) (hi : X.N[i]? = some x := by rfl) (hj : X.N[j]? = some y := by rfl) (hij : i ≠ j := by decide)
    (hx : X.env.scope.names.lookup x = some .local := by rfl) (hy : X.env.scope.names.lookup y = some .local := by rfl)
    (hw : swappedStores [.Tuple [.Name x px, .Name y py] kt pt] (.Tuple [a, b] k2 pt2) X.env = pure (some [x, y]) := by rfl)
    (hs : swapsWithSole [.Tuple [.Name x px, .Name y py] kt pt] (.Tuple [a, b] k2 pt2) pos.line X.env = pure false := by rfl) :
    PS X (.Assign [.Tuple [.Name x px, .Name y py] kt pt] (.Tuple [a, b] k2 pt2) pos) (tS X.K B (sPar i j ma mb)) := ps_w (ps_par hc hN hi hj hij hx hy hl hw hs) fun Dn σ H ⟨env, F, s, out, E, o, hm, hq⟩ => by
  unfold sPar at hm
  cases e1 : ma env s with
  | none => simp [e1] at hm
  | some w =>
    obtain ⟨d1, s1⟩ := w
    simp only [e1, Option.bind_some] at hm
    cases e2 : mb env s1 with
    | none => simp [e2] at hm
    | some w =>
      obtain ⟨d2, s2⟩ := w
      simp only [e2, Option.map_some, Option.some.injEq] at hm
      subst hm
      refine ⟨env, F, s, [d1, d2], s2, E, o, by simp [mCons, e1, e2, mNil], fun vs F1 H1 v1 hv => ?_⟩
      obtain ⟨u, w, ev, h1, h2⟩ := two_of hv
      refine ⟨u, w, ev, ?_⟩
      obtain ⟨E1, o1⟩ := (E.step o v1).put (i := i) h1
      obtain ⟨E2, o2⟩ := E1.put (i := j) h2
      exact hq _ F1 H1 E2 ((Sv.of E v1).less fun p z => o1 p (o2 p z))
/-! reading -/
theorem d_ixO {i : Nat} (ho : PE X a (tVar i)) (hk : PE X b (tD X.K B mb)) (hs : PlainIx b := by exact fun _ _ => rfl) : PE X (.Subscript a b pos) (tD X.K B (mIxO i mb)) := pe_w (pe_ix ix_list ho hk hs) fun σ H Q ⟨env, F, s, d, s', E, o, hm, hq⟩ => by
  unfold mIxO at hm
  cases e3 : ownAt env i with
  | none => simp [e3] at hm
  | some xs =>
    have hx := ownAt_eq e3
    simp only [e3, Option.bind_some] at hm
    cases e1 : mb env s with
    | none => simp [e1] at hm
    | some w =>
      obtain ⟨dk, s1⟩ := w
      simp only [e1, Option.bind_some] at hm
      cases e5 : intOf dk with
      | none => simp [e5] at hm
      | some z =>
        have hz := intOf_eq e5
        subst hz
        simp only [e5, Option.bind_some] at hm
        cases e2 : atI xs z with
        | none => simp [e2] at hm
        | some y =>
          simp only [e2, Option.map_some, Option.some.injEq, Prod.mk.injEq] at hm
          obtain ⟨rfl, rfl⟩ := hm
          obtain ⟨q, vs, g1, g2, g3, g4, g5⟩ := E.own i xs hx
          refine ⟨.ref q, g1, env, F, s, _, s1, E, o, e1, fun v F1 H1 v1 hv => ?_⟩
          obtain ⟨u, h1, h2⟩ := atI_dv (g5.ext (v1.sameF o)) e2
          exact ⟨q, vs, z, u, rfl, hv, SqL.of (v1.hs q _ g4 g3), h1, hq u F1 H1 v1 h2⟩
theorem d_lenO {i : Nat} (hm : X.mg "len" = none) (ho : PE X a (tVar i)) (hv : bootBuiltins "len" = some (.builtin "len") := by decide +kernel) (hg : Gl X "len" := by rfl)
    (he : starEach (a :: []) X.env = (false, eval a X.env) :: starEach [] X.env := by rfl) (hpl : (backTo pos (starEach [] X.env)).any (·.1) = false := by rfl) : PE X (.Call (.Name "len" p) [a] [] pos) (tD X.K B (mLenO i)) :=
  pe_w (pe_callB call_len hg hm hv (pa_cons ho pa_nil he) (by decide) (by decide) he hpl) fun σ H Q ⟨env, F, s, d, s', E, o, hm, hq⟩ => by
    unfold mLenO at hm
    cases e3 : ownAt env i with
    | none => simp [e3] at hm
    | some xs =>
      have hx := ownAt_eq e3
      simp only [e3, Option.map_some, Option.some.injEq, Prod.mk.injEq] at hm
      obtain ⟨rfl, rfl⟩ := hm
      obtain ⟨q, vs, g1, g2, g3, g4, g5⟩ := E.own i xs hx
      refine ⟨.ref q, g1, .ref q, vs.length, rfl, .inl ⟨vs, SqL.of g4, rfl⟩, ?_⟩
      rw [g5.len]
      exact hq _ F H o.refl rfl
theorem d_tupO {i : Nat} (hm : X.mg "tuple" = none) (ho : PE X a (tVar i)) (hv : bootBuiltins "tuple" = some (.type "tuple") := by decide +kernel) (hg : Gl X "tuple" := by rfl)
    (he : starEach (a :: []) X.env = (false, eval a X.env) :: starEach [] X.env := by rfl) (hpl : (backTo pos (starEach [] X.env)).any (·.1) = false := by rfl) : PE X (.Call (.Name "tuple" p) [a] [] pos) (tD X.K B (mTupO i)) :=
  pe_w (pe_callTy call_tuple_of hg hm hv (pa_cons ho pa_nil he) (by decide) (by decide) he hpl) fun σ H Q ⟨env, F, s, d, s', E, o, hm, hq⟩ => by
    unfold mTupO at hm
    cases e3 : ownAt env i with
    | none => simp [e3] at hm
    | some xs =>
      have hx := ownAt_eq e3
      simp only [e3, Option.map_some, Option.some.injEq, Prod.mk.injEq] at hm
      obtain ⟨rfl, rfl⟩ := hm
      obtain ⟨q, vs, g1, g2, g3, g4, g5⟩ := E.own i xs hx
      exact ⟨.ref q, g1, q, vs, rfl, .inl ⟨SqL.of g4, fun l hl => hq _ _ _ (Ev.new o _ hl) (new_tup o hl g5)⟩⟩
end

/-! ### a def -/
def startE (n : Nat) (ds : List D) : DE := ds.map (fun d => some (.dat d)) ++ List.replicate (n - ds.length) none
def mDef {S : Type} (n : Nat) (m : MS S) : List D → S → Option (D × S) := fun ds s => (m (startE n ds) s).bind fun o => match o with
  | .nx _ s' => some (.non, s')
  | .rt d s' => some (d, s')
  | _ => none
theorem startE_get {n : Nat} {ds : List D} {i : Nat} {x : Slot} (h : (startE n ds)[i]? = some (some x)) : ∃ d, ds[i]? = some d ∧ x = .dat d := by
  unfold startE at h
  by_cases hi : i < ds.length
  · rw [List.getElem?_append_left (by simpa using hi), List.getElem?_map] at h
    cases q : ds[i]? with
    | none => rw [q] at h; cases h
    | some d =>
      rw [q] at h
      cases h
      exact ⟨d, rfl, rfl⟩
  · rw [List.getElem?_append_right (by simp; omega)] at h
    rw [List.getElem?_replicate] at h
    split at h
    · cases h
    · cases h
theorem start_ok {K : PySem.W.Frag} {S : Type} {B : Amb S} {F H : Hp} {N : List Str} {ds : List D} {vs : List V} (h : DvL K B F ds vs) : EnvOk K B F H (L2.start N vs) (startE N.length ds) ∧ ∀ p, ¬ Own (L2.start N vs) (startE N.length ds) p := by
  refine ⟨⟨?_, fun i d q => ?_, fun i xs q => ?_, fun i j xs ys a q _ _ _ => ?_⟩, fun p ⟨i, xs, q, _⟩ => ?_⟩
  · unfold L2.start startE
    simp [h.len]
  · obtain ⟨d', h1, h2⟩ := startE_get q
    cases h2
    obtain ⟨v, h3, h4⟩ := h.get h1
    refine ⟨v, ?_, h4⟩
    unfold L2.start
    have hi : i < vs.length := (List.getElem?_eq_some_iff.mp h3).1
    rw [List.getElem?_append_left (by simpa using hi), List.getElem?_map, h3]
    rfl
  · obtain ⟨d', _, h2⟩ := startE_get q
    cases h2
  · obtain ⟨d', _, h2⟩ := startE_get q
    cases h2
  · obtain ⟨d', _, h2⟩ := startE_get q
    cases h2
theorem def_D {K : PySem.W.Frag} {S : Type} {B : Amb S} {N : List Str} {n : Nat} {m : MS S} {vs : List V} {H : Hp} {Q : VK} {E : XK} (h : spD K B n (mDef N.length m) vs H Q E) : tS K B m { nx := fun _ H' => Q .non H', rt := Q } (L2.start N vs) H := by
  obtain ⟨_, F, s, ds, d, s', hv, o, hm, hq⟩ := h
  unfold mDef at hm
  obtain ⟨E0, o0⟩ := start_ok (H := H) (N := N) hv
  cases e1 : m (startE N.length ds) s with
  | none => simp [e1] at hm
  | some out =>
    simp only [e1, Option.bind_some] at hm
    refine ⟨_, F, s, out, E0, o, e1, ?_⟩
    cases out with
    | nx env' s1 =>
      cases hm
      exact fun σ' F' H' _ v => hq .non F' H' (v.ev o0) rfl
    | rt d1 s1 =>
      cases hm
      exact fun v F' H' own' w hd => hq v F' H' (w.ev o0) hd
    | bk env' s1 => cases hm
    | ct env' s1 => cases hm
section
variable {P : Program} {w : World} {K : PySem.W.Frag} {mg : Str → Option Value} {base : Heap} {S : Type} {B : Amb S}
theorem d_def {x qual : Str} {st : Stmt} {f : Addr} {fd : FuncData} {N ps : List Str} {k : Nat} {m : MS S} (Fn : Fun K x qual st f fd) (S : FnScope N ps (defScope st))
    (hb : ∀ (cdv : Value) (A : Around) (outer : List Env) (s : Shared) (H : Hp) (E : XK), Room k (A.deeper (PyProof.Rows.envOfC qual (defScope st) s.heap.objs.size f cdv)) →
      PSs (cxOf CX0 P w K mg base N qual (defScope st) f cdv A outer s H E).nox (defBody st) (tS K B m)) : FnOk P w K mg base CX0 (k + 1) f fd ps (spD K B ps.length (mDef N.length m)) :=
  Fn.ok S (fun vs H Q E h => h.1) fun cdv A outer s H vs Q E hr h => ⟨_, hb cdv A outer s H E hr, def_D h⟩
end
end Dl

set_option Elab.async false
set_option linter.all false
set_option maxRecDepth 100000
set_option maxHeartbeats 4000000
/-! D8: a text's defs by name, its constants, the Hook that tells them. -/
namespace Dl
open PySem
open L2

/-- x is a def that keeps the promise over data -/
def DOk (P : Program) (w : World) (K : PySem.W.Frag) (mg : Str → Option Value) (base : Heap) {S : Type} (B : Amb S) (x : Str) (k : Nat) (ps : List Str) (g : List D → S → Option (D × S)) : Prop :=
  ∃ f fd, mg x = some (.ref f) ∧ PySem.W.keepIn K (.ref f) = true ∧ Binds K fd ps [] ∧ FnOk P w K mg base CX0 k f fd ps (spD K B ps.length g)
section
variable {X : Cx} {S : Type} {B : Amb S} {e : Expr} {es : List Expr} {pos p : Pos} {ml : ML S} {k : Nat} {ps : List Str} {x : Str} {g : List D → S → Option (D × S)}
theorem d_callO {j : Nat} (G : DOk X.prog X.w X.K X.mg X.base B x k ps g) (hr : Room j X.A) (ha : PA X (e :: es) (tL X.K B ml)) (hj : k ≤ j := by decide)
    (hl : ∀ env s ds s', ml env s = some (ds, s') → ds.length = ps.length := by exact len_cons (by first | exact len_nil | exact len_cons (by first | exact len_nil | exact len_cons (by first | exact len_nil | exact len_cons (by first | exact len_nil | exact len_cons (by first | exact len_nil | exact len_cons len_nil))))))
    (hg : Gl X x := by rfl) (hdb : (x == ("__debug__" : Str)) = false := by decide) (he : starEach (e :: es) X.env = (false, eval e X.env) :: starEach es X.env := by rfl) (hpl : (backTo pos (starEach es X.env)).any (·.1) = false := by rfl) :
    PE X (.Call (.Name x p) (e :: es) [] pos) (tD X.K B (mCall g ml)) := by
  obtain ⟨f, fd, h1, h2, h3, h4⟩ := G
  exact d_call h4 (hr.mono hj) h1 h2 h3 pass0 ha hl hg hdb he hpl
end
section
variable {P : Program} {w : World} {K : PySem.W.Frag} {mg : Str → Option Value} {base : Heap} {S : Type} {B : Amb S}
theorem d_defD {x qual : Str} {st : Stmt} {f : Addr} {fd : FuncData} {N ps : List Str} {k : Nat} {m : MS S} (Fn : FunD K x qual (defArgs st) (defBody st) (defScope st) [] [] f fd) (hm : mg x = some (.ref f)) (S : FnScope N ps (defScope st))
    (bi : ∀ (kV doc pm : Value) (an : Option Addr) (cdv ct : Value) (us : List Value), us.length = ps.length → bindArgs (PySem.W.fnOf x qual (defArgs st) (defBody st) (defScope st) .none kV doc pm an cdv ct) ⟨us, []⟩ = pure (ps.zip us))
    (hb : ∀ (cdv : Value) (A : Around) (outer : List Env) (s : Shared) (H : Hp) (E : XK), Room k (A.deeper (PyProof.Rows.envOfC qual (defScope st) s.heap.objs.size f cdv)) →
      PSs (cxOf CX0 P w K mg base N qual (defScope st) f cdv A outer s H E).nox (defBody st) (tS K B m)) : DOk P w K mg base B x (k + 1) ps (mDef N.length m) :=
  ⟨f, fd, hm, Fn.kp, Fn.bindsN bi, Fn.ok S (fun vs H Q E h => h.1) fun cdv A outer s H vs Q E hr h => ⟨_, (hb cdv A outer s H E hr).nox, def_D h⟩⟩
end

/-! ### constants that lie in the kept part -/
mutual
def dvB (K : PySem.W.Frag) : D → Value → Bool
  | .non, .none => true
  | .bl b, .bool c => b == c
  | .int i, .int j _ => decide (i = j)
  | .str x, .str y _ => decide (x = y)
  | .tup ds, .ref a => match K.lookup a with
    | some ⟨.type c, _, .seq its _, _⟩ => decide (c = "tuple") && (decide (its.size ≤ sizeLine) && dvBL K ds its.toList)
    | _ => false
  | _, _ => false
def dvBL (K : PySem.W.Frag) : List D → List Value → Bool
  | [], [] => true
  | d :: ds, v :: vs => dvB K d v && dvBL K ds vs
  | _, _ => false
end
mutual
theorem dvB_ok {K : PySem.W.Frag} : ∀ {d : D} {u : Value}, dvB K d u = true → ∃ v, RelV v u ∧ ∀ {S : Type} (B : Amb S) (F : Hp), Dv K B F d v
  | .non, .none, _ => ⟨.non, rfl, fun _ _ => rfl⟩
  | .bl b, .bool c, h => by
    have e : b = c := by simpa [dvB] using h
    subst e
    exact ⟨.bl b, rfl, fun _ _ => rfl⟩
  | .int i, .int j t, h => by
    have e : i = j := by simpa [dvB] using h
    subst e
    exact ⟨.int i, ⟨t, rfl⟩, fun _ _ => rfl⟩
  | .str i, .str j t, h => by
    have e : i = j := by simpa [dvB] using h
    subst e
    exact ⟨.str i, ⟨t, rfl⟩, fun _ _ => rfl⟩
  | .tup ds, .ref a, h => by
    unfold dvB at h
    split at h
    · rename_i c dd its n sl e
      simp only [Bool.and_eq_true, decide_eq_true_eq] at h
      obtain ⟨h1, h2, h3⟩ := h
      obtain ⟨vs, r, hv⟩ := dvBL_ok h3
      subst h1
      exact ⟨.ref a, rfl, fun B F => ⟨a, vs, rfl, .inr ⟨_, its, n, e, rfl, rfl, h2, r⟩, hv B F⟩⟩
    · cases h
theorem dvBL_ok {K : PySem.W.Frag} : ∀ {ds : List D} {us : List Value}, dvBL K ds us = true → ∃ vs, Vals vs us ∧ ∀ {S : Type} (B : Amb S) (F : Hp), DvL K B F ds vs
  | [], [], _ => ⟨[], .nil, fun _ _ => rfl⟩
  | [], _ :: _, h => by cases h
  | _ :: _, [], h => by cases h
  | d :: ds, u :: us, h => by
    unfold dvBL at h
    rw [Bool.and_eq_true] at h
    obtain ⟨v, r, hv⟩ := dvB_ok h.1
    obtain ⟨vs, rs, hvs⟩ := dvBL_ok h.2
    exact ⟨v :: vs, .cons r rs, fun B F => ⟨v, vs, rfl, hv B F, hvs B F⟩⟩
end
/-! ### a text's facts -/
/-- what the text's top leaves: its defs, its constants, built-in names as they were -/
structure Tx (fn : List He.DefD) (gs fr : List Str) (is : List (Str × Int)) (ss : List (Str × Str)) (ts : List (Str × D)) (K : PySem.W.Frag) (mg : Str → Option Value) : Prop where
  fns : ∀ d ∈ fn, ∃ fd, FunD K d.name d.qual d.params d.body d.scope (d.dvs K) (d.kws K) (He.fAd K d.at_) fd
  glo : ∀ x ∈ gs, mg x = some (.ref (He.ga K x))
  free : ∀ x ∈ fr, mg x = none
  gint : ∀ p ∈ is, ∃ t, mg p.1 = some (.int p.2 t)
  gstr : ∀ p ∈ ss, ∃ t, mg p.1 = some (.str p.2 t)
  gtup : ∀ p ∈ ts, ∃ a, mg p.1 = some (.ref a) ∧ ∀ {S : Type} (B : Amb S) (F : Hp), Dv K B F p.2 (.ref a)
def faOf (gs fr : List Str) (is : List (Str × Int)) (ss : List (Str × Str)) (ts : List (Str × D)) : List He.Fa :=
  gs.map He.Fa.glo ++ (fr.map He.Fa.free ++ (is.map (fun p => He.Fa.int p.1 p.2) ++ (ss.map (fun p => He.Fa.str p.1 p.2) ++ ts.map fun p => He.Fa.glo p.1)))
def exOf (ts : List (Str × D)) (K : PySem.W.Frag) : Bool := ts.all fun p => dvB K p.2 (.ref (He.ga K p.1))
def SaysY (fa : List He.Fa) (fn : List He.DefD) (ts : List (Str × D)) (K : PySem.W.Frag) : Prop := He.SaysD fa fn K ∧ exOf ts K = true
def obsY (n : Nat) (fa : List He.Fa) (fn : List He.DefD) (ts : List (Str × D)) (g : Addr → Option Obj) : He.AlD × Bool := (He.obsD fa fn (He.frG g (He.asD g n)), exOf ts (He.frG g (He.asD g n)))
def hookY (n : Nat) (fa : List He.Fa) (fn : List He.DefD) (ts : List (Str × D)) : PySem.W.Hook where
  α := He.AlD × Bool
  obs := fun s => obsY n fa fn ts s.heap.get?
  val := fun _ => (He.valD fn, true)
  says := fun _ h => ∃ K : PySem.W.Frag, K.In h ∧ SaysY fa fn ts K
  of := fun _ _ e => ⟨_, He.frG_in, congrArg (fun z : He.AlD × Bool => z.1) e, congrArg (fun z : He.AlD × Bool => z.2) e⟩
  keeps := fun _ _ _ ⟨K, hK, c⟩ k => ⟨K, PySem.W.Frag.In.keeps hK k, c⟩
theorem obsY_eq {n : Nat} {fa : List He.Fa} {fn : List He.DefD} {ts : List (Str × D)} {g : Addr → Option Obj} {s : Shared} (h : ∀ a, g a = s.heap.get? a) : obsY n fa fn ts g = (hookY n fa fn ts).obs s := by
  have e : g = s.heap.get? := funext h
  rw [e]
  rfl
theorem fact_in {fa : List He.Fa} {fn : List He.DefD} {K : PySem.W.Frag} (c : He.SaysD fa fn K) {f : He.Fa} (h : f ∈ fa) : f.ok K = true := by
  have c1 := (He.ba (show ((fa.all fun f => f.ok K) && fn.all fun d => d.ok K) = true from congrArg (fun z : He.AlD => z.1) c)).1
  exact List.all_eq_true.mp c1 f h
theorem def_in {fa : List He.Fa} {fn : List He.DefD} {K : PySem.W.Frag} (c : He.SaysD fa fn K) {d : He.DefD} (h : d ∈ fn) : ∃ fd, FunD K d.name d.qual d.params d.body d.scope (d.dvs K) (d.kws K) (He.fAd K d.at_) fd := by
  obtain ⟨i, hi⟩ := List.getElem?_of_mem h
  exact c.def_ i hi
theorem tx_of {fn : List He.DefD} {gs fr : List Str} {is : List (Str × Int)} {ss : List (Str × Str)} {ts : List (Str × D)} {K : PySem.W.Frag} {h : Heap} {mg : Str → Option Value} (X : K.In h) (G : h.Ns mainGlobals mg)
    (c : SaysY (faOf gs fr is ss ts) fn ts K) : Tx fn gs fr is ss ts K mg := by
  have m1 : ∀ {f : He.Fa}, f ∈ gs.map He.Fa.glo → f ∈ faOf gs fr is ss ts := fun h => List.mem_append_left _ h
  have m2 : ∀ {f : He.Fa}, f ∈ fr.map He.Fa.free → f ∈ faOf gs fr is ss ts := fun h => List.mem_append_right _ (List.mem_append_left _ h)
  have m3 : ∀ {f : He.Fa}, f ∈ is.map (fun p => He.Fa.int p.1 p.2) → f ∈ faOf gs fr is ss ts := fun h => List.mem_append_right _ (List.mem_append_right _ (List.mem_append_left _ h))
  have m4 : ∀ {f : He.Fa}, f ∈ ss.map (fun p => He.Fa.str p.1 p.2) → f ∈ faOf gs fr is ss ts := fun h => List.mem_append_right _ (List.mem_append_right _ (List.mem_append_right _ (List.mem_append_left _ h)))
  have m5 : ∀ {f : He.Fa}, f ∈ ts.map (fun p => He.Fa.glo p.1) → f ∈ faOf gs fr is ss ts := fun h => List.mem_append_right _ (List.mem_append_right _ (List.mem_append_right _ (List.mem_append_right _ h)))
  refine ⟨fun d hd => def_in c.1 hd, fun x hx => He.glo_ok X G (fact_in c.1 (m1 (List.mem_map_of_mem hx))), fun x hx => He.free_ok X G (fact_in c.1 (m2 (List.mem_map_of_mem hx))),
    fun p hp => He.int_ok X G (fact_in c.1 (m3 (List.mem_map_of_mem hp))), fun p hp => He.str_ok X G (fact_in c.1 (m4 (List.mem_map_of_mem hp))), fun p hp => ⟨_, He.glo_ok X G (fact_in c.1 (m5 (List.mem_map_of_mem hp))), fun {S} B F => ?_⟩⟩
  have e := List.all_eq_true.mp c.2 p hp
  obtain ⟨v, r, hv⟩ := dvB_ok e
  have ev : v = V.ref (He.ga K p.1) := by
    cases v with
    | ref a =>
      have r' : Value.ref (He.ga K p.1) = Value.ref a := r
      cases r'
      rfl
    | non => cases r
    | bl b => cases r
    | int i => obtain ⟨_, r⟩ := r; cases r
    | str i => obtain ⟨_, r⟩ := r; cases r
    | byt i => obtain ⟨_, r⟩ := r; cases r
    | flt i => obtain ⟨_, r⟩ := r; cases r
    | ty n => cases r
  rw [← ev]
  exact hv B F
section
variable {X : Cx} {S : Type} {B : Amb S} {pos : Pos} {x : Str}
theorem d_gint {i : Int} (h : ∃ t, X.mg x = some (.int i t)) (hg : Gl X x := by rfl) (hd : (x == ("__debug__" : Str)) = false := by decide) : PE X (.Name x pos) (tD X.K B (mC (.int i))) := by
  obtain ⟨t, h⟩ := h
  exact d_c (pe_glob (v := .int i) hg h ⟨t, rfl⟩ hd) fun _ => rfl
theorem d_gstr {i : Str} (h : ∃ t, X.mg x = some (.str i t)) (hg : Gl X x := by rfl) (hd : (x == ("__debug__" : Str)) = false := by decide) : PE X (.Name x pos) (tD X.K B (mC (.str i))) := by
  obtain ⟨t, h⟩ := h
  exact d_c (pe_glob (v := .str i) hg h ⟨t, rfl⟩ hd) fun _ => rfl
theorem d_gtup {d : D} (h : ∃ a, X.mg x = some (.ref a) ∧ ∀ {S : Type} (B : Amb S) (F : Hp), Dv X.K B F d (.ref a)) (hg : Gl X x := by rfl) (hd : (x == ("__debug__" : Str)) = false := by decide) : PE X (.Name x pos) (tD X.K B (mC d)) := by
  obtain ⟨a, h, hq⟩ := h
  exact d_c (pe_glob (v := .ref a) hg h rfl hd) fun F => hq B F
end
/-! constants, small words -/
section
variable {X : Cx} {S : Type} {B : Amb S} {pos : Pos} {a b : Expr} {ma mb : ME S} {ml : ML S} {es : List Expr}
theorem d_int {i : Int} {j} : PE X (.Constant (.int i) j pos) (tD X.K B (mC (.int i))) := d_c pe_int fun _ => rfl
theorem d_bl {i : Bool} {j} : PE X (.Constant (.bool i) j pos) (tD X.K B (mC (.bl i))) := d_c pe_bl fun _ => rfl
theorem d_non {j} : PE X (.Constant .none j pos) (tD X.K B (mC .non)) := d_c pe_non fun _ => rfl
theorem d_str {i : Str} {j} : PE X (.Constant (.str i) j pos) (tD X.K B (mC (.str i))) := d_c pe_str fun _ => rfl
theorem d_dct0 : PE X (.Dict [] [] pos) (tD X.K B (mC (.dct [] []))) := pe_w pe_dnewK fun σ H Q ⟨env, F, s, d, s', E, o, hm, hq⟩ => by
  cases hm
  exact fun p hp => hq _ _ _ (Ev.new o _ hp) ⟨p, [], rfl, upd_same, rfl, rfl⟩
end
end Dl

set_option Elab.async false
set_option linter.all false
set_option maxRecDepth 100000
set_option maxHeartbeats 4000000
/-! D9: the hand of five places; further rules. -/
namespace Dl
open PySem
open L2
/-- [cells, the next one's place, what is left of a great one, the seed, the turn] -/
structure Hand where
  cells : List Int
  pos : Nat
  great : Int
  seed : Int
  turn : Int
def handL (c : Addr) (h : Hand) : List V := [.ref c, .int h.pos, .int h.great, .int h.seed, .int h.turn]
def HandB (p c : Addr) : Amb Hand where
  at' := fun h H => p ≠ c ∧ H p = some (.lst (handL c h)) ∧ H c = some (.lst (h.cells.map V.int))
  own := fun q => q = p ∨ q = c
  hA := p
  there := fun s H q h ho => by
    rcases ho with e | e
    · subst e; rw [h.2.1]; exact fun z => nomatch z
    · subst e; rw [h.2.2]; exact fun z => nomatch z
  stay := fun s H H' h k => ⟨h.1, k p _ (.inl rfl) h.2.1, k c _ (.inr rfl) h.2.2⟩
end Dl

set_option Elab.async false
set_option linter.all false
set_option maxRecDepth 100000
set_option maxHeartbeats 4000000
/-! D10: a tuple turned about. -/
namespace Dl
open PySem
open L2
open PyProof.Rows
theorem rev_places (n : Nat) : Builtin.Slice.slicePlaces ((n : Int) - 1) (-1) (-1) = n := by
  unfold Builtin.Slice.slicePlaces
  have h1 : ¬ ((-1 : Int) > 0) := by decide
  by_cases h : n = 0
  · subst h; rfl
  · have h2 : (n : Int) - 1 > -1 := by omega
    simp only [h1, if_false, h2, if_true]
    rw [show (- -1 : Int) = 1 by decide, Int.ediv_one]
    omega
theorem rev_adjust (n : Nat) : Builtin.Slice.sliceAdjust none none (-1) (n : Int) = ((n : Int) - 1, -1) := by
  unfold Builtin.Slice.sliceAdjust
  have h1 : (-1 : Int) < 0 := by decide
  simp only [h1, if_true]
section
variable {prog : Program} {w : World} {A : Around} {E : Value → Shared → Prop} {s : Shared}
theorem rev_applied {sl : Addr} {n : Nat} {t : Tok} {Q : Int × Int × Nat → Shared → Prop} (hs : s.heap.IsSliceOf sl .none .none (.int (-1) t)) (h : Q ((n : Int) - 1, -1, n) s) :
    wpAny (model prog w) A (Builtin.Slice.sliceApplied (.ref sl) (pure (n : Int))) Q E s := by
  obtain ⟨os, hos, hcs, hds⟩ := id hs
  unfold Builtin.Slice.sliceApplied Builtin.Slice.sliceFields
  refine wpAny_bind (wpAny_bind (wpAny_field hos hds (x := .none) rfl (wpAny_bind (wpAny_field hos hds (x := .none) rfl (wpAny_bind (wpAny_field hos hds (x := .int (-1) t) rfl (wpAny_pure ?_)))))))
  refine wpAny_bind (HT.slicePart_ (.int (-1) t) ?_)
  show wpAny _ _ (if ((-1 : Int) == 0) = true then _ else _) _ _ s
  rw [if_neg (by decide)]
  refine wpAny_bind (HT.slicePart_ .none (wpAny_bind (HT.slicePart_ .none (wpAny_bind (wpAny_pure ?_)))))
  show wpAny _ _ (match Builtin.Slice.sliceAdjust none none (-1) (n : Int) with | (lo, hi) => pure (lo, (-1 : Int), Builtin.Slice.slicePlaces lo hi (-1))) _ _ s
  rw [rev_adjust]
  show wpAny _ _ (pure ((n : Int) - 1, (-1 : Int), Builtin.Slice.slicePlaces ((n : Int) - 1) (-1) (-1))) _ _ s
  rw [rev_places]
  exact wpAny_pure h
theorem rev_pick (xs : Array Value) : ((List.range xs.size).filterMap fun (m : Nat) => xs[((xs.size : Int) - 1 + (m : Int) * (-1)).toNat]?).toArray = xs.toList.reverse.toArray := by
  have h := PySem.W.krv_pick xs
  unfold slicePick at h
  rw [PySem.W.krv_bounds] at h
  have h2 : ((sliceRange ((xs.size : Int) - 1) (-1) (-1)).filterMap (xs[·]?)).toArray = xs.toList.reverse.toArray := h
  rw [PySem.W.krv_sliceRange, List.filterMap_map] at h2
  rw [← h2]
  have e : (fun (m : Nat) => xs[((xs.size : Int) - 1 + (m : Int) * (-1)).toNat]?) = ((fun x => xs[x]?) ∘ fun k => xs.size - 1 - k) := by
    funext m
    show xs[((xs.size : Int) - 1 + (m : Int) * (-1)).toNat]? = xs[xs.size - 1 - m]?
    have e1 : ((xs.size : Int) - 1 + (m : Int) * (-1)).toNat = xs.size - 1 - m := by omega
    rw [e1]
  rw [e]
theorem getItem_tuple_rev {t sl : Addr} {items : Array Value} {tk : Tok} {Q : Value → Shared → Prop} (ht : IsTup s.heap t items) (hs : s.heap.IsSliceOf sl .none .none (.int (-1) tk))
    (h : Q (.ref s.heap.objs.size) { s with heap := s.heap.push { cls := .type "tuple", data := .seq items.toList.reverse.toArray } }) (hsz : items.size ≤ sizeLine) : wpAny (model prog w) A (getItem (.ref t) (.ref sl)) Q E s := by
  have hok : sizeOk (.seq items.toList.reverse.toArray) := by
    show items.toList.reverse.toArray.size ≤ sizeLine
    rw [List.size_toArray, List.length_reverse, Array.length_toList]
    exact hsz
  obtain ⟨os, hos, hcs, hds⟩ := id hs
  have hTs : s.TypeIs (.ref sl) "slice" := ⟨os, hos, hcs⟩
  unfold getItem
  try with_reducible refine wpAny_holding ?_
  first
    | refine wpAny_bind (wpAny_pure ?_)
    | skip
  refine wpAny_bind (wpAny_sequenceKey ht.typeIs (by decide) ?_)
  refine wpAny_bind (wpAny_callSpecial?_slot (name := Str.ofString "__getitem__") ht.typeIs PyProof.Rows.slot_tuple_getitem (wpAny_call_entry PyProof.Rows.slot_tuple_getitem ht.typeIs entry_tuple_getitem ?_
    (args_tuple_getitem _ _)))
  show wpAny _ _ (Builtin.Tuple.tupleItemsOf (.ref t) >>= _) _ _ s
  refine wpAny_bind (tupleItemsOf_ ht ?_)
  refine wpAny_bind (wpAny_typeOf hTs ?_)
  rw [if_pos (by decide)]
  refine wpAny_bind (rev_applied hs ?_)
  have hno : ¬ ((((items.size : Int) - 1) == 0 && (-1 : Int) == 1 && items.size == items.size) = true) := by
    intro q
    rw [Bool.and_eq_true, Bool.and_eq_true] at q
    exact absurd q.1.2 (by decide)
  show wpAny _ _ (if (((items.size : Int) - 1) == 0 && (-1 : Int) == 1 && items.size == items.size) = true then _ else _) _ _ s
  rw [if_neg hno, rev_pick]
  first
    | exact wpAny_bind (m := Builtin.Tuple.tupleExact _) (wpAny_newObj_type (wpAny_pure ⟨_, rfl, wpAny_pure h⟩) hok)
    | exact wpAny_bind (m := Builtin.Tuple.tupleExact _) (wpAny_newObj_type (wpAny_bind (wpAny_pure (wpAny_pure ⟨_, rfl, wpAny_pure h⟩))) hok)
end
def tRevT (K : PySem.W.Frag) (te : TE) : TE := fun σ H Q => te σ H fun x H1 => ∃ a xs, x = .ref a ∧ SqT K H1 a xs ∧ ∀ p, H1 p = none → Q (.ref p) (upd H1 p (.tup xs.reverse))
section
variable {X : Cx}
theorem pe_revT {e : Expr} {te : TE} {k : Nat} {p1 p2 p3 pos : Pos} (he : PE X e te) : PE X (.Subscript e (.Slice none none (some (.UnaryOp .USub (.Constant (.int 1) k p1) p2)) p3) pos) (tRevT X.K te) := by
  refine ⟨fun pins s σ H Q I h => ?_⟩
  refine Subscript_ (thn (he.run pins s σ H _ I h) fun v s1 ⟨x, H1, I1, r1, q1⟩ => ?_)
  obtain ⟨a, xs, ex, hx, q⟩ := q1
  subst ex
  cases r1
  have hst : PO X (some (.UnaryOp .USub (.Constant (.int 1) k p1) p2)) (tPart (tUn (rU fun i => .int (-i)) (tC (.int 1)))) := po_some (pe_un un_neg pe_int)
  have hno : PO X none tNoPart := po_none
  refine wpAny_Slice (thn (hno.run pins s1 σ H1 (fun o H2 => o = none ∧ H2 = H1) I1 ⟨rfl, rfl⟩) fun vl s2 ⟨l, H2, I2, pl, el, e2⟩ => ?_)
  subst el e2
  refine thn (hno.run pins s2 σ H2 (fun o H3 => o = none ∧ H3 = H2) I2 ⟨rfl, rfl⟩) fun vu s3 ⟨u, H3, I3, pu, eu, e3⟩ => ?_
  subst eu e3
  refine thn (hst.run pins s3 σ H3 (fun o H4 => o = some (-1) ∧ H4 = H3) I3 ⟨1, rfl, -1, rfl, rfl, rfl⟩) fun vs s4 ⟨o, H4, I4, ps, eo, e4⟩ => ?_
  subst eo e4
  cases pl
  cases pu
  cases ps with
  | int i tk =>
    have I5 : Inv X pins σ H4 { s4 with heap := s4.heap.push { cls := .type "slice", data := .fields #[.none, .none, .int (-1) tk] } } := I4.kept (t' := s4.toks) fun b ob q => Heap.get?_push_of_some _ q
    obtain ⟨its, r, ht, hz⟩ := I5.tuple hx
    have hlen := r.length
    show wpAny (model X.prog X.w) X.A (subscriptTail e (.Slice none none (some (.UnaryOp .USub (.Constant (.int 1) k p1) p2)) p3) (.ref a) (.ref s4.heap.objs.size)) (EP X pins σ Q) X.xe
      { s4 with heap := s4.heap.push { cls := .type "slice", data := .fields #[.none, .none, .int (-1) tk] } }
    refine tail_any (ops := [.ref a, .ref s4.heap.objs.size]) ht.typeIs (PyProof.Rows.slot_tuple_getitem.lookup) ?_ (by with_unfolding_all rfl)
    refine getItem_tuple_rev ht (Heap.IsSliceOf.new _ .none .none (.int (-1) tk)) ?_ (by rw [List.size_toArray]; omega)
    refine ⟨.ref _, _, I5.laid (t' := s4.toks) (o := .tup xs.reverse) (fun b ob q => Heap.get?_push_of_some _ q) (Nat.le_refl _) ?_, rfl, q _ (I5.hok.fresh (Nat.le_refl _))⟩
    exact ⟨by rw [List.length_reverse]; exact hz, its.reverse, r.reverse, ⟨_, Heap.get?_push_size _ rfl, rfl, 0, by simp⟩⟩
end
def revT : D → Option D
  | .tup ds => some (.tup ds.reverse)
  | _ => none
section
variable {X : Cx} {S : Type} {B : Amb S} {ma : ME S}
theorem d_revT {e : Expr} {k : Nat} {p1 p2 p3 pos : Pos} (he : PE X e (tD X.K B ma)) : PE X (.Subscript e (.Slice none none (some (.UnaryOp .USub (.Constant (.int 1) k p1) p2)) p3) pos) (tD X.K B (mU revT ma)) :=
  pe_w (pe_revT he) fun σ H Q ⟨env, F, s, d, s', E, o, hm, hq⟩ => by
    obtain ⟨x, e1, e2⟩ := un_un hm
    cases x with
    | tup ds =>
      cases e2
      refine ⟨env, F, s, .tup ds, s', E, o, e1, fun v F1 H1 v1 hx => ?_⟩
      obtain ⟨a, vs, ea, h2, h3⟩ := hx
      exact ⟨a, vs, ea, sqT_ext v1.ok.sub h2, fun p hp => hq _ _ _ (v1.trans (Ev.new v1.ok _ hp)) (new_tup v1.ok hp h3.rev)⟩
    | _ => cases e2
end
end Dl

set_option Elab.async false
set_option linter.all false
set_option maxRecDepth 100000
set_option maxHeartbeats 4000000
/-! D11: enumerate over a tuple, over a list. -/
namespace Dl
open PySem
open L2
open AutoSeq1 (wpAny_loadPart')
theorem meets_enumT (l : Addr) (items : Array Value) (n : Nat) (dct : Option Addr) (sl : Array (Option Value)) :
    Meets (Builtin.«enumerate.__new__» ⟨[.type "enumerate", .ref l], []⟩) (fun _ R s => s.heap.get? l = some { cls := .type "tuple", dict := dct, data := .seq items n, slots := sl } ∧
      R (.ok (.ret (.ref (s.heap.push { cls := .type "tuple_iterator", data := .fields #[.ref l, .int 0 0] }).objs.size)))
        { s with heap := (s.heap.push { cls := .type "tuple_iterator", data := .fields #[.ref l, .int 0 0] }).push { cls := .type "enumerate", data := .fields #[.none, .bool false, .ref s.heap.objs.size, rawInt 0, .none, .none] } }) :=
  .of_wp fun prog w A R s h => by
    obtain ⟨hp, g, d, tk, os⟩ := s
    obtain ⟨hl, h⟩ := h
    have hsub := sub_enumerate
    have hL : Heap.IsTuple (Shared.heap ⟨hp, g, d, tk, os⟩) l items := ⟨_, hl, rfl, n, rfl⟩
    wp_walk using wpAny_loadPart' hl
    refine wpAny_stack_any fun st => wpAny_pure ?_
    split
    · rename_i c _ _ _ _ _
      cases (c == Value.type "enumerate")
      · wp_walk using wpAny_loadPart' hl, wpAny_pyIter_tuple hL
        exact ⟨_, rfl, h⟩
      · wp_walk using wpAny_loadPart' hl, wpAny_pyIter_tuple hL
        exact ⟨_, rfl, h⟩
    · wp_walk using wpAny_loadPart' hl, wpAny_pyIter_tuple hL
      exact ⟨_, rfl, h⟩
theorem call_enumT {prog : Program} {w : World} {A : Around} {E : Value → Shared → Prop} {s : Shared} {l : Addr} {items : Array Value} {Q : Value → Shared → Prop} (hL : PyProof.Rows.IsTup s.heap l items)
    (h : ∀ h', IsEnum h' (s.heap.objs.size + 1) s.heap.objs.size 0 .none → h'.IsTupleIter s.heap.objs.size l 0 → (∀ b o, s.heap.get? b = some o → h'.get? b = some o) → Q (.ref (s.heap.objs.size + 1)) { s with heap := h' }) :
    wpAny (model prog w) A (call (.type "enumerate") [.ref l]) Q E s := by
  obtain ⟨⟨c, dct, dt, sl⟩, hl, hc, n, hd⟩ := hL
  have hc' : c = .type "tuple" := hc
  have hd' : dt = .seq items n := hd
  subst hc' hd'
  refine callType_new F.called_enumerate (by decide) (F.typeCall_enumerate_1 _) (F.newCall_enumerate_1 _) (fun obj => F.args_object_init_2 obj _) F.entry_enumerate_new (meets_enumT l items n dct sl) ⟨hl, ?_⟩
  have hz : (s.heap.push { cls := .type "tuple_iterator", data := .fields #[.ref l, .int 0 0] }).objs.size = s.heap.objs.size + 1 := Heap.size_push ..
  show _ ∧ _
  rw [hz]
  have he : IsEnum ((s.heap.push { cls := .type "tuple_iterator", data := .fields #[.ref l, .int 0 0] }).push { cls := .type "enumerate", data := .fields #[.none, .bool false, .ref s.heap.objs.size, rawInt 0, .none, .none] }) (s.heap.objs.size + 1) s.heap.objs.size 0 .none := by
    have z := Heap.get?_push_size (s.heap.push { cls := .type "tuple_iterator", data := .fields #[.ref l, .int 0 0] }) (o := { cls := .type "enumerate", data := .fields #[.none, .bool false, .ref s.heap.objs.size, rawInt 0, .none, .none] }) rfl
    rw [hz] at z
    exact z
  exact ⟨⟨_, he, rfl⟩, h _ he ⟨_, Heap.get?_push_of_some _ (Heap.get?_push_size _ rfl), rfl, rfl⟩ fun b o x => Heap.get?_push_of_some _ (Heap.get?_push_of_some _ x)⟩
/-- (i, the i-th item) of the tuple at a -/
def IteT (K : PySem.W.Frag) (a : Addr) : It :=
  ⟨fun i H => ∃ (xs : List V) (x : V), SqT K H a xs ∧ xs[i]? = some x, fun i H v H' => ∃ T x, v = .ref T ∧ H T = none ∧ H' = upd H T (.tup [.int (i : Nat), x]) ∧ ∀ xs, SqT K H a xs → xs[i]? = some x, fun i H => ∃ xs : List V, SqT K H a xs ∧ xs.length ≤ i⟩
theorem turn_enumT {P : Program} {w : World} {K : PySem.W.Frag} {elts : List Expr} {kk : Nat} {tpos : Pos} (a e it : Addr) :
    Turn P w K (.Tuple elts kk tpos) (IteT K a) [e, it] e (fun i h => (∃ old, IsEnum h e it ((i : Nat) : Int) old) ∧ h.IsTupleIter it a i ∧ e ≠ it) where
  mem := by simp
  obj := fun i h st b hb => by
    obtain ⟨⟨old, he⟩, ⟨o, ho, hc, hd⟩, _⟩ := st
    have e' : b = e ∨ b = it := by simpa using hb
    rcases e' with z | z
    · rw [z]
      exact ⟨_, he, fun v q => nomatch q⟩
    · rw [z]
      exact ⟨o, ho, fun v q => by rw [hd] at q; cases q⟩
  keep := fun i h h' st k => by
    obtain ⟨⟨old, he⟩, hi, hne⟩ := st
    exact ⟨⟨old, k e (by simp) _ he⟩, hi.at fun o q => k it (by simp) o q, hne⟩
  item := by
    intro X hP hw hK hc i pins s σ H E I hf st hg
    subst hP hw hK
    obtain ⟨⟨old, he⟩, hit, hne⟩ := st
    obtain ⟨xs, x, hq, hx⟩ := hg
    obtain ⟨its, rv, tp, hz⟩ := I.tuple hq
    obtain ⟨u, hu, ru⟩ := rv.get hx
    have hel : e < s.heap.objs.size := Heap.lt_size he
    have hil : it < s.heap.objs.size := by
      obtain ⟨_, q, _⟩ := hit
      exact Heap.lt_size q
    have hai : a ≠ it := by
      rintro rfl
      obtain ⟨o1, h1, c1, _⟩ := tp
      obtain ⟨o2, h2, c2, _⟩ := hit
      rw [h1] at h2
      cases h2
      rw [c1] at c2
      exact absurd c2 (by decide)
    have hae : a ≠ e := by
      rintro rfl
      obtain ⟨o1, h1, c1, _⟩ := tp
      rw [show s.heap.get? a = _ from he] at h1
      cases h1
      exact absurd (show Value.type "enumerate" = Value.type "tuple" from c1) (by decide)
    have hef : e ∉ [it, a] := by
      intro z
      rcases List.mem_cons.mp z with z | z
      · exact hne z
      · exact hae (List.mem_singleton.mp z).symm
    have hsz : i < its.toArray.size := by
      have q := (List.getElem?_eq_some_iff.mp hu).1
      simpa using q
    refine wpAny_pyNext_enum_itemD (Draws.tuple (A := X.A.in1) (I.ok.hd hc) it a hai its.toArray) he ⟨hit, tp⟩ hsz hne hef fun y h' tk hy ho hit' hT hsz' hk => ?_
    have ey : y = u := by
      have q : its.toArray[i]? = some y := hy
      have q2 : its.toArray[i]? = some u := by simpa using hu
      rw [q2] at q
      exact (Option.some.inj q).symm
    subst ey
    refine ⟨_, rfl, wpAny_letOwnedTupleGo_enum (s := { s with heap := h', toks := tk + 1 }) ho fun h'' he' sb => ?_⟩
    have hT2 : h''.get? s.heap.objs.size = some { cls := .type "tuple", data := .seq #[.int i tk, y] } := (sb.2 _ (Nat.ne_of_gt hel)).trans hT
    have new : ObjOk X.prog X.w (upd H s.heap.objs.size (.tup [.int (i : Nat), x])) h'' s.heap.objs.size (.tup [.int (i : Nat), x]) :=
      ⟨by show 2 ≤ sizeLine; decide, [.int i tk, y], .cons ⟨_, rfl⟩ (.cons ru .nil), ⟨_, hT2, rfl, _, rfl⟩⟩
    have I1 : Inv X pins σ (upd H s.heap.objs.size (.tup [.int (i : Nat), x])) { s with heap := h'', toks := tk + 1 } :=
      I.turnedNew (ch := [e, it]) (fun b ob hb q => (sb.2 b (fun z => hb (by simp [z]))).trans (hk b ob (fun z => hb (by simp [z])) (fun z => hb (by simp [z])) q)) hf (Nat.le_refl _) new
    refine ⟨.ref s.heap.objs.size, _, I1, rfl, ⟨_, x, rfl, I.hok.fresh (Nat.le_refl _), rfl, fun ys hy => by rw [I.tuple_inj hy hq]; exact hx⟩, ⟨⟨y, ?_⟩, hit'.1.at fun o q => (sb.2 it (Ne.symm hne)).trans q, hne⟩, fun b hb => ?_⟩
    · have e1 : ((i + 1 : Nat) : Int) = (i : Int) + 1 := by omega
      rw [e1]
      exact he'
    · have hb' : b < s.heap.objs.size := by
        have e' : b = e ∨ b = it := by simpa using hb
        rcases e' with z | z
        · rw [z]; exact hel
        · rw [z]; exact hil
      rw [upd_ne (Nat.ne_of_lt hb')]
      exact (hf b hb).1
  done := by
    intro X hP hw hK hc i pins s σ H E I hf st hg
    subst hP hw hK
    obtain ⟨⟨old, he⟩, hit, hne⟩ := st
    obtain ⟨xs, hq, hx⟩ := hg
    obtain ⟨its, rv, tp, hz⟩ := I.tuple hq
    obtain ⟨f0, f1, f2, f3, f4, f5⟩ := hf it (by simp)
    have hl := rv.length
    have hT : s.TypeIs (.ref e) "enumerate" := ⟨_, he, rfl⟩
    unfold pyNext
    refine wpAny_bind (wpAny_attempt (wpAny_callSpecial?_slot (name := Str.ofString "__next__") hT F.slot_enumerate_next (wpAny_call_entry F.slot_enumerate_next hT F.entry_enumerate_next ?_ (F.args_enumerate_next_1 _))))
    show wpAny _ _ (field (.ref e) 2 >>= _) _ _ _
    refine wpAny_bind (wpAny_field he rfl (x := .ref it) rfl ?_)
    refine wpAny_bind (wpAny_nextOf_tuple_end (I.ok.hd hc) hit tp (by simp; omega) fun h' x he' hx' => ?_)
    obtain ⟨o, ho, hc'⟩ := hx'
    refine wpAny_bind (wpAny_isInstance (T := "StopIteration") (b := true) ⟨o, ho, hc'⟩ isSubtype_stop ?_)
    exact wpAny_pure ⟨rfl, I.turned (t' := s.toks) (fun b o hb q => he' b o hb q) f0 f1 f3 f4 f5⟩
  self := fun A i s Q E st h => let ⟨⟨_, he⟩, _⟩ := st; wpAny_pyIter_enum he h
def iEnumT (K : PySem.W.Frag) (ta : TA) : TI := fun σ H R => ta σ H fun vs H1 => ∃ a xs, vs = [.ref a] ∧ SqT K H1 a xs ∧ R (IteT K a) H1
theorem pi_enumT {X : Cx} {e : Expr} {ta : TA} {p pos tpos : Pos} {elts : List Expr} {kk : Nat} (hg : Gl X "enumerate") (hm : X.mg "enumerate" = none) (ha : PA X [e] ta) (hs1 : starEach [e] X.env = [(false, eval e X.env)] := by rfl) :
    PI X (.Tuple elts kk tpos) (.Call (.Name "enumerate" p) [e] [] pos) (iEnumT X.K ta) := by
  refine ⟨fun pins s σ H R I h => ?_⟩
  refine PyProof.Rows.Call_ (ld_blt I hg hm PyProof.Rows.boot_enumerate (PyProof.Rows.callWith_type1 (thn (ha.run pos pins s σ H _ I h) fun us s1 ⟨vs, H1, I1, r1, q1⟩ => ?_) hs1 rfl))
  obtain ⟨a, xs, ex, hq, q⟩ := q1
  subst ex
  obtain ⟨u, rfl, ru⟩ := vals1 r1
  cases ru
  obtain ⟨its, rv, tp, hz⟩ := I1.tuple hq
  refine call_enumT tp fun h' he' hit hk => wpAny_pyIter_enum he' ?_
  have I2 : Inv X pins σ H1 { s1 with heap := h' } := I1.kept (t' := s1.toks) hk
  refine ⟨s1.heap.objs.size + 1, [s1.heap.objs.size + 1, s1.heap.objs.size], _, _, H1, rfl, I2, turn_enumT a (s1.heap.objs.size + 1) s1.heap.objs.size, ⟨⟨.none, he'⟩, hit, Nat.succ_ne_self _⟩, fun b hb => ?_, q⟩
  have hle : s1.heap.objs.size ≤ b := by
    rcases List.mem_cons.mp hb with z | z
    · rw [z]
      exact Nat.le_add_right _ _
    · rw [List.mem_singleton.mp z]
      exact Nat.le_refl _
  exact I1.fpOk hle (I1.hok.fresh hle)
/-! over data -/
def enuOf : Nat → List D → List D
  | _, [] => []
  | n, d :: ds => .tup [.int n, d] :: enuOf (n + 1) ds
theorem enuOf_len : ∀ (n : Nat) (ds : List D), (enuOf n ds).length = ds.length
  | _, [] => rfl
  | n, d :: ds => by
    show (enuOf (n + 1) ds).length + 1 = ds.length + 1
    rw [enuOf_len]
theorem enuOf_get : ∀ (n : Nat) (ds : List D) (i : Nat) (d : D), (enuOf n ds)[i]? = some d → ∃ x, ds[i]? = some x ∧ d = .tup [.int ((n + i : Nat) : Int), x]
  | _, [], i, d, h => by simp [enuOf] at h
  | n, y :: ds, 0, d, h => by
    simp [enuOf] at h
    exact ⟨y, by simp, by rw [← h]; rfl⟩
  | n, y :: ds, i + 1, d, h => by
    have h' : (enuOf (n + 1) ds)[i]? = some d := by simpa [enuOf] using h
    obtain ⟨x, h1, h2⟩ := enuOf_get (n + 1) ds i d h'
    refine ⟨x, by simpa using h1, ?_⟩
    rw [h2]
    have e : n + 1 + i = n + (i + 1) := by omega
    rw [e]
def enuT : D → Option (List D)
  | .tup ds => some (enuOf 0 ds)
  | _ => none
def enuL : D → Option (List D)
  | .lst ds => some (enuOf 0 ds)
  | _ => none
section
variable {X : Cx} {S : Type} {B : Amb S} {a : Expr} {ma : ME S} {elts : List Expr} {kk : Nat} {tpos pos p : Pos}
theorem enu_item {K : PySem.W.Frag} {F H : Hp} {s : S} {T : Addr} {i : Nat} {x : V} {d y : D} {ds : List D} (o : Ok B F H s) (hT : H T = none) (hy : (enuOf 0 ds)[i]? = some y) (hd : ds[i]? = some d) (hx : Dv K B F d x) :
    ∃ F', Ev B F H F' (upd H T (.tup [.int (i : Nat), x])) s ∧ Dv K B F' y (.ref T) := by
  obtain ⟨d', h1, h2⟩ := enuOf_get 0 ds i y hy
  rw [hd] at h1
  cases h1
  subst h2
  refine ⟨_, Ev.new o _ hT, new_tup o hT ⟨_, _, rfl, ?_, DvL.one hx⟩⟩
  show V.int _ = V.int _
  rw [Nat.zero_add]
theorem i_enuT (hm : X.mg "enumerate" = none) (ha : PE X a (tD X.K B ma)) (hg : Gl X "enumerate" := by rfl) (hs1 : starEach [a] X.env = (false, eval a X.env) :: starEach [] X.env := by rfl) (hs2 : starEach [a] X.env = [(false, eval a X.env)] := by rfl) :
    PI X (.Tuple elts kk tpos) (.Call (.Name "enumerate" p) [a] [] pos) (tI X.K B (mIt enuT ma)) := pi_w (pi_bd (pi_enumT hg hm (pa_cons ha pa_nil hs1) hs2)) fun σ H R ⟨env, F, s, xs, s', E, o, hm, hq⟩ => by
  obtain ⟨x, e1, e2⟩ := it_un hm
  cases x with
  | tup ds =>
    cases e2
    refine ⟨env, F, s, .tup ds, s', E, o, e1, fun v F1 H1 v1 hx => ?_⟩
    obtain ⟨a, vs, ea, h2, h3⟩ := hx
    subst ea
    refine ⟨a, vs, rfl, sqT_ext v1.ok.sub h2, fun b1 b2 => hq _ F1 H1 v1 ⟨fun i F2 H2 s2 h4 o2 hi => ?_, fun i F2 H2 s2 y H3 d h4 o2 hy hd => ?_, fun i F2 H2 s2 h4 o2 hi => ?_⟩ (by rw [enuOf_len, ← h3.len]; exact b1 a vs (sqT_ext v1.ok.sub h2))⟩
    · rw [enuOf_len] at hi
      have hi' : i < vs.length := by rw [h3.len]; exact hi
      exact ⟨vs, vs[i], sqT_ext (h4.trans o2.sub) h2, by simp [hi']⟩
    · obtain ⟨T, z, e, hT, eH, q⟩ := hy
      subst e eH
      obtain ⟨d', hd', hv⟩ := h3.getV (q vs (sqT_ext (h4.trans o2.sub) h2))
      exact enu_item o2 hT hd hd' (hv.ext h4)
    · rw [enuOf_len] at hi
      exact ⟨vs, sqT_ext (h4.trans o2.sub) h2, by rw [h3.len]; exact hi⟩
  | _ => cases e2
theorem i_enuL (hm : X.mg "enumerate" = none) (ha : PE X a (tD X.K B ma)) (hg : Gl X "enumerate" := by rfl) (hs1 : starEach [a] X.env = (false, eval a X.env) :: starEach [] X.env := by rfl) (hs2 : starEach [a] X.env = [(false, eval a X.env)] := by rfl) :
    PI X (.Tuple elts kk tpos) (.Call (.Name "enumerate" p) [a] [] pos) (tI X.K B (mIt enuL ma)) := pi_w (pi_bd (pi_enum hg hm (pa_cons ha pa_nil hs1) hs2)) fun σ H R ⟨env, F, s, xs, s', E, o, hm, hq⟩ => by
  obtain ⟨x, e1, e2⟩ := it_un hm
  cases x with
  | lst ds =>
    cases e2
    refine ⟨env, F, s, .lst ds, s', E, o, e1, fun v F1 H1 v1 hx => ?_⟩
    obtain ⟨a, vs, ea, h2, h3⟩ := hx
    subst ea
    refine ⟨a, vs, rfl, SqL.of (v1.ok.sub a _ h2), fun b1 b2 => hq _ F1 H1 v1 ⟨fun i F2 H2 s2 h4 o2 hi => ?_, fun i F2 H2 s2 y H3 d h4 o2 hy hd => ?_, fun i F2 H2 s2 h4 o2 hi => ?_⟩ (by rw [enuOf_len, ← h3.len]; exact b2 a vs (SqL.of (v1.ok.sub a _ h2)))⟩
    · rw [enuOf_len] at hi
      have hi' : i < vs.length := by rw [h3.len]; exact hi
      exact ⟨vs, vs[i], SqL.of (o2.sub a _ (h4 a _ h2)), by simp [hi']⟩
    · obtain ⟨T, z, e, hT, eH, q⟩ := hy
      subst e eH
      obtain ⟨d', hd', hv⟩ := h3.getV (q vs (SqL.of (o2.sub a _ (h4 a _ h2))))
      exact enu_item o2 hT hd hd' (hv.ext h4)
    · rw [enuOf_len] at hi
      exact ⟨vs, SqL.of (o2.sub a _ (h4 a _ h2)), by rw [h3.len]; exact hi⟩
  | _ => cases e2
end
end Dl

set_option Elab.async false
set_option linter.all false
set_option maxRecDepth 100000
set_option maxHeartbeats 4000000
/-! D12: max, min of two; products; a comprehension given to a name. -/
namespace Dl
open PySem
open L2
theorem max_two_data {prog : Program} {w : World} {A : Around} {E : Value → Shared → Prop} {s : Shared} {a b : Value} {d e : PyData} {as bs : List Addr} {Q : Value → Shared → Prop} (hh : A.handled = none) (ra : Reads s.heap a d as) (rb : Reads s.heap b e bs)
    (ha : PySem.W.AlikeAll [d, e]) (hu : A.units + 1 + PyData.depthAll [d, e] < cLine) (h : ∀ h' tk, (∀ b o, s.heap.get? b = some o → h'.get? b = some o) → Q (if PySem.W.dataLt d e = true then b else a) { s with heap := h', toks := tk }) :
    wpAny (model prog w) A (call (.builtin "max") [a, b]) Q E s := by
  have hname : (toString "max" ++ toString ".loop" : String) = "max.loop" := by decide
  refine call_function_tree F.kind_max F.plain_max F.entry_max (F.args_max2 _ _) ?_
  show wpAny _ A.in1 (Builtin.Builtins.bindParams "max" ["key", "default"] 0 ⟨[], []⟩ >>= _) _ _ s
  refine wpAny_bind (wpAny_of_eq (show Builtin.Builtins.bindParams "max" ["key", "default"] 0 ⟨[], []⟩ = pure [none, none] from rfl) ?_)
  show wpAny _ A.in1 (newTuple [a, b] >>= _) _ _ s
  refine wpAny_bind (wpAny_newObj_type ?_)
  have k1 : ∀ c o, s.heap.get? c = some o → (s.heap.push { cls := .type "tuple", data := .seq #[a, b] }).get? c = some o := fun c o q => Heap.get?_push_of_some _ q
  have hT : (s.heap.push { cls := .type "tuple", data := .seq #[a, b] }).IsTuple s.heap.objs.size #[a, b] := ⟨_, Heap.get?_push_size _ rfl, rfl, 0, rfl⟩
  refine wpAny_bind ?_
  refine PySem.W.iter_tupleW (A := A.in1) (s := { s with heap := s.heap.push { cls := .type "tuple", data := .seq #[a, b] } }) hh hT fun s2 e2 W st hfp hw hk => ?_
  have hr : ReadsAll (s.heap.push { cls := .type "tuple", data := .seq #[a, b] }) (#[a, b] : Array Value).toList [d, e] (as ++ (bs ++ [])) :=
    .cons (PyProof.Rows.Reads.keeps k1 ra) (.cons (PyProof.Rows.Reads.keeps k1 rb) .nil)
  refine wpAny_bind (wpAny_newObj_type ?_)
  rw [hname]
  have hSf : s2.heap.objs.size ∉ [({ s with heap := s.heap.push { cls := .type "tuple", data := .seq #[a, b] } } : Shared).heap.objs.size, s.heap.objs.size] := fun hm => Nat.lt_irrefl _ (hfp _ hm)
  have hcmp := PySem.W.cmpIn_gt (prog := prog) (w := w) (A := A.in1) (s := { s with heap := s.heap.push { cls := .type "tuple", data := .seq #[a, b] } }) hr ha (by show A.units + 1 + _ < _; exact hu)
  refine wpAny_pure ⟨plainId_quiet F.plain_max_loop _, PySem.codeAny_max_loop_firstH W _ hw _ hcmp s2.heap.objs.size hSf (PySem.fresh_in hk) _ (by show 0 < 2; decide) (fun c o q => Heap.get?_push_of_some _ (hk c o q)) (W.frame 0 s2 _ s2.toks st (Nat.le_refl _) fun c _ o q => Heap.get?_push_of_some _ q) (Heap.get?_push_size _ rfl) fun v s' hP hm => ?_⟩
  have hm' := Moved.drop_new (tk := s2.toks) hm (Nat.le_refl _)
  obtain ⟨h', tk, es, hk2⟩ := PySem.W.moved_old e2 rfl hm'
  have z := h h' tk fun c o q => hk2 c o (k1 c o q)
  subst es
  have hv : v = if PySem.W.dataLt d e = true then b else a := by
    have hP' : (#[a, b] : Array Value)[argBest (fun i j => PySem.W.dataLt ([d, e].getD j .none) ([d, e].getD i .none)) 1]? = some v := hP
    cases q : PySem.W.dataLt d e with
    | true =>
      have e3 : argBest (fun i j => PySem.W.dataLt ([d, e].getD j .none) ([d, e].getD i .none)) 1 = 1 := by simp [argBest, q]
      rw [e3] at hP'
      simpa using hP'.symm
    | false =>
      have e3 : argBest (fun i j => PySem.W.dataLt ([d, e].getD j .none) ([d, e].getD i .none)) 1 = 0 := by simp [argBest, q]
      rw [e3] at hP'
      simpa using hP'.symm
  rw [hv]
  exact z
def twoOk (d e : PyData) : Bool := PySem.W.alike d d && PySem.W.alike d e && PySem.W.alike e d && PySem.W.alike e e && !isNone d && !isNone e && decide (PyData.depthAll [d, e] ≤ 62)
theorem twoOk_all {d e : PyData} (h : twoOk d e = true) : PySem.W.AlikeAll [d, e] ∧ PyData.depthAll [d, e] ≤ 62 := by
  unfold twoOk at h
  simp only [Bool.and_eq_true, decide_eq_true_eq, Bool.not_eq_true'] at h
  obtain ⟨⟨⟨⟨⟨⟨h1, h2⟩, h3⟩, h4⟩, h5⟩, h6⟩, h7⟩ := h
  refine ⟨⟨fun x hx y hy => ?_, fun x hx => ?_⟩, h7⟩
  · simp only [List.mem_cons, List.not_mem_nil, or_false] at hx hy
    rcases hx with rfl | rfl <;> rcases hy with rfl | rfl <;> assumption
  · simp only [List.mem_cons, List.not_mem_nil, or_false] at hx
    rcases hx with rfl | rfl
    · exact notNone h5
    · exact notNone h6
def rMaxA (K : PySem.W.Frag) : List V → Hp → VK → Prop := fun vs H Q => ∃ x y d e, vs = [x, y] ∧ Dp K H x d ∧ Dp K H y e ∧ twoOk d e = true ∧ Q (if PySem.W.dataLt d e = true then y else x) H
section
variable {X : Cx} {S : Type} {B : Amb S}
theorem call_maxA (hc : X.calm = true) (hu : X.A.units + 64 < cLine) : CallR X (.builtin "max") (rMaxA X.K) := by
  intro pins s σ H vs us Q I r h
  obtain ⟨x, y, d, e, rfl, hx, hy, ok, q⟩ := h
  obtain ⟨u, u', rfl, rx, ry⟩ := vals2 r
  obtain ⟨as, r1⟩ := Dp.reads I d x u hx rx
  obtain ⟨bs, r2⟩ := Dp.reads I e y u' hy ry
  obtain ⟨ha, hd⟩ := twoOk_all ok
  refine max_two_data (I.ok.hd hc) r1 r2 ha (by omega) fun h' tk k => ⟨_, H, I.kept k, ?_, q⟩
  split
  · exact ry
  · exact rx
def maxD : List D → Option D
  | [x, y] => match toPy x, toPy y with
    | some d, some e => if twoOk d e = true then some (if PySem.W.dataLt d e = true then y else x) else none
    | _, _ => none
  | _ => none
theorem maxD_ok {K : PySem.W.Frag} : CallD K B (rMaxA K) maxD := fun F H s ds dz vs Q o hv hf hq => by
  unfold maxD at hf
  split at hf
  · rename_i x y
    cases e1 : toPy x with
    | none => simp [e1] at hf
    | some d =>
      cases e2 : toPy y with
      | none => simp [e1, e2] at hf
      | some e =>
        simp only [e1, e2] at hf
        split at hf
        · rename_i c
          obtain ⟨v, u, rfl, hx, hy⟩ := two_of hv
          refine ⟨v, u, d, e, rfl, dp_of o.sub e1 hx, dp_of o.sub e2 hy, c, ?_⟩
          cases q : PySem.W.dataLt d e with
          | true =>
            rw [q, if_pos rfl] at hf
            cases hf
            rw [if_pos rfl]
            exact hq _ F H o.refl hy
          | false =>
            rw [q, if_neg Bool.false_ne_true] at hf
            cases hf
            rw [if_neg Bool.false_ne_true]
            exact hq _ F H o.refl hx
        · cases hf
  · cases hf
theorem s_setLc {i : Nat} {y : Str} {py : Pos} {elt tg iter : Expr} {ifs : List Expr} {scope : Scope} {own : List (Str × Nat)} {pos spos : Pos} {src : ML S} {g : TG} {gd : D → DE → Option DE} {is : List Nat} {c : MT S} {e : ME S} (hc : X.calm = true) (hN : X.N.Nodup) (hy : X.N[i]? = some y)
    (hyl : X.env.scope.names.lookup y = some .local) (hsw : swapsWith (.ListComp elt [⟨tg, iter, ifs, 0⟩] scope pos) (some (.Name y py)) spos.line X.env = pure true) (hi : PI X tg iter (tI X.K B src)) (ok : BlkOk X.N X.env.scope scope own)
    (hg : ∀ (s : Shared) (H : Hp) (C : Addr) (cl : List (Str × Addr)) (fp : List Addr), PG (X.blk s H scope (compEnvC scope cl C X.env) fp) tg g) (hgd : GD X.K B is g gd)
    (ht : ∀ (s : Shared) (H : Hp) (C : Addr) (cl : List (Str × Addr)) (fp : List Addr), PTs (X.blk s H scope (compEnvC scope cl C X.env) fp) ifs (tT X.K B c))
    (he : ∀ (s : Shared) (H : Hp) (C : Addr) (cl : List (Str × Addr)) (fp : List Addr), PE (X.blk s H scope (compEnvC scope cl C X.env) fp) elt (tD X.K B e))
    (his : ∀ i ∈ is, i ∈ own.map (·.2) := by decide) (hs : ∀ x, foldedSetIterable iter X.env x = pure x := by intro _; rfl) :
    PS X (.Assign [.Name y py] (.ListComp elt [⟨tg, iter, ifs, 0⟩] scope pos) spos) (tS X.K B (sAsg (gdName i) (mComp src gd c e (own.map (·.2))))) := ps_w (ps_setLc hc hN hy hyl hsw hi ok hg ht he hs) fun Dn σ H h => by
  have h2 := asg_D (g_name i) h
  exact comp_D hgd his h2
end
end Dl

set_option Elab.async false
set_option linter.all false
set_option maxRecDepth 100000
set_option maxHeartbeats 4000000
/-! D13: sorted(set(a list of rows of whole numbers)). -/
namespace Dl
open PySem
open L2
/-- rows of whole numbers in the order of words -/
def ltI : List Int → List Int → Bool
  | [], [] => false
  | [], _ :: _ => true
  | _ :: _, [] => false
  | x :: xs, y :: ys => if x < y then true else if y < x then false else ltI xs ys
def insU (x : List Int) : List (List Int) → List (List Int)
  | [] => [x]
  | y :: ys => if ltI x y then x :: y :: ys else if x = y then y :: ys else y :: insU x ys
def ssetI (l : List (List Int)) : List (List Int) := l.foldr insU []
theorem ltI_irr : ∀ a : List Int, ltI a a = false
  | [] => rfl
  | x :: xs => by
    unfold ltI
    rw [if_neg (by omega), if_neg (by omega)]
    exact ltI_irr xs
theorem ltI_code {b : Int} : ∀ {x y : List Int}, x.length = y.length → TS.Bd b x → TS.Bd b y → (ltI x y = true ↔ TS.code b x < TS.code b y)
  | [], [], _, _, _ => by
    constructor
    · intro h; exact absurd h Bool.false_ne_true
    · intro h; exact absurd h (Int.lt_irrefl _)
  | [], _ :: _, h, _, _ => by cases h
  | _ :: _, [], h, _, _ => by cases h
  | x :: xs, y :: ys, h, hx, hy => by
    have hl : xs.length = ys.length := by simpa using h
    unfold ltI
    by_cases c : x < y
    · rw [if_pos c]
      exact ⟨fun _ => TS.code_lt hl hx.tail hy.tail c, fun _ => rfl⟩
    · rw [if_neg c]
      by_cases k : y < x
      · rw [if_pos k]
        have z := TS.code_lt (B := b) hl.symm hy.tail hx.tail k
        exact ⟨fun h => absurd h Bool.false_ne_true, fun h => absurd (Int.lt_trans h z) (Int.lt_irrefl _)⟩
      · rw [if_neg k]
        have e : x = y := by omega
        subst e
        exact (ltI_code hl hx.tail hy.tail).trans (TS.code_same hl).symm
theorem ltI_tri : ∀ {x y : List Int}, ltI x y = false → x ≠ y → ltI y x = true
  | [], [], _, h => absurd rfl h
  | [], _ :: _, h, _ => by cases h
  | _ :: _, [], _, _ => rfl
  | x :: xs, y :: ys, h, hn => by
    unfold ltI at h ⊢
    by_cases c : x < y
    · rw [if_pos c] at h; cases h
    · rw [if_neg c] at h
      by_cases k : y < x
      · rw [if_pos k]
      · rw [if_neg k] at h ⊢
        have e : x = y := by omega
        subst e
        rw [if_neg k]
        exact ltI_tri h fun z => hn (by rw [z])
theorem ltI_asym : ∀ {x y : List Int}, ltI x y = true → ltI y x = false
  | [], [], h => by cases h
  | [], _ :: _, _ => rfl
  | _ :: _, [], h => by cases h
  | x :: xs, y :: ys, h => by
    unfold ltI at h ⊢
    by_cases c : x < y
    · rw [if_neg (by omega), if_pos c]
    · rw [if_neg c] at h
      by_cases k : y < x
      · rw [if_pos k] at h; cases h
      · rw [if_neg k] at h ⊢
        rw [if_neg c]
        exact ltI_asym h
theorem ltI_trans : ∀ {x y z : List Int}, ltI x y = true → ltI y z = true → ltI x z = true
  | [], [], _, h, _ => by cases h
  | _, _ :: _, [], _, h => by cases h
  | [], _ :: _, _ :: _, _, _ => rfl
  | _ :: _, [], _, h, _ => by cases h
  | x :: xs, y :: ys, z :: zs, h, k => by
    unfold ltI at h k ⊢
    by_cases c : x < y
    · by_cases c2 : y < z
      · rw [if_pos (by omega)]
      · rw [if_neg c2] at k
        by_cases c3 : z < y
        · rw [if_pos c3] at k; cases k
        · rw [if_pos (by omega)]
    · rw [if_neg c] at h
      by_cases c1 : y < x
      · rw [if_pos c1] at h; cases h
      · rw [if_neg c1] at h
        have e : x = y := by omega
        subst e
        by_cases c2 : x < z
        · rw [if_pos c2]
        · rw [if_neg c2] at k ⊢
          by_cases c3 : z < x
          · rw [if_pos c3] at k; cases k
          · rw [if_neg c3] at k ⊢
            exact ltI_trans h k
theorem mem_insU {x z : List Int} : ∀ {l : List (List Int)}, z ∈ insU x l ↔ z = x ∨ z ∈ l
  | [] => by simp [insU]
  | y :: ys => by
    unfold insU
    split
    · simp
    · split
      · rename_i e
        subst e
        simp
      · rw [List.mem_cons, mem_insU, List.mem_cons]
        constructor
        · rintro (h | h | h)
          · exact .inr (.inl h)
          · exact .inl h
          · exact .inr (.inr h)
        · rintro (h | h | h)
          · exact .inr (.inl h)
          · exact .inl h
          · exact .inr (.inr h)
theorem mem_ssetI {z : List Int} : ∀ {l : List (List Int)}, z ∈ ssetI l ↔ z ∈ l
  | [] => Iff.rfl
  | y :: ys => by
    show z ∈ insU y (ssetI ys) ↔ _
    rw [mem_insU, mem_ssetI, List.mem_cons]
theorem up_insU {x : List Int} : ∀ {l : List (List Int)}, l.Pairwise (fun a b => ltI a b = true) → (insU x l).Pairwise (fun a b => ltI a b = true)
  | [], _ => List.pairwise_singleton _ _
  | y :: ys, h => by
    unfold insU
    rw [List.pairwise_cons] at h
    split
    · rename_i c
      refine List.pairwise_cons.mpr ⟨fun z hz => ?_, List.pairwise_cons.mpr h⟩
      rcases List.mem_cons.mp hz with e | e
      · subst e; exact c
      · exact ltI_trans c (h.1 z e)
    · rename_i c
      split
      · exact List.pairwise_cons.mpr h
      · rename_i n
        refine List.pairwise_cons.mpr ⟨fun z hz => ?_, up_insU h.2⟩
        rcases mem_insU.mp hz with e | e
        · subst e
          exact ltI_tri (by simpa using c) n
        · exact h.1 z e
theorem up_ssetI : ∀ l : List (List Int), (ssetI l).Pairwise (fun a b => ltI a b = true)
  | [] => List.Pairwise.nil
  | _ :: ys => up_insU (up_ssetI ys)
theorem same_up : ∀ {a b : List (List Int)}, a.Pairwise (fun a b => ltI a b = true) → b.Pairwise (fun a b => ltI a b = true) → (∀ z, z ∈ a ↔ z ∈ b) → a = b
  | [], [], _, _, _ => rfl
  | [], y :: _, _, _, h => absurd ((h y).mpr (List.mem_cons_self ..)) (by simp)
  | x :: _, [], _, _, h => absurd ((h x).mp (List.mem_cons_self ..)) (by simp)
  | x :: xs, y :: ys, hx, hy, h => by
    rw [List.pairwise_cons] at hx hy
    have e : x = y := by
      rcases List.mem_cons.mp ((h x).mp (List.mem_cons_self ..)) with e | e
      · exact e
      · rcases List.mem_cons.mp ((h y).mpr (List.mem_cons_self ..)) with k | k
        · exact k.symm
        · have z1 := hy.1 x e
          have z2 := ltI_asym (hx.1 y k)
          rw [z2] at z1
          cases z1
    subst e
    refine congrArg (x :: ·) (same_up hx.2 hy.2 fun z => ⟨fun k => ?_, fun k => ?_⟩)
    · rcases List.mem_cons.mp ((h z).mp (List.mem_cons_of_mem _ k)) with e | e
      · subst e
        have q := hx.1 z k
        rw [ltI_irr] at q
        cases q
      · exact e
    · rcases List.mem_cons.mp ((h z).mpr (List.mem_cons_of_mem _ k)) with e | e
      · subst e
        have q := hy.1 z k
        rw [ltI_irr] at q
        cases q
      · exact e
/-- what the set's rows, put in order, are -/
theorem sset_is {b : Int} {d : Nat} {L' ks : List (Addr × List Int)} (h1 : ∀ p ∈ L', p ∈ ks) (h2 : ∀ p ∈ ks, p.2 ∈ L'.map (·.2)) (hb : ∀ p ∈ ks, p.2.length = d ∧ TS.Bd b p.2) (nd : (L'.map (·.2)).Nodup)
    (pw : L'.Pairwise fun q r => TS.code b q.2 ≤ TS.code b r.2) : L'.map (·.2) = ssetI (ks.map (·.2)) := by
  refine same_up ?_ (up_ssetI _) fun z => ?_
  · have pw2 : (L'.map (·.2)).Pairwise fun q r => TS.code b q ≤ TS.code b r := List.pairwise_map.mpr pw
    refine List.Pairwise.imp_of_mem ?_ (pw2.and nd)
    intro q r hq hr ⟨hc, hn⟩
    obtain ⟨p, hp, ep⟩ := List.mem_map.mp hq
    obtain ⟨p', hp', ep'⟩ := List.mem_map.mp hr
    have b1 := hb p (h1 p hp)
    have b2 := hb p' (h1 p' hp')
    rw [ep] at b1
    rw [ep'] at b2
    cases c : ltI q r with
    | true => rfl
    | false =>
      have k := ltI_tri c hn
      rw [ltI_code (b2.1.trans b1.1.symm) b2.2 b1.2] at k
      omega
  · rw [mem_ssetI]
    constructor
    · intro h
      obtain ⟨p, hp, e⟩ := List.mem_map.mp h
      exact List.mem_map.mpr ⟨p, h1 p hp, e⟩
    · intro h
      obtain ⟨p, hp, e⟩ := List.mem_map.mp h
      rw [← e]
      exact h2 p hp
/-- the row's numbers -/
def numsOf : List D → Option (List Int)
  | [] => some []
  | .int i :: ds => (numsOf ds).map (i :: ·)
  | _ :: _ => none
def rowOf : D → Option (List Int)
  | .tup ds => numsOf ds
  | _ => none
def rowsOf : List D → Option (List (List Int))
  | [] => some []
  | d :: ds => (rowOf d).bind fun r => (rowsOf ds).map (r :: ·)
theorem numsOf_eq : ∀ {ds : List D} {ns : List Int}, numsOf ds = some ns → ds = ns.map D.int
  | [], ns, h => by
    cases h
    rfl
  | d :: ds, ns, h => by
    cases d with
    | int i =>
      unfold numsOf at h
      cases e : numsOf ds with
      | none => simp [e] at h
      | some r =>
        simp [e] at h
        subst h
        rw [List.map_cons, ← numsOf_eq e]
    | _ => simp [numsOf] at h
theorem rowsOf_eq : ∀ {ds : List D} {rs : List (List Int)}, rowsOf ds = some rs → ds = rs.map fun r => D.tup (r.map D.int)
  | [], rs, h => by
    cases h
    rfl
  | d :: ds, rs, h => by
    unfold rowsOf at h
    cases e : rowOf d with
    | none => simp [e] at h
    | some r =>
      cases e2 : rowsOf ds with
      | none => simp [e, e2] at h
      | some q =>
        simp [e, e2] at h
        subst h
        rw [List.map_cons, ← rowsOf_eq e2]
        cases d with
        | tup x =>
          rw [numsOf_eq (show numsOf x = some r from e)]
        | _ => simp [rowOf] at e
def topI : Int := 1099511627776
def ssOk (rs : List (List Int)) : Bool := decide (rs.length < 64) && match rs with
  | [] => false
  | r :: _ => decide (1 ≤ r.length) && rs.all fun q => decide (q.length = r.length) && q.all fun i => decide (0 ≤ i) && decide (i < topI)
def ssetD : List D → Option D
  | [.lst ds] => match rowsOf ds with
    | some rs => if ssOk rs then some (.lst ((ssetI rs).map fun r => .tup (r.map .int))) else none
    | none => none
  | _ => none
theorem ssOk_all {rs : List (List Int)} (h : ssOk rs = true) : rs.length < 64 ∧ ∃ d, 1 ≤ d ∧ ∀ q ∈ rs, q.length = d ∧ TS.Bd topI q := by
  unfold ssOk at h
  rw [Bool.and_eq_true, decide_eq_true_eq] at h
  refine ⟨h.1, ?_⟩
  have h2 := h.2
  cases rs with
  | nil => cases h2
  | cons r rs =>
    simp only [Bool.and_eq_true, decide_eq_true_eq, List.all_eq_true] at h2
    refine ⟨r.length, h2.1, fun q hq => ?_⟩
    obtain ⟨z1, z2⟩ := h2.2 q hq
    exact ⟨z1, fun m hm => z2 m hm⟩
section
variable {K : PySem.W.Frag} {S : Type} {B : Amb S} {F : Hp}
/-- the rows' places -/
theorem rows_at : ∀ {rs : List (List Int)} {vs : List V}, DvL K B F (rs.map fun r => D.tup (r.map D.int)) vs → ∃ ks : List (Addr × List Int), ks.map (·.2) = rs ∧ vs = ks.map (fun p => V.ref p.1) ∧ ∀ p ∈ ks, SqT K F p.1 (p.2.map V.int)
  | [], vs, h => by
    cases (show vs = [] from h)
    exact ⟨[], rfl, rfl, fun _ h => by cases h⟩
  | r :: rs, vs, h => by
    obtain ⟨v, q, e, h1, h2⟩ := h
    subst e
    obtain ⟨ks, e1, e2, e3⟩ := rows_at h2
    obtain ⟨a, us, ea, s1, s2⟩ := h1
    subst ea
    rw [DvL.ints s2] at s1
    refine ⟨(a, r) :: ks, by rw [List.map_cons, e1], by rw [List.map_cons, e2], fun p hp => ?_⟩
    rcases List.mem_cons.mp hp with e | e
    · subst e; exact s1
    · exact e3 p e
theorem rows_back : ∀ {ks : List (Addr × List Int)}, (∀ p ∈ ks, SqT K F p.1 (p.2.map V.int)) → DvL K B F ((ks.map (·.2)).map fun r => D.tup (r.map D.int)) (ks.map fun p => V.ref p.1)
  | [], _ => rfl
  | p :: ks, h => ⟨_, _, rfl, ⟨p.1, _, rfl, h p (List.mem_cons_self ..), DvL.of_ints⟩, rows_back fun q hq => h q (List.mem_cons_of_mem _ hq)⟩
end
section
variable {X : Cx} {S : Type} {B : Amb S} {a : Expr} {ml : ML S} {pos pos2 p1 p2 : Pos}
theorem d_sset (hc : X.calm = true) (hu : X.A.units + 64 < cLine) (hs : X.mg "sorted" = none) (ht : X.mg "set" = none) (ha : PA X [a] (tL X.K B ml)) (hg : Gl X "sorted" := by rfl) (hg2 : Gl X "set" := by rfl)
    (he : starEach [a] X.env = (false, eval a X.env) :: starEach [] X.env := by rfl)
    (he2 : starEach [Expr.Call (.Name "set" p2) [a] [] pos2] X.env = (false, eval (Expr.Call (.Name "set" p2) [a] [] pos2) X.env) :: starEach [] X.env := by rfl) :
    PE X (.Call (.Name "sorted" p1) [.Call (.Name "set" p2) [a] [] pos2] [] pos) (tD X.K B (mF ssetD ml)) :=
  pe_w (pe_callB (cr_sortedT hc) hg hs (by decide +kernel) (pa_cons (pe_callTy (cr_setOfT hc hu) hg2 ht (by decide +kernel) ha (he := he)) pa_nil he2) (he := he2)) fun σ H Q ⟨env, F, s, d, s', E, o, hm, hq⟩ => by
    obtain ⟨ds, e1, e2⟩ := f_un hm
    refine ⟨env, F, s, ds, s', E, o, e1, fun vs F1 H1 v1 hv => ?_⟩
    unfold ssetD at e2
    split at e2
    · rename_i x
      cases e3 : rowsOf x with
      | none => rw [e3] at e2; cases e2
      | some rs =>
        rw [e3] at e2
        dsimp only at e2
        split at e2
        · rename_i hok
          cases e2
          obtain ⟨h64, dd, hd, hB⟩ := ssOk_all hok
          rw [rowsOf_eq e3] at hv
          obtain ⟨v, rfl, hv2⟩ := one_of hv
          obtain ⟨l, us, rfl, hl, hv3⟩ := hv2
          obtain ⟨ks, ek, eu, hk⟩ := rows_at hv3
          subst eu ek
          rw [List.length_map] at h64
          refine ⟨l, ks, rfl, .inl (.inl (v1.ok.sub _ _ hl)), fun p hp => sqT_ext v1.ok.sub (hk p hp), h64, fun b L hb hL1 hL2 => ?_⟩
          have v2 := Ev.newO v1.ok (SetTO X.prog X.w b L) hb
          refine ⟨b, L, dd, topI, rfl, upd_same, fun p hp => sqT_ext v2.ok.sub (hk p (hL1 p hp)), hd, fun p hp => hB p.2 (List.mem_map_of_mem (hL1 p hp)), fun L' q hP hN h64' hS hq2 => ?_⟩
          have hin : ∀ p ∈ L', p ∈ ks := fun p hp => hL1 p (hP.mem_iff.mp hp)
          have e5 : L'.map (·.2) = ssetI (ks.map (·.2)) := by
            refine sset_is (d := dd) (b := topI) hin (fun p hp => ?_) (fun p hp => hB p.2 (List.mem_map_of_mem hp)) hN hS
            obtain ⟨r, hr, er⟩ := List.mem_map.mp (hL2 p hp)
            rw [← er]
            exact List.mem_map_of_mem (hP.mem_iff.mpr hr)
          refine hq _ _ _ ((v1.trans v2).trans (Ev.new v2.ok _ hq2)) ?_
          rw [← e5]
          exact new_lst v2.ok hq2 (rows_back fun p hp => hk p (hin p hp))
        · cases e2
    · cases e2
end
end Dl

set_option Elab.async false
set_option linter.all false
set_option maxRecDepth 100000
set_option maxHeartbeats 4000000
/-! D14: the words of the hand; the script. -/
namespace Dl
open PySem
open L2
def isH (env : DE) (i : Nat) : Bool := match env[i]? with
  | some (some (.dat .hnd)) => true
  | _ => false
theorem isH_eq {env : DE} {i : Nat} (h : isH env i = true) : env[i]? = some (some (.dat .hnd)) := by
  unfold isH at h
  split at h
  · assumption
  · cases h
def hget (h : Hand) : Int → Option Int
  | 1 => some h.pos
  | 2 => some h.great
  | 3 => some h.seed
  | 4 => some h.turn
  | _ => none
def hset (h : Hand) (k z : Int) : Option Hand :=
  if k = 1 then (if 0 ≤ z then some { h with pos := z.toNat } else none)
  else if k = 2 then some { h with great := z }
  else if k = 3 then some { h with seed := z }
  else if k = 4 then some { h with turn := z }
  else none
def mHx (i : Nat) (k : Int) : ME Hand := fun env h => if isH env i = true then (hget h k).map fun z => (.int z, h) else none
def mHlen (i : Nat) : ME Hand := fun env h => if isH env i = true then some (.int h.cells.length, h) else none
def mHcell (i : Nat) (e : ME Hand) : ME Hand := fun env h => if isH env i = true then (e env h).bind fun p => (intOf p.1).bind fun z => (atI p.2.cells z).map fun n => (.int n, p.2) else none
def sHput (i : Nat) (k : Int) (e : ME Hand) : MS Hand := fun env h => if isH env i = true then (e env h).bind fun p => (intOf p.1).bind fun z => (hset p.2 k z).map fun h' => .nx env h' else none
section
variable {p c : Addr} {F H : Hp} {h h' : Hand} {k z : Int}
theorem hset_at (e : hset h k z = some h') : ∃ j, ixN 5 k = some j ∧ handL c h' = (handL c h).set j (.int z) := by
  unfold hset at e
  split at e
  · rename_i e1
    subst e1
    split at e
    · rename_i h0
      cases e
      refine ⟨1, by decide, ?_⟩
      show [V.ref c, V.int ((z.toNat : Nat) : Int), V.int h.great, V.int h.seed, V.int h.turn] = [V.ref c, V.int z, V.int h.great, V.int h.seed, V.int h.turn]
      rw [show ((z.toNat : Nat) : Int) = z by omega]
    · cases e
  · split at e
    · rename_i e1
      subst e1
      cases e
      exact ⟨2, by decide, rfl⟩
    · split at e
      · rename_i e1
        subst e1
        cases e
        exact ⟨3, by decide, rfl⟩
      · split at e
        · rename_i e1
          subst e1
          cases e
          exact ⟨4, by decide, rfl⟩
        · cases e
theorem hset_cells (e : hset h k z = some h') : h'.cells = h.cells := by
  unfold hset at e
  repeat' split at e
  all_goals first
    | (cases e; rfl)
    | cases e
theorem hand_put (o : Ok (HandB p c) F H h) {j : Nat} (e : hset h k z = some h') (ej : handL c h' = (handL c h).set j (.int z)) : Ev (HandB p c) F H F (upd H p (.lst ((handL c h).set j (.int z)))) h' := by
  have hp : F p = none := o.ap p (.inl rfl)
  refine ⟨fun _ _ => rfl, fun q x hx hn => ?_, ⟨fun q x hx => ?_, o.ap, ?_⟩⟩
  · rw [upd_ne (fun z => hn (.inl z))]
    exact hx
  · have hq : q ≠ p := fun z => by
      subst z
      rw [hp] at hx
      cases hx
    rw [upd_ne hq]
    exact o.sub q x hx
  · obtain ⟨a1, a2, a3⟩ := o.am
    refine ⟨a1, ?_, ?_⟩
    · rw [upd_same, ej]
    · rw [upd_ne (fun z => a1 z.symm), hset_cells e]
      exact a3
theorem hget_at (e : hget h k = some z) : atI (handL c h) k = some (.int z) := by
  unfold hget at e
  split at e
  · cases e; rfl
  · cases e; rfl
  · cases e; rfl
  · cases e; rfl
  · cases e
theorem atI_ints {l : List Int} {n : Int} (e : atI l z = some n) : atI (l.map V.int) z = some (.int n) := by
  unfold atI at e ⊢
  rw [List.length_map]
  revert e
  generalize ixN l.length z = q
  intro e
  cases q with
  | none => cases e
  | some j =>
    have e' : l[j]? = some n := e
    show (l.map V.int)[j]? = some (V.int n)
    rw [List.getElem?_map, e']
    rfl
end
section
variable {X : Cx} {p c : Addr} {a b e : Expr} {pos p1 p2 pos2 : Pos} {i : Nat} {mb : ME Hand}
theorem hnd_at {K : PySem.W.Frag} {F H : Hp} {σ : L2.St} {env : DE} (E : EnvOk K (HandB p c) F H σ env) (h : isH env i = true) : σ[i]? = some (some (.ref p)) := by
  obtain ⟨v, h1, h2⟩ := E.dat i _ (isH_eq h)
  rw [show v = V.ref p from h2] at h1
  exact h1
theorem d_hx {k : Int} {j} (ho : PE X a (tVar i)) (hs : PlainIx (.Constant (.int k) j p1) := by exact fun _ _ => rfl) : PE X (.Subscript a (.Constant (.int k) j p1) pos) (tD X.K (HandB p c) (mHx i k)) := pe_w (pe_ix ix_list ho pe_int hs) fun σ H Q ⟨env, F, s, d, s', E, o, hm, hq⟩ => by
  unfold mHx at hm
  split at hm
  · rename_i hh
    cases e1 : hget s k with
    | none => rw [e1] at hm; cases hm
    | some z =>
      rw [e1] at hm
      cases hm
      exact ⟨.ref p, hnd_at E hh, p, _, k, .int z, rfl, rfl, SqL.of o.am.2.1, hget_at e1, hq _ F H o.refl rfl⟩
  · cases hm
theorem d_hlen {j} (hm : X.mg "len" = none) (ho : PE X a (tVar i)) (hs : PlainIx (.Constant (.int 0) j p1) := by exact fun _ _ => rfl) (hv : bootBuiltins "len" = some (.builtin "len") := by decide +kernel) (hg : Gl X "len" := by rfl)
    (he : starEach (Expr.Subscript a (.Constant (.int 0) j p1) p2 :: []) X.env = (false, eval (Expr.Subscript a (.Constant (.int 0) j p1) p2) X.env) :: starEach [] X.env := by rfl) (hpl : (backTo pos (starEach [] X.env)).any (·.1) = false := by rfl) :
    PE X (.Call (.Name "len" pos2) [.Subscript a (.Constant (.int 0) j p1) p2] [] pos) (tD X.K (HandB p c) (mHlen i)) :=
  pe_w (pe_callB call_len hg hm hv (pa_cons (pe_ix ix_list ho pe_int hs) pa_nil he) (by decide) (by decide) he hpl) fun σ H Q ⟨env, F, s, d, s', E, o, hm, hq⟩ => by
    unfold mHlen at hm
    split at hm
    · rename_i hh
      cases hm
      refine ⟨.ref p, hnd_at E hh, p, _, 0, .ref c, rfl, rfl, SqL.of o.am.2.1, rfl, .ref c, _, rfl, .inl ⟨_, SqL.of o.am.2.2, rfl⟩, ?_⟩
      rw [List.length_map]
      exact hq _ F H o.refl rfl
    · cases hm
theorem d_hcell {j} (ho : PE X a (tVar i)) (hb : PE X b (tD X.K (HandB p c) mb)) (hs : PlainIx (.Constant (.int 0) j p1) := by exact fun _ _ => rfl) (hs2 : PlainIx b := by exact fun _ _ => rfl) :
    PE X (.Subscript (.Subscript a (.Constant (.int 0) j p1) p2) b pos) (tD X.K (HandB p c) (mHcell i mb)) :=
  pe_w (pe_ix ix_list (pe_ix ix_list ho pe_int hs) hb hs2) fun σ H Q ⟨env, F, s, d, s', E, o, hm, hq⟩ => by
    unfold mHcell at hm
    split at hm
    · rename_i hh
      cases e1 : mb env s with
      | none => simp [e1] at hm
      | some w =>
        obtain ⟨dk, s1⟩ := w
        simp only [e1, Option.bind_some] at hm
        cases e5 : intOf dk with
        | none => simp [e5] at hm
        | some z =>
          have hz := intOf_eq e5
          subst hz
          simp only [e5, Option.bind_some] at hm
          cases e6 : atI s1.cells z with
          | none => simp [e6] at hm
          | some n =>
            simp only [e6, Option.map_some, Option.some.injEq, Prod.mk.injEq] at hm
            obtain ⟨rfl, rfl⟩ := hm
            refine ⟨.ref p, hnd_at E hh, p, _, 0, .ref c, rfl, rfl, SqL.of o.am.2.1, rfl, env, F, s, _, s1, E, o, e1, fun v F1 H1 v1 hv => ?_⟩
            exact ⟨c, _, z, .int n, rfl, hv, SqL.of v1.ok.am.2.2, atI_ints e6, hq _ F1 H1 v1 rfl⟩
    · cases hm
theorem s_hput {o v : Expr} {k : Int} {j} {mv : ME Hand} (ho : PE X o (tVar i)) (hv : PE X v (tD X.K (HandB p c) mv))
    (hg : ∀ {to ti : TE}, PE X o to → PE X (.Constant (.int k) j p1) ti → PG X (.Subscript o (.Constant (.int k) j p1) p2) (gSub to ti rSetL)) (hs : swapsWithSole [.Subscript o (.Constant (.int k) j p1) p2] v pos.line X.env = pure false := by rfl)
    (hw : swappedStores [.Subscript o (.Constant (.int k) j p1) p2] v X.env = pure none := by rfl)
    (h1 : (assignEach [.Subscript o (.Constant (.int k) j p1) p2] X.env).map (·.2) = [assign (.Subscript o (.Constant (.int k) j p1) p2) X.env] := by rfl) : PS X (.Assign [.Subscript o (.Constant (.int k) j p1) p2] v pos) (tS X.K (HandB p c) (sHput i k mv)) :=
  ps_w (ps_asg hv (hg ho pe_int) hs hw h1) fun Dn σ H ⟨env, F, s, out, E, o, hm, hq⟩ => by
    unfold sHput at hm
    split at hm
    · rename_i hh
      cases e1 : mv env s with
      | none => simp [e1] at hm
      | some w =>
        obtain ⟨dk, s1⟩ := w
        simp only [e1, Option.bind_some] at hm
        cases e5 : intOf dk with
        | none => simp [e5] at hm
        | some z =>
          have hz := intOf_eq e5
          subst hz
          simp only [e5, Option.bind_some] at hm
          cases e6 : hset s1 k z with
          | none => simp [e6] at hm
          | some h' =>
            simp only [e6, Option.map_some, Option.some.injEq] at hm
            subst hm
            refine ⟨env, F, s, _, s1, E, o, e1, fun vv F1 H1 v1 hd => ?_⟩
            obtain ⟨jj, k1, k2⟩ := hset_at (c := c) e6
            refine ⟨.ref p, hnd_at E hh, p, handL c s1, k, jj, rfl, rfl, v1.ok.am.2.1, k1, ?_⟩
            have v2 := hand_put v1.ok e6 k2
            rw [show vv = V.int z from hd]
            exact hq σ F1 _ (E.step o (v1.trans v2)) (Sv.of E (v1.trans v2))
    · cases hm
end
/-! the script -/
def ScrB (K : PySem.W.Frag) (a : Addr) (b : Prop) : Amb (List Int) where
  at' := fun l H => (b ∧ Rd H a (.lst (l.map V.int))) ∨ (¬ b ∧ ∀ H', SqL K H' a (l.map V.int))
  own := fun q => q = a ∧ b
  hA := a
  there := fun s H q h ho => by
    rcases h with h | h
    · rw [ho.1]
      rcases h.2 with h | ⟨o, h⟩
      · rw [h]; exact fun z => nomatch z
      · rw [h]; exact fun z => nomatch z
    · exact absurd ho.2 h.1
  stay := fun s H H' h k => by
    rcases h with h | h
    · refine .inl ⟨h.1, ?_⟩
      rcases h.2 with q | ⟨o, q⟩
      · exact .inl (k a _ ⟨rfl, h.1⟩ q)
      · exact .inr ⟨o, k a _ ⟨rfl, h.1⟩ q⟩
    · exact .inr h
theorem scr_at {K : PySem.W.Frag} {a : Addr} {b : Prop} {l : List Int} {H : Hp} (h : (ScrB K a b).at' l H) : SqL K H a (l.map V.int) := by
  rcases h with h | h
  · exact .inl h.2
  · exact h.2 H
theorem scr_of {K : PySem.W.Frag} {a : Addr} {l : List Int} {H : Hp} (h : SqL K H a (l.map V.int)) : ∃ b, (ScrB K a b).at' l H := by
  rcases h with h | h
  · exact ⟨True, .inl ⟨trivial, h⟩⟩
  · exact ⟨False, .inr ⟨fun z => z, fun H' => .inr h⟩⟩
def mScr (i : Nat) (n : Nat) : ME (List Int) := fun env s => if isH env i = true then some (.lst (cutD (s.map .int) none (some (n : Int))), s) else none
section
variable {X : Cx} {a : Addr} {bp : Prop} {e : Expr} {pos p1 p2 : Pos} {i : Nat}
theorem d_scr {n : Nat} {j} (ho : PE X e (tVar i)) : PE X (.Subscript e (.Slice none (some (.Constant (.int n) j p1)) none p2) pos) (tD X.K (ScrB X.K a bp) (mScr i n)) :=
  pe_w (pe_slice sl_list ho po_none (po_some pe_int)) fun σ H Q ⟨env, F, s, d, s', E, o, hm, hq⟩ => by
    unfold mScr at hm
    split at hm
    · rename_i hh
      cases hm
      obtain ⟨v, h1, h2⟩ := E.dat i _ (isH_eq hh)
      rw [show v = V.ref a from h2] at h1
      refine ⟨.ref a, h1, n, rfl, a, _, rfl, scr_at o.am, fun q hp => ?_⟩
      exact hq _ _ _ (Ev.new o _ hp) (new_lst o hp (cut_dv DvL.of_ints none (some (n : Int))))
    · cases hm
end
end Dl

set_option Elab.async false
set_option linter.all false
set_option maxRecDepth 100000
set_option maxHeartbeats 4000000
/-! D15: the law's entry. -/
namespace Dl
open PySem
open L2
def spLaw (K : PySem.W.Frag) : Sp := fun vs H Q _ => ∃ (a : Addr) (ns : List Int), vs = [V.ref a] ∧ SqL K H a (ns.map V.int) ∧ ns.length ≤ 63 ∧ ∀ H', Q (.bl true) H'
def handD (cells : List Int) (k : Int) : D := .lst [.lst (cells.map .int), .int 0, .int 0, .int k, .int 0]
def hand0 (cells : List Int) (k : Int) : Hand := ⟨cells, 0, 0, k, 0⟩
def startH (n i : Nat) : DE := (List.replicate n none).set i (some (.dat .hnd))
def LawOk (n i : Nat) (m : MS Hand) (fh : List D → List Int → Option (D × List Int)) : Prop :=
  ∀ ns : List Int, ns.length ≤ 63 → ∃ cells k s', fh [.hnd] ns = some (handD cells k, ns) ∧ m (startH n i) (hand0 cells k) = some (.rt (.bl true) s')
theorem startH_get {n i j : Nat} {d : Slot} (h : (startH n i)[j]? = some (some d)) : j = i ∧ d = .dat .hnd := by
  unfold startH at h
  by_cases e : i = j
  · subst e
    by_cases hl : i < n
    · rw [List.getElem?_set_self (by simpa using hl)] at h
      cases h
      exact ⟨rfl, rfl⟩
    · rw [List.getElem?_eq_none (by simpa using Nat.le_of_not_lt hl)] at h
      cases h
  · rw [List.getElem?_set_ne e, List.getElem?_replicate] at h
    split at h
    · cases h
    · cases h
/-- what the hand's list shows -/
theorem hand_dv {K : PySem.W.Frag} {S : Type} {B : Amb S} {F : Hp} {cells : List Int} {k : Int} {v : V} (h : Dv K B F (handD cells k) v) : ∃ p c, v = .ref p ∧ p ≠ c ∧ F p = some (.lst (handL c (hand0 cells k))) ∧ F c = some (.lst (cells.map V.int)) := by
  obtain ⟨p, vs, rfl, h1, v0, r0, rfl, h2, h3⟩ := h
  obtain ⟨c, us, rfl, h4, h5⟩ := h2
  have h3' : DvL K B F ([0, 0, k, 0].map D.int) r0 := h3
  rw [DvL.ints h3'] at h1
  rw [DvL.ints h5] at h4
  refine ⟨p, c, rfl, fun e => ?_, h1, h4⟩
  subst e
  rw [h1] at h4
  have e := congrArg (fun o => match o with
    | some (HO.lst (x :: _)) => some x
    | _ => none) h4
  cases cells with
  | nil => cases e
  | cons n ns => cases e
theorem pss_ex {X : Cx} {sts : List Stmt} {t : Addr → Addr → TS} (h : ∀ p c, PSs X sts (t p c)) : PSs X sts (fun Dn σ H => ∃ p c, t p c Dn σ H) := ⟨fun pins s σ H Dn I ⟨p, c, hw⟩ => (h p c).run pins s σ H Dn I hw⟩
section
variable {P : Program} {w : World} {K : PySem.W.Frag} {mg : Str → Option Value} {base : Heap}
theorem law_fn {x qual : Str} {st : Stmt} {f : Addr} {fd : FuncData} {N : List Str} {y : Str} {k : Nat} {i : Nat} {m : MS Hand} {fh : List D → List Int → Option (D × List Int)} {st1 : Stmt} {rest : List Stmt} (Fn : FunD K x qual (defArgs st) (defBody st) (defScope st) [] [] f fd)
    (S : FnScope N [y] (defScope st)) (hi : i < N.length) (h0 : 0 < i) (hl : LawOk N.length i m fh) (hB : defBody st = st1 :: rest)
    (h1 : ∀ (a : Addr) (bp : Prop) (cdv : Value) (A : Around) (outer : List Env) (s : Shared) (H : Hp) (E : XK), Room k (A.deeper (PyProof.Rows.envOfC qual (defScope st) s.heap.objs.size f cdv)) →
      PS (cxOf CX0 P w K mg base N qual (defScope st) f cdv A outer s H E).nox st1 (tS K (ScrB K a bp) (sAsg (gdName i) (mCall fh (mCons (mVar 0) mNil)))))
    (h2 : ∀ (p c : Addr) (cdv : Value) (A : Around) (outer : List Env) (s : Shared) (H : Hp) (E : XK), Room k (A.deeper (PyProof.Rows.envOfC qual (defScope st) s.heap.objs.size f cdv)) →
      PSs (cxOf CX0 P w K mg base N qual (defScope st) f cdv A outer s H E).nox rest (tS K (HandB p c) m)) : FnOk P w K mg base CX0 (k + 1) f fd [y] (spLaw K) := by
  refine Fn.ok S (fun vs H Q E ⟨a, ns, e, _⟩ => by rw [e]; rfl) fun cdv A outer s H vs Q E hr ⟨a, ns, e, hs, hz, hq⟩ => ?_
  subst e
  obtain ⟨bp, hb⟩ := scr_of hs
  refine ⟨_, by rw [hB]; exact PSs.nox (pss_cons (h1 a bp cdv A outer s H E hr) (pss_ex fun p c => h2 p c cdv A outer s H E hr)), ?_⟩
  obtain ⟨cells, kk, s', e1, e2⟩ := hl ns hz
  have hv : DvL K (ScrB K a bp) (fun _ => none) [D.hnd] [V.ref a] := DvL.one rfl
  obtain ⟨E0, o0⟩ := start_ok (H := H) (N := N) hv
  have O : Ok (ScrB K a bp) (fun _ => none) H ns := ⟨(fun _ _ h => by cases h), fun _ _ => rfl, hb⟩
  have hn : 0 < N.length := Nat.lt_of_le_of_lt (Nat.zero_le _) hi
  have hst : (startE N.length [D.hnd])[0]? = some (some (.dat .hnd)) := by
    unfold startE
    rfl
  have hm1 : sAsg (gdName i) (mCall fh (mCons (mVar 0) mNil)) (startE N.length [D.hnd]) ns = some (.nx ((startE N.length [D.hnd]).set i (some (.dat (handD cells kk)))) ns) := by
    have a1 : mCons (mVar 0) mNil (startE N.length [D.hnd]) ns = some ([D.hnd], ns) := by
      simp [mCons, mVar, mNil, hst]
    have a2 : mCall fh (mCons (mVar 0) mNil) (startE N.length [D.hnd]) ns = some (handD cells kk, ns) := by
      unfold mCall
      rw [a1]
      exact e1
    unfold sAsg
    rw [a2]
    rfl
  refine ⟨_, _, ns, _, E0, O, hm1, fun σ' F' H' E' v => ?_⟩
  have hli : i < (startE N.length [D.hnd]).length := by
    have : (startE N.length [D.hnd]).length = N.length := by
      unfold startE
      simp
      omega
    omega
  obtain ⟨u, g1, g2⟩ := E'.dat i (handD cells kk) (List.getElem?_set_self hli)
  obtain ⟨p, c, rfl, g3, g4, g5⟩ := hand_dv g2
  refine ⟨p, c, startH N.length i, fun _ => none, hand0 cells kk, _, ⟨?_, fun j d q => ?_, fun j xs q => ?_, fun j j2 xs ys b q _ _ _ => ?_⟩, ⟨(fun _ _ h => by cases h), fun _ _ => rfl, g3, v.ok.sub _ _ g4, v.ok.sub _ _ g5⟩, e2, fun u F2 H2 own' w2 hd => ?_⟩
  · rw [E'.len, List.length_set]
    unfold startH startE
    simp
    omega
  · obtain ⟨e, e'⟩ := startH_get q
    subst e
    cases e'
    exact ⟨_, g1, rfl⟩
  · obtain ⟨e, e'⟩ := startH_get q
    cases e'
  · obtain ⟨e, e'⟩ := startH_get q
    cases e'
  · rw [show u = V.bl true from hd]
    exact hq H2
end
end Dl

set_option Elab.async false
set_option linter.all false
set_option maxRecDepth 100000
set_option maxHeartbeats 4000000
/-! D16: texts; in. -/
namespace Dl
open PySem
open L2
section
variable {K : PySem.W.Frag} {S : Type} {B : Amb S}
theorem dvl_strs {F : Hp} : ∀ {ns : List Str}, DvL K B F (ns.map D.str) (ns.map V.str)
  | [] => rfl
  | n :: ns => ⟨_, _, rfl, rfl, dvl_strs⟩
def slS : D → Option Int → Option Int → Option D
  | .str z, lo, hi => if z.length ≤ sizeLine then some (.str (cutS z lo hi)) else none
  | _, _, _ => none
theorem slS_ok : SlD K B rSlS slS := fun F H s dx dz lo hi x Q o hx hf hq => by
  cases dx with
  | str z =>
    have hf' : (if z.length ≤ sizeLine then some (D.str (cutS z lo hi)) else none) = some dz := hf
    by_cases c : z.length ≤ sizeLine
    · rw [if_pos c] at hf'
      cases hf'
      exact ⟨z, hx, c, hq _ F H o.refl rfl⟩
    · rw [if_neg c] at hf'
      cases hf'
  | _ => cases hf
def signsOf (x : Str) : List D := x.cps.toList.map fun c => .str ⟨#[c]⟩
def strItems : D → Option (List D)
  | .str x => if x.length ≤ sizeLine then some (signsOf x) else none
  | _ => none
theorem jd_str {x : Str} {F1 : Hp} : JD K B (Its x) (signsOf x) F1 := by
  refine ⟨fun i F H s _ _ hi => ?_, fun i F H s y H' d _ o hy hd => ?_, fun i F H s _ _ hi => ?_⟩
  · show i < x.cps.size
    simpa [signsOf] using hi
  · obtain ⟨e1, c, e2, e3⟩ := hy
    subst e1 e3
    unfold signsOf at hd
    rw [List.getElem?_map, Array.getElem?_toList, e2] at hd
    cases hd
    exact ⟨F, o.refl, rfl⟩
  · show x.cps.size ≤ i
    simpa [signsOf] using hi
end
section
variable {X : Cx} {S : Type} {B : Amb S} {a e o tg : Expr} {ma me : ME S} {pos p apos : Pos} {m : MS S}
theorem i_str (ha : PE X a (tD X.K B ma)) : PI X tg a (tI X.K B (mIt strItems ma)) := pi_w (pi_str ha) fun σ H R ⟨env, F, s, xs, s', E, o, hm, hq⟩ => by
  obtain ⟨x, e1, e2⟩ := it_un hm
  cases x with
  | str z =>
    have e2' : (if z.length ≤ sizeLine then some (signsOf z) else none) = some xs := e2
    by_cases c : z.length ≤ sizeLine
    · rw [if_pos c] at e2'
      cases e2'
      refine ⟨env, F, s, .str z, s', E, o, e1, fun v F1 H1 v1 hx => ⟨z, hx, hq _ F1 H1 v1 jd_str ?_⟩⟩
      unfold signsOf
      rw [List.length_map, Array.length_toList]
      exact c
    · rw [if_neg c] at e2'
      cases e2'
  | _ => cases e2
/-! methods of a text -/
def mM1 (f : D → D → Option D) (a b : ME S) : ME S := mB f a b
def splitD : D → D → Option D
  | .str a, .str b => if (b.length == 0) = false ∧ a.length + 2 ≤ sizeLine then some (.lst ((Txt.split a b).map .str)) else none
  | _, _ => none
theorem d_split (ho : PE X o (tD X.K B ma)) (he : PE X e (tD X.K B me)) (hs : starEach [e] X.env = [(false, eval e X.env)] := by rfl) (hbase : attributeBase o "split" X.env (eval o X.env) = eval o X.env := by rfl) (hline : (apos.endLine == pos.line) = true := by rfl) :
    PE X (.Call (.Attribute o "split" apos) [e] [] pos) (tD X.K B (mB splitD ma me)) := pe_w (pe_split ho he hs hbase hline) fun σ H Q ⟨env, F, s, d, s', E, oo, hm, hq⟩ => by
  unfold mB at hm
  cases e1 : ma env s with
  | none => simp [e1] at hm
  | some q1 =>
    obtain ⟨d1, s1⟩ := q1
    simp only [e1, Option.bind_some] at hm
    cases e2 : me env s1 with
    | none => simp [e2] at hm
    | some q2 =>
      obtain ⟨d2, s2⟩ := q2
      simp only [e2, Option.bind_some] at hm
      cases e3 : splitD d1 d2 with
      | none => rw [e3] at hm; cases hm
      | some z =>
        rw [e3] at hm
        cases hm
        unfold splitD at e3
        split at e3
        · rename_i a b
          split at e3
          · rename_i c
            cases e3
            refine ⟨env, F, s, .str a, s1, E, oo, e1, fun v F1 H1 v1 hx => ?_⟩
            have ex : v = V.str a := hx
            subst ex
            refine ⟨⟨a, rfl⟩, env, F1, s1, .str b, _, E.step oo v1, v1.ok, e2, fun u F2 H2 v2 hy => ?_⟩
            have ey : u = V.str b := hy
            subst ey
            refine ⟨a, b, rfl, rfl, c.1, c.2, fun pp hp => hq _ _ _ ((v1.trans v2).trans (Ev.new v2.ok _ hp)) ?_⟩
            exact ⟨pp, _, rfl, upd_same, dvl_strs⟩
          · cases e3
        · cases e3
end
end Dl
namespace Dl
open PySem
open L2
/-! in -/
theorem py_plainD : True := trivial
mutual
theorem py_pl : ∀ {d : D} {p : PyData}, toPy d = some p → p.plain = true
  | .non, _, h => by cases h; rfl
  | .bl _, _, h => by cases h; rfl
  | .int _, _, h => by cases h; rfl
  | .str _, _, h => by cases h; rfl
  | .hnd, _, h => by cases h
  | .dct _ _, _, h => by cases h
  | .tup ds, p, h => by
    have h' : (toPyL ds).map PyData.tuple = some p := h
    cases e : toPyL ds with
    | none => rw [e] at h'; cases h'
    | some ps =>
      rw [e] at h'
      cases h'
      exact py_plL e
  | .lst ds, p, h => by
    have h' : (toPyL ds).map PyData.list = some p := h
    cases e : toPyL ds with
    | none => rw [e] at h'; cases h'
    | some ps =>
      rw [e] at h'
      cases h'
      exact py_plL e
theorem py_plL : ∀ {ds : List D} {ps : List PyData}, toPyL ds = some ps → PyData.plainAll ps = true
  | [], _, h => by cases h; rfl
  | d :: ds, ps, h => by
    have h' : (match toPy d, toPyL ds with | some p, some ps => some (p :: ps) | _, _ => none) = some ps := h
    cases e : toPy d with
    | none => rw [e] at h'; cases h'
    | some q =>
      cases e2 : toPyL ds with
      | none => rw [e, e2] at h'; cases h'
      | some qs =>
        rw [e, e2] at h'
        cases h'
        show (q.plain && PyData.plainAll qs) = true
        rw [py_pl e, py_plL e2]
        rfl
end
def inP (neg : Bool) (d e : PyData) : Option Bool := match e with
  | .tuple ds => if min (PyData.depthAll ds) d.depth ≤ 62 then some (neg != ds.any fun y => PyData.eqv y d) else none
  | .list ds => if min (PyData.depthAll ds) d.depth ≤ 62 then some (neg != ds.any fun y => PyData.eqv y d) else none
  | _ => none
def rInP (K : PySem.W.Frag) (neg : Bool) : R2 := fun x y H Q => ∃ d e b, Dp K H x d ∧ Dp K H y e ∧ d.plain = true ∧ e.plain = true ∧ inP neg d e = some b ∧ Q (.bl b) H
section
variable {X : Cx}
theorem op_inP (hu : X.A.units + 64 < cLine) : OpR X (compareOp .In) (rInP X.K false) := by
  intro pins s σ H x y v u Q I rx ry h
  obtain ⟨d, e, b, hd, he, p1, p2, hf, q⟩ := h
  obtain ⟨as, r1⟩ := Dp.reads I d x v hd rx
  obtain ⟨bs, r2⟩ := Dp.reads I e y u he ry
  unfold inP at hf
  split at hf
  · rename_i ds
    split at hf
    · rename_i c
      cases hf
      exact PySem.SeqAt.in_tuple_data r2 r1 p2 p1 (by omega) ⟨.bl _, H, I, rfl, by rw [Bool.false_bne] at q; exact q⟩
    · cases hf
  · rename_i ds
    split at hf
    · rename_i c
      cases hf
      exact PySem.SeqAt.in_list_data r2 r1 p2 p1 (by omega) ⟨.bl _, H, I, rfl, by rw [Bool.false_bne] at q; exact q⟩
    · cases hf
  · cases hf
theorem op_ninP (hu : X.A.units + 64 < cLine) : OpR X (compareOp .NotIn) (rInP X.K true) := by
  intro pins s σ H x y v u Q I rx ry h
  obtain ⟨d, e, b, hd, he, p1, p2, hf, q⟩ := h
  obtain ⟨as, r1⟩ := Dp.reads I d x v hd rx
  obtain ⟨bs, r2⟩ := Dp.reads I e y u he ry
  unfold inP at hf
  split at hf
  · rename_i ds
    split at hf
    · rename_i c
      cases hf
      exact PySem.SeqAt.notIn_tuple_data r2 r1 p2 p1 (by omega) ⟨.bl _, H, I, rfl, by rw [Bool.true_bne] at q; exact q⟩
    · cases hf
  · rename_i ds
    split at hf
    · rename_i c
      cases hf
      exact PySem.SeqAt.notIn_list_data r2 r1 p2 p1 (by omega) ⟨.bl _, H, I, rfl, by rw [Bool.true_bne] at q; exact q⟩
    · cases hf
  · cases hf
def rSignIn (neg : Bool) : R2 := fun x y H Q => ∃ (c : Nat) (z : Str), x = .str ⟨#[c]⟩ ∧ y = .str z ∧ Q (.bl (neg != decide (c ∈ z.cps.toList))) H
theorem op_inA (hu : X.A.units + 64 < cLine) : OpR X (compareOp .In) (fun x y H Q => rSignIn false x y H Q ∨ rInP X.K false x y H Q) :=
  OpR.or (fun pins s σ H x y v u Q I rx ry ⟨c, z, e1, e2, q⟩ => op_in_sign pins s σ H x y v u Q I rx ry ⟨c, z, e1, e2, by rw [Bool.false_bne] at q; exact q⟩) (op_inP hu)
theorem op_ninA (hu : X.A.units + 64 < cLine) : OpR X (compareOp .NotIn) (fun x y H Q => rSignIn true x y H Q ∨ rInP X.K true x y H Q) :=
  OpR.or (fun pins s σ H x y v u Q I rx ry ⟨c, z, e1, e2, q⟩ => op_notIn_sign pins s σ H x y v u Q I rx ry ⟨c, z, e1, e2, by rw [Bool.true_bne] at q; exact q⟩) (op_ninP hu)
end
def signIn (neg : Bool) : D → D → Option D
  | .str w, .str z => match w.cps.toList with
    | [c] => some (.bl (neg != decide (c ∈ z.cps.toList)))
    | _ => none
  | _, _ => none
def inN (neg : Bool) (x y : D) : Option D := match y with
  | .str _ => signIn neg x y
  | _ => relD (inP neg) x y
def inD := inN false
def ninD := inN true
theorem inN_ok {K : PySem.W.Frag} {S : Type} {B : Amb S} (neg : Bool) : OpD K B (fun x y H Q => rSignIn neg x y H Q ∨ rInP K neg x y H Q) (inN neg) := fun F H s dx dy dz x y Q o hx hy hf hq => by
  have data : relD (inP neg) dx dy = some dz → (rSignIn neg x y H Q ∨ rInP K neg x y H Q) := fun hf => by
    unfold relD at hf
    cases e1 : toPy dx with
    | none => rw [e1] at hf; cases hf
    | some a =>
      cases e2 : toPy dy with
      | none => rw [e1, e2] at hf; cases hf
      | some b =>
        rw [e1, e2] at hf
        cases e3 : inP neg a b with
        | none => simp [e3] at hf
        | some k =>
          simp [e3] at hf
          subst hf
          exact .inr ⟨a, b, k, dp_of o.sub e1 hx, dp_of o.sub e2 hy, py_pl e1, py_pl e2, e3, hq _ F H o.refl rfl⟩
  cases dy with
  | str z =>
    have hf' : signIn neg dx (.str z) = some dz := hf
    cases dx with
    | str w =>
      have hf2 : (match w.cps.toList with | [c] => some (D.bl (neg != decide (c ∈ z.cps.toList))) | _ => none) = some dz := hf'
      split at hf2
      · rename_i c e
        cases hf2
        refine .inl ⟨c, z, ?_, hy, hq _ F H o.refl rfl⟩
        have ew : w = ⟨#[c]⟩ := by
          cases w with
          | mk cps =>
            have e' : cps.toList = [c] := e
            have : cps = #[c] := by
              rw [← Array.toList_inj, e']
            rw [this]
        rw [← ew]
        exact hx
      · cases hf2
    | _ => cases hf'
  | _ => exact data hf
theorem inD_ok {K : PySem.W.Frag} {S : Type} {B : Amb S} : OpD K B (fun x y H Q => rSignIn false x y H Q ∨ rInP K false x y H Q) inD := inN_ok false
theorem ninD_ok {K : PySem.W.Frag} {S : Type} {B : Amb S} : OpD K B (fun x y H Q => rSignIn true x y H Q ∨ rInP K true x y H Q) ninD := inN_ok true
/-! str(), int() of a text -/
def strCD : List D → Option D
  | [.int i] => if i.natAbs.log2 < 1920 then some (.str (toString i)) else none
  | [.str a] => some (.str a)
  | _ => none
theorem strCD_ok {K : PySem.W.Frag} {S : Type} {B : Amb S} : CallD K B (fun xs H Q => (∃ i, xs = [.int i] ∧ i.natAbs.log2 < 1920 ∧ Q (.str (toString i)) H) ∨ ∃ a, xs = [.str a] ∧ Q (.str a) H) strCD := fun F H s ds dz vs Q o hv hf hq => by
  unfold strCD at hf
  split at hf
  · rename_i i
    split at hf
    · rename_i c
      cases hf
      obtain ⟨v, rfl, hx⟩ := one_of hv
      exact .inl ⟨i, by rw [show v = V.int i from hx], c, hq _ F H o.refl rfl⟩
    · cases hf
  · rename_i a
    cases hf
    obtain ⟨v, rfl, hx⟩ := one_of hv
    exact .inr ⟨a, by rw [show v = V.str a from hx], hq _ F H o.refl rfl⟩
  · cases hf
def intTD : List D → Option D
  | [.str a] => if a.length ≤ 640 then (PySem.intText? a).map D.int else none
  | ds => intCD ds
def rIntT : List V → Hp → VK → Prop := fun xs H Q => ((∃ i, xs = [.int i] ∧ Q (.int i) H) ∨ ∃ k, xs = [.bl k] ∧ Q (.int (if k then 1 else 0)) H) ∨ ∃ a n, xs = [.str a] ∧ PySem.intText? a = some n ∧ a.length ≤ 640 ∧ Q (.int n) H
theorem intTD_ok {K : PySem.W.Frag} {S : Type} {B : Amb S} : CallD K B rIntT intTD := fun F H s ds dz vs Q o hv hf hq => by
  unfold intTD at hf
  split at hf
  · rename_i a
    split at hf
    · rename_i c
      cases e : PySem.intText? a with
      | none => rw [e] at hf; cases hf
      | some n =>
        rw [e] at hf
        cases hf
        obtain ⟨v, rfl, hx⟩ := one_of hv
        exact .inr ⟨a, n, by rw [show v = V.str a from hx], e, c, hq _ F H o.refl rfl⟩
    · cases hf
  · exact .inl (intCD_ok F H s ds dz vs Q o hv hf hq)
/-! join -/
def strsOf : List D → Option (List Str)
  | [] => some []
  | .str x :: ds => (strsOf ds).map (x :: ·)
  | _ :: _ => none
theorem strsOf_eq : ∀ {ds : List D} {ys : List Str}, strsOf ds = some ys → ds = ys.map D.str
  | [], _, h => by cases h; rfl
  | d :: ds, ys, h => by
    cases d with
    | str x =>
      have h' : (strsOf ds).map (x :: ·) = some ys := h
      cases e : strsOf ds with
      | none => rw [e] at h'; cases h'
      | some r =>
        rw [e] at h'
        cases h'
        rw [List.map_cons, ← strsOf_eq e]
    | _ => cases h
def seqItems : D → Option (List D)
  | .tup ds => some ds
  | .lst ds => some ds
  | _ => none
def joinS (a : Str) (ys : List Str) : Option D := if (ys.map (·.length)).sum + ys.length * a.length ≤ 16777216 then some (.str (Txt.join a ys)) else none
def joinD (a b : D) : Option D := match a with
  | .str x => (seqItems b).bind fun ds => (strsOf ds).bind fun ys => joinS x ys
  | _ => none
section
variable {X : Cx} {S : Type} {B : Amb S} {e o : Expr} {ma me : ME S} {pos p apos : Pos}
theorem d_join (ho : PE X o (tD X.K B ma)) (he : PE X e (tD X.K B me)) (hs : starEach [e] X.env = [(false, eval e X.env)] := by rfl) (hbase : attributeBase o "join" X.env (eval o X.env) = eval o X.env := by rfl) (hline : (apos.endLine == pos.line) = true := by rfl) :
    PE X (.Call (.Attribute o "join" apos) [e] [] pos) (tD X.K B (mB joinD ma me)) := pe_w (pe_join ho he hs hbase hline) fun σ H Q ⟨env, F, s, d, s', E, oo, hm, hq⟩ => by
  obtain ⟨d1, s1, d2, e1, e2, e3⟩ := bin_un hm
  unfold joinD at e3
  cases d1 with
  | str x =>
    dsimp only at e3
    cases e4 : seqItems d2 with
    | none => rw [e4] at e3; cases e3
    | some ds =>
      rw [e4, Option.bind_some] at e3
      cases e5 : strsOf ds with
      | none => rw [e5] at e3; cases e3
      | some ys =>
        rw [e5, Option.bind_some] at e3
        unfold joinS at e3
        split at e3
        · rename_i c
          cases e3
          have eds := strsOf_eq e5
          refine ⟨env, F, s, .str x, s1, E, oo, e1, fun v F1 H1 v1 hx => ?_⟩
          have ex : v = V.str x := hx
          subst ex
          refine ⟨⟨x, rfl⟩, env, F1, s1, d2, _, E.step oo v1, v1.ok, e2, fun u F2 H2 v2 hy => ?_⟩
          cases d2 with
          | tup es =>
            cases e4
            obtain ⟨a, vs, rfl, h2, h3⟩ := hy
            rw [eds] at h3
            rw [h3.strs] at h2
            exact ⟨x, a, ys, rfl, rfl, .inr (sqT_ext v2.ok.sub h2), c, hq _ _ _ (v1.trans v2) rfl⟩
          | lst es =>
            cases e4
            obtain ⟨a, vs, rfl, h2, h3⟩ := hy
            rw [eds] at h3
            rw [h3.strs] at h2
            exact ⟨x, a, ys, rfl, rfl, .inl (SqL.of (v2.ok.sub _ _ h2)), c, hq _ _ _ (v1.trans v2) rfl⟩
          | _ => cases e4
        · cases e3
  | _ => cases e3
end
end Dl

set_option Elab.async false
set_option linter.all false
set_option maxRecDepth 100000
set_option maxHeartbeats 4000000
/-! D17: what is never reached; x op= e; max of a tuple. -/
namespace Dl
open PySem
open L2
def sNone {S : Type} : MS S := fun _ _ => none
def mNone {S : Type} : ME S := fun _ _ => none
section
variable {X : Cx} {S : Type} {B : Amb S} {e a : Expr} {me : ME S} {pos p : Pos} {st : Stmt} {sts : List Stmt} {ml : ML S}
/-- a statement that is never reached -/
theorem s_none : PS X st (tS X.K B sNone) := ⟨fun pins s σ H Dn I ⟨env, F, s', out, E, o, hm, hq⟩ => by cases hm⟩
theorem ss_none : PSs X sts (tS X.K B sNone) := ⟨fun pins s σ H Dn I ⟨env, F, s', out, E, o, hm, hq⟩ => by cases hm⟩
theorem d_none : PE X e (tD X.K B mNone) := ⟨fun pins s σ H Q I ⟨env, F, s', d, s2, E, o, hm, hq⟩ => by cases hm⟩
def datAt (env : DE) (i : Nat) : Option D := match env[i]? with
  | some (some (.dat d)) => some d
  | _ => none
theorem datAt_eq {env : DE} {i : Nat} {d : D} (h : datAt env i = some d) : env[i]? = some (some (.dat d)) := by
  unfold datAt at h
  split at h
  · cases h; assumption
  · cases h
def sAug (i : Nat) (f : D → D → Option D) (e : ME S) : MS S := fun env s => (datAt env i).bind fun d => (e env s).bind fun p => (f d p.1).map fun z => .nx (env.set i (some (.dat z))) p.2
theorem s_aug {i : Nat} {x : Str} {op : Operator} {r : R2} {f : D → D → Option D} {pos' : Pos} (hN : X.N.Nodup) (hr : OpR X (inplaceOp op) r) (hd : OpD X.K B r f) (he : PE X e (tD X.K B me)) (hi : X.N[i]? = some x := by rfl) (hx : Loc X.env.scope x := by first | exact Or.inl rfl | exact Or.inr rfl)
    (hf : X.fn x = true ∨ X.env.scope.names.lookup x = some .local := by first | exact .inl rfl | exact .inr rfl) : PS X (.AugAssign (.Name x pos') op e pos) (tS X.K B (sAug i f me)) :=
  ps_w (ps_aug (i := i) hN hi hx he hr hf) fun Dn σ H ⟨env, F, s, out, E, o, hm, hq⟩ => by
    unfold sAug at hm
    cases e0 : datAt env i with
    | none => simp [e0] at hm
    | some d =>
      simp only [e0, Option.bind_some] at hm
      cases e1 : me env s with
      | none => simp [e1] at hm
      | some w =>
        obtain ⟨d2, s1⟩ := w
        simp only [e1, Option.bind_some] at hm
        cases e2 : f d d2 with
        | none => simp [e2] at hm
        | some z =>
          simp only [e2, Option.map_some, Option.some.injEq] at hm
          subst hm
          obtain ⟨v, g1, g2⟩ := E.dat i d (datAt_eq e0)
          refine ⟨v, g1, env, F, s, d2, s1, E, o, e1, fun u F1 H1 v1 hu => ?_⟩
          refine hd F1 H1 s1 d d2 z v u _ v1.ok (g2.ext (v1.sameF o)) hu e2 fun y F3 H3 v3 hy => ?_
          obtain ⟨E2, o2⟩ := (E.step o (v1.trans v3)).put (i := i) hy
          exact hq _ F3 H3 E2 ((Sv.of E (v1.trans v3)).less o2)
theorem iop_addA : OpR X (inplaceOp .Add) (fun x y H Q => rI0 (fun i j => .int (i + j)) x y H Q ∨ ∃ i j, x = .str i ∧ y = .str j ∧ i.length + j.length ≤ sizeLine ∧ Q (.str (i ++ j)) H) := OpR.or iop_add iop_add_str
def iaddD : D → D → Option D
  | .int i, .int j => some (.int (i + j))
  | .str x, .str y => if x.length + y.length ≤ sizeLine then some (.str (x ++ y)) else none
  | _, _ => none
theorem iaddD_ok {K : PySem.W.Frag} : OpD K B (fun x y H Q => rI0 (fun i j => .int (i + j)) x y H Q ∨ ∃ i j, x = .str i ∧ y = .str j ∧ i.length + j.length ≤ sizeLine ∧ Q (.str (i ++ j)) H) iaddD := fun F H s dx dy dz x y Q o hx hy hf hq => by
  unfold iaddD at hf
  split at hf
  · rename_i i j
    cases hf
    exact .inl ⟨i, j, hx, hy, hq _ F H o.refl rfl⟩
  · rename_i i j
    split at hf
    · rename_i c
      cases hf
      exact .inr ⟨i, j, hx, hy, c, hq _ F H o.refl rfl⟩
    · cases hf
  · cases hf
/-! max of a tuple of whole numbers -/
def rMaxT (K : PySem.W.Frag) : List V → Hp → VK → Prop := fun vs H Q => ∃ (a : Addr) (n : Int) (ns : List Int), vs = [V.ref a] ∧ SqT K H a ((n :: ns).map V.int) ∧ Q (.int (ns.foldl max n)) H
theorem ints_dp {K : PySem.W.Frag} {H : Hp} : ∀ ns : List Int, DpAll K H (ns.map V.int) (ns.map PyData.int)
  | [] => .nil
  | n :: ns => .cons (.int n) (ints_dp ns)
theorem ints_depth : ∀ ns : List Int, PyData.depthAll (ns.map PyData.int) = 0
  | [] => rfl
  | n :: ns => by
    show max 0 (PyData.depthAll (ns.map PyData.int)) = 0
    rw [ints_depth ns]
    rfl
theorem cr_maxT (hc : X.calm = true) (hu : X.A.units + 64 < cLine) : CallR X (.builtin "max") (rMaxT X.K) := by
  intro pins s σ H vs us Q I r h
  obtain ⟨a, n, ns, rfl, hs, q⟩ := h
  rw [Vals.ref1 r]
  obtain ⟨its, rv, hl, hz⟩ := I.tuple hs
  obtain ⟨as, hr⟩ := Dp.readsAll I ((n :: ns).map PyData.int) _ _ (ints_dp (K := X.K) (H := H) (n :: ns)) rv
  have hal : PySem.W.AlikeAll ((n :: ns).map PyData.int) := by
    refine ⟨fun x hx y hy => ?_, fun x hx => ?_⟩
    · obtain ⟨i, _, rfl⟩ := List.mem_map.mp hx
      obtain ⟨j, _, rfl⟩ := List.mem_map.mp hy
      rfl
    · obtain ⟨i, _, rfl⟩ := List.mem_map.mp hx
      exact fun z => nomatch z
  have hr' : ReadsAll s.heap its.toArray.toList (PyData.int n :: ns.map PyData.int) as := by simpa using hr
  refine PySem.W.max_tuple_data (I.ok.hd hc) hl hr' hal (by rw [show PyData.depthAll (PyData.int n :: ns.map PyData.int) = 0 from ints_depth (n :: ns)]; omega) fun i v h' tk bs hv rd k => ?_
  rw [PySem.W.maxD_ints] at rd
  cases rd
  exact ⟨.int _, H, I.kept k, ⟨_, rfl⟩, q⟩
def maxTD : List D → Option D
  | [.tup ds] => match numsOf ds with
    | some (n :: ns) => some (.int (ns.foldl max n))
    | _ => none
  | ds => maxD ds
theorem maxTD_ok {K : PySem.W.Frag} : CallD K B (fun vs H Q => rMaxT K vs H Q ∨ rMaxA K vs H Q) maxTD := fun F H s ds dz vs Q o hv hf hq => by
  unfold maxTD at hf
  split at hf
  · rename_i x
    split at hf
    · rename_i n ns e
      cases hf
      have ex := numsOf_eq e
      subst ex
      obtain ⟨v, rfl, hx⟩ := one_of hv
      obtain ⟨a, us, rfl, h2, h3⟩ := hx
      rw [DvL.ints h3] at h2
      exact .inl ⟨a, n, ns, rfl, sqT_ext o.sub h2, hq _ F H o.refl rfl⟩
    · cases hf
  · exact .inr (maxD_ok F H s ds dz vs Q o hv hf hq)
end
end Dl

set_option Elab.async false
set_option linter.all false
set_option maxRecDepth 100000
set_option maxHeartbeats 4000000
/-! D18: dicts with texts for keys: displays, reading. -/
namespace Dl
open PySem
open L2
theorem putK_new {kvs : List (Key × V)} {k : Key} {v : V} (h : k ∉ kvs.map (·.1)) : putK kvs k v = kvs ++ [(k, v)] := by
  unfold putK
  rw [if_neg]
  intro c
  obtain ⟨p, hp, e⟩ := List.any_eq_true.mp c
  exact h (List.mem_map.mpr ⟨p, hp, by simpa using e⟩)
theorem mergeK_new : ∀ {more kvs : List (Key × V)}, ((kvs ++ more).map (·.1)).Nodup → mergeK kvs more = kvs ++ more
  | [], kvs, _ => (List.append_nil _).symm
  | p :: more, kvs, h => by
    have hp : p.1 ∉ kvs.map (·.1) := by
      rw [List.map_append, List.map_cons] at h
      intro hm
      exact (List.nodup_append.mp h).2.2 _ hm _ (List.mem_cons_self ..) rfl
    show mergeK (putK kvs p.1 p.2) more = _
    rw [putK_new hp, mergeK_new (by rw [List.append_assoc]; exact h), List.append_assoc]
    rfl
def mDisp {S : Type} (ks : List Str) (l : ML S) : ME S := fun env s => (l env s).bind fun p => if p.1.length = ks.length ∧ (ks.map (Sum.inr : Str → Key)).Nodup then some (.dct (ks.map Sum.inr) p.1, p.2) else none
section
variable {X : Cx} {S : Type} {B : Amb S} {a b v : Expr} {ma mb : ME S} {ml : ML S} {pos p : Pos}
/-- a display's pairs -/
structure PD (X : Cx) (B : Amb S) (pos : Pos) (keys : List (Option Expr)) (values : List Expr) (ks : List Str) (ml : ML S) : Prop where
  ex : ∃ trs, PPs X pos keys values trs ∧ keys.all (·.isSome) = true ∧ keys.length = values.length ∧ keys.length = ks.length ∧
    ∀ (σ : L2.St) (H : Hp) (Q : List (V × V) → Hp → Prop), (∃ env F s ds s', EnvOk X.K B F H σ env ∧ Ok B F H s ∧ ml env s = some (ds, s') ∧ ∀ vs F' H', Ev B F H F' H' s' → DvL X.K B F' ds vs → Q ((ks.zip vs).map fun p => (V.str p.1, p.2)) H') → tPairs trs σ H Q
theorem pd_nil : PD X B pos [] [] [] mNil := ⟨[], pps_nil, rfl, rfl, rfl, fun σ H Q ⟨env, F, s, ds, s', E, o, hm, hq⟩ => by
  have e : ([], s) = (ds, s') := Option.some.inj hm
  cases e
  exact hq [] F H o.refl rfl⟩
theorem pd_cons {k : Str} {j} {kp : Pos} {keys : List (Option Expr)} {values : List Expr} {ks : List Str} (hv : PE X v (tD X.K B ma)) (hr : PD X B pos keys values ks ml) : PD X B pos (some (.Constant (.str k) j kp) :: keys) (v :: values) (k :: ks) (mCons ma ml) := by
  obtain ⟨trs, h1, h2, h3, h4, h5⟩ := hr.ex
  refine ⟨_, pps_cons pe_str hv h1, by rw [List.all_cons, h2]; rfl, by rw [List.length_cons, List.length_cons, h3], by rw [List.length_cons, List.length_cons, h4], fun σ H Q ⟨env, F, s, ds, s', E, o, hm, hq⟩ => ?_⟩
  unfold mCons at hm
  cases e1 : ma env s with
  | none => simp [e1] at hm
  | some w =>
    obtain ⟨d, s1⟩ := w
    cases e2 : ml env s1 with
    | none => simp [e1, e2] at hm
    | some w =>
      obtain ⟨es, s2⟩ := w
      simp [e1, e2] at hm
      obtain ⟨m1, m2⟩ := hm
      subst m1 m2
      show tD X.K B ma σ H fun y H2 => tPairs trs σ H2 fun ps H3 => Q ((V.str k, y) :: ps) H3
      refine ⟨env, F, s, d, s1, E, o, e1, fun u F1 H1 v1 hu => ?_⟩
      refine h5 σ H1 _ ⟨env, F1, s1, es, s2, E.step o v1, v1.ok, e2, fun vs F2 H2 v2 hvs => ?_⟩
      exact hq (u :: vs) F2 H2 (v1.trans v2) ⟨u, vs, rfl, hu.ext (v2.sameF v1.ok), hvs⟩
theorem d_disp {keys : List (Option Expr)} {values : List Expr} {ks : List Str} (h : PD X B pos keys values ks ml) (h0 : keys ≠ []) (h15 : keys.length ≤ 15 := by decide) : PE X (.Dict keys values pos) (tD X.K B (mDisp ks ml)) := by
  obtain ⟨trs, h1, h2, h3, h4, h5⟩ := h.ex
  refine pe_w (pe_disp h1 h2 h3 h0 h15) fun σ H Q ⟨env, F, s, d, s', E, o, hm, hq⟩ => ?_
  unfold mDisp at hm
  cases e1 : ml env s with
  | none => simp [e1] at hm
  | some w =>
    obtain ⟨ds, s1⟩ := w
    simp only [e1, Option.bind_some] at hm
    split at hm
    · rename_i c
      cases hm
      intro p hp
      have v0 := Ev.newO o (.dK []) hp
      refine h5 σ _ _ ⟨env, F, s, ds, _, E.step o v0, v0.ok, e1, fun vs F1 H1 v1 hvs => ?_⟩
      have hpo : ¬ B.own p := ne_own o hp
      have hp1 : H1 p = some (.dK []) := v1.hs p _ upd_same hpo
      have hf0 : F p = none := by
        cases q : F p with
        | none => rfl
        | some x => rw [o.sub p x q] at hp; cases hp
      have hf1 : F1 p = none := by
        have := v1.fs p (by rw [upd_same]; exact fun z => nomatch z)
        rw [this]
        exact hf0
      have hl : vs.length = ks.length := by rw [hvs.len]; exact c.1
      have hz1 : ((ks.zip vs).map fun q => ((Sum.inr q.1 : Key), q.2)).map (·.1) = ks.map Sum.inr := by
        rw [List.map_map]
        have : ((fun x : Key × V => x.1) ∘ fun q : Str × V => ((Sum.inr q.1 : Key), q.2)) = (Sum.inr : Str → Key) ∘ Prod.fst := rfl
        rw [this, ← List.map_map, List.map_fst_zip (by omega)]
      have hz2 : ((ks.zip vs).map fun q => ((Sum.inr q.1 : Key), q.2)).map (·.2) = vs := by
        rw [List.map_map]
        have : ((fun x : Key × V => x.2) ∘ fun q : Str × V => ((Sum.inr q.1 : Key), q.2)) = Prod.snd := rfl
        rw [this, List.map_snd_zip (by omega)]
      refine ⟨hp1, (ks.zip vs).map fun q => (Sum.inr q.1, q.2), ?_, ?_, ?_⟩
      · rw [List.map_map]
        rfl
      · rw [List.length_map, List.length_zip]
        omega
      · rw [mergeK_new (by rw [List.nil_append, hz1]; exact c.2), List.nil_append]
        have v2 : Ev B F H (upd F1 p (.dK ((ks.zip vs).map fun q => (Sum.inr q.1, q.2)))) (upd H1 p (.dK ((ks.zip vs).map fun q => (Sum.inr q.1, q.2)))) s' := by
          have v01 := v0.trans v1
          refine ⟨fun q hq2 => ?_, fun q x hx hn => ?_, ⟨fun q x hx => ?_, fun q hq2 => ?_, B.stay _ H1 _ v01.ok.am fun q x hq2 hx => ?_⟩⟩
          · have : q ≠ p := fun z => hq2 (z ▸ hp)
            rw [upd_ne this]
            exact v01.fs q hq2
          · have : q ≠ p := fun z => by rw [z, hp] at hx; cases hx
            rw [upd_ne this]
            exact v01.hs q x hx hn
          · by_cases z : q = p
            · subst z
              rw [upd_same] at hx ⊢
              exact hx
            · rw [upd_ne z] at hx ⊢
              exact v01.ok.sub q x hx
          · have : q ≠ p := fun z => hpo (z ▸ hq2)
            rw [upd_ne this]
            exact v01.ok.ap q hq2
          · have : q ≠ p := fun z => hpo (z ▸ hq2)
            rw [upd_ne this]
            exact hx
        refine hq _ _ _ v2 ⟨p, _, rfl, upd_same, hz1, ?_⟩
        rw [hz2]
        refine hvs.ext fun q x hx => ?_
        have : q ≠ p := fun z => by rw [z, hf1] at hx; cases hx
        rw [upd_ne this]
        exact hx
    · cases hm
/-! d[k] -/
def lookD : List Key → List D → Key → Option D
  | k :: ks, d :: ds, x => if k = x then some d else lookD ks ds x
  | _, _, _ => none
def dgetD (x y : D) : Option D := match x, y with
  | .dct ks ds, .str z => lookD ks ds (.inr z)
  | .dct ks ds, .int z => lookD ks ds (.inl z)
  | _, _ => none
theorem look_dv {K : PySem.W.Frag} {F : Hp} : ∀ {kvs : List (Key × V)} {ds : List D} {k : Key} {d : D}, DvL K B F ds (kvs.map (·.2)) → lookD (kvs.map (·.1)) ds k = some d → ∃ v, valV kvs k = some v ∧ Dv K B F d v
  | [], ds, k, d, _, e => by
    cases ds <;> cases e
  | p :: kvs, [], k, d, h, e => by cases e
  | p :: kvs, d0 :: ds, k, d, h, e => by
    obtain ⟨v, r, e1, h1, h2⟩ := h
    rw [List.map_cons, List.cons.injEq] at e1
    obtain ⟨e1, e2⟩ := e1
    have e' : (if p.1 = k then some d0 else lookD (kvs.map (·.1)) ds k) = some d := e
    by_cases c : p.1 = k
    · rw [if_pos c] at e'
      cases e'
      exact ⟨p.2, valV_pos c, by rw [e1]; exact h1⟩
    · rw [if_neg c] at e'
      rw [← e2] at h2
      obtain ⟨u, g1, g2⟩ := look_dv h2 e'
      refine ⟨u, ?_, g2⟩
      rw [← g1]
      simp [valV, List.find?_cons, c]
theorem d_dget (hu : X.A.units + 64 < cLine) (ha : PE X a (tD X.K B ma)) (hb : PE X b (tD X.K B mb)) (hs : NoSl b := by exact fun _ _ => rfl) : PE X (.Subscript a b pos) (tD X.K B (mB dgetD ma mb)) :=
  pe_w (pe_dget (by omega) ha hb hs) fun σ H Q ⟨env, F, s, d, s', E, o, hm, hq⟩ => by
    obtain ⟨x, s1, y, e1, e2, e3⟩ := bin_un hm
    refine ⟨env, F, s, x, s1, E, o, e1, fun u F1 H1 v1 hx => ⟨env, F1, s1, y, s', E.step o v1, v1.ok, e2, fun w F2 H2 v2 hy => ?_⟩⟩
    unfold dgetD at e3
    split at e3
    · rename_i ks ds z
      obtain ⟨p, kvs, rfl, g1, g2, g3⟩ := hx
      subst g2
      obtain ⟨r, k1, k2⟩ := look_dv g3 e3
      refine ⟨p, r, rfl, .inl ⟨kvs, .inr z, .inl (v2.ok.sub _ _ (v2.sameF v1.ok p _ g1)), hy, k1.symm⟩, hq r F2 H2 (v1.trans v2) (k2.ext (v2.sameF v1.ok))⟩
    · rename_i ks ds z
      obtain ⟨p, kvs, rfl, g1, g2, g3⟩ := hx
      subst g2
      obtain ⟨r, k1, k2⟩ := look_dv g3 e3
      refine ⟨p, r, rfl, .inl ⟨kvs, .inl z, .inl (v2.ok.sub _ _ (v2.sameF v1.ok p _ g1)), hy, k1.symm⟩, hq r F2 H2 (v1.trans v2) (k2.ext (v2.sameF v1.ok))⟩
    · cases e3
end
end Dl

set_option Elab.async false
set_option linter.all false
set_option maxRecDepth 100000
set_option maxHeartbeats 4000000
/-! D19: x, y = e, [..] with y a list of one's own. -/
namespace Dl
open PySem
open L2
section
variable {X : Cx} {S : Type} {B : Amb S} {a : Expr} {es : List Expr} {ma : ME S} {ml : ML S} {pos : Pos}
def sParO (i j : Nat) (a : ME S) (l : ML S) : MS S := fun env s => (a env s).bind fun p => (l env p.2).bind fun q => if q.1.length ≤ sizeLine then some (.nx ((env.set i (some (.dat p.1))).set j (some (.own q.1))) q.2) else none
theorem s_parO {i j : Nat} {x y : Str} {px py pt lp : Pos} {kt k2 pt2} (hc : X.calm = true) (hN : X.N.Nodup) (ha : PE X a (tD X.K B ma)) (hl : PA X es (tL X.K B ml)) (hi : X.N[i]? = some x := by rfl) (hj : X.N[j]? = some y := by rfl) (hij : i ≠ j := by decide)
    (hx : X.env.scope.names.lookup x = some .local := by rfl) (hy : X.env.scope.names.lookup y = some .local := by rfl)
    (hw : swappedStores [.Tuple [.Name x px, .Name y py] kt pt] (.Tuple [a, .List es lp] k2 pt2) X.env = pure (some [x, y]) := by rfl)
    (hs : swapsWithSole [.Tuple [.Name x px, .Name y py] kt pt] (.Tuple [a, .List es lp] k2 pt2) pos.line X.env = pure false := by rfl)
    (hst : starEach [a, .List es lp] X.env = (false, eval a X.env) :: starEach [.List es lp] X.env := by rfl) (hst2 : starEach [.List es lp] X.env = (false, eval (.List es lp) X.env) :: starEach [] X.env := by rfl) :
    PS X (.Assign [.Tuple [.Name x px, .Name y py] kt pt] (.Tuple [a, .List es lp] k2 pt2) pos) (tS X.K B (sParO i j ma ml)) :=
  ps_w (ps_par hc hN hi hj hij hx hy (pa_cons ha (pa_cons (pe_lst hl) pa_nil hst2) hst) hw hs) fun Dn σ H ⟨env, F, s, out, E, o, hm, hq⟩ => by
    unfold sParO at hm
    cases e1 : ma env s with
    | none => simp [e1] at hm
    | some w =>
      obtain ⟨d, s1⟩ := w
      simp only [e1, Option.bind_some] at hm
      cases e2 : ml env s1 with
      | none => simp [e2] at hm
      | some w =>
        obtain ⟨ds, s2⟩ := w
        simp only [e2, Option.bind_some] at hm
        split at hm
        · rename_i c
          cases hm
          refine ⟨env, F, s, d, s1, E, o, e1, fun u F1 H1 v1 hu => ?_⟩
          refine ⟨env, F1, s1, ds, s2, E.step o v1, v1.ok, e2, fun vs F2 H2 v2 hv => ⟨by rw [hv.len]; exact c, fun q hq' => ?_⟩⟩
          have v12 := v1.trans v2
          have v3 : Ev B F2 H2 F2 (upd H2 q (.lst vs)) s2 := Ev.newO v2.ok _ hq'
          have E2 := E.step o (v12.trans v3)
          have hF : F2 q = none := by
            cases r : F2 q with
            | none => rfl
            | some u => rw [v2.ok.sub q u r] at hq'; cases hq'
          obtain ⟨E3, o3⟩ := E2.put (i := i) (hu.ext (v2.sameF v1.ok))
          obtain ⟨E4, o4⟩ := E3.putO (i := j) (xs := ds) hF (ne_own v2.ok hq') upd_same hv fun k ys hk q1 q2 => by
            rcases set_get q1 with ⟨_, z, _⟩ | ⟨z, z2⟩
            · cases z
            · obtain ⟨b, us, h1, _, _, h4, _⟩ := (E.step o v12).own k ys z2
              rw [List.getElem?_set_ne (fun e => z e.symm)] at q2
              rw [q2] at h1
              cases h1
              rw [hq'] at h4
              cases h4
          refine ⟨u, .ref q, rfl, ?_⟩
          refine hq _ F2 _ E4 ?_
          have w := Sv.of E (v12.trans v3)
          exact ⟨w.fs, w.hs, fun p hp => by
            rcases o4 p hp with z | z
            · exact .inr (by rw [z]; exact v12.free hq')
            · exact .inl (o3 p z), w.th, w.ok⟩
        · cases hm
end
end Dl
namespace Dl
open PySem
open L2
theorem DOk.mono {P : Program} {w : World} {K : PySem.W.Frag} {mg : Str → Option Value} {base : Heap} {S : Type} {B : Amb S} {x : Str} {j k : Nat} {ps : List Str} {g : List D → S → Option (D × S)} (h : DOk P w K mg base B x j ps g) (hj : j ≤ k) : DOk P w K mg base B x k ps g := by
  obtain ⟨f, fd, h1, h2, h3, h4⟩ := h
  exact ⟨f, fd, h1, h2, h3, h4.mono hj⟩
end Dl

set_option Elab.async false
set_option linter.all false
set_option maxRecDepth 100000
set_option maxHeartbeats 4000000
/-! M1: what mirrors come to. -/
namespace Dl
open PySem
open L2
structure OW {α : Type} (x : Option α) (Q : α → Prop) : Prop where
  ex : ∃ a, x = some a ∧ Q a
section
variable {α β : Type} {Q : α → Prop} {R : β → Prop} {x : Option α}
theorem OW_some {a : α} : OW (some a) Q = Q a := propext ⟨fun ⟨b, e, q⟩ => by cases e; exact q, fun q => ⟨a, rfl, q⟩⟩
theorem OW_none : OW (none : Option α) Q = False := propext ⟨fun ⟨b, e, q⟩ => (by cases e), fun (q : False) => False.elim q⟩
theorem OW_bind {f : α → Option β} : OW (x.bind f) R = OW x fun a => OW (f a) R := by
  cases x with
  | none => exact OW_none.trans OW_none.symm
  | some a => exact (OW_some (Q := fun a => OW (f a) R)).symm
theorem OW_map {f : α → β} : OW (x.map f) R = OW x fun a => R (f a) := by
  cases x with
  | none => exact OW_none.trans OW_none.symm
  | some a => exact OW_some.trans (OW_some (Q := fun a => R (f a))).symm
theorem OW_if {c : Prop} [Decidable c] {y : Option α} : OW (if c then x else y) Q = (if c then OW x Q else OW y Q) := by
  split <;> rfl
theorem OW.get (h : OW x Q) : ∃ a, x = some a ∧ Q a := h.ex
theorem OW.of {a : α} (h : x = some a) (q : Q a) : OW x Q := ⟨a, h, q⟩
theorem OW.mono {Q' : α → Prop} (h : OW x Q) (g : ∀ a, Q a → Q' a) : OW x Q' := by
  obtain ⟨a, e, q⟩ := h.ex
  exact ⟨a, e, g a q⟩
end
theorem eq_of_OW {α : Type} {x : Option α} {a : α} (h : OW x fun p => p = a) : x = some a := by
  obtain ⟨b, e, k⟩ := h.get
  rw [e, k]
theorem OW_eq {α : Type} {x : Option α} {a : α} {Q : α → Prop} (h : x = some a) : OW x Q = Q a := by rw [h, OW_some]
/-! how a def ends -/
def outD {S : Type} : OutS S → Option (D × S)
  | .nx _ s' => some (.non, s')
  | .rt d s' => some (d, s')
  | _ => none
theorem mDef_eq {S : Type} {n : Nat} {m : MS S} {ds : List D} {s : S} : mDef n m ds s = (m (startE n ds) s).bind outD := by
  unfold mDef
  congr 1
section
variable {S : Type} {env : DE} {s : S} {d : D} {b : MS S}
theorem outD_nx : outD (OutS.nx env s) = some (D.non, s) := rfl
theorem outD_rt : outD (OutS.rt d s) = some (d, s) := rfl
theorem thenS_nx : thenS (OutS.nx env s) b = b env s := rfl
theorem thenS_rt : thenS (OutS.rt d s) b = some (OutS.rt d s) := rfl
theorem thenS_bk : thenS (OutS.bk env s) b = some (OutS.bk env s) := rfl
theorem thenS_ct : thenS (OutS.ct env s) b = some (OutS.ct env s) := rfl
theorem rt_D {d' : D} {s' : S} : (OutS.rt d s = OutS.rt d' s') = (d = d' ∧ s = s') := by rw [OutS.rt.injEq]
end
theorem tupItems_tup {ds : List D} : tupItems (.tup ds) = some ds := rfl
theorem lstItems_lst {ds : List D} : lstItems (.lst ds) = some ds := rfl
theorem bl_bl {b : Bool} : blD (.bl b) = some b := rfl
theorem int_int {b : Int} : intOf (.int b) = some b := rfl
section
variable {h : Hand} {i : Nat} {k z : Int} {e : ME Hand} {env : DE}
theorem mHx_eq : mHx i k env h = if isH env i = true then (hget h k).map fun z => (.int z, h) else none := rfl
theorem mHlen_eq : mHlen i env h = if isH env i = true then some (.int h.cells.length, h) else none := rfl
theorem mHcell_eq : mHcell i e env h = if isH env i = true then (e env h).bind fun p => (intOf p.1).bind fun z => (atI p.2.cells z).map fun n => (.int n, p.2) else none := rfl
theorem sHput_eq : sHput i k e env h = if isH env i = true then (e env h).bind fun p => (intOf p.1).bind fun z => (hset p.2 k z).map fun h' => .nx env h' else none := rfl
theorem isH_hnd {l : DE} : isH (some (.dat .hnd) :: l) 0 = true := rfl
theorem hget1 : hget h 1 = some ((h.pos : Nat) : Int) := rfl
theorem hget2 : hget h 2 = some h.great := rfl
theorem hget3 : hget h 3 = some h.seed := rfl
theorem hget4 : hget h 4 = some h.turn := rfl
theorem hset1 : hset h 1 z = if 0 ≤ z then some { h with pos := z.toNat } else none := rfl
theorem hset2 : hset h 2 z = some { h with great := z } := rfl
theorem hset3 : hset h 3 z = some { h with seed := z } := rfl
theorem hset4 : hset h 4 z = some { h with turn := z } := rfl
end
section
variable {i j : Int} {xs ys : List D}
theorem add_int : addD (.int i) (.int j) = some (.int (i + j)) := rfl
theorem add_tup : addD (.tup xs) (.tup ys) = if xs.length + ys.length ≤ sizeLine then some (.tup (xs ++ ys)) else none := rfl
theorem add_lst : addD (.lst xs) (.lst ys) = if xs.length + ys.length ≤ sizeLine then some (.lst (xs ++ ys)) else none := rfl
theorem sub_int : subD (.int i) (.int j) = some (.int (i - j)) := rfl
theorem mul_int : mulD (.int i) (.int j) = (mulI i j).map D.int := rfl
theorem div_int : divD (.int i) (.int j) = (divI i j).map D.int := rfl
theorem mod_int : modD (.int i) (.int j) = (modI i j).map D.int := rfl
theorem pow_int : powD (.int i) (.int j) = (powI i j).map D.int := rfl
theorem abs_int : absD [.int i] = some (.int (if i < 0 then -i else i)) := rfl
theorem intC_int : intCD [.int i] = some (.int i) := rfl
theorem len_tup : lenD [.tup xs] = some (.int xs.length) := rfl
theorem len_lst : lenD [.lst xs] = some (.int xs.length) := rfl
theorem tup_D : tupD xs = if xs.length ≤ sizeLine then some (.tup xs) else none := rfl
theorem lst_D : lstD xs = if xs.length ≤ sizeLine then some (.lst xs) else none := rfl
end
theorem mulI_r {i j : Int} (h : -(2 ^ 64) < j ∧ j < 2 ^ 64) : mulI i j = some (i * j) := by
  unfold mulI
  rw [if_pos (.inr (.inr h))]
theorem mulI_l {i j : Int} (h : -(2 ^ 64) < i ∧ i < 2 ^ 64) : mulI i j = some (i * j) := by
  unfold mulI
  rw [if_pos (.inr (.inl h))]
theorem mulI_mod {x c j : Int} (h : 0 < c) (h2 : c ≤ 2 ^ 64) : mulI (x % c) j = some (x % c * j) := by
  have h3 := Int.emod_nonneg x (Int.ne_of_gt h)
  have h4 := Int.emod_lt_of_pos x h
  exact mulI_l ⟨by omega, by omega⟩
theorem pow_10_18 : powI 10 18 = some 1000000000000000000 := by decide +kernel
theorem atI_nat {α : Type} {l : List α} {n : Nat} (h : n < l.length) : atI l (n : Int) = some l[n] := by
  unfold atI ixN
  rw [if_pos (by omega), if_pos (by omega)]
  show l[((n : Int)).toNat]? = _
  rw [Int.toNat_natCast, List.getElem?_eq_getElem h]
theorem divI_ok {i j : Int} (h : 0 < j) (h2 : j.natAbs.log2 < 9000) : divI i j = some (i / j) := by
  unfold divI
  rw [if_pos ⟨h, h2⟩]
theorem modI_ok {i j : Int} (h : 0 < j) : modI i j = some (i % j) := by
  unfold modI
  rw [if_pos h]
/-! relations on whole numbers, truths -/
open PySem.W in
theorem lt_int0 (a b : Int) : dataLt (.int a) (.int b) = decide (a < b) := by
  show (decide (a < b) || (!decide (b < a) && false)) = decide (a < b)
  rw [Bool.and_false, Bool.or_false]
section
variable {a b : Int}
theorem eq_int : relD eqP (.int a) (.int b) = some (.bl (a == b)) := rfl
theorem ne_int : relD neP (.int a) (.int b) = some (.bl (!(a == b))) := rfl
theorem lt_int : relD ltP (.int a) (.int b) = some (.bl (decide (a < b))) := by
  show some (D.bl (PySem.W.dataLt (.int a) (.int b))) = _
  rw [lt_int0]
theorem gt_int : relD gtP (.int a) (.int b) = some (.bl (decide (b < a))) := by
  show some (D.bl (PySem.W.dataLt (.int b) (.int a))) = _
  rw [lt_int0]
theorem le_int : relD leP (.int a) (.int b) = some (.bl (decide (a ≤ b))) := by
  show some (D.bl (!PySem.W.dataLt (.int b) (.int a))) = _
  rw [lt_int0]
  congr 2
  by_cases c : a ≤ b
  · simp [c, Int.not_lt.mpr c]
  · simp [c, Int.lt_of_not_ge c]
theorem ge_int : relD geP (.int a) (.int b) = some (.bl (decide (b ≤ a))) := by
  show some (D.bl (!PySem.W.dataLt (.int a) (.int b))) = _
  rw [lt_int0]
  congr 2
  by_cases c : b ≤ a
  · simp [c, Int.not_lt.mpr c]
  · simp [c, Int.lt_of_not_ge c]
theorem eq_bl {a b : Bool} : relD eqP (.bl a) (.bl b) = some (.bl (a == b)) := rfl
end
/-! no hand within -/
mutual
def noH : D → Bool
  | .hnd => false
  | .tup ds => noHL ds
  | .lst ds => noHL ds
  | .dct _ ds => noHL ds
  | _ => true
def noHL : List D → Bool
  | [] => true
  | d :: ds => noH d && noHL ds
end
theorem noHL_mem {d : D} : ∀ {ds : List D}, noHL ds = true → d ∈ ds → noH d = true
  | x :: xs, h, hm => by
    unfold noHL at h
    rw [Bool.and_eq_true] at h
    rcases List.mem_cons.mp hm with e | e
    · rw [e]; exact h.1
    · exact noHL_mem h.2 e
theorem isi_of {T : Ty} {d : D} (h : noH d = true) : isiD T d = some (.bl (isI T d)) := by
  cases d with
  | hnd => cases h
  | _ => rfl
/-- a comprehension whose item is a plain thing of the walked one -/
theorem comp_pure {S : Type} {g : D → DE → Option DE} {e : ME S} {env : DE} {s : S} {k : D → D} : ∀ {xs : List D}, (∀ x ∈ xs, ∃ env1, g x env = some env1 ∧ e env1 s = some (k x, s)) → compL g mYes e env xs s = some (xs.map k, s)
  | [], _ => rfl
  | x :: xs, h => by
    obtain ⟨env1, h1, h2⟩ := h x (List.mem_cons_self ..)
    have ih := comp_pure (xs := xs) fun y hy => h y (List.mem_cons_of_mem _ hy)
    unfold compL
    rw [h1]
    show (if true = true then (e env1 s).bind fun q => (compL g mYes e env xs q.2).map fun r => (q.1 :: r.1, r.2) else compL g mYes e env xs s) = _
    rw [if_pos rfl, h2]
    show ((compL g mYes e env xs s).map fun r => (k x :: r.1, r.2)) = _
    rw [ih]
    rfl
theorem bls_map {p : D → Bool} : ∀ {xs : List D}, blsD (xs.map fun x => D.bl (p x)) = some (xs.map p)
  | [] => rfl
  | x :: xs => by
    show (blsD (xs.map fun x => D.bl (p x))).map (fun bs => p x :: bs) = _
    rw [bls_map]
    rfl
theorem all_map {p : D → Bool} {xs : List D} : allD [.lst (xs.map fun x => D.bl (p x))] = some (.bl (xs.all p)) := by
  show (blsD (xs.map fun x => D.bl (p x))).map (fun bs => D.bl (bs.all id)) = _
  rw [bls_map]
  show some (D.bl ((xs.map p).all id)) = _
  rw [List.all_map]
  rfl
end Dl

set_option Elab.async false
set_option linter.all false
set_option maxRecDepth 100000
set_option maxHeartbeats 4000000
/-! M2: versions and ranges by whole numbers. -/
namespace Dl
open PySem
open L2
/-- a version as one number: three places of seven digits -/
def OkV (x : Int) : Prop := 0 ≤ x ∧ x / 100000000000000 ≤ 1000000 ∧ x / 10000000 % 10000000 ≤ 1000000 ∧ x % 10000000 ≤ 1000000
def verL (x : Int) : List Int := [x / 100000000000000, x / 10000000 % 10000000, x % 10000000]
def verD (x : Int) : D := .tup ((verL x).map .int)
theorem verD_eq (x : Int) : verD x = .tup [.int (x / 100000000000000), .int (x / 10000000 % 10000000), .int (x % 10000000)] := rfl
def inR (l m : Int) : D → Bool
  | .int i => decide (l ≤ i) && decide (i ≤ m)
  | _ => false
def isV : D → Bool
  | .tup ds => ds.length == 3 && ds.all (inR 0 1000000)
  | _ => false
theorem inR_int {l m : Int} {d : D} (h : inR l m d = true) : ∃ i, d = .int i ∧ l ≤ i ∧ i ≤ m := by
  cases d with
  | int i =>
    unfold inR at h
    rw [Bool.and_eq_true, decide_eq_true_eq, decide_eq_true_eq] at h
    exact ⟨i, rfl, h⟩
  | _ => cases h
theorem isV_ver {d : D} (h : isV d = true) : ∃ x, OkV x ∧ d = verD x := by
  cases d with
  | tup ds =>
    unfold isV at h
    rw [Bool.and_eq_true, beq_iff_eq] at h
    obtain ⟨h1, h2⟩ := h
    match ds, h1, h2 with
    | [a, b, c], _, h2 =>
      simp only [List.all_cons, List.all_nil, Bool.and_true, Bool.and_eq_true] at h2
      obtain ⟨ha, hb, hc⟩ := h2
      obtain ⟨a, rfl, a0, a1⟩ := inR_int ha
      obtain ⟨b, rfl, b0, b1⟩ := inR_int hb
      obtain ⟨c, rfl, c0, c1⟩ := inR_int hc
      have e1 : (a * 100000000000000 + b * 10000000 + c) / 100000000000000 = a := by omega
      have e2 : (a * 100000000000000 + b * 10000000 + c) / 10000000 % 10000000 = b := by omega
      have e3 : (a * 100000000000000 + b * 10000000 + c) % 10000000 = c := by omega
      refine ⟨a * 100000000000000 + b * 10000000 + c, ⟨by omega, by omega, by omega, by omega⟩, ?_⟩
      rw [verD_eq, e1, e2, e3]
  | _ => cases h
theorem ver_isV {x : Int} (h : OkV x) : isV (verD x) = true := by
  obtain ⟨h0, h1, h2, h3⟩ := h
  show (true && (inR 0 1000000 (.int (x / 100000000000000)) && (inR 0 1000000 (.int (x / 10000000 % 10000000)) && (inR 0 1000000 (.int (x % 10000000)) && true)))) = true
  simp only [inR, Bool.and_eq_true, decide_eq_true_eq, true_and, and_true]
  omega
theorem ver_inj {x y : Int} (h : verD x = verD y) : x = y := by
  rw [verD_eq, verD_eq, D.tup.injEq] at h
  simp only [List.cons.injEq, D.int.injEq, and_true] at h
  omega
theorem ver_noH (x : Int) : noH (verD x) = true := rfl
/-! how they compare -/
def pv3 (a b c : Int) : PyData := .tuple [.int a, .int b, .int c]
theorem ver_py (x : Int) : toPy (verD x) = some (pv3 (x / 100000000000000) (x / 10000000 % 10000000) (x % 10000000)) := rfl
theorem lt3 (a b c a' b' c' : Int) : PySem.W.dataLt (pv3 a b c) (pv3 a' b' c') = (decide (a < a') || (!decide (a' < a) && (decide (b < b') || (!decide (b' < b) && decide (c < c'))))) := by
  show (decide ((1 : Int) < 1) || (!decide ((1 : Int) < 1) && (decide (a < a') || (!decide (a' < a) && (decide ((1 : Int) < 1) || (!decide ((1 : Int) < 1) && (decide (b < b') || (!decide (b' < b) && (decide ((1 : Int) < 1) || (!decide ((1 : Int) < 1) && (decide (c < c') || (!decide (c' < c) && (decide ((0 : Int) < 0) || (!decide ((0 : Int) < 0) && false))))))))))))))  = _
  simp
theorem lt_ver0 {x y : Int} (hx : OkV x) (hy : OkV y) : PySem.W.dataLt (pv3 (x / 100000000000000) (x / 10000000 % 10000000) (x % 10000000)) (pv3 (y / 100000000000000) (y / 10000000 % 10000000) (y % 10000000)) = decide (x < y) := by
  rw [lt3, Bool.eq_iff_iff]
  simp only [Bool.or_eq_true, Bool.and_eq_true, Bool.not_eq_true', decide_eq_true_eq, decide_eq_false_iff_not]
  unfold OkV at hx hy
  omega
section
variable {x y : Int}
theorem lt_ver (hx : OkV x) (hy : OkV y) : relD ltP (verD x) (verD y) = some (.bl (decide (x < y))) := by
  rw [← lt_ver0 hx hy]
  rfl
theorem le_ver (hx : OkV x) (hy : OkV y) : relD leP (verD x) (verD y) = some (.bl (decide (x ≤ y))) := by
  have e : decide (x ≤ y) = !decide (y < x) := by
    by_cases c : x ≤ y
    · simp [c, Int.not_lt.mpr c]
    · simp [c, Int.lt_of_not_ge c]
  rw [e, ← lt_ver0 hy hx]
  rfl
theorem max_ver (hx : OkV x) (hy : OkV y) : maxD [verD x, verD y] = some (if x < y then verD y else verD x) := by
  have e : maxD [verD x, verD y] = (if PySem.W.dataLt (pv3 (x / 100000000000000) (x / 10000000 % 10000000) (x % 10000000)) (pv3 (y / 100000000000000) (y / 10000000 % 10000000) (y % 10000000)) = true then some (verD y) else some (verD x)) := by
    show (if true = true then some (if PySem.W.dataLt (pv3 (x / 100000000000000) (x / 10000000 % 10000000) (x % 10000000)) (pv3 (y / 100000000000000) (y / 10000000 % 10000000) (y % 10000000)) = true then verD y else verD x) else none) = _
    rw [if_pos rfl]
    split <;> rfl
  rw [e, lt_ver0 hx hy]
  by_cases c : x < y
  · rw [if_pos c, if_pos (decide_eq_true c)]
  · rw [if_neg c, if_neg (by rw [decide_eq_false c]; exact Bool.false_ne_true)]
end
/-! stretches, ranges -/
abbrev Rng := List (Int × Option Int)
def hiD : Option Int → D
  | none => .non
  | some h => verD h
def strD (p : Int × Option Int) : D := .tup [verD p.1, hiD p.2]
def rngD (r : Rng) : D := .tup (r.map strD)
def OkS (p : Int × Option Int) : Prop := OkV p.1 ∧ ∀ h, p.2 = some h → OkV h ∧ p.1 < h
/-- each stretch begins behind the end of the one before it -/
def chain : Option (Option Int) → Rng → Bool
  | _, [] => true
  | none, (_, hi) :: r => chain (some hi) r
  | some none, _ :: _ => false
  | some (some h), (lo, hi) :: r => decide (h < lo) && chain (some hi) r
def OkR (r : Rng) : Prop := (∀ p ∈ r, OkS p) ∧ chain none r = true
def IsS (d : D) : Prop := ∃ p, OkS p ∧ d = strD p
def IsR (d : D) : Prop := ∃ r, OkR r ∧ d = rngD r
theorem hiD_inj {a b : Option Int} (h : hiD a = hiD b) : a = b := by
  cases a with
  | none => cases b with
    | none => rfl
    | some y => cases h
  | some x => cases b with
    | none => cases h
    | some y => rw [ver_inj (show verD x = verD y from h)]
theorem strD_inj {p q : Int × Option Int} (h : strD p = strD q) : p = q := by
  unfold strD at h
  rw [D.tup.injEq] at h
  simp only [List.cons.injEq, and_true] at h
  exact Prod.ext (ver_inj h.1) (hiD_inj h.2)
theorem rngD_inj : ∀ {r q : Rng}, r.map strD = q.map strD → r = q
  | [], [], _ => rfl
  | [], _ :: _, h => by cases h
  | _ :: _, [], h => by cases h
  | p :: r, p' :: q, h => by
    rw [List.map_cons, List.map_cons, List.cons.injEq] at h
    rw [strD_inj h.1, rngD_inj h.2]
theorem noH_hi (h : Option Int) : noH (hiD h) = true := by
  cases h <;> rfl
theorem noH_str (p : Int × Option Int) : noH (strD p) = true := by
  show (noH (verD p.1) && (noH (hiD p.2) && true)) = true
  rw [ver_noH, noH_hi]
  rfl
theorem noHL_map {α : Type} {f : α → D} (h : ∀ a, noH (f a) = true) : ∀ l : List α, noHL (l.map f) = true
  | [] => rfl
  | a :: l => by
    show (noH (f a) && noHL (l.map f)) = true
    rw [h, noHL_map h l]
    rfl
theorem noH_rng (r : Rng) : noH (rngD r) = true := noHL_map noH_str r
theorem all_strs : ∀ {ds : List D}, (∀ d ∈ ds, IsS d) → ∃ r : Rng, (∀ p ∈ r, OkS p) ∧ ds = r.map strD
  | [], _ => ⟨[], (fun _ h => by cases h), rfl⟩
  | d :: ds, h => by
    obtain ⟨p, hp, e⟩ := h d (List.mem_cons_self ..)
    obtain ⟨r, hr, e2⟩ := all_strs fun x hx => h x (List.mem_cons_of_mem _ hx)
    refine ⟨p :: r, fun q hq => ?_, by rw [e, e2]; rfl⟩
    rcases List.mem_cons.mp hq with z | z
    · rw [z]; exact hp
    · exact hr q z
/-! what a range holds -/
def inS (p : Int × Option Int) (v : Int) : Bool := decide (p.1 ≤ v) && (match p.2 with
  | none => true
  | some h => decide (v < h))
def has (r : Rng) (v : Int) : Bool := r.any fun p => inS p v
def bounds (r : Rng) : List Int := r.flatMap fun p => match p.2 with
  | none => [p.1]
  | some h => [p.1, h]
theorem mem_bounds {r : Rng} {b : Int} : b ∈ bounds r ↔ ∃ p ∈ r, b = p.1 ∨ p.2 = some b := by
  unfold bounds
  rw [List.mem_flatMap]
  constructor
  · rintro ⟨p, hp, hb⟩
    refine ⟨p, hp, ?_⟩
    cases e : p.2 with
    | none => rw [e] at hb; exact .inl (List.mem_singleton.mp hb)
    | some h =>
      rw [e] at hb
      rcases List.mem_cons.mp hb with z | z
      · exact .inl z
      · exact .inr (by rw [List.mem_singleton.mp z])
  · rintro ⟨p, hp, hb⟩
    refine ⟨p, hp, ?_⟩
    cases e : p.2 with
    | none =>
      rcases hb with z | z
      · rw [z]; exact List.mem_singleton.mpr rfl
      · rw [e] at z; cases z
    | some h =>
      rcases hb with z | z
      · rw [z]; exact List.mem_cons_self ..
      · rw [e] at z
        cases z
        exact List.mem_cons_of_mem _ (List.mem_singleton.mpr rfl)
/-- between the bounds nothing changes -/
theorem inS_const {p : Int × Option Int} {m v : Int} (h : m ≤ v) (h1 : ¬ (m < p.1 ∧ p.1 ≤ v)) (h2 : ∀ b, p.2 = some b → ¬ (m < b ∧ b ≤ v)) : inS p m = inS p v := by
  obtain ⟨lo, hi⟩ := p
  unfold inS
  rw [Bool.eq_iff_iff]
  cases hi with
  | none =>
    simp only [Bool.and_true, decide_eq_true_eq]
    dsimp only at h1
    omega
  | some b =>
    have := h2 b rfl
    simp only [Bool.and_eq_true, decide_eq_true_eq]
    dsimp only at h1
    omega
theorem has_const {r : Rng} {m v : Int} (h : m ≤ v) (hb : ∀ b ∈ bounds r, ¬ (m < b ∧ b ≤ v)) : has r m = has r v := by
  unfold has
  rw [Bool.eq_iff_iff, List.any_eq_true, List.any_eq_true]
  have g : ∀ p ∈ r, inS p m = inS p v := fun p hp => inS_const h (hb _ (mem_bounds.mpr ⟨p, hp, .inl rfl⟩)) fun b e => hb b (mem_bounds.mpr ⟨p, hp, .inr e⟩)
  constructor
  · rintro ⟨p, hp, e⟩
    exact ⟨p, hp, by rw [← g p hp]; exact e⟩
  · rintro ⟨p, hp, e⟩
    exact ⟨p, hp, by rw [g p hp]; exact e⟩
/-! ranges made of marks and flags -/
def madeR : Option Int → List (Int × Bool) → Rng
  | none, [] => []
  | some lo, [] => [(lo, none)]
  | none, (m, f) :: r => if f = true then madeR (some m) r else madeR none r
  | some lo, (m, f) :: r => if f = true then madeR (some lo) r else (lo, some m) :: madeR none r
/-- the flag of the last mark that is not above v -/
def flagAt (d : Bool) : List (Int × Bool) → Int → Bool
  | [], _ => d
  | (m, f) :: r, v => if v < m then d else flagAt f r v
def Asc (l : List (Int × Bool)) : Prop := l.Pairwise fun a b => a.1 < b.1
theorem flagAt_low {d : Bool} {v : Int} : ∀ {l : List (Int × Bool)}, (∀ q ∈ l, v < q.1) → flagAt d l v = d
  | [], _ => rfl
  | (m, f) :: r, h => by
    unfold flagAt
    rw [if_pos (h (m, f) (List.mem_cons_self ..))]
theorem made_has {v : Int} : ∀ {l : List (Int × Bool)}, Asc l → has (madeR none l) v = flagAt false l v ∧ ∀ lo, (∀ q ∈ l, lo < q.1) → has (madeR (some lo) l) v = (decide (lo ≤ v) && flagAt true l v)
  | [], _ => ⟨rfl, fun lo _ => by simp [madeR, has, inS, flagAt]⟩
  | (m, f) :: r, h => by
    have hr : ∀ q ∈ r, m < q.1 := fun q hq => (List.pairwise_cons.mp h).1 q hq
    obtain ⟨i1, i2⟩ := made_has (v := v) (List.pairwise_cons.mp h).2
    refine ⟨?_, fun lo hlo => ?_⟩
    · unfold madeR flagAt
      cases f with
      | true =>
        rw [if_pos rfl, i2 m hr]
        by_cases c : v < m
        · rw [if_pos c, decide_eq_false (by omega)]; rfl
        · rw [if_neg c, decide_eq_true (by omega)]; rfl
      | false =>
        rw [if_neg Bool.false_ne_true, i1]
        by_cases c : v < m
        · rw [if_pos c, flagAt_low fun q hq => Int.lt_trans c (hr q hq)]
        · rw [if_neg c]
    · have hm : lo < m := hlo (m, f) (List.mem_cons_self ..)
      unfold madeR flagAt
      cases f with
      | true =>
        rw [if_pos rfl, i2 lo fun q hq => hlo q (List.mem_cons_of_mem _ hq)]
        by_cases c : v < m
        · rw [if_pos c, flagAt_low fun q hq => Int.lt_trans c (hr q hq)]
        · rw [if_neg c]
      | false =>
        rw [if_neg Bool.false_ne_true]
        show (inS (lo, some m) v || has (madeR none r) v) = _
        rw [i1]
        unfold inS
        by_cases c : v < m
        · rw [if_pos c, flagAt_low fun q hq => Int.lt_trans c (hr q hq)]
          simp [c]
        · rw [if_neg c]
          have : lo ≤ v := by omega
          simp [c, this]
theorem flagAt_is {P : Int → Bool} {v : Int} : ∀ {l : List Int} {m : Int}, m ≤ v → (∀ a b, a ∈ m :: l → a ≤ b → (∀ x ∈ m :: l, ¬ (a < x ∧ x ≤ b)) → P a = P b) → (m :: l).Pairwise (· < ·) → flagAt (P m) (l.map fun x => (x, P x)) v = P v
  | [], m, h, hc, _ => hc m v (List.mem_cons_self ..) h fun x hx => by
    rw [List.mem_singleton.mp hx]
    omega
  | x :: l, m, h, hc, hp => by
    rw [List.pairwise_cons] at hp
    show (if v < x then P m else flagAt (P x) (l.map fun x => (x, P x)) v) = P v
    by_cases c : v < x
    · rw [if_pos c]
      refine hc m v (List.mem_cons_self ..) h fun y hy => ?_
      rcases List.mem_cons.mp hy with e | e
      · omega
      · rcases List.mem_cons.mp e with e | e
        · omega
        · have := (List.pairwise_cons.mp hp.2).1 y e
          omega
    · rw [if_neg c]
      refine flagAt_is (by omega) (fun a b ha hab hx => hc a b (List.mem_cons_of_mem _ ha) hab fun y hy => ?_) hp.2
      rcases List.mem_cons.mp hy with e | e
      · rw [e]
        have : m < a := hp.1 a ha
        omega
      · exact hx y e
/-- a made range holds a version just when its flags' rule says so, if nothing changes between the marks -/
theorem made_rule {P : Int → Bool} {l : List Int} {v : Int} (hs : (0 :: l).Pairwise (· < ·)) (h0 : 0 ≤ v) (hc : ∀ a b, 0 ≤ a → a ≤ b → (∀ x ∈ l, ¬ (a < x ∧ x ≤ b)) → P a = P b) : has (madeR none ((0 :: l).map fun x => (x, P x))) v = P v := by
  have ha : Asc ((0 :: l).map fun x => (x, P x)) := List.pairwise_map.mpr (hs.imp fun h => h)
  rw [(made_has ha).1]
  show (if v < 0 then false else flagAt (P 0) (l.map fun x => (x, P x)) v) = P v
  rw [if_neg (by omega)]
  refine flagAt_is h0 (fun a b ha hab hx => hc a b ?_ hab fun y hy => hx y (List.mem_cons_of_mem _ hy)) hs
  rcases List.mem_cons.mp ha with e | e
  · omega
  · have := (List.pairwise_cons.mp hs).1 a e
    omega
theorem made_nil : ∀ {l : List (Int × Bool)}, (madeR none l = [] ↔ ∀ q ∈ l, q.2 = false) ∧ ∀ lo, madeR (some lo) l ≠ []
  | [] => ⟨⟨fun _ _ h => (by cases h), fun _ => rfl⟩, fun lo h => (by cases h)⟩
  | (m, f) :: r => by
    obtain ⟨i1, i2⟩ := made_nil (l := r)
    unfold madeR
    cases f with
    | true =>
      refine ⟨⟨fun h => absurd (show madeR (some m) r = [] from h) (i2 m), fun h => ?_⟩, fun lo h => absurd (show madeR (some lo) r = [] from h) (i2 lo)⟩
      have := h (m, true) (List.mem_cons_self ..)
      cases this
    | false =>
      refine ⟨⟨fun h q hq => ?_, fun h => i1.mpr fun q hq => h q (List.mem_cons_of_mem _ hq)⟩, fun lo h => by cases h⟩
      rcases List.mem_cons.mp hq with e | e
      · rw [e]
      · exact i1.mp h q e
/-- a made range is a range -/
theorem made_ok : ∀ {l : List (Int × Bool)}, Asc l → (∀ q ∈ l, OkV q.1) → ((∀ p ∈ madeR none l, OkS p) ∧ (∀ h, (∀ q ∈ l, h < q.1) → chain (some (some h)) (madeR none l) = true) ∧ chain none (madeR none l) = true) ∧
    ∀ lo, OkV lo → (∀ q ∈ l, lo < q.1) → (∀ p ∈ madeR (some lo) l, OkS p) ∧ (∀ h, h < lo → chain (some (some h)) (madeR (some lo) l) = true) ∧ chain none (madeR (some lo) l) = true
  | [], _, _ => by
    refine ⟨⟨fun _ h => (by cases h), fun _ _ => rfl, rfl⟩, fun lo hlo _ => ⟨fun p hp => ?_, fun h hh => ?_, rfl⟩⟩
    · rw [List.mem_singleton.mp hp]
      exact ⟨hlo, fun _ h => by cases h⟩
    · show (decide (h < lo) && true) = true
      rw [decide_eq_true hh]; rfl
  | (m, f) :: r, ha, hv => by
    have hr : ∀ q ∈ r, m < q.1 := fun q hq => (List.pairwise_cons.mp ha).1 q hq
    have hm : OkV m := hv (m, f) (List.mem_cons_self ..)
    obtain ⟨⟨a1, a2, a3⟩, b⟩ := made_ok (List.pairwise_cons.mp ha).2 fun q hq => hv q (List.mem_cons_of_mem _ hq)
    unfold madeR
    cases f with
    | true =>
      obtain ⟨c1, c2, c3⟩ := b m hm hr
      refine ⟨⟨c1, fun h hh => c2 h (hh (m, true) (List.mem_cons_self ..)), c3⟩, fun lo hlo hl => ?_⟩
      exact b lo hlo fun q hq => hl q (List.mem_cons_of_mem _ hq)
    | false =>
      refine ⟨⟨a1, fun h hh => a2 h fun q hq => hh q (List.mem_cons_of_mem _ hq), a3⟩, fun lo hlo hl => ?_⟩
      have hlm : lo < m := hl (m, false) (List.mem_cons_self ..)
      refine ⟨fun p hp => ?_, fun h hh => ?_, ?_⟩
      · rcases List.mem_cons.mp (show p ∈ (lo, some m) :: madeR none r from hp) with e | e
        · rw [e]
          refine ⟨hlo, fun h z => ?_⟩
          cases z
          exact ⟨hm, hlm⟩
        · exact a1 p e
      · show (decide (h < lo) && chain (some (some m)) (madeR none r)) = true
        rw [decide_eq_true hh, a2 m hr]; rfl
      · exact a2 m hr
/-! what is outside -/
def outR : Option Int → Rng → Rng
  | none, [] => []
  | some b, [] => [(b, none)]
  | none, (_, hi) :: r => outR hi r
  | some b, (lo, hi) :: r => if b < lo then (b, some lo) :: outR hi r else outR hi r
theorem has_low {v : Int} {h : Int} : ∀ {r : Rng}, chain (some (some h)) r = true → (∀ p ∈ r, OkS p) → v ≤ h → has r v = false
  | [], _, _, _ => rfl
  | (lo, hi) :: r, hc, hk, hv => by
    unfold chain at hc
    rw [Bool.and_eq_true, decide_eq_true_eq] at hc
    obtain ⟨h1, h2⟩ := hc
    show (inS (lo, hi) v || has r v) = false
    have e : inS (lo, hi) v = false := by
      unfold inS
      rw [decide_eq_false (by dsimp only; omega)]; rfl
    rw [e, Bool.false_or]
    cases hi with
    | none =>
      cases r with
      | nil => rfl
      | cons _ _ => cases h2
    | some k =>
      have := ((hk (lo, some k) (List.mem_cons_self ..)).2 k rfl).2
      exact has_low h2 (fun p hp => hk p (List.mem_cons_of_mem _ hp)) (by dsimp only at this; omega)
theorem out_has {v : Int} : ∀ {r : Rng} {b : Int}, (∀ p ∈ r, OkS p) → chain none r = true → (∀ p, r.head? = some p → b ≤ p.1) → has (outR (some b) r) v = (decide (b ≤ v) && !has r v)
  | [], b, _, _, _ => by simp [outR, has, inS]
  | (lo, hi) :: r, b, hk, hc, hb => by
    have hbl : b ≤ lo := hb (lo, hi) rfl
    have hkr : ∀ p ∈ r, OkS p := fun p hp => hk p (List.mem_cons_of_mem _ hp)
    have hc' : chain (some hi) r = true := hc
    have ih : has (outR hi r) v = ((match hi with | none => false | some h => decide (h ≤ v)) && !has r v) := by
      cases hi with
      | none =>
        cases r with
        | nil => rfl
        | cons _ _ => cases hc'
      | some h =>
        have hcn : chain none r = true := by
          cases r with
          | nil => rfl
          | cons q r =>
            obtain ⟨l2, h2⟩ := q
            unfold chain at hc'
            rw [Bool.and_eq_true] at hc'
            exact hc'.2
        refine out_has hkr hcn fun p hp => ?_
        cases r with
        | nil => cases hp
        | cons q r =>
          cases hp
          obtain ⟨l2, h2⟩ := p
          unfold chain at hc'
          rw [Bool.and_eq_true, decide_eq_true_eq] at hc'
          exact Int.le_of_lt hc'.1
    have hfirst : has (outR (some b) ((lo, hi) :: r)) v = ((decide (b ≤ v) && decide (v < lo)) || has (outR hi r) v) := by
      show has (if b < lo then (b, some lo) :: outR hi r else outR hi r) v = _
      by_cases c : b < lo
      · rw [if_pos c]; rfl
      · rw [if_neg c]
        have : (decide (b ≤ v) && decide (v < lo)) = false := by
          rw [Bool.and_eq_false_iff, decide_eq_false_iff_not, decide_eq_false_iff_not]
          omega
        rw [this, Bool.false_or]
    rw [hfirst, ih]
    show _ = (decide (b ≤ v) && !(inS (lo, hi) v || has r v))
    cases hi with
    | none =>
      have e : r = [] := by
        cases r with
        | nil => rfl
        | cons _ _ => cases hc'
      subst e
      rw [Bool.eq_iff_iff]
      simp only [inS, has, List.any_nil, Bool.or_false, Bool.false_and, Bool.and_eq_true, Bool.not_eq_true', decide_eq_true_eq, Bool.and_true, decide_eq_false_iff_not]
      omega
    | some h =>
      have hlh : lo < h := ((hk (lo, some h) (List.mem_cons_self ..)).2 h rfl).2
      have hlow : v ≤ h → has r v = false := fun z => has_low hc' hkr z
      rw [Bool.eq_iff_iff]
      simp only [inS, Bool.or_eq_true, Bool.and_eq_true, Bool.not_eq_true', decide_eq_true_eq, Bool.or_eq_false_iff, Bool.and_eq_false_iff, decide_eq_false_iff_not]
      by_cases c : v ≤ h
      · rw [hlow c]
        simp only [and_true]
        omega
      · constructor
        · rintro (z | z)
          · omega
          · exact ⟨by omega, .inr (by omega), z.2⟩
        · rintro ⟨z1, z2, z3⟩
          exact .inr ⟨by omega, z3⟩
/-! two ranges' common part -/
def minH : Option Int → Option Int → Option Int
  | none, b => b
  | some a, none => some a
  | some a, some b => if a < b then some a else some b
def below (v : Int) : Option Int → Bool
  | none => true
  | some h => decide (v < h)
def bothR (one other : Rng) : Rng := one.flatMap fun p => other.flatMap fun q => if below (if p.1 < q.1 then q.1 else p.1) (minH p.2 q.2) = true then [(if p.1 < q.1 then q.1 else p.1, minH p.2 q.2)] else []
theorem both_nil {one other : Rng} (h1 : ∀ p ∈ one, OkS p) (h2 : ∀ p ∈ other, 0 ≤ p.1) : bothR one other = [] ↔ ∀ v, 0 ≤ v → ¬ (has one v = true ∧ has other v = true) := by
  unfold bothR
  rw [List.flatMap_eq_nil_iff]
  constructor
  · intro h v hv ⟨ha, hb⟩
    obtain ⟨p, hp, ep⟩ := List.any_eq_true.mp ha
    obtain ⟨q, hq, eq⟩ := List.any_eq_true.mp hb
    have := List.flatMap_eq_nil_iff.mp (h p hp) q hq
    obtain ⟨lo, hi⟩ := p
    obtain ⟨lo2, hi2⟩ := q
    have hb : below (if lo < lo2 then lo2 else lo) (minH hi hi2) = true := by
      unfold inS at ep eq
      rw [Bool.and_eq_true, decide_eq_true_eq] at ep eq
      cases hi with
      | none => cases hi2 with
        | none => rfl
        | some b =>
          have e2 := eq.2
          simp only [decide_eq_true_eq] at e2
          simp only [below, minH, decide_eq_true_eq]
          dsimp only at ep eq
          split <;> omega
      | some a => cases hi2 with
        | none =>
          have e2 := ep.2
          simp only [decide_eq_true_eq] at e2
          simp only [below, minH, decide_eq_true_eq]
          dsimp only at ep eq
          split <;> omega
        | some b =>
          have e1 := ep.2
          have e2 := eq.2
          simp only [decide_eq_true_eq] at e1 e2
          dsimp only at ep eq
          by_cases hab : a < b
          · simp only [minH, if_pos hab, below, decide_eq_true_eq]
            split <;> omega
          · simp only [minH, if_neg hab, below, decide_eq_true_eq]
            split <;> omega
    dsimp only at this
    rw [if_pos hb] at this
    cases this
  · intro h p hp
    rw [List.flatMap_eq_nil_iff]
    intro q hq
    by_cases hb : below (if p.1 < q.1 then q.1 else p.1) (minH p.2 q.2) = true
    · exfalso
      have o1 := (h1 p hp).1.1
      have o2 := h2 q hq
      refine h (if p.1 < q.1 then q.1 else p.1) (by split <;> assumption) ⟨List.any_eq_true.mpr ⟨p, hp, ?_⟩, List.any_eq_true.mpr ⟨q, hq, ?_⟩⟩
      all_goals
        obtain ⟨lo, hi⟩ := p
        obtain ⟨lo2, hi2⟩ := q
        dsimp only at hb ⊢
        generalize hz : (if lo < lo2 then lo2 else lo) = z at hb ⊢
        have z1 : lo ≤ z ∧ lo2 ≤ z := by
          rw [← hz]
          split <;> omega
        unfold inS
        rw [Bool.and_eq_true, decide_eq_true_eq]
        refine ⟨by dsimp only; omega, ?_⟩
        cases hi with
        | none => cases hi2 with
          | none => rfl
          | some b =>
            simp only [below, minH, decide_eq_true_eq] at hb ⊢
            try omega
        | some a => cases hi2 with
          | none =>
            simp only [below, minH, decide_eq_true_eq] at hb ⊢
            try omega
          | some b =>
            simp only [minH] at hb
            split at hb <;> simp only [below, decide_eq_true_eq] at hb ⊢ <;> omega
    · rw [if_neg hb]
theorem out_low {b : Int} (hb : 0 ≤ b) : ∀ {r : Rng}, (∀ p ∈ r, OkS p) → ∀ p ∈ outR (some b) r, 0 ≤ p.1 := by
  have g : ∀ (r : Rng) (o : Option Int), (∀ x, o = some x → 0 ≤ x) → (∀ p ∈ r, OkS p) → ∀ p ∈ outR o r, 0 ≤ p.1 := by
    intro r
    induction r with
    | nil =>
      intro o ho _ p hp
      cases o with
      | none => cases hp
      | some x => rw [List.mem_singleton.mp hp]; exact ho x rfl
    | cons q r ih =>
      obtain ⟨lo, hi⟩ := q
      intro o ho hk p hp
      have h3 : ∀ x, hi = some x → 0 ≤ x := fun x e => ((hk (lo, hi) (List.mem_cons_self ..)).2 x e).1.1
      have h4 := ih hi h3 fun p hp => hk p (List.mem_cons_of_mem _ hp)
      cases o with
      | none => exact h4 p hp
      | some x =>
        unfold outR at hp
        split at hp
        · rcases List.mem_cons.mp hp with e | e
          · rw [e]; exact ho x rfl
          · exact h4 p e
        · exact h4 p hp
  intro r hr
  exact g r (some b) (fun x e => by cases e; exact hb) hr
end Dl

set_option Elab.async false
set_option linter.all false
set_option maxRecDepth 100000
set_option maxHeartbeats 4000000
/-! M3: places, walks, sets of versions. -/
namespace Dl
open PySem
open L2
theorem rngOf_zero (lo : Int) : rngOf lo 0 = [] := rfl
theorem rngOf_succ (lo : Int) (n : Nat) : rngOf lo (n + 1) = .int lo :: rngOf (lo + 1) n := by
  unfold rngOf
  rw [List.range_succ_eq_map, List.map_cons, List.map_map]
  congr 1
  · show D.int (lo + ((0 : Nat) : Int)) = _
    rw [show lo + ((0 : Nat) : Int) = lo by omega]
  · refine List.map_congr_left fun i _ => ?_
    show D.int (lo + ((i + 1 : Nat) : Int)) = D.int (lo + 1 + (i : Int))
    rw [show lo + ((i + 1 : Nat) : Int) = lo + 1 + (i : Int) by omega]
theorem atI_natQ {α : Type} {l : List α} {n : Nat} : atI l (n : Int) = l[n]? := by
  by_cases h : n < l.length
  · rw [atI_nat h, List.getElem?_eq_getElem h]
  · unfold atI ixN
    rw [if_pos (by omega), if_neg (by omega), List.getElem?_eq_none (by omega)]
    rfl
section
variable {ds : List D} {a b : D} {l : List D} {n : Nat}
theorem ix_nat : ixD (.tup ds) (.int (n : Int)) = ds[n]? := atI_natQ
theorem ixl_nat : ixD (.lst ds) (.int (n : Int)) = ds[n]? := atI_natQ
theorem ix_0 : ixD (.tup (a :: l)) (.int 0) = some a := atI_natQ (n := 0)
theorem ix_1 : ixD (.tup (a :: b :: l)) (.int 1) = some b := atI_natQ (n := 1)
theorem neg_int {i : Int} : negD (.int i) = some (.int (-i)) := rfl
end
theorem isN_hi {h : Option Int} : isND (hiD h) .non = some (.bl h.isNone) := by cases h <;> rfl
theorem notN_hi {h : Option Int} : notND (hiD h) .non = some (.bl h.isSome) := by cases h <;> rfl
theorem rng1_nat {n : Nat} (h : n ≤ 16777216) : rng1D [.int (n : Int)] = some (rngOf 0 n) := by
  unfold rng1D
  dsimp only
  rw [if_pos ⟨by omega, by omega, by rw [sizeLine_eq]; omega⟩]
  rfl
/-! sets of versions -/
theorem ltI_ver {x y : Int} : ltI (verL x) (verL y) = true ↔ x < y := by
  show (if x / 100000000000000 < y / 100000000000000 then true else if y / 100000000000000 < x / 100000000000000 then false else
    if x / 10000000 % 10000000 < y / 10000000 % 10000000 then true else if y / 10000000 % 10000000 < x / 10000000 % 10000000 then false else
    if x % 10000000 < y % 10000000 then true else if y % 10000000 < x % 10000000 then false else false) = true ↔ x < y
  repeat' split
  all_goals first
    | (constructor <;> intro _ <;> first | rfl | omega)
    | (constructor <;> intro q <;> first | (cases q) | omega)
def unL : List Int → Int
  | [a, b, c] => a * 100000000000000 + b * 10000000 + c
  | _ => 0
theorem unL_ver (x : Int) : unL (verL x) = x := by
  show x / 100000000000000 * 100000000000000 + x / 10000000 % 10000000 * 10000000 + x % 10000000 = x
  omega
theorem rows_vers : ∀ ms : List Int, rowsOf (ms.map verD) = some (ms.map verL)
  | [] => rfl
  | m :: ms => by
    show (rowOf (verD m)).bind (fun r => (rowsOf (ms.map verD)).map (r :: ·)) = _
    rw [rows_vers ms]
    rfl
theorem insU_len (x : List Int) : ∀ l : List (List Int), (insU x l).length ≤ l.length + 1
  | [] => Nat.le_refl _
  | y :: ys => by
    unfold insU
    split
    · exact Nat.le_refl _
    · split
      · exact Nat.le_succ _
      · have := insU_len x ys
        show (insU x ys).length + 1 ≤ ys.length + 1 + 1
        omega
theorem ssetI_len : ∀ l : List (List Int), (ssetI l).length ≤ l.length
  | [] => Nat.le_refl _
  | y :: ys => by
    have h1 := insU_len y (ssetI ys)
    have h2 := ssetI_len ys
    show (insU y (ssetI ys)).length ≤ ys.length + 1
    omega
theorem ss_vers {ms : List Int} (h : ∀ x ∈ ms, OkV x) (hl : ms.length < 64) (h0 : ms ≠ []) : ssOk (ms.map verL) = true := by
  unfold ssOk
  rw [List.length_map, decide_eq_true hl, Bool.true_and]
  cases ms with
  | nil => exact absurd rfl h0
  | cons m ms =>
    show (decide (1 ≤ (verL m).length) && ((m :: ms).map verL).all fun q => decide (q.length = (verL m).length) && q.all fun i => decide (0 ≤ i) && decide (i < topI)) = true
    rw [Bool.and_eq_true]
    refine ⟨rfl, ?_⟩
    rw [List.all_map, List.all_eq_true]
    intro x hx
    obtain ⟨a0, a1, a2, a3⟩ := h x hx
    show (decide (3 = 3) && ([x / 100000000000000, x / 10000000 % 10000000, x % 10000000].all fun i => decide (0 ≤ i) && decide (i < topI))) = true
    have ht : topI = 1099511627776 := rfl
    simp only [List.all_cons, List.all_nil, Bool.and_true, Bool.and_eq_true, decide_eq_true_eq]
    refine ⟨trivial, ⟨?_, ?_⟩, ⟨?_, ?_⟩, ?_, ?_⟩ <;> omega
theorem sset_vers {ms : List Int} (h : ∀ x ∈ ms, OkV x) (hl : ms.length < 64) (h0 : ms ≠ []) : ∃ l : List Int, ssetD [.lst (ms.map verD)] = some (.lst (l.map verD)) ∧ l.Pairwise (· < ·) ∧ (∀ x, x ∈ l ↔ x ∈ ms) ∧ l.length ≤ ms.length := by
  have hm : ∀ r ∈ ssetI (ms.map verL), ∃ x ∈ ms, r = verL x := fun r hr => by
    obtain ⟨x, hx, e⟩ := List.mem_map.mp (mem_ssetI.mp hr)
    exact ⟨x, hx, e.symm⟩
  refine ⟨(ssetI (ms.map verL)).map unL, ?_, ?_, fun x => ?_, ?_⟩
  · show (match rowsOf (ms.map verD) with | some rs => if ssOk rs then some (D.lst ((ssetI rs).map fun (r : List Int) => .tup (r.map .int))) else none | none => none) = _
    rw [rows_vers]
    show (if ssOk (ms.map verL) = true then some (D.lst ((ssetI (ms.map verL)).map fun (r : List Int) => .tup (r.map .int))) else none) = _
    rw [if_pos (ss_vers h hl h0), List.map_map]
    congr 2
    refine List.map_congr_left fun r hr => ?_
    obtain ⟨x, _, e⟩ := hm r hr
    subst e
    show D.tup ((verL x).map .int) = verD (unL (verL x))
    rw [unL_ver]
    rfl
  · refine List.pairwise_map.mpr (List.Pairwise.imp_of_mem ?_ (up_ssetI (ms.map verL)))
    intro a b ha hb hlt
    obtain ⟨x, _, e⟩ := hm a ha
    obtain ⟨y, _, e2⟩ := hm b hb
    subst e e2
    rw [unL_ver, unL_ver]
    exact ltI_ver.mp hlt
  · constructor
    · intro hx
      obtain ⟨r, hr, e⟩ := List.mem_map.mp hx
      obtain ⟨y, hy, e2⟩ := hm r hr
      subst e e2
      rw [unL_ver]
      exact hy
    · intro hx
      exact List.mem_map.mpr ⟨verL x, mem_ssetI.mpr (List.mem_map_of_mem hx), unL_ver x⟩
  · rw [List.length_map]
    have := ssetI_len (ms.map verL)
    rw [List.length_map] at this
    exact this
end Dl

set_option Elab.async false
set_option linter.all false
set_option maxRecDepth 100000
set_option maxHeartbeats 4000000
/-! M4: a range is told by what it holds; common parts, what is outside. -/
namespace Dl
open PySem
open L2
def Gap (p q : Int × Option Int) : Prop := ∃ h, p.2 = some h ∧ h < q.1
theorem gap_of {r : Rng} : ∀ {prev : Option (Option Int)}, chain prev r = true → (∀ p ∈ r, OkS p) → r.Pairwise Gap ∧ ∀ hi, prev = some hi → ∀ q ∈ r, ∃ h, hi = some h ∧ h < q.1 := by
  induction r with
  | nil => exact fun _ _ => ⟨List.Pairwise.nil, fun _ _ _ h => by cases h⟩
  | cons p r ih =>
    intro prev hc hk
    obtain ⟨lo, hi⟩ := p
    have hkr : ∀ p ∈ r, OkS p := fun p hp => hk p (List.mem_cons_of_mem _ hp)
    have hc2 : chain (some hi) r = true := by
      match prev, hc with
      | none, hc => exact hc
      | some none, hc => cases hc
      | some (some h), hc =>
        unfold chain at hc
        rw [Bool.and_eq_true] at hc
        exact hc.2
    obtain ⟨i1, i2⟩ := ih hc2 hkr
    have hg : ∀ q ∈ r, Gap (lo, hi) q := fun q hq => i2 hi rfl q hq
    refine ⟨List.pairwise_cons.mpr ⟨hg, i1⟩, fun hi0 e q hq => ?_⟩
    match prev, hc, e with
    | some none, hc, _ => cases hc
    | some (some h), hc, e =>
      cases e
      unfold chain at hc
      rw [Bool.and_eq_true, decide_eq_true_eq] at hc
      rcases List.mem_cons.mp hq with z | z
      · rw [z]; exact ⟨h, rfl, hc.1⟩
      · obtain ⟨h2, e2, l2⟩ := hg q z
        have := ((hk (lo, hi) (List.mem_cons_self ..)).2 h2 e2).2
        dsimp only at this
        exact ⟨h, rfl, by omega⟩
theorem chain_of {r : Rng} : ∀ {prev : Option (Option Int)}, r.Pairwise Gap → (∀ hi, prev = some hi → ∀ q ∈ r, ∃ h, hi = some h ∧ h < q.1) → chain prev r = true := by
  induction r with
  | nil => intro prev _ _; cases prev <;> rfl
  | cons p r ih =>
    intro prev hp hq
    obtain ⟨lo, hi⟩ := p
    rw [List.pairwise_cons] at hp
    have h2 : chain (some hi) r = true := ih hp.2 fun hi0 e q hq => by
      cases e
      exact hp.1 q hq
    match prev, hq with
    | none, _ => exact h2
    | some hi0, hq =>
      obtain ⟨h, e, l⟩ := hq hi0 rfl (lo, hi) (List.mem_cons_self ..)
      subst e
      show (decide (h < lo) && chain (some hi) r) = true
      rw [decide_eq_true l, h2]
      rfl
theorem okR_iff {r : Rng} : OkR r ↔ (∀ p ∈ r, OkS p) ∧ r.Pairwise Gap := ⟨fun h => ⟨h.1, (gap_of h.2 h.1).1⟩, fun h => ⟨h.1, chain_of h.2 fun _ z => by cases z⟩⟩
theorem has_cons (p : Int × Option Int) (r : Rng) (v : Int) : has (p :: r) v = (inS p v || has r v) := rfl
/-- below its first stretch a range holds nothing -/
theorem has_under {r : Rng} {v : Int} (h : ∀ p ∈ r, v < p.1) : has r v = false := by
  unfold has
  rw [List.any_eq_false]
  intro p hp
  unfold inS
  rw [decide_eq_false (by have := h p hp; omega)]
  simp
theorem has_first {lo : Int} {hi : Option Int} {r : Rng} (h : OkS (lo, hi)) : has ((lo, hi) :: r) lo = true := by
  rw [has_cons]
  have : inS (lo, hi) lo = true := by
    unfold inS
    cases hi with
    | none => simp
    | some b =>
      have := (h.2 b rfl).2
      simp only [Bool.and_eq_true, decide_eq_true_eq]
      exact ⟨Int.le_refl _, this⟩
  rw [this]
  rfl
theorem uniq : ∀ {r q : Rng}, (∀ p ∈ r, OkS p) → r.Pairwise Gap → (∀ p ∈ q, OkS p) → q.Pairwise Gap → (∀ v, 0 ≤ v → has r v = has q v) → r = q
  | [], [], _, _, _, _, _ => rfl
  | [], (lo, hi) :: q, _, _, hk, _, h => by
    have h0 := hk (lo, hi) (List.mem_cons_self ..)
    have := h lo h0.1.1
    rw [has_first h0] at this
    cases this
  | (lo, hi) :: r, [], hk, _, _, _, h => by
    have h0 := hk (lo, hi) (List.mem_cons_self ..)
    have := h lo h0.1.1
    rw [has_first h0] at this
    cases this
  | (lo, hi) :: r, (lo', hi') :: q, hk, hp, hk', hp', h => by
    have h0 := hk (lo, hi) (List.mem_cons_self ..)
    have h0' := hk' (lo', hi') (List.mem_cons_self ..)
    rw [List.pairwise_cons] at hp hp'
    have lows : ∀ x ∈ r, lo < x.1 := fun x hx => by
      obtain ⟨b, e, l⟩ := hp.1 x hx
      have := (h0.2 b e).2
      dsimp only at this
      omega
    have lows' : ∀ x ∈ q, lo' < x.1 := fun x hx => by
      obtain ⟨b, e, l⟩ := hp'.1 x hx
      have := (h0'.2 b e).2
      dsimp only at this
      omega
    have el : lo = lo' := by
      rcases Int.lt_trichotomy lo lo' with c | c | c
      · have z := h lo h0.1.1
        rw [has_first h0] at z
        have : has ((lo', hi') :: q) lo = false := has_under fun x hx => by
          rcases List.mem_cons.mp hx with e | e
          · rw [e]; exact c
          · have := lows' x e; omega
        rw [this] at z
        cases z
      · exact c
      · have z := h lo' h0'.1.1
        rw [has_first h0'] at z
        have : has ((lo, hi) :: r) lo' = false := has_under fun x hx => by
          rcases List.mem_cons.mp hx with e | e
          · rw [e]; exact c
          · have := lows x e; omega
        rw [this] at z
        cases z
    subst el
    have atend : ∀ {b : Int} {r : Rng} {hi : Option Int}, hi = some b → (∀ x ∈ r, Gap (lo, hi) x) → has ((lo, hi) :: r) b = false := fun {b r hi} e hg => by
      subst e
      rw [has_cons]
      have e1 : inS (lo, some b) b = false := by
        unfold inS
        simp
      rw [e1, Bool.false_or]
      refine has_under fun x hx => ?_
      obtain ⟨b', e', l'⟩ := hg x hx
      cases e'
      exact l'
    have inside : ∀ {b : Int} {r : Rng} {hi : Option Int}, lo < b → (∀ c, hi = some c → b < c) → has ((lo, hi) :: r) b = true := fun {b r hi} hb hc => by
      rw [has_cons]
      have : inS (lo, hi) b = true := by
        unfold inS
        cases hi with
        | none => simp; omega
        | some c =>
          have := hc c rfl
          simp only [Bool.and_eq_true, decide_eq_true_eq]
          omega
      rw [this]
      rfl
    have eh : hi = hi' := by
      cases hi with
      | none =>
        cases hi' with
        | none => rfl
        | some b =>
          have hb := (h0'.2 b rfl)
          have z := h b hb.1.1
          rw [inside hb.2 (fun c e => by cases e), atend rfl hp'.1] at z
          cases z
      | some a =>
        have ha := (h0.2 a rfl)
        cases hi' with
        | none =>
          have z := h a ha.1.1
          have z1 := atend (b := a) (hi := some a) (r := r) rfl hp.1
          have z2 := inside (b := a) (r := q) (hi := none) ha.2 fun c e => by cases e
          rw [z1, z2] at z
          cases z
        | some b =>
          have hb := (h0'.2 b rfl)
          rcases Int.lt_trichotomy a b with c | c | c
          · have z := h a ha.1.1
            rw [atend rfl hp.1, inside ha.2 (fun c' e => by cases e; exact c)] at z
            cases z
          · rw [c]
          · have z := h b hb.1.1
            rw [atend rfl hp'.1, inside hb.2 (fun c' e => by cases e; exact c)] at z
            cases z
    subst eh
    have tail : r = q := by
      refine uniq (fun p hp => hk p (List.mem_cons_of_mem _ hp)) hp.2 (fun p hp => hk' p (List.mem_cons_of_mem _ hp)) hp'.2 fun v v0 => ?_
      cases hi with
      | none =>
        have e1 : r = [] := by
          cases r with
          | nil => rfl
          | cons x r =>
            obtain ⟨b, e, _⟩ := hp.1 x (List.mem_cons_self ..)
            cases e
        have e2 : q = [] := by
          cases q with
          | nil => rfl
          | cons x q =>
            obtain ⟨b, e, _⟩ := hp'.1 x (List.mem_cons_self ..)
            cases e
        rw [e1, e2]
      | some b =>
        have l1 : ∀ x ∈ r, b < x.1 := fun x hx => by
          obtain ⟨c, e, l⟩ := hp.1 x hx
          cases e
          exact l
        have l2 : ∀ x ∈ q, b < x.1 := fun x hx => by
          obtain ⟨c, e, l⟩ := hp'.1 x hx
          cases e
          exact l
        by_cases c : v ≤ b
        · rw [has_under fun x hx => by have := l1 x hx; omega, has_under fun x hx => by have := l2 x hx; omega]
        · have z := h v v0
          rw [has_cons, has_cons] at z
          have e1 : inS (lo, some b) v = false := by
            unfold inS
            rw [Bool.and_eq_false_iff]
            exact .inr (decide_eq_false (by omega))
          rw [e1, Bool.false_or, Bool.false_or] at z
          exact z
    rw [tail]
theorem okR_uniq {r q : Rng} (hr : OkR r) (hq : OkR q) (h : ∀ v, 0 ≤ v → has r v = has q v) : r = q := by
  rw [okR_iff] at hr hq
  exact uniq hr.1 hr.2 hq.1 hq.2 h
/-! common parts -/
theorem minH_l {a : Int} {b : Option Int} : ∃ e, minH (some a) b = some e ∧ e ≤ a := by
  cases b with
  | none => exact ⟨a, rfl, Int.le_refl _⟩
  | some b =>
    by_cases c : a < b
    · exact ⟨a, if_pos c, Int.le_refl _⟩
    · exact ⟨b, if_neg c, by omega⟩
theorem minH_r {b : Int} {a : Option Int} : ∃ e, minH a (some b) = some e ∧ e ≤ b := by
  cases a with
  | none => exact ⟨b, rfl, Int.le_refl _⟩
  | some a =>
    by_cases c : a < b
    · exact ⟨a, if_pos c, by omega⟩
    · exact ⟨b, if_neg c, Int.le_refl _⟩
def cut2 (p q : Int × Option Int) : Rng := if below (if p.1 < q.1 then q.1 else p.1) (minH p.2 q.2) = true then [(if p.1 < q.1 then q.1 else p.1, minH p.2 q.2)] else []
theorem bothR_eq (one other : Rng) : bothR one other = one.flatMap fun p => other.flatMap fun q => cut2 p q := rfl
theorem cut2_mem {p q x : Int × Option Int} (h : x ∈ cut2 p q) : x.1 = (if p.1 < q.1 then q.1 else p.1) ∧ x.2 = minH p.2 q.2 ∧ below x.1 x.2 = true := by
  unfold cut2 at h
  by_cases c : below (if p.1 < q.1 then q.1 else p.1) (minH p.2 q.2) = true
  · rw [if_pos c] at h
    rw [List.mem_singleton.mp h]
    exact ⟨rfl, rfl, c⟩
  · rw [if_neg c] at h
    cases h
theorem cut2_ok {p q x : Int × Option Int} (hp : OkS p) (hq : OkS q) (h : x ∈ cut2 p q) : OkS x := by
  obtain ⟨h1, h2, h3⟩ := cut2_mem h
  refine ⟨by rw [h1]; split; exact hq.1; exact hp.1, fun b e => ?_⟩
  rw [e] at h3
  refine ⟨?_, by simpa [below] using h3⟩
  rw [h2] at e
  cases hp2 : p.2 with
  | none =>
    rw [hp2] at e
    exact (hq.2 b e).1
  | some a =>
    cases hq2 : q.2 with
    | none =>
      rw [hp2, hq2] at e
      exact (hp.2 b (by rw [hp2]; exact e)).1
    | some c =>
      rw [hp2, hq2] at e
      have e' : (if a < c then some a else some c) = some b := e
      by_cases l : a < c
      · rw [if_pos l] at e'
        exact (hp.2 b (by rw [hp2]; exact e')).1
      · rw [if_neg l] at e'
        exact (hq.2 b (by rw [hq2]; exact e')).1
theorem cut2_in {p q : Int × Option Int} {v : Int} : (cut2 p q).any (fun x => inS x v) = (inS p v && inS q v) := by
  obtain ⟨lo, hi⟩ := p
  obtain ⟨lo2, hi2⟩ := q
  unfold cut2
  dsimp only
  generalize hz : (if lo < lo2 then lo2 else lo) = z
  have z1 : lo ≤ z ∧ lo2 ≤ z ∧ (z = lo ∨ z = lo2) := by
    rw [← hz]
    split <;> omega
  rw [Bool.eq_iff_iff]
  unfold inS
  cases hi with
  | none => cases hi2 with
    | none =>
      simp only [below, minH, if_true, List.any_cons, List.any_nil, Bool.or_false, Bool.and_true, decide_eq_true_eq, Bool.and_eq_true]
      omega
    | some b =>
      simp only [below, minH, decide_eq_true_eq]
      by_cases c : z < b
      · rw [if_pos c]
        simp only [List.any_cons, List.any_nil, Bool.or_false, Bool.and_true, decide_eq_true_eq, Bool.and_eq_true]
        omega
      · rw [if_neg c]
        simp only [List.any_nil, Bool.false_eq_true, Bool.and_true, Bool.and_eq_true, decide_eq_true_eq, false_iff]
        omega
  | some a => cases hi2 with
    | none =>
      simp only [below, minH, decide_eq_true_eq]
      by_cases c : z < a
      · rw [if_pos c]
        simp only [List.any_cons, List.any_nil, Bool.or_false, Bool.and_true, decide_eq_true_eq, Bool.and_eq_true]
        omega
      · rw [if_neg c]
        simp only [List.any_nil, Bool.false_eq_true, Bool.and_true, Bool.and_eq_true, decide_eq_true_eq, false_iff]
        omega
    | some b =>
      have hm : ∃ e, minH (some a) (some b) = some e ∧ e ≤ a ∧ e ≤ b ∧ (e = a ∨ e = b) := by
        by_cases c : a < b
        · exact ⟨a, if_pos c, by omega, by omega, .inl rfl⟩
        · exact ⟨b, if_neg c, by omega, by omega, .inr rfl⟩
      obtain ⟨e, he, h1, h2, h3⟩ := hm
      rw [he]
      simp only [below, decide_eq_true_eq]
      by_cases c : z < e
      · rw [if_pos c]
        simp only [List.any_cons, List.any_nil, Bool.or_false, decide_eq_true_eq, Bool.and_eq_true]
        omega
      · rw [if_neg c]
        simp only [List.any_nil, Bool.false_eq_true, Bool.and_eq_true, decide_eq_true_eq, false_iff]
        omega
theorem both_has (one other : Rng) (v : Int) : has (bothR one other) v = (has one v && has other v) := by
  rw [bothR_eq]
  unfold has
  rw [List.any_flatMap]
  have e : ∀ p : Int × Option Int, ((other.flatMap fun q => cut2 p q).any fun x => inS x v) = (inS p v && other.any fun q => inS q v) := fun p => by
    rw [List.any_flatMap]
    have e2 : (fun q => (cut2 p q).any fun x => inS x v) = fun q => (inS p v && inS q v) := funext fun q => cut2_in
    rw [e2]
    cases inS p v with
    | true => simp
    | false => simp
  have e3 : (fun p => (other.flatMap fun q => cut2 p q).any fun x => inS x v) = fun p => (inS p v && other.any fun q => inS q v) := funext e
  rw [e3]
  cases other.any fun q => inS q v with
  | true => simp
  | false => simp
theorem both_ok {one other : Rng} (h1 : OkR one) (h2 : OkR other) : OkR (bothR one other) := by
  rw [okR_iff] at h1 h2 ⊢
  rw [bothR_eq]
  refine ⟨fun x hx => ?_, ?_⟩
  · obtain ⟨p, hp, hx⟩ := List.mem_flatMap.mp hx
    obtain ⟨q, hq, hx⟩ := List.mem_flatMap.mp hx
    exact cut2_ok (h1.1 p hp) (h2.1 q hq) hx
  · rw [List.pairwise_flatMap]
    refine ⟨fun p hp => ?_, h1.2.imp fun {p p'} hg x hx y hy => ?_⟩
    · rw [List.pairwise_flatMap]
      refine ⟨fun q hq => ?_, h2.2.imp fun {q q'} hg x hx y hy => ?_⟩
      · unfold cut2
        by_cases c : below (if p.1 < q.1 then q.1 else p.1) (minH p.2 q.2) = true
        · rw [if_pos c]
          exact List.pairwise_singleton _ _
        · rw [if_neg c]
          exact List.Pairwise.nil
      · obtain ⟨b, e, l⟩ := hg
        obtain ⟨_, x2, _⟩ := cut2_mem hx
        obtain ⟨y1, _, _⟩ := cut2_mem hy
        rw [e] at x2
        obtain ⟨c, ec, lc⟩ := minH_r (b := b) (a := p.2)
        refine ⟨c, by rw [x2, ec], ?_⟩
        rw [y1]
        split <;> omega
    · obtain ⟨q, _, hx⟩ := List.mem_flatMap.mp hx
      obtain ⟨q', _, hy⟩ := List.mem_flatMap.mp hy
      obtain ⟨b, e, l⟩ := hg
      obtain ⟨_, x2, _⟩ := cut2_mem hx
      obtain ⟨y1, _, _⟩ := cut2_mem hy
      rw [e] at x2
      obtain ⟨c, ec, lc⟩ := minH_l (a := b) (b := q.2)
      refine ⟨c, by rw [x2, ec], ?_⟩
      rw [y1]
      split <;> omega
/-! what is outside -/
theorem out_ok0 : ∀ {r : Rng} {o : Option Int}, (∀ p ∈ r, OkS p) → r.Pairwise Gap → (∀ x, o = some x → OkV x ∧ ∀ p, r.head? = some p → x ≤ p.1) → (∀ p ∈ outR o r, OkS p) ∧ (outR o r).Pairwise Gap ∧ ∀ x, o = some x → ∀ p ∈ outR o r, x ≤ p.1
  | [], none, _, _, _ => ⟨fun _ h => (by cases h), List.Pairwise.nil, fun _ h => (by cases h)⟩
  | [], some b, _, _, ho => by
    refine ⟨fun p hp => ?_, List.pairwise_singleton _ _, fun x e p hp => ?_⟩
    · rw [List.mem_singleton.mp hp]
      exact ⟨(ho b rfl).1, fun _ h => by cases h⟩
    · cases e
      rw [List.mem_singleton.mp hp]
      exact Int.le_refl _
  | (lo, hi) :: r, o, hk, hp, ho => by
    rw [List.pairwise_cons] at hp
    have h0 := hk (lo, hi) (List.mem_cons_self ..)
    have hhi : ∀ x, hi = some x → OkV x ∧ ∀ p, r.head? = some p → x ≤ p.1 := fun x e => ⟨(h0.2 x e).1, fun p hpq => by
      obtain ⟨b, e2, l⟩ := hp.1 p (List.mem_of_mem_head? hpq)
      dsimp only at e2
      rw [e] at e2
      cases e2
      omega⟩
    obtain ⟨i1, i2, i3⟩ := out_ok0 (r := r) (o := hi) (fun p hp => hk p (List.mem_cons_of_mem _ hp)) hp.2 hhi
    have far : ∀ p ∈ outR hi r, lo < p.1 := fun p hpq => by
      cases hi with
      | none =>
        have e1 : r = [] := by
          cases r with
          | nil => rfl
          | cons x r =>
            obtain ⟨b, e, _⟩ := hp.1 x (List.mem_cons_self ..)
            cases e
        rw [e1] at hpq
        cases hpq
      | some b =>
        have := i3 b rfl p hpq
        have h3 := (h0.2 b rfl).2
        dsimp only at h3
        omega
    cases o with
    | none => exact ⟨i1, i2, fun _ h => by cases h⟩
    | some b =>
      obtain ⟨hb1, hb2⟩ := ho b rfl
      have hbl : b ≤ lo := hb2 (lo, hi) rfl
      show (∀ p ∈ (if b < lo then (b, some lo) :: outR hi r else outR hi r), OkS p) ∧ (if b < lo then (b, some lo) :: outR hi r else outR hi r).Pairwise Gap ∧ ∀ x, some b = some x → ∀ p ∈ (if b < lo then (b, some lo) :: outR hi r else outR hi r), x ≤ p.1
      by_cases c : b < lo
      · rw [if_pos c]
        refine ⟨fun p hpq => ?_, List.pairwise_cons.mpr ⟨fun q hq => ⟨lo, rfl, far q hq⟩, i2⟩, fun x e p hpq => ?_⟩
        · rcases List.mem_cons.mp hpq with e | e
          · rw [e]
            exact ⟨hb1, fun x e => by cases e; exact ⟨h0.1, c⟩⟩
          · exact i1 p e
        · cases e
          rcases List.mem_cons.mp hpq with e | e
          · rw [e]; exact Int.le_refl _
          · have := far p e; omega
      · rw [if_neg c]
        exact ⟨i1, i2, fun x e p hpq => by cases e; have := far p hpq; omega⟩
theorem out_ok {r : Rng} (h : OkR r) (h0 : OkV 0) : OkR (outR (some 0) r) := by
  rw [okR_iff] at h ⊢
  obtain ⟨i1, i2, _⟩ := out_ok0 (o := some 0) h.1 h.2 fun x e => by
    cases e
    exact ⟨h0, fun p hp => (h.1 p (List.mem_of_mem_head? hp)).1.1⟩
  exact ⟨i1, i2⟩
theorem out_rule {r : Rng} (h : OkR r) {v : Int} (v0 : 0 ≤ v) : has (outR (some 0) r) v = !has r v := by
  rw [out_has h.1 h.2 fun p hp => (h.1 p (List.mem_of_mem_head? hp)).1.1, decide_eq_true v0]
  rfl
end Dl

set_option Elab.async false
set_option linter.all false
set_option maxRecDepth 100000
set_option maxHeartbeats 4000000
/-! M5: texts cut at a separator of which the second sign is nowhere in the parts; numbers' texts. -/
namespace Dl
open PySem
open L2
open Txt
open TL
theorem free_of2 {s t : Nat} {S p rest : List Nat} (hts : t ≠ s) (h : t ∉ p) : ∀ i, i < p.length → pre (s :: t :: S) ((p ++ (s :: t :: S ++ rest)).drop i) = false := fun i hi => by
  have hlt : i + 1 < (p ++ (s :: t :: S ++ rest)).length := by
    rw [List.length_append, List.length_append, List.length_cons]
    omega
  have e : (p ++ (s :: t :: S ++ rest)).drop i = (p ++ (s :: t :: S ++ rest))[i] :: (p ++ (s :: t :: S ++ rest))[i + 1] :: (p ++ (s :: t :: S ++ rest)).drop (i + 1 + 1) := by
    rw [List.drop_eq_getElem_cons (by omega), List.drop_eq_getElem_cons hlt]
  have hne : (p ++ (s :: t :: S ++ rest))[i + 1] ≠ t := by
    by_cases c : i + 1 < p.length
    · rw [List.getElem_append_left c]
      exact fun z => h (z ▸ List.getElem_mem c)
    · have ei : i + 1 = p.length := by omega
      intro z
      have g : (p ++ (s :: t :: S ++ rest))[i + 1]? = some s := by
        rw [ei, List.getElem?_append_right (Nat.le_refl _), Nat.sub_self]
        rfl
      rw [List.getElem?_eq_getElem hlt, z] at g
      exact hts (Option.some.inj g)
  rw [e]
  unfold pre
  rw [Bool.eq_false_iff]
  intro z
  have z' := eq_of_beq z
  rw [List.length_cons, List.length_cons, List.take_succ_cons, List.take_succ_cons, List.cons.injEq, List.cons.injEq] at z'
  exact hne z'.2.1
theorem free_last2 {s t : Nat} {S p : List Nat} (h : t ∉ p) : ∀ i, i < p.length → pre (s :: t :: S) (p.drop i) = false := fun i hi => by
  rw [List.drop_eq_getElem_cons hi]
  unfold pre
  rw [Bool.eq_false_iff]
  intro z
  have z' := eq_of_beq z
  rw [List.length_cons, List.length_cons, List.take_succ_cons, List.cons.injEq] at z'
  by_cases c : i + 1 < p.length
  · rw [List.drop_eq_getElem_cons c, List.take_succ_cons, List.cons.injEq] at z'
    exact h (z'.2.1 ▸ List.getElem_mem c)
  · rw [List.drop_eq_nil_of_le (by omega)] at z'
    cases z'.2
theorem spl_join2 {s t : Nat} {S : List Nat} (hts : t ≠ s) : ∀ {parts : List (List Nat)}, parts ≠ [] → (∀ p ∈ parts, t ∉ p) → spl (s :: t :: S) 0 [] (joinL (s :: t :: S) parts) = parts
  | [], h, _ => absurd rfl h
  | [p], _, hp => by
    show spl (s :: t :: S) 0 [] p = [p]
    rw [spl_last (free_last2 (hp p (List.mem_singleton.mpr rfl))), List.nil_append]
  | p :: q :: r, _, hp => by
    show spl (s :: t :: S) 0 [] (p ++ (s :: t :: S ++ joinL (s :: t :: S) (q :: r))) = p :: q :: r
    rw [spl_part (by simp) (free_of2 hts (hp p (List.mem_cons_self ..))), List.nil_append, spl_join2 hts (by simp) fun z hz => hp z (List.mem_cons_of_mem _ hz)]
theorem split_join2 {y : Str} {s t : Nat} {S : List Nat} (hts : t ≠ s) (ey : tl y = s :: t :: S) (hk : y.cps.all (· < 256) = true) {parts : List Str} (hne : parts ≠ []) (hp : ∀ p ∈ parts, t ∉ tl p) : Txt.split (Txt.join y parts) y = parts := by
  refine map_tl_inj ?_
  rw [split_spl _ y (by rw [ey]; simp) (kind_ok hk), join_eq, tl_join, ey]
  refine spl_join2 hts (fun e => hne (List.map_eq_nil_iff.mp e)) fun p h => ?_
  obtain ⟨z, hz, rfl⟩ := List.mem_map.mp h
  exact hp z hz
end Dl

set_option Elab.async false
set_option linter.all false
set_option maxRecDepth 100000
set_option maxHeartbeats 4000000
/-! M6: the texts of whole numbers. -/
namespace Dl
open PySem
open L2
open Txt
open TL
def num (n : Nat) : Str := Str.ofString (toString ((n : Nat) : Int))
theorem num_tl (n : Nat) : tl (num n) = numL n := tl_num n
theorem num_digits {n c : Nat} (h : c ∈ tl (num n)) : 48 ≤ c ∧ c ≤ 57 := by
  rw [num_tl] at h
  exact numL_digits n c h
theorem tl_len (x : Str) : (tl x).length = x.length := by
  show x.cps.toList.length = x.cps.size
  rw [Array.length_toList]
theorem num_len {n : Nat} (h : n ≤ 1000000) : 1 ≤ (num n).length ∧ (num n).length ≤ 7 := by
  rw [← tl_len, num_tl]
  refine ⟨?_, numL_len (by decide) (by omega)⟩
  have := numL_ne n
  cases e : numL n with
  | nil => exact absurd e this
  | cons a l => rw [List.length_cons]; omega
theorem num_int {n : Nat} (h : n ≤ 1000000) : intText? (num n) = some (n : Int) := by
  refine int_num ?_
  rw [← num_tl, tl_len]
  have := (num_len h).2
  omega
theorem numL_head : ∀ (n : Nat), 0 < n → ∀ c, (numL n).head? = some c → c ≠ 48 := by
  intro n
  induction n using Nat.strongRecOn with
  | _ n ih =>
    intro h0 c hc
    by_cases h : n < 10
    · rw [numL_lt h] at hc
      cases hc
      omega
    · rw [numL_step (by omega)] at hc
      have e : (numL (n / 10) ++ [48 + n % 10]).head? = (numL (n / 10)).head? := by
        cases q : numL (n / 10) with
        | nil => exact absurd q (numL_ne _)
        | cons a l => rfl
      rw [e] at hc
      exact ih (n / 10) (by omega) (by omega) c hc
theorem num_inj {m n : Nat} (h : num m = num n) : m = n := numL_inj (by rw [← num_tl, ← num_tl, h])
theorem str_num {n : Nat} (h : n ≤ 1000000) : strCD [.int ((n : Nat) : Int)] = some (.str (num n)) := by
  show (if ((n : Nat) : Int).natAbs.log2 < 1920 then some (D.str (toString ((n : Nat) : Int))) else none) = _
  rw [if_pos]
  · rfl
  · rw [Int.natAbs_natCast]
    have : n.log2 < 20 := by
      by_cases e : n = 0
      · subst e; decide
      · exact (Nat.log2_lt e).mpr (by omega)
    omega
/-! texts compared -/
theorem eq_str {a b : Str} : relD eqP (.str a) (.str b) = some (.bl (a == b)) := rfl
theorem ne_str {a b : Str} : relD neP (.str a) (.str b) = some (.bl (!(a == b))) := rfl
theorem sign_in {c : Nat} {z : Str} : inD (.str ⟨#[c]⟩) (.str z) = some (.bl (decide (c ∈ z.cps.toList))) := by
  show some (D.bl (false != decide (c ∈ z.cps.toList))) = _
  rw [Bool.false_bne]
theorem items_str {x : Str} (h : x.length ≤ sizeLine) : strItems (.str x) = some ((tl x).map fun c => .str ⟨#[c]⟩) := by
  show (if x.length ≤ sizeLine then some (signsOf x) else none) = _
  rw [if_pos h]
  rfl
theorem len_str {x : Str} (h : x.length ≤ sizeLine) : lenD [.str x] = some (.int x.length) := by
  show (if x.length ≤ sizeLine then some (D.int x.length) else none) = _
  rw [if_pos h]
theorem ix_str0 {x : Str} {c : Nat} {l : List Nat} (h : x.length ≤ sizeLine) (e : tl x = c :: l) : ixD (.str x) (.int 0) = some (.str ⟨#[c]⟩) := by
  show (if x.length ≤ sizeLine then (atI x.cps.toList 0).map (fun c => D.str ⟨#[c]⟩) else none) = _
  rw [if_pos h]
  have e' : x.cps.toList = c :: l := e
  have : atI x.cps.toList ((0 : Nat) : Int) = some c := by
    rw [atI_natQ, e']
    rfl
  have this' : atI x.cps.toList 0 = some c := this
  rw [this']
  rfl
end Dl

set_option Elab.async false
set_option linter.all false
set_option maxRecDepth 100000
set_option maxHeartbeats 4000000
/-! M7: == of data without flags is equality. -/
namespace Dl
open PySem
open L2
open Txt
open TL
noncomputable instance decD : DecidableEq D := fun _ _ => Classical.propDecidable _
mutual
def noB : D → Bool
  | .non => true
  | .bl _ => false
  | .int _ => true
  | .str _ => true
  | .tup ds => noBL ds
  | .lst ds => noBL ds
  | .dct _ _ => false
  | .hnd => false
def noBL : List D → Bool
  | [] => true
  | d :: ds => noB d && noBL ds
end
mutual
def depD : D → Nat
  | .tup ds => depDL ds + 1
  | .lst ds => depDL ds + 1
  | .non => 0
  | .bl _ => 0
  | .int _ => 0
  | .str _ => 0
  | .dct _ _ => 0
  | .hnd => 0
def depDL : List D → Nat
  | [] => 0
  | d :: ds => max (depD d) (depDL ds)
end
theorem toPyL_cons {d : D} {ds : List D} : toPyL (d :: ds) = (match toPy d, toPyL ds with | some p, some ps => some (p :: ps) | _, _ => none) := rfl
mutual
theorem py_of : ∀ {d : D}, noB d = true → ∃ p, toPy d = some p
  | .non, _ => ⟨_, rfl⟩
  | .bl _, h => by cases h
  | .int _, _ => ⟨_, rfl⟩
  | .str _, _ => ⟨_, rfl⟩
  | .dct _ _, h => by cases h
  | .hnd, h => by cases h
  | .tup ds, h => by
    obtain ⟨ps, e⟩ := py_ofL (ds := ds) h
    exact ⟨.tuple ps, by show (toPyL ds).map PyData.tuple = _; rw [e]; rfl⟩
  | .lst ds, h => by
    obtain ⟨ps, e⟩ := py_ofL (ds := ds) h
    exact ⟨.list ps, by show (toPyL ds).map PyData.list = _; rw [e]; rfl⟩
theorem py_ofL : ∀ {ds : List D}, noBL ds = true → ∃ ps, toPyL ds = some ps
  | [], _ => ⟨_, rfl⟩
  | d :: ds, h => by
    have h' : (noB d && noBL ds) = true := h
    rw [Bool.and_eq_true] at h'
    obtain ⟨p, e1⟩ := py_of (d := d) h'.1
    obtain ⟨ps, e2⟩ := py_ofL (ds := ds) h'.2
    exact ⟨p :: ps, by rw [toPyL_cons, e1, e2]⟩
end
theorem toPy_tup {ds : List D} {p : PyData} (h : toPy (.tup ds) = some p) : ∃ ps, toPyL ds = some ps ∧ p = .tuple ps := by
  have h' : (toPyL ds).map PyData.tuple = some p := h
  cases e : toPyL ds with
  | none => rw [e] at h'; cases h'
  | some ps => rw [e] at h'; cases h'; exact ⟨ps, rfl, rfl⟩
theorem toPy_lst {ds : List D} {p : PyData} (h : toPy (.lst ds) = some p) : ∃ ps, toPyL ds = some ps ∧ p = .list ps := by
  have h' : (toPyL ds).map PyData.list = some p := h
  cases e : toPyL ds with
  | none => rw [e] at h'; cases h'
  | some ps => rw [e] at h'; cases h'; exact ⟨ps, rfl, rfl⟩
theorem toPy_cons {d : D} {ds : List D} {qs : List PyData} (h : toPyL (d :: ds) = some qs) : ∃ p ps, toPy d = some p ∧ toPyL ds = some ps ∧ qs = p :: ps := by
  rw [toPyL_cons] at h
  cases e : toPy d with
  | none => rw [e] at h; cases h
  | some q =>
    cases e2 : toPyL ds with
    | none => rw [e, e2] at h; cases h
    | some ps => rw [e, e2] at h; cases h; exact ⟨q, ps, rfl, rfl, rfl⟩
mutual
theorem dep_of : ∀ {d : D} {p : PyData}, toPy d = some p → p.depth = depD d
  | .non, _, h => by cases h; rfl
  | .bl _, _, h => by cases h; rfl
  | .int _, _, h => by cases h; rfl
  | .str _, _, h => by cases h; rfl
  | .hnd, _, h => by cases h
  | .dct _ _, _, h => by cases h
  | .tup ds, p, h => by
    obtain ⟨ps, e, rfl⟩ := toPy_tup h
    show PyData.depthAll ps + 1 = depDL ds + 1
    rw [dep_ofL e]
  | .lst ds, p, h => by
    obtain ⟨ps, e, rfl⟩ := toPy_lst h
    show PyData.depthAll ps + 1 = depDL ds + 1
    rw [dep_ofL e]
theorem dep_ofL : ∀ {ds : List D} {ps : List PyData}, toPyL ds = some ps → PyData.depthAll ps = depDL ds
  | [], _, h => by cases h; rfl
  | d :: ds, _, h => by
    obtain ⟨p, ps, e1, e2, rfl⟩ := toPy_cons h
    show max p.depth (PyData.depthAll ps) = max (depD d) (depDL ds)
    rw [dep_of e1, dep_ofL e2]
end
mutual
theorem plain_of : ∀ {d : D} {p : PyData}, toPy d = some p → p.plain = true
  | .non, _, h => by cases h; rfl
  | .bl _, _, h => by cases h; rfl
  | .int _, _, h => by cases h; rfl
  | .str _, _, h => by cases h; rfl
  | .hnd, _, h => by cases h
  | .dct _ _, _, h => by cases h
  | .tup ds, p, h => by
    obtain ⟨ps, e, rfl⟩ := toPy_tup h
    exact plain_ofL e
  | .lst ds, p, h => by
    obtain ⟨ps, e, rfl⟩ := toPy_lst h
    exact plain_ofL e
theorem plain_ofL : ∀ {ds : List D} {ps : List PyData}, toPyL ds = some ps → PyData.plainAll ps = true
  | [], _, h => by cases h; rfl
  | d :: ds, ps, h => by
    obtain ⟨p, ps, e1, e2, rfl⟩ := toPy_cons h
    show (p.plain && PyData.plainAll ps) = true
    rw [plain_of e1, plain_ofL e2]
    rfl
end
mutual
theorem eqv_iff : ∀ {x y : D} {a b : PyData}, toPy x = some a → toPy y = some b → noB x = true → noB y = true → (PyData.eqv a b = true ↔ x = y)
  | .non, y, a, b, ha, hb, _, hy => by
    cases ha
    cases y with
    | non => cases hb; simp [PyData.eqv]
    | bl _ => cases hy
    | int _ => cases hb; simp [PyData.eqv]
    | str _ => cases hb; simp [PyData.eqv]
    | tup es => obtain ⟨_, _, rfl⟩ := toPy_tup hb; simp [PyData.eqv]
    | lst es => obtain ⟨_, _, rfl⟩ := toPy_lst hb; simp [PyData.eqv]
    | dct _ _ => cases hy
    | hnd => cases hy
  | .bl _, _, _, _, _, _, h, _ => by cases h
  | .int _, y, a, b, ha, hb, _, hy => by
    cases ha
    cases y with
    | non => cases hb; simp [PyData.eqv]
    | bl _ => cases hy
    | int _ => cases hb; simp [PyData.eqv]
    | str _ => cases hb; simp [PyData.eqv]
    | tup es => obtain ⟨_, _, rfl⟩ := toPy_tup hb; simp [PyData.eqv]
    | lst es => obtain ⟨_, _, rfl⟩ := toPy_lst hb; simp [PyData.eqv]
    | dct _ _ => cases hy
    | hnd => cases hy
  | .str z, y, a, b, ha, hb, _, hy => by
    cases ha
    cases y with
    | non => cases hb; simp [PyData.eqv]
    | bl _ => cases hy
    | int _ => cases hb; simp [PyData.eqv]
    | str w =>
      cases hb
      show ((z == w) = true) ↔ _
      rw [beq_iff_eq, D.str.injEq]
    | tup es => obtain ⟨_, _, rfl⟩ := toPy_tup hb; simp [PyData.eqv]
    | lst es => obtain ⟨_, _, rfl⟩ := toPy_lst hb; simp [PyData.eqv]
    | dct _ _ => cases hy
    | hnd => cases hy
  | .tup ds, y, a, b, ha, hb, hx, hy => by
    obtain ⟨ps, e, rfl⟩ := toPy_tup ha
    cases y with
    | non => cases hb; simp [PyData.eqv]
    | bl _ => cases hy
    | int _ => cases hb; simp [PyData.eqv]
    | str _ => cases hb; simp [PyData.eqv]
    | tup es =>
      obtain ⟨qs, e2, rfl⟩ := toPy_tup hb
      show (PyData.eqvAll ps qs = true) ↔ _
      rw [D.tup.injEq]
      exact eqv_iffL e e2 hx hy
    | lst es => obtain ⟨_, _, rfl⟩ := toPy_lst hb; simp [PyData.eqv]
    | dct _ _ => cases hy
    | hnd => cases hy
  | .lst ds, y, a, b, ha, hb, hx, hy => by
    obtain ⟨ps, e, rfl⟩ := toPy_lst ha
    cases y with
    | non => cases hb; simp [PyData.eqv]
    | bl _ => cases hy
    | int _ => cases hb; simp [PyData.eqv]
    | str _ => cases hb; simp [PyData.eqv]
    | tup es => obtain ⟨_, _, rfl⟩ := toPy_tup hb; simp [PyData.eqv]
    | lst es =>
      obtain ⟨qs, e2, rfl⟩ := toPy_lst hb
      show (PyData.eqvAll ps qs = true) ↔ _
      rw [D.lst.injEq]
      exact eqv_iffL e e2 hx hy
    | dct _ _ => cases hy
    | hnd => cases hy
  | .dct _ _, _, _, _, h, _, _, _ => by cases h
  | .hnd, _, _, _, h, _, _, _ => by cases h
theorem eqv_iffL : ∀ {xs ys : List D} {as bs : List PyData}, toPyL xs = some as → toPyL ys = some bs → noBL xs = true → noBL ys = true → (PyData.eqvAll as bs = true ↔ xs = ys)
  | [], ys, as, bs, ha, hb, _, _ => by
    cases ha
    cases ys with
    | nil => cases hb; simp [PyData.eqvAll]
    | cons y ys =>
      obtain ⟨p, ps, _, _, rfl⟩ := toPy_cons hb
      simp [PyData.eqvAll]
  | x :: xs, ys, as, bs, ha, hb, hx, hy => by
    obtain ⟨p, ps, e1, e2, rfl⟩ := toPy_cons ha
    cases ys with
    | nil => cases hb; simp [PyData.eqvAll]
    | cons y ys =>
      obtain ⟨q, qs, f1, f2, rfl⟩ := toPy_cons hb
      have hx' : (noB x && noBL xs) = true := hx
      have hy' : (noB y && noBL ys) = true := hy
      rw [Bool.and_eq_true] at hx' hy'
      show ((PyData.eqv p q && PyData.eqvAll ps qs) = true) ↔ _
      rw [Bool.and_eq_true, eqv_iff e1 f1 hx'.1 hy'.1, eqv_iffL e2 f2 hx'.2 hy'.2, List.cons.injEq]
end
theorem relD_eq {x y : D} (hx : noB x = true) (hy : noB y = true) (hd : depD x ≤ 64 ∨ depD y ≤ 64) : relD eqP x y = some (.bl (decide (x = y))) := by
  obtain ⟨a, ea⟩ := py_of hx
  obtain ⟨b, eb⟩ := py_of hy
  unfold relD
  rw [ea, eb]
  show (eqP a b).map D.bl = _
  unfold eqP
  rw [if_pos ⟨plain_of ea, plain_of eb, by rw [dep_of ea, dep_of eb]; omega⟩]
  show some (D.bl (PyData.eqv a b)) = _
  congr 2
  rw [Bool.eq_iff_iff, decide_eq_true_eq]
  exact eqv_iff ea eb hx hy
theorem relD_ne {x y : D} (hx : noB x = true) (hy : noB y = true) (hd : depD x ≤ 64 ∨ depD y ≤ 64) : relD neP x y = some (.bl (!decide (x = y))) := by
  obtain ⟨a, ea⟩ := py_of hx
  obtain ⟨b, eb⟩ := py_of hy
  unfold relD
  rw [ea, eb]
  show (neP a b).map D.bl = _
  unfold neP
  rw [if_pos ⟨plain_of ea, plain_of eb, by rw [dep_of ea, dep_of eb]; omega⟩]
  show some (D.bl (!PyData.eqv a b)) = _
  congr 3
  rw [Bool.eq_iff_iff, decide_eq_true_eq]
  exact eqv_iff ea eb hx hy
theorem noBL_map {α : Type} {f : α → D} (h : ∀ a, noB (f a) = true) : ∀ l : List α, noBL (l.map f) = true
  | [] => rfl
  | a :: l => by
    show (noB (f a) && noBL (l.map f)) = true
    rw [h a, noBL_map h l]
    rfl
theorem depDL_map {α : Type} {f : α → D} {k : Nat} (h : ∀ a, depD (f a) ≤ k) : ∀ l : List α, depDL (l.map f) ≤ k
  | [] => Nat.zero_le _
  | a :: l => Nat.max_le.mpr ⟨h a, depDL_map h l⟩
theorem comp_map {S : Type} {α : Type} {g : D → DE → Option DE} {e : ME S} {env : DE} {s : S} {f k : α → D} : ∀ l : List α, (∀ a ∈ l, ∃ env1, g (f a) env = some env1 ∧ e env1 s = some (k a, s)) → compL g mYes e env (l.map f) s = some (l.map k, s)
  | [], _ => rfl
  | a :: l, h => by
    obtain ⟨env1, e1, e2⟩ := h a (List.mem_cons_self ..)
    have ih := comp_map (S := S) (g := g) (e := e) (env := env) (s := s) (f := f) (k := k) l fun x hx => h x (List.mem_cons_of_mem _ hx)
    rw [List.map_cons, List.map_cons]
    unfold compL
    have hy : mYes env1 s = some (true, s) := rfl
    simp only [e1, Option.bind_some, hy, if_true, e2, ih, Option.map_some]
end Dl

set_option Elab.async false
set_option linter.all false
set_option maxRecDepth 100000
set_option maxHeartbeats 4000000
namespace K02
open PySem
open L2
open Dl
def top (i : Nat) : Stmt := PySem.Challenge.pw_lockwright_k02_whole_texts_of_ranges.main.body.getD i (.Pass ⟨0, 0, 0, 0⟩)
abbrev s_is_integer : Stmt := top 6
abbrev s_is_within : Stmt := top 7
abbrev s_number_told : Stmt := top 8
abbrev s_is_version : Stmt := top 15
abbrev s_is_stretch : Stmt := top 16
abbrev s_is_below : Stmt := top 17
abbrev s_lesser_high : Stmt := top 18
abbrev s_both : Stmt := top 19
abbrev s_outside : Stmt := top 20
abbrev s_either : Stmt := top 21
abbrev s_version_text : Stmt := top 22
abbrev s_version_told : Stmt := top 23
abbrev s_behind : Stmt := top 24
abbrev s_top_of_kin : Stmt := top 25
abbrev s_stretches_told : Stmt := top 26
abbrev s_part_told : Stmt := top 27
abbrev s_read_range : Stmt := top 28
abbrev s_stretch_text : Stmt := top 29
abbrev s_range_text : Stmt := top 30
abbrev s__law_hand : Stmt := top 32
abbrev s__law_draw : Stmt := top 33
abbrev s__law_some : Stmt := top 34
abbrev s__law_is : Stmt := top 35
abbrev s__law_version : Stmt := top 36
abbrev s__law_behind : Stmt := top 37
abbrev s__law_has : Stmt := top 38
abbrev s__law_marks : Stmt := top 39
abbrev s__law_made : Stmt := top 40
abbrev s__law_both : Stmt := top 41
abbrev s__law_either : Stmt := top 42
abbrev s__law_outside : Stmt := top 43
abbrev s__law_range : Stmt := top 44
abbrev s__law_version_text : Stmt := top 45
abbrev s__law_part_text : Stmt := top 46
abbrev s__law_part : Stmt := top 47
abbrev s__law_words : Stmt := top 48
abbrev s__law_range_text : Stmt := top 49
abbrev s_law : Stmt := top 50
def d_is_integer : He.DefD := ⟨("is_integer", none), "is_integer", "is_integer", defArgs s_is_integer, defBody s_is_integer, defScope s_is_integer, [], []⟩
def d_is_within : He.DefD := ⟨("is_within", none), "is_within", "is_within", defArgs s_is_within, defBody s_is_within, defScope s_is_within, [], []⟩
def d_number_told : He.DefD := ⟨("number_told", none), "number_told", "number_told", defArgs s_number_told, defBody s_number_told, defScope s_number_told, [], []⟩
def d_is_version : He.DefD := ⟨("is_version", none), "is_version", "is_version", defArgs s_is_version, defBody s_is_version, defScope s_is_version, [], []⟩
def d_is_stretch : He.DefD := ⟨("is_stretch", none), "is_stretch", "is_stretch", defArgs s_is_stretch, defBody s_is_stretch, defScope s_is_stretch, [], []⟩
def d_is_below : He.DefD := ⟨("is_below", none), "is_below", "is_below", defArgs s_is_below, defBody s_is_below, defScope s_is_below, [], []⟩
def d_lesser_high : He.DefD := ⟨("lesser_high", none), "lesser_high", "lesser_high", defArgs s_lesser_high, defBody s_lesser_high, defScope s_lesser_high, [], []⟩
def d_both : He.DefD := ⟨("both", none), "both", "both", defArgs s_both, defBody s_both, defScope s_both, [], []⟩
def d_outside : He.DefD := ⟨("outside", none), "outside", "outside", defArgs s_outside, defBody s_outside, defScope s_outside, [], []⟩
def d_either : He.DefD := ⟨("either", none), "either", "either", defArgs s_either, defBody s_either, defScope s_either, [], []⟩
def d_version_text : He.DefD := ⟨("version_text", none), "version_text", "version_text", defArgs s_version_text, defBody s_version_text, defScope s_version_text, [], []⟩
def d_version_told : He.DefD := ⟨("version_told", none), "version_told", "version_told", defArgs s_version_told, defBody s_version_told, defScope s_version_told, [], []⟩
def d_behind : He.DefD := ⟨("behind", none), "behind", "behind", defArgs s_behind, defBody s_behind, defScope s_behind, [], []⟩
def d_top_of_kin : He.DefD := ⟨("top_of_kin", none), "top_of_kin", "top_of_kin", defArgs s_top_of_kin, defBody s_top_of_kin, defScope s_top_of_kin, [], []⟩
def d_stretches_told : He.DefD := ⟨("stretches_told", none), "stretches_told", "stretches_told", defArgs s_stretches_told, defBody s_stretches_told, defScope s_stretches_told, [], []⟩
def d_part_told : He.DefD := ⟨("part_told", none), "part_told", "part_told", defArgs s_part_told, defBody s_part_told, defScope s_part_told, [], []⟩
def d_read_range : He.DefD := ⟨("read_range", none), "read_range", "read_range", defArgs s_read_range, defBody s_read_range, defScope s_read_range, [], []⟩
def d_stretch_text : He.DefD := ⟨("stretch_text", none), "stretch_text", "stretch_text", defArgs s_stretch_text, defBody s_stretch_text, defScope s_stretch_text, [], []⟩
def d_range_text : He.DefD := ⟨("range_text", none), "range_text", "range_text", defArgs s_range_text, defBody s_range_text, defScope s_range_text, [], []⟩
def d__law_hand : He.DefD := ⟨("_law_hand", none), "_law_hand", "_law_hand", defArgs s__law_hand, defBody s__law_hand, defScope s__law_hand, [], []⟩
def d__law_draw : He.DefD := ⟨("_law_draw", none), "_law_draw", "_law_draw", defArgs s__law_draw, defBody s__law_draw, defScope s__law_draw, [], []⟩
def d__law_some : He.DefD := ⟨("_law_some", none), "_law_some", "_law_some", defArgs s__law_some, defBody s__law_some, defScope s__law_some, [], []⟩
def d__law_is : He.DefD := ⟨("_law_is", none), "_law_is", "_law_is", defArgs s__law_is, defBody s__law_is, defScope s__law_is, [], []⟩
def d__law_version : He.DefD := ⟨("_law_version", none), "_law_version", "_law_version", defArgs s__law_version, defBody s__law_version, defScope s__law_version, [], []⟩
def d__law_behind : He.DefD := ⟨("_law_behind", none), "_law_behind", "_law_behind", defArgs s__law_behind, defBody s__law_behind, defScope s__law_behind, [], []⟩
def d__law_has : He.DefD := ⟨("_law_has", none), "_law_has", "_law_has", defArgs s__law_has, defBody s__law_has, defScope s__law_has, [], []⟩
def d__law_marks : He.DefD := ⟨("_law_marks", none), "_law_marks", "_law_marks", defArgs s__law_marks, defBody s__law_marks, defScope s__law_marks, [], []⟩
def d__law_made : He.DefD := ⟨("_law_made", none), "_law_made", "_law_made", defArgs s__law_made, defBody s__law_made, defScope s__law_made, [], []⟩
def d__law_both : He.DefD := ⟨("_law_both", none), "_law_both", "_law_both", defArgs s__law_both, defBody s__law_both, defScope s__law_both, [], []⟩
def d__law_either : He.DefD := ⟨("_law_either", none), "_law_either", "_law_either", defArgs s__law_either, defBody s__law_either, defScope s__law_either, [], []⟩
def d__law_outside : He.DefD := ⟨("_law_outside", none), "_law_outside", "_law_outside", defArgs s__law_outside, defBody s__law_outside, defScope s__law_outside, [], []⟩
def d__law_range : He.DefD := ⟨("_law_range", none), "_law_range", "_law_range", defArgs s__law_range, defBody s__law_range, defScope s__law_range, [], []⟩
def d__law_version_text : He.DefD := ⟨("_law_version_text", none), "_law_version_text", "_law_version_text", defArgs s__law_version_text, defBody s__law_version_text, defScope s__law_version_text, [], []⟩
def d__law_part_text : He.DefD := ⟨("_law_part_text", none), "_law_part_text", "_law_part_text", defArgs s__law_part_text, defBody s__law_part_text, defScope s__law_part_text, [], []⟩
def d__law_part : He.DefD := ⟨("_law_part", none), "_law_part", "_law_part", defArgs s__law_part, defBody s__law_part, defScope s__law_part, [], []⟩
def d__law_words : He.DefD := ⟨("_law_words", none), "_law_words", "_law_words", defArgs s__law_words, defBody s__law_words, defScope s__law_words, [], []⟩
def d__law_range_text : He.DefD := ⟨("_law_range_text", none), "_law_range_text", "_law_range_text", defArgs s__law_range_text, defBody s__law_range_text, defScope s__law_range_text, [], []⟩
def d_law : He.DefD := ⟨("law", none), "law", "law", defArgs s_law, defBody s_law, defScope s_law, [], []⟩
def fns : List He.DefD := [d_is_integer, d_is_within, d_number_told, d_is_version, d_is_stretch, d_is_below, d_lesser_high, d_both, d_outside, d_either, d_version_text, d_version_told, d_behind, d_top_of_kin, d_stretches_told, d_part_told, d_read_range, d_stretch_text, d_range_text, d__law_hand, d__law_draw, d__law_some, d__law_is, d__law_version, d__law_behind, d__law_has, d__law_marks, d__law_made, d__law_both, d__law_either, d__law_outside, d__law_range, d__law_version_text, d__law_part_text, d__law_part, d__law_words, d__law_range_text, d_law]
def gs : List Str := ("is_integer" : Str) :: ("is_within" : Str) :: ("number_told" : Str) :: ("is_version" : Str) :: ("is_stretch" : Str) :: ("is_below" : Str) :: ("lesser_high" : Str) :: ("both" : Str) :: ("outside" : Str) :: ("either" : Str) :: ("version_text" : Str) :: ("version_told" : Str) :: ("behind" : Str) :: ("top_of_kin" : Str) :: ("stretches_told" : Str) :: ("part_told" : Str) :: ("read_range" : Str) :: ("stretch_text" : Str) :: ("range_text" : Str) :: ("_law_hand" : Str) :: ("_law_draw" : Str) :: ("_law_some" : Str) :: ("_law_is" : Str) :: ("_law_version" : Str) :: ("_law_behind" : Str) :: ("_law_has" : Str) :: ("_law_marks" : Str) :: ("_law_made" : Str) :: ("_law_both" : Str) :: ("_law_either" : Str) :: ("_law_outside" : Str) :: ("_law_range" : Str) :: ("_law_version_text" : Str) :: ("_law_part_text" : Str) :: ("_law_part" : Str) :: ("_law_words" : Str) :: ("_law_range_text" : Str) :: ("law" : Str) :: []
def fr : List Str := ["abs", "all", "bool", "dict", "int", "isinstance", "len", "list", "max", "range", "set", "sorted", "str", "tuple"]
def is : List (Str × Int) := [("MOST_SIGNS", 12), ("GREATEST", 1000000)]
def ss : List (Str × Str) := [("FIGURES", "0123456789"), ("OR", " | "), ("AND", ", ")]
def ts : List (Str × D) := [("LEAST", (D.tup [(D.int 0), (D.int 0), (D.int 0)])), ("WHOLE", (D.tup [(D.tup [(D.tup [(D.int 0), (D.int 0), (D.int 0)]), D.non])]))]
abbrev Txt (K : PySem.W.Frag) (mg : Str → Option Value) : Prop := Tx fns gs fr is ss ts K mg
section
variable {K : PySem.W.Frag} {mg : Str → Option Value}
theorem u_abs (T : Txt K mg) : mg "abs" = none := T.free _ (List.Mem.head _)
theorem u_all (T : Txt K mg) : mg "all" = none := T.free _ (List.Mem.tail _ (List.Mem.head _))
theorem u_bool (T : Txt K mg) : mg "bool" = none := T.free _ (List.Mem.tail _ (List.Mem.tail _ (List.Mem.head _)))
theorem u_dict (T : Txt K mg) : mg "dict" = none := T.free _ (List.Mem.tail _ (List.Mem.tail _ (List.Mem.tail _ (List.Mem.head _))))
theorem u_int (T : Txt K mg) : mg "int" = none := T.free _ (List.Mem.tail _ (List.Mem.tail _ (List.Mem.tail _ (List.Mem.tail _ (List.Mem.head _)))))
theorem u_isinstance (T : Txt K mg) : mg "isinstance" = none := T.free _ (List.Mem.tail _ (List.Mem.tail _ (List.Mem.tail _ (List.Mem.tail _ (List.Mem.tail _ (List.Mem.head _))))))
theorem u_len (T : Txt K mg) : mg "len" = none := T.free _ (List.Mem.tail _ (List.Mem.tail _ (List.Mem.tail _ (List.Mem.tail _ (List.Mem.tail _ (List.Mem.tail _ (List.Mem.head _)))))))
theorem u_list (T : Txt K mg) : mg "list" = none := T.free _ (List.Mem.tail _ (List.Mem.tail _ (List.Mem.tail _ (List.Mem.tail _ (List.Mem.tail _ (List.Mem.tail _ (List.Mem.tail _ (List.Mem.head _))))))))
theorem u_max (T : Txt K mg) : mg "max" = none := T.free _ (List.Mem.tail _ (List.Mem.tail _ (List.Mem.tail _ (List.Mem.tail _ (List.Mem.tail _ (List.Mem.tail _ (List.Mem.tail _ (List.Mem.tail _ (List.Mem.head _)))))))))
theorem u_range (T : Txt K mg) : mg "range" = none := T.free _ (List.Mem.tail _ (List.Mem.tail _ (List.Mem.tail _ (List.Mem.tail _ (List.Mem.tail _ (List.Mem.tail _ (List.Mem.tail _ (List.Mem.tail _ (List.Mem.tail _ (List.Mem.head _))))))))))
theorem u_set (T : Txt K mg) : mg "set" = none := T.free _ (List.Mem.tail _ (List.Mem.tail _ (List.Mem.tail _ (List.Mem.tail _ (List.Mem.tail _ (List.Mem.tail _ (List.Mem.tail _ (List.Mem.tail _ (List.Mem.tail _ (List.Mem.tail _ (List.Mem.head _)))))))))))
theorem u_sorted (T : Txt K mg) : mg "sorted" = none := T.free _ (List.Mem.tail _ (List.Mem.tail _ (List.Mem.tail _ (List.Mem.tail _ (List.Mem.tail _ (List.Mem.tail _ (List.Mem.tail _ (List.Mem.tail _ (List.Mem.tail _ (List.Mem.tail _ (List.Mem.tail _ (List.Mem.head _))))))))))))
theorem u_str (T : Txt K mg) : mg "str" = none := T.free _ (List.Mem.tail _ (List.Mem.tail _ (List.Mem.tail _ (List.Mem.tail _ (List.Mem.tail _ (List.Mem.tail _ (List.Mem.tail _ (List.Mem.tail _ (List.Mem.tail _ (List.Mem.tail _ (List.Mem.tail _ (List.Mem.tail _ (List.Mem.head _)))))))))))))
theorem u_tuple (T : Txt K mg) : mg "tuple" = none := T.free _ (List.Mem.tail _ (List.Mem.tail _ (List.Mem.tail _ (List.Mem.tail _ (List.Mem.tail _ (List.Mem.tail _ (List.Mem.tail _ (List.Mem.tail _ (List.Mem.tail _ (List.Mem.tail _ (List.Mem.tail _ (List.Mem.tail _ (List.Mem.tail _ (List.Mem.head _))))))))))))))
theorem g_MOST_SIGNS (T : Txt K mg) : ∃ t, mg "MOST_SIGNS" = some (.int 12 t) := T.gint ("MOST_SIGNS", 12) (List.Mem.head _)
theorem g_GREATEST (T : Txt K mg) : ∃ t, mg "GREATEST" = some (.int 1000000 t) := T.gint ("GREATEST", 1000000) (List.Mem.tail _ (List.Mem.head _))
theorem g_FIGURES (T : Txt K mg) : ∃ t, mg "FIGURES" = some (.str "0123456789" t) := T.gstr ("FIGURES", "0123456789") (List.Mem.head _)
theorem g_OR (T : Txt K mg) : ∃ t, mg "OR" = some (.str " | " t) := T.gstr ("OR", " | ") (List.Mem.tail _ (List.Mem.head _))
theorem g_AND (T : Txt K mg) : ∃ t, mg "AND" = some (.str ", " t) := T.gstr ("AND", ", ") (List.Mem.tail _ (List.Mem.tail _ (List.Mem.head _)))
theorem g_LEAST (T : Txt K mg) : ∃ a, mg "LEAST" = some (.ref a) ∧ ∀ {S : Type} (B : Amb S) (F : Hp), Dv K B F (D.tup [(D.int 0), (D.int 0), (D.int 0)]) (.ref a) := T.gtup ("LEAST", (D.tup [(D.int 0), (D.int 0), (D.int 0)])) (List.Mem.head _)
theorem g_WHOLE (T : Txt K mg) : ∃ a, mg "WHOLE" = some (.ref a) ∧ ∀ {S : Type} (B : Amb S) (F : Hp), Dv K B F (D.tup [(D.tup [(D.tup [(D.int 0), (D.int 0), (D.int 0)]), D.non])]) (.ref a) := T.gtup ("WHOLE", (D.tup [(D.tup [(D.tup [(D.int 0), (D.int 0), (D.int 0)]), D.non])])) (List.Mem.tail _ (List.Mem.head _))
end
section
variable {P : Program} {w : World} {K : PySem.W.Frag} {mg : Str → Option Value} {base : Heap} {p c a : Addr} {bp : Prop}
theorem sc_is_integer : FnScope ["thing"] ["thing"] (defScope s_is_integer) := ⟨rfl, rfl, rfl, by decide +kernel, rfl, by decide +kernel, by decide +kernel⟩
def f_is_integer : List D → Hand → Option (D × Hand) := mDef 1 (sRet (mAnd (mU (isiD .tInt) (mVar 0)) (mNot (mU (isiD .tBool) (mVar 0)))))
theorem ok_is_integer (T : Txt K mg) : DOk P w K mg base (HandB p c) "is_integer" 1 ["thing"] f_is_integer := by
  obtain ⟨fd, Fn⟩ := T.fns d_is_integer (List.Mem.head _)
  exact d_defD Fn (T.glo _ (List.Mem.head _)) sc_is_integer (fun _ _ _ _ _ _ us hl => match us, hl with | [_], _ => rfl) (fun cdv A outer s H E hr => (s_one (s_ret (d_and (d_isi (u_isinstance T) (d_var (pv 0)) (pe_ty .tInt (u_int T) (by decide +kernel))) (d_one (d_not (d_isi (u_isinstance T) (d_var (pv 0)) (pe_ty .tBool (u_bool T) (by decide +kernel)))))))))
theorem sc_is_within : FnScope ["thing", "least", "most"] ["thing", "least", "most"] (defScope s_is_within) := ⟨rfl, rfl, rfl, by decide +kernel, rfl, by decide +kernel, by decide +kernel⟩
def f_is_within : List D → Hand → Option (D × Hand) := mDef 3 (sRet (mAnd (mCall f_is_integer (mCons (mVar 0) mNil)) (mChain (relD leP) (relD leP) (mVar 1) (mVar 0) (mVar 2))))
theorem ok_is_within (T : Txt K mg) : DOk P w K mg base (HandB p c) "is_within" 2 ["thing", "least", "most"] f_is_within := by
  obtain ⟨fd, Fn⟩ := T.fns d_is_within (List.Mem.tail _ (List.Mem.head _))
  exact d_defD Fn (T.glo _ (List.Mem.tail _ (List.Mem.head _))) sc_is_within (fun _ _ _ _ _ _ us hl => match us, hl with | [_, _, _], _ => rfl) (fun cdv A outer s H E hr => (s_one (s_ret (d_and (d_callO (ok_is_integer T) hr (l_cons (d_var (pv 0)) l_nil)) (d_one (d_chain (op_leP hr.units) (relD_ok _) (op_leP hr.units) (relD_ok _) (d_var (pv 1)) (d_var (pv 0)) (d_var (pv 2))))))))
theorem sc_number_told : FnScope ["word", "most", "sign"] ["word", "most"] (defScope s_number_told) := ⟨rfl, rfl, rfl, by decide +kernel, rfl, by decide +kernel, by decide +kernel⟩
def c_number_told_0 : ME (Hand) := (mB inD (mVar 2) (mC (.str "0123456789")))
theorem c_number_told_0_eq (env : DE) (s : Hand) : c_number_told_0 env s = (mB inD (mVar 2) (mC (.str "0123456789"))) env s := rfl
def f_number_told : List D → Hand → Option (D × Hand) := mDef 3 (sSeq (sIf (mOrT (mNotT (mIsT (mChain (relD leP) (relD leP) (mC (.int 1)) (mF lenD (mCons (mVar 0) mNil)) (mC (.int 12))))) (mNotT (mIsT (mF allD (mCons (mComp (mIt strItems (mVar 0)) (gdName 2) mYes c_number_told_0 [2]) mNil))))) (sRet (mC .non)) sNil) (sSeq (sIf (mOrT (mAndT (mIsT (mB (relD eqP) (mB ixD (mVar 0) (mC (.int 0))) (mC (.str "0")))) (mIsT (mB (relD neP) (mVar 0) (mC (.str "0"))))) (mIsT (mB (relD gtP) (mF intTD (mCons (mVar 0) mNil)) (mVar 1)))) (sRet (mC .non)) sNil) (sRet (mF intTD (mCons (mVar 0) mNil)))))
theorem ok_number_told (T : Txt K mg) : DOk P w K mg base (HandB p c) "number_told" 1 ["word", "most"] f_number_told := by
  obtain ⟨fd, Fn⟩ := T.fns d_number_told (List.Mem.tail _ (List.Mem.tail _ (List.Mem.head _)))
  exact d_defD Fn (T.glo _ (List.Mem.tail _ (List.Mem.tail _ (List.Mem.head _)))) sc_number_told (fun _ _ _ _ _ _ us hl => match us, hl with | [_, _], _ => rfl) (fun cdv A outer s H E hr => (s_cons (s_if (dt_w (dw_or (dt_not (dt_chain (op_leP hr.units) (relD_ok _) (op_leP hr.units) (relD_ok _) d_int (d_callB call_len lenD_ok (u_len T) (by decide +kernel) (l_cons (d_var (pv 0)) l_nil)) (d_gint (g_MOST_SIGNS T)))) (dw_or1 (dt_not (dt_val (d_callB (cr_all rfl) allD_ok (u_all T) (by decide +kernel) (l_cons (d_lc rfl sc_number_told.nd (i_str (d_var (pv 0))) (blkOk_by (own := [("sign", 2)]) (by kernel_rfl)) (fun _ _ _ _ _ => (pg_name (i := 2) sc_number_told.nd rfl (by first | exact Or.inl rfl | exact Or.inr rfl))) (g_name 2) (fun _ _ _ _ _ => dts_nil) (fun _ _ _ _ _ => (d_cmp (op_inA hr.units) inD_ok (d_var (pv 2)) (d_gstr (g_FIGURES T))))) l_nil))))))) (s_one (s_ret d_non)) s_nil) (s_cons (s_if (dt_w (dw_or (dt_w (dw_and (dt_cmp (op_eqP hr.units) (relD_ok _) (d_ix ix_seq ixD_ok (d_var (pv 0)) d_int) d_str) (dw_and1 (dt_cmp (op_neP hr.units) (relD_ok _) (d_var (pv 0)) d_str)))) (dw_or1 (dt_cmp (op_gtP hr.units) (relD_ok _) (d_callTy (CallR.or call_int1 call_int_str) intTD_ok (u_int T) (by decide +kernel) (l_cons (d_var (pv 0)) l_nil)) (d_var (pv 1)))))) (s_one (s_ret d_non)) s_nil) (s_one (s_ret (d_callTy (CallR.or call_int1 call_int_str) intTD_ok (u_int T) (by decide +kernel) (l_cons (d_var (pv 0)) l_nil)))))))
theorem sc_is_version : FnScope ["thing", "number"] ["thing"] (defScope s_is_version) := ⟨rfl, rfl, rfl, by decide +kernel, rfl, by decide +kernel, by decide +kernel⟩
def c_is_version_0 : ME (Hand) := (mCall f_is_within (mCons (mVar 1) (mCons (mC (.int 0)) (mCons (mC (.int 1000000)) mNil))))
theorem c_is_version_0_eq (env : DE) (s : Hand) : c_is_version_0 env s = (mCall f_is_within (mCons (mVar 1) (mCons (mC (.int 0)) (mCons (mC (.int 1000000)) mNil)))) env s := rfl
def f_is_version : List D → Hand → Option (D × Hand) := mDef 2 (sRet (mAnd (mU (isiD .tTuple) (mVar 0)) (mAnd (mB (relD eqP) (mF lenD (mCons (mVar 0) mNil)) (mC (.int 3))) (mF allD (mCons (mComp (mIt tupItems (mVar 0)) (gdName 1) mYes c_is_version_0 [1]) mNil)))))
theorem ok_is_version (T : Txt K mg) : DOk P w K mg base (HandB p c) "is_version" 3 ["thing"] f_is_version := by
  obtain ⟨fd, Fn⟩ := T.fns d_is_version (List.Mem.tail _ (List.Mem.tail _ (List.Mem.tail _ (List.Mem.head _))))
  exact d_defD Fn (T.glo _ (List.Mem.tail _ (List.Mem.tail _ (List.Mem.tail _ (List.Mem.head _))))) sc_is_version (fun _ _ _ _ _ _ us hl => match us, hl with | [_], _ => rfl) (fun cdv A outer s H E hr => (s_one (s_ret (d_and (d_isi (u_isinstance T) (d_var (pv 0)) (pe_ty .tTuple (u_tuple T) (by decide +kernel))) (d_and (d_cmp (op_eqP hr.units) (relD_ok _) (d_callB call_len lenD_ok (u_len T) (by decide +kernel) (l_cons (d_var (pv 0)) l_nil)) d_int) (d_one (d_callB (cr_all rfl) allD_ok (u_all T) (by decide +kernel) (l_cons (d_lc rfl sc_is_version.nd (i_tup (d_var (pv 0))) (blkOk_by (own := [("number", 1)]) (by kernel_rfl)) (fun _ _ _ _ _ => (pg_name (i := 1) sc_is_version.nd rfl (by first | exact Or.inl rfl | exact Or.inr rfl))) (g_name 1) (fun _ _ _ _ _ => dts_nil) (fun _ _ _ _ _ => (d_callO (ok_is_within T) hr (l_cons (d_var (pv 1)) (l_cons d_int (l_cons (d_gint (g_GREATEST T)) l_nil)))))) l_nil))))))))
theorem sc_is_stretch : FnScope ["thing"] ["thing"] (defScope s_is_stretch) := ⟨rfl, rfl, rfl, by decide +kernel, rfl, by decide +kernel, by decide +kernel⟩
def f_is_stretch : List D → Hand → Option (D × Hand) := mDef 1 (sSeq (sIf (mOrT (mNotT (mIsT (mU (isiD .tTuple) (mVar 0)))) (mOrT (mIsT (mB (relD neP) (mF lenD (mCons (mVar 0) mNil)) (mC (.int 2)))) (mNotT (mIsT (mCall f_is_version (mCons (mB ixD (mVar 0) (mC (.int 0))) mNil)))))) (sRet (mC (.bl false))) sNil) (sRet (mOr (mB isND (mB ixD (mVar 0) (mC (.int 1))) (mC .non)) (mAnd (mCall f_is_version (mCons (mB ixD (mVar 0) (mC (.int 1))) mNil)) (mB (relD ltP) (mB ixD (mVar 0) (mC (.int 0))) (mB ixD (mVar 0) (mC (.int 1))))))))
theorem ok_is_stretch (T : Txt K mg) : DOk P w K mg base (HandB p c) "is_stretch" 4 ["thing"] f_is_stretch := by
  obtain ⟨fd, Fn⟩ := T.fns d_is_stretch (List.Mem.tail _ (List.Mem.tail _ (List.Mem.tail _ (List.Mem.tail _ (List.Mem.head _)))))
  exact d_defD Fn (T.glo _ (List.Mem.tail _ (List.Mem.tail _ (List.Mem.tail _ (List.Mem.tail _ (List.Mem.head _)))))) sc_is_stretch (fun _ _ _ _ _ _ us hl => match us, hl with | [_], _ => rfl) (fun cdv A outer s H E hr => (s_cons (s_if (dt_w (dw_or (dt_not (dt_val (d_isi (u_isinstance T) (d_var (pv 0)) (pe_ty .tTuple (u_tuple T) (by decide +kernel))))) (dw_or (dt_cmp (op_neP hr.units) (relD_ok _) (d_callB call_len lenD_ok (u_len T) (by decide +kernel) (l_cons (d_var (pv 0)) l_nil)) d_int) (dw_or1 (dt_not (dt_val (d_callO (ok_is_version T) hr (l_cons (d_ix ix_seq ixD_ok (d_var (pv 0)) d_int) l_nil)))))))) (s_one (s_ret d_bl)) s_nil) (s_one (s_ret (d_or (d_cmp op_isN isND_ok (d_ix ix_seq ixD_ok (d_var (pv 0)) d_int) d_non) (d_one (d_and (d_callO (ok_is_version T) hr (l_cons (d_ix ix_seq ixD_ok (d_var (pv 0)) d_int) l_nil)) (d_one (d_cmp (op_ltP hr.units) (relD_ok _) (d_ix ix_seq ixD_ok (d_var (pv 0)) d_int) (d_ix ix_seq ixD_ok (d_var (pv 0)) d_int))))))))))
theorem sc_is_below : FnScope ["version", "high"] ["version", "high"] (defScope s_is_below) := ⟨rfl, rfl, rfl, by decide +kernel, rfl, by decide +kernel, by decide +kernel⟩
def f_is_below : List D → Hand → Option (D × Hand) := mDef 2 (sRet (mOr (mB isND (mVar 1) (mC .non)) (mB (relD ltP) (mVar 0) (mVar 1))))
theorem ok_is_below (T : Txt K mg) : DOk P w K mg base (HandB p c) "is_below" 1 ["version", "high"] f_is_below := by
  obtain ⟨fd, Fn⟩ := T.fns d_is_below (List.Mem.tail _ (List.Mem.tail _ (List.Mem.tail _ (List.Mem.tail _ (List.Mem.tail _ (List.Mem.head _))))))
  exact d_defD Fn (T.glo _ (List.Mem.tail _ (List.Mem.tail _ (List.Mem.tail _ (List.Mem.tail _ (List.Mem.tail _ (List.Mem.head _))))))) sc_is_below (fun _ _ _ _ _ _ us hl => match us, hl with | [_, _], _ => rfl) (fun cdv A outer s H E hr => (s_one (s_ret (d_or (d_cmp op_isN isND_ok (d_var (pv 1)) d_non) (d_one (d_cmp (op_ltP hr.units) (relD_ok _) (d_var (pv 0)) (d_var (pv 1))))))))
theorem sc_lesser_high : FnScope ["one", "other"] ["one", "other"] (defScope s_lesser_high) := ⟨rfl, rfl, rfl, by decide +kernel, rfl, by decide +kernel, by decide +kernel⟩
def f_lesser_high : List D → Hand → Option (D × Hand) := mDef 2 (sSeq (sIf (mIsT (mB isND (mVar 0) (mC .non))) (sRet (mVar 1)) sNil) (sRet (mIf (mOrT (mIsT (mB isND (mVar 1) (mC .non))) (mIsT (mB (relD ltP) (mVar 0) (mVar 1)))) (mVar 0) (mVar 1))))
theorem ok_lesser_high (T : Txt K mg) : DOk P w K mg base (HandB p c) "lesser_high" 1 ["one", "other"] f_lesser_high := by
  obtain ⟨fd, Fn⟩ := T.fns d_lesser_high (List.Mem.tail _ (List.Mem.tail _ (List.Mem.tail _ (List.Mem.tail _ (List.Mem.tail _ (List.Mem.tail _ (List.Mem.head _)))))))
  exact d_defD Fn (T.glo _ (List.Mem.tail _ (List.Mem.tail _ (List.Mem.tail _ (List.Mem.tail _ (List.Mem.tail _ (List.Mem.tail _ (List.Mem.head _)))))))) sc_lesser_high (fun _ _ _ _ _ _ us hl => match us, hl with | [_, _], _ => rfl) (fun cdv A outer s H E hr => (s_cons (s_if (dt_cmp op_isN isND_ok (d_var (pv 0)) d_non) (s_one (s_ret (d_var (pv 1)))) s_nil) (s_one (s_ret (d_if (dt_w (dw_or (dt_cmp op_isN isND_ok (d_var (pv 1)) d_non) (dw_or1 (dt_cmp (op_ltP hr.units) (relD_ok _) (d_var (pv 0)) (d_var (pv 1)))))) (d_var (pv 0)) (d_var (pv 1)))))))
theorem sc_both : FnScope ["one", "other", "found", "low", "high", "down", "top", "begin", "end"] ["one", "other"] (defScope s_both) := ⟨rfl, rfl, rfl, by decide +kernel, rfl, by decide +kernel, by decide +kernel⟩
def b_both_1 : MS (Hand) := (sSeq (sAsg (gdName 7) (mF maxD (mCons (mVar 3) (mCons (mVar 5) mNil)))) (sSeq (sAsg (gdName 8) (mCall f_lesser_high (mCons (mVar 4) (mCons (mVar 6) mNil)))) (sIf (mIsT (mCall f_is_below (mCons (mVar 7) (mCons (mVar 8) mNil)))) (sApp 2 (mF tupD (mCons (mVar 7) (mCons (mVar 8) mNil)))) sNil)))
theorem b_both_1_eq (env : DE) (s : Hand) : b_both_1 env s = (sSeq (sAsg (gdName 7) (mF maxD (mCons (mVar 3) (mCons (mVar 5) mNil)))) (sSeq (sAsg (gdName 8) (mCall f_lesser_high (mCons (mVar 4) (mCons (mVar 6) mNil)))) (sIf (mIsT (mCall f_is_below (mCons (mVar 7) (mCons (mVar 8) mNil)))) (sApp 2 (mF tupD (mCons (mVar 7) (mCons (mVar 8) mNil)))) sNil))) env s := rfl
def b_both_0 : MS (Hand) := (sFor (mIt tupItems (mVar 1)) (gdTup 2 (gdCons (gdName 5) (gdCons (gdName 6) gdNil))) b_both_1)
theorem b_both_0_eq (env : DE) (s : Hand) : b_both_0 env s = (sFor (mIt tupItems (mVar 1)) (gdTup 2 (gdCons (gdName 5) (gdCons (gdName 6) gdNil))) b_both_1) env s := rfl
def f_both : List D → Hand → Option (D × Hand) := mDef 9 (sSeq (sOwn 2 mNil) (sSeq (sFor (mIt tupItems (mVar 0)) (gdTup 2 (gdCons (gdName 3) (gdCons (gdName 4) gdNil))) b_both_0) (sRet (mTupO 2))))
theorem ok_both (T : Txt K mg) : DOk P w K mg base (HandB p c) "both" 2 ["one", "other"] f_both := by
  obtain ⟨fd, Fn⟩ := T.fns d_both (List.Mem.tail _ (List.Mem.tail _ (List.Mem.tail _ (List.Mem.tail _ (List.Mem.tail _ (List.Mem.tail _ (List.Mem.tail _ (List.Mem.head _))))))))
  exact d_defD Fn (T.glo _ (List.Mem.tail _ (List.Mem.tail _ (List.Mem.tail _ (List.Mem.tail _ (List.Mem.tail _ (List.Mem.tail _ (List.Mem.tail _ (List.Mem.head _))))))))) sc_both (fun _ _ _ _ _ _ us hl => match us, hl with | [_, _], _ => rfl) (fun cdv A outer s H E hr => (s_cons (s_own (i := 2) sc_both.nd l_nil) (s_cons (s_for PassesOwn.never rfl (i_tup (d_var (pv 0))) (pg_tup (n := 2) rfl (pgs_cons (pg_name (i := 3) sc_both.nd rfl (by first | exact Or.inl rfl | exact Or.inr rfl)) (pgs_cons (pg_name (i := 4) sc_both.nd rfl (by first | exact Or.inl rfl | exact Or.inr rfl)) pgs_nil))) (g_tup (g_cons (g_name 3) (g_cons (g_name 4) g_nil))) (s_one (s_for PassesOwn.never rfl (i_tup (d_var (pv 1))) (pg_tup (n := 2) rfl (pgs_cons (pg_name (i := 5) sc_both.nd rfl (by first | exact Or.inl rfl | exact Or.inr rfl)) (pgs_cons (pg_name (i := 6) sc_both.nd rfl (by first | exact Or.inl rfl | exact Or.inr rfl)) pgs_nil))) (g_tup (g_cons (g_name 5) (g_cons (g_name 6) g_nil))) (s_cons (s_set (i := 7) sc_both.nd (d_callB (call_maxA rfl hr.units) maxD_ok (u_max T) (by decide +kernel) (l_cons (d_var (pv 3)) (l_cons (d_var (pv 5)) l_nil)))) (s_cons (s_set (i := 8) sc_both.nd (d_callO (ok_lesser_high T) hr (l_cons (d_var (pv 4)) (l_cons (d_var (pv 6)) l_nil)))) (s_one (s_if (dt_val (d_callO (ok_is_below T) hr (l_cons (d_var (pv 7)) (l_cons (d_var (pv 8)) l_nil)))) (s_one (s_app (pv 2) (d_tup (l_cons (d_var (pv 7)) (l_cons (d_var (pv 8)) l_nil))))) s_nil))))))) (s_one (s_ret (d_tupO (u_tuple T) (pv 2)))))))
theorem sc_outside : FnScope ["rng", "found", "begin", "low", "high"] ["rng"] (defScope s_outside) := ⟨rfl, rfl, rfl, by decide +kernel, rfl, by decide +kernel, by decide +kernel⟩
def b_outside_0 : MS (Hand) := (sSeq (sIf (mAndT (mIsT (mB notND (mVar 2) (mC .non))) (mIsT (mB (relD ltP) (mVar 2) (mVar 3)))) (sApp 1 (mF tupD (mCons (mVar 2) (mCons (mVar 3) mNil)))) sNil) (sAsg (gdName 2) (mVar 4)))
theorem b_outside_0_eq (env : DE) (s : Hand) : b_outside_0 env s = (sSeq (sIf (mAndT (mIsT (mB notND (mVar 2) (mC .non))) (mIsT (mB (relD ltP) (mVar 2) (mVar 3)))) (sApp 1 (mF tupD (mCons (mVar 2) (mCons (mVar 3) mNil)))) sNil) (sAsg (gdName 2) (mVar 4))) env s := rfl
def f_outside : List D → Hand → Option (D × Hand) := mDef 5 (sSeq (sOwn 1 mNil) (sSeq (sAsg (gdName 2) (mC (D.tup [(D.int 0), (D.int 0), (D.int 0)]))) (sSeq (sFor (mIt tupItems (mVar 0)) (gdTup 2 (gdCons (gdName 3) (gdCons (gdName 4) gdNil))) b_outside_0) (sSeq (sIf (mIsT (mB notND (mVar 2) (mC .non))) (sApp 1 (mF tupD (mCons (mVar 2) (mCons (mC .non) mNil)))) sNil) (sRet (mTupO 1))))))
theorem ok_outside (T : Txt K mg) : DOk P w K mg base (HandB p c) "outside" 1 ["rng"] f_outside := by
  obtain ⟨fd, Fn⟩ := T.fns d_outside (List.Mem.tail _ (List.Mem.tail _ (List.Mem.tail _ (List.Mem.tail _ (List.Mem.tail _ (List.Mem.tail _ (List.Mem.tail _ (List.Mem.tail _ (List.Mem.head _)))))))))
  exact d_defD Fn (T.glo _ (List.Mem.tail _ (List.Mem.tail _ (List.Mem.tail _ (List.Mem.tail _ (List.Mem.tail _ (List.Mem.tail _ (List.Mem.tail _ (List.Mem.tail _ (List.Mem.head _)))))))))) sc_outside (fun _ _ _ _ _ _ us hl => match us, hl with | [_], _ => rfl) (fun cdv A outer s H E hr => (s_cons (s_own (i := 1) sc_outside.nd l_nil) (s_cons (s_set (i := 2) sc_outside.nd (d_gtup (g_LEAST T))) (s_cons (s_for PassesOwn.never rfl (i_tup (d_var (pv 0))) (pg_tup (n := 2) rfl (pgs_cons (pg_name (i := 3) sc_outside.nd rfl (by first | exact Or.inl rfl | exact Or.inr rfl)) (pgs_cons (pg_name (i := 4) sc_outside.nd rfl (by first | exact Or.inl rfl | exact Or.inr rfl)) pgs_nil))) (g_tup (g_cons (g_name 3) (g_cons (g_name 4) g_nil))) (s_cons (s_if (dt_w (dw_and (dt_cmp op_notN notND_ok (d_var (pv 2)) d_non) (dw_and1 (dt_cmp (op_ltP hr.units) (relD_ok _) (d_var (pv 2)) (d_var (pv 3)))))) (s_one (s_app (pv 1) (d_tup (l_cons (d_var (pv 2)) (l_cons (d_var (pv 3)) l_nil))))) s_nil) (s_one (s_set (i := 2) sc_outside.nd (d_var (pv 4)))))) (s_cons (s_if (dt_cmp op_notN notND_ok (d_var (pv 2)) d_non) (s_one (s_app (pv 1) (d_tup (l_cons (d_var (pv 2)) (l_cons d_non l_nil))))) s_nil) (s_one (s_ret (d_tupO (u_tuple T) (pv 1)))))))))
theorem sc_either : FnScope ["one", "other"] ["one", "other"] (defScope s_either) := ⟨rfl, rfl, rfl, by decide +kernel, rfl, by decide +kernel, by decide +kernel⟩
def f_either : List D → Hand → Option (D × Hand) := mDef 2 (sRet (mCall f_outside (mCons (mCall f_both (mCons (mCall f_outside (mCons (mVar 0) mNil)) (mCons (mCall f_outside (mCons (mVar 1) mNil)) mNil))) mNil)))
theorem ok_either (T : Txt K mg) : DOk P w K mg base (HandB p c) "either" 3 ["one", "other"] f_either := by
  obtain ⟨fd, Fn⟩ := T.fns d_either (List.Mem.tail _ (List.Mem.tail _ (List.Mem.tail _ (List.Mem.tail _ (List.Mem.tail _ (List.Mem.tail _ (List.Mem.tail _ (List.Mem.tail _ (List.Mem.tail _ (List.Mem.head _))))))))))
  exact d_defD Fn (T.glo _ (List.Mem.tail _ (List.Mem.tail _ (List.Mem.tail _ (List.Mem.tail _ (List.Mem.tail _ (List.Mem.tail _ (List.Mem.tail _ (List.Mem.tail _ (List.Mem.tail _ (List.Mem.head _))))))))))) sc_either (fun _ _ _ _ _ _ us hl => match us, hl with | [_, _], _ => rfl) (fun cdv A outer s H E hr => (s_one (s_ret (d_callO (ok_outside T) hr (l_cons (d_callO (ok_both T) hr (l_cons (d_callO (ok_outside T) hr (l_cons (d_var (pv 0)) l_nil)) (l_cons (d_callO (ok_outside T) hr (l_cons (d_var (pv 1)) l_nil)) l_nil))) l_nil)))))
theorem sc_version_text : FnScope ["version", "number"] ["version"] (defScope s_version_text) := ⟨rfl, rfl, rfl, by decide +kernel, rfl, by decide +kernel, by decide +kernel⟩
def c_version_text_0 : ME (Hand) := (mF strCD (mCons (mVar 1) mNil))
theorem c_version_text_0_eq (env : DE) (s : Hand) : c_version_text_0 env s = (mF strCD (mCons (mVar 1) mNil)) env s := rfl
def f_version_text : List D → Hand → Option (D × Hand) := mDef 2 (sRet (mB joinD (mC (.str ".")) (mComp (mIt tupItems (mVar 0)) (gdName 1) mYes c_version_text_0 [1])))
theorem ok_version_text (T : Txt K mg) : DOk P w K mg base (HandB p c) "version_text" 1 ["version"] f_version_text := by
  obtain ⟨fd, Fn⟩ := T.fns d_version_text (List.Mem.tail _ (List.Mem.tail _ (List.Mem.tail _ (List.Mem.tail _ (List.Mem.tail _ (List.Mem.tail _ (List.Mem.tail _ (List.Mem.tail _ (List.Mem.tail _ (List.Mem.tail _ (List.Mem.head _)))))))))))
  exact d_defD Fn (T.glo _ (List.Mem.tail _ (List.Mem.tail _ (List.Mem.tail _ (List.Mem.tail _ (List.Mem.tail _ (List.Mem.tail _ (List.Mem.tail _ (List.Mem.tail _ (List.Mem.tail _ (List.Mem.tail _ (List.Mem.head _)))))))))))) sc_version_text (fun _ _ _ _ _ _ us hl => match us, hl with | [_], _ => rfl) (fun cdv A outer s H E hr => (s_one (s_ret (d_join d_str (d_lc rfl sc_version_text.nd (i_tup (d_var (pv 0))) (blkOk_by (own := [("number", 1)]) (by kernel_rfl)) (fun _ _ _ _ _ => (pg_name (i := 1) sc_version_text.nd rfl (by first | exact Or.inl rfl | exact Or.inr rfl))) (g_name 1) (fun _ _ _ _ _ => dts_nil) (fun _ _ _ _ _ => (d_callTy (CallR.or call_str_int SkE.call_str_str) strCD_ok (u_str T) (by decide +kernel) (l_cons (d_var (pv 1)) l_nil))))))))
theorem sc_version_told : FnScope ["text", "numbers", "word"] ["text"] (defScope s_version_told) := ⟨rfl, rfl, rfl, by decide +kernel, rfl, by decide +kernel, by decide +kernel⟩
def c_version_told_0 : ME (Hand) := (mCall f_number_told (mCons (mVar 2) (mCons (mC (.int 1000000)) mNil)))
theorem c_version_told_0_eq (env : DE) (s : Hand) : c_version_told_0 env s = (mCall f_number_told (mCons (mVar 2) (mCons (mC (.int 1000000)) mNil))) env s := rfl
def f_version_told : List D → Hand → Option (D × Hand) := mDef 3 (sSeq (sAsg (gdName 1) (mF tupleCD (mCons (mComp (mIt lstItems (mB splitD (mVar 0) (mC (.str ".")))) (gdName 2) mYes c_version_told_0 [2]) mNil))) (sRet (mIf (mAndT (mIsT (mB (relD eqP) (mF lenD (mCons (mVar 1) mNil)) (mC (.int 3)))) (mIsT (mB ninD (mC .non) (mVar 1)))) (mVar 1) (mC .non))))
theorem ok_version_told (T : Txt K mg) : DOk P w K mg base (HandB p c) "version_told" 2 ["text"] f_version_told := by
  obtain ⟨fd, Fn⟩ := T.fns d_version_told (List.Mem.tail _ (List.Mem.tail _ (List.Mem.tail _ (List.Mem.tail _ (List.Mem.tail _ (List.Mem.tail _ (List.Mem.tail _ (List.Mem.tail _ (List.Mem.tail _ (List.Mem.tail _ (List.Mem.tail _ (List.Mem.head _))))))))))))
  exact d_defD Fn (T.glo _ (List.Mem.tail _ (List.Mem.tail _ (List.Mem.tail _ (List.Mem.tail _ (List.Mem.tail _ (List.Mem.tail _ (List.Mem.tail _ (List.Mem.tail _ (List.Mem.tail _ (List.Mem.tail _ (List.Mem.tail _ (List.Mem.head _))))))))))))) sc_version_told (fun _ _ _ _ _ _ us hl => match us, hl with | [_], _ => rfl) (fun cdv A outer s H E hr => (s_cons (s_set (i := 1) sc_version_told.nd (d_callTy call_tuple_of tupleCD_ok (u_tuple T) (by decide +kernel) (l_cons (d_lc rfl sc_version_told.nd (i_lst (d_split (d_var (pv 0)) d_str)) (blkOk_by (own := [("word", 2)]) (by kernel_rfl)) (fun _ _ _ _ _ => (pg_name (i := 2) sc_version_told.nd rfl (by first | exact Or.inl rfl | exact Or.inr rfl))) (g_name 2) (fun _ _ _ _ _ => dts_nil) (fun _ _ _ _ _ => (d_callO (ok_number_told T) hr (l_cons (d_var (pv 2)) (l_cons (d_gint (g_GREATEST T)) l_nil))))) l_nil))) (s_one (s_ret (d_if (dt_w (dw_and (dt_cmp (op_eqP hr.units) (relD_ok _) (d_callB call_len lenD_ok (u_len T) (by decide +kernel) (l_cons (d_var (pv 1)) l_nil)) d_int) (dw_and1 (dt_cmp (op_ninA hr.units) ninD_ok d_non (d_var (pv 1)))))) (d_var (pv 1)) d_non)))))
theorem sc_behind : FnScope ["version"] ["version"] (defScope s_behind) := ⟨rfl, rfl, rfl, by decide +kernel, rfl, by decide +kernel, by decide +kernel⟩
def f_behind : List D → Hand → Option (D × Hand) := mDef 1 (sRet (mF tupD (mCons (mB ixD (mVar 0) (mC (.int 0))) (mCons (mB ixD (mVar 0) (mC (.int 1))) (mCons (mB addD (mB ixD (mVar 0) (mC (.int 2))) (mC (.int 1))) mNil)))))
theorem ok_behind (T : Txt K mg) : DOk P w K mg base (HandB p c) "behind" 1 ["version"] f_behind := by
  obtain ⟨fd, Fn⟩ := T.fns d_behind (List.Mem.tail _ (List.Mem.tail _ (List.Mem.tail _ (List.Mem.tail _ (List.Mem.tail _ (List.Mem.tail _ (List.Mem.tail _ (List.Mem.tail _ (List.Mem.tail _ (List.Mem.tail _ (List.Mem.tail _ (List.Mem.tail _ (List.Mem.head _)))))))))))))
  exact d_defD Fn (T.glo _ (List.Mem.tail _ (List.Mem.tail _ (List.Mem.tail _ (List.Mem.tail _ (List.Mem.tail _ (List.Mem.tail _ (List.Mem.tail _ (List.Mem.tail _ (List.Mem.tail _ (List.Mem.tail _ (List.Mem.tail _ (List.Mem.tail _ (List.Mem.head _)))))))))))))) sc_behind (fun _ _ _ _ _ _ us hl => match us, hl with | [_], _ => rfl) (fun cdv A outer s H E hr => (s_one (s_ret (d_tup (l_cons (d_ix ix_seq ixD_ok (d_var (pv 0)) d_int) (l_cons (d_ix ix_seq ixD_ok (d_var (pv 0)) d_int) (l_cons (d_op op_addA addD_ok (d_ix ix_seq ixD_ok (d_var (pv 0)) d_int) d_int) l_nil)))))))
theorem sc_top_of_kin : FnScope ["version"] ["version"] (defScope s_top_of_kin) := ⟨rfl, rfl, rfl, by decide +kernel, rfl, by decide +kernel, by decide +kernel⟩
def f_top_of_kin : List D → Hand → Option (D × Hand) := mDef 1 (sSeq (sIf (mIsT (mB (relD gtP) (mB ixD (mVar 0) (mC (.int 0))) (mC (.int 0)))) (sRet (mF tupD (mCons (mB addD (mB ixD (mVar 0) (mC (.int 0))) (mC (.int 1))) (mCons (mC (.int 0)) (mCons (mC (.int 0)) mNil))))) sNil) (sRet (mIf (mIsT (mB (relD gtP) (mB ixD (mVar 0) (mC (.int 1))) (mC (.int 0)))) (mF tupD (mCons (mC (.int 0)) (mCons (mB addD (mB ixD (mVar 0) (mC (.int 1))) (mC (.int 1))) (mCons (mC (.int 0)) mNil)))) (mCall f_behind (mCons (mVar 0) mNil)))))
theorem ok_top_of_kin (T : Txt K mg) : DOk P w K mg base (HandB p c) "top_of_kin" 2 ["version"] f_top_of_kin := by
  obtain ⟨fd, Fn⟩ := T.fns d_top_of_kin (List.Mem.tail _ (List.Mem.tail _ (List.Mem.tail _ (List.Mem.tail _ (List.Mem.tail _ (List.Mem.tail _ (List.Mem.tail _ (List.Mem.tail _ (List.Mem.tail _ (List.Mem.tail _ (List.Mem.tail _ (List.Mem.tail _ (List.Mem.tail _ (List.Mem.head _))))))))))))))
  exact d_defD Fn (T.glo _ (List.Mem.tail _ (List.Mem.tail _ (List.Mem.tail _ (List.Mem.tail _ (List.Mem.tail _ (List.Mem.tail _ (List.Mem.tail _ (List.Mem.tail _ (List.Mem.tail _ (List.Mem.tail _ (List.Mem.tail _ (List.Mem.tail _ (List.Mem.tail _ (List.Mem.head _))))))))))))))) sc_top_of_kin (fun _ _ _ _ _ _ us hl => match us, hl with | [_], _ => rfl) (fun cdv A outer s H E hr => (s_cons (s_if (dt_cmp (op_gtP hr.units) (relD_ok _) (d_ix ix_seq ixD_ok (d_var (pv 0)) d_int) d_int) (s_one (s_ret (d_tup (l_cons (d_op op_addA addD_ok (d_ix ix_seq ixD_ok (d_var (pv 0)) d_int) d_int) (l_cons d_int (l_cons d_int l_nil)))))) s_nil) (s_one (s_ret (d_if (dt_cmp (op_gtP hr.units) (relD_ok _) (d_ix ix_seq ixD_ok (d_var (pv 0)) d_int) d_int) (d_tup (l_cons d_int (l_cons (d_op op_addA addD_ok (d_ix ix_seq ixD_ok (d_var (pv 0)) d_int) d_int) (l_cons d_int l_nil)))) (d_callO (ok_behind T) hr (l_cons (d_var (pv 0)) l_nil)))))))
theorem sc_stretches_told : FnScope ["word", "version"] ["word", "version"] (defScope s_stretches_told) := ⟨rfl, rfl, rfl, by decide +kernel, rfl, by decide +kernel, by decide +kernel⟩
def f_stretches_told : List D → Hand → Option (D × Hand) := mDef 2 (sSeq (sIf (mIsT (mB (relD eqP) (mVar 0) (mC (.str "")))) (sRet (mF lstD (mCons (mF tupD (mCons (mVar 1) (mCons (mCall f_behind (mCons (mVar 1) mNil)) mNil))) mNil))) sNil) (sSeq (sIf (mIsT (mB (relD eqP) (mVar 0) (mC (.str "<")))) (sRet (mF lstD (mCons (mF tupD (mCons (mC (D.tup [(D.int 0), (D.int 0), (D.int 0)])) (mCons (mVar 1) mNil))) mNil))) sNil) (sSeq (sIf (mIsT (mB (relD eqP) (mVar 0) (mC (.str "<=")))) (sRet (mF lstD (mCons (mF tupD (mCons (mC (D.tup [(D.int 0), (D.int 0), (D.int 0)])) (mCons (mCall f_behind (mCons (mVar 1) mNil)) mNil))) mNil))) sNil) (sSeq (sIf (mIsT (mB (relD eqP) (mVar 0) (mC (.str ">")))) (sRet (mF lstD (mCons (mF tupD (mCons (mCall f_behind (mCons (mVar 1) mNil)) (mCons (mC .non) mNil))) mNil))) sNil) (sSeq (sIf (mIsT (mB (relD eqP) (mVar 0) (mC (.str ">=")))) (sRet (mF lstD (mCons (mF tupD (mCons (mVar 1) (mCons (mC .non) mNil))) mNil))) sNil) (sSeq (sIf (mIsT (mB (relD eqP) (mVar 0) (mC (.str "^")))) (sRet (mF lstD (mCons (mF tupD (mCons (mVar 1) (mCons (mCall f_top_of_kin (mCons (mVar 1) mNil)) mNil))) mNil))) sNil) (sSeq (sIf (mIsT (mB (relD eqP) (mVar 0) (mC (.str "~")))) (sRet (mF lstD (mCons (mF tupD (mCons (mVar 1) (mCons (mF tupD (mCons (mB ixD (mVar 1) (mC (.int 0))) (mCons (mB addD (mB ixD (mVar 1) (mC (.int 1))) (mC (.int 1))) (mCons (mC (.int 0)) mNil)))) mNil))) mNil))) sNil) (sRet (mF lstD (mCons (mF tupD (mCons (mC (D.tup [(D.int 0), (D.int 0), (D.int 0)])) (mCons (mVar 1) mNil))) (mCons (mF tupD (mCons (mCall f_behind (mCons (mVar 1) mNil)) (mCons (mC .non) mNil))) mNil)))))))))))
theorem ok_stretches_told (T : Txt K mg) : DOk P w K mg base (HandB p c) "stretches_told" 3 ["word", "version"] f_stretches_told := by
  obtain ⟨fd, Fn⟩ := T.fns d_stretches_told (List.Mem.tail _ (List.Mem.tail _ (List.Mem.tail _ (List.Mem.tail _ (List.Mem.tail _ (List.Mem.tail _ (List.Mem.tail _ (List.Mem.tail _ (List.Mem.tail _ (List.Mem.tail _ (List.Mem.tail _ (List.Mem.tail _ (List.Mem.tail _ (List.Mem.tail _ (List.Mem.head _)))))))))))))))
  exact d_defD Fn (T.glo _ (List.Mem.tail _ (List.Mem.tail _ (List.Mem.tail _ (List.Mem.tail _ (List.Mem.tail _ (List.Mem.tail _ (List.Mem.tail _ (List.Mem.tail _ (List.Mem.tail _ (List.Mem.tail _ (List.Mem.tail _ (List.Mem.tail _ (List.Mem.tail _ (List.Mem.tail _ (List.Mem.head _)))))))))))))))) sc_stretches_told (fun _ _ _ _ _ _ us hl => match us, hl with | [_, _], _ => rfl) (fun cdv A outer s H E hr => (s_cons (s_if (dt_cmp (op_eqP hr.units) (relD_ok _) (d_var (pv 0)) d_str) (s_one (s_ret (d_lst (l_cons (d_tup (l_cons (d_var (pv 1)) (l_cons (d_callO (ok_behind T) hr (l_cons (d_var (pv 1)) l_nil)) l_nil))) l_nil)))) s_nil) (s_cons (s_if (dt_cmp (op_eqP hr.units) (relD_ok _) (d_var (pv 0)) d_str) (s_one (s_ret (d_lst (l_cons (d_tup (l_cons (d_gtup (g_LEAST T)) (l_cons (d_var (pv 1)) l_nil))) l_nil)))) s_nil) (s_cons (s_if (dt_cmp (op_eqP hr.units) (relD_ok _) (d_var (pv 0)) d_str) (s_one (s_ret (d_lst (l_cons (d_tup (l_cons (d_gtup (g_LEAST T)) (l_cons (d_callO (ok_behind T) hr (l_cons (d_var (pv 1)) l_nil)) l_nil))) l_nil)))) s_nil) (s_cons (s_if (dt_cmp (op_eqP hr.units) (relD_ok _) (d_var (pv 0)) d_str) (s_one (s_ret (d_lst (l_cons (d_tup (l_cons (d_callO (ok_behind T) hr (l_cons (d_var (pv 1)) l_nil)) (l_cons d_non l_nil))) l_nil)))) s_nil) (s_cons (s_if (dt_cmp (op_eqP hr.units) (relD_ok _) (d_var (pv 0)) d_str) (s_one (s_ret (d_lst (l_cons (d_tup (l_cons (d_var (pv 1)) (l_cons d_non l_nil))) l_nil)))) s_nil) (s_cons (s_if (dt_cmp (op_eqP hr.units) (relD_ok _) (d_var (pv 0)) d_str) (s_one (s_ret (d_lst (l_cons (d_tup (l_cons (d_var (pv 1)) (l_cons (d_callO (ok_top_of_kin T) hr (l_cons (d_var (pv 1)) l_nil)) l_nil))) l_nil)))) s_nil) (s_cons (s_if (dt_cmp (op_eqP hr.units) (relD_ok _) (d_var (pv 0)) d_str) (s_one (s_ret (d_lst (l_cons (d_tup (l_cons (d_var (pv 1)) (l_cons (d_tup (l_cons (d_ix ix_seq ixD_ok (d_var (pv 1)) d_int) (l_cons (d_op op_addA addD_ok (d_ix ix_seq ixD_ok (d_var (pv 1)) d_int) d_int) (l_cons d_int l_nil)))) l_nil))) l_nil)))) s_nil) (s_one (s_ret (d_lst (l_cons (d_tup (l_cons (d_gtup (g_LEAST T)) (l_cons (d_var (pv 1)) l_nil))) (l_cons (d_tup (l_cons (d_callO (ok_behind T) hr (l_cons (d_var (pv 1)) l_nil)) (l_cons d_non l_nil))) l_nil)))))))))))))
theorem sc_part_told : FnScope ["text", "word", "sign", "version", "stretches", "low", "high", "stretch"] ["text"] (defScope s_part_told) := ⟨rfl, rfl, rfl, by decide +kernel, rfl, by decide +kernel, by decide +kernel⟩
def b_part_told_0 : MS (Hand) := (sIf (mAndT (mIsT (mB (relD eqP) (mVar 1) (mC (.str "")))) (mIsT (mB (relD eqP) (mSl slS (mVar 0) mNoPart (mPart (mF lenD (mCons (mVar 2) mNil)))) (mVar 2)))) (sAsg (gdName 1) (mVar 2)) sNil)
theorem b_part_told_0_eq (env : DE) (s : Hand) : b_part_told_0 env s = (sIf (mAndT (mIsT (mB (relD eqP) (mVar 1) (mC (.str "")))) (mIsT (mB (relD eqP) (mSl slS (mVar 0) mNoPart (mPart (mF lenD (mCons (mVar 2) mNil)))) (mVar 2)))) (sAsg (gdName 1) (mVar 2)) sNil) env s := rfl
def c_part_told_0 : ME (Hand) := (mF tupD (mCons (mVar 5) (mCons (mVar 6) mNil)))
theorem c_part_told_0_eq (env : DE) (s : Hand) : c_part_told_0 env s = (mF tupD (mCons (mVar 5) (mCons (mVar 6) mNil))) env s := rfl
def c_part_told_1 : ME (Hand) := (mCall f_is_stretch (mCons (mVar 7) mNil))
theorem c_part_told_1_eq (env : DE) (s : Hand) : c_part_told_1 env s = (mCall f_is_stretch (mCons (mVar 7) mNil)) env s := rfl
def f_part_told : List D → Hand → Option (D × Hand) := mDef 8 (sSeq (sIf (mIsT (mB (relD eqP) (mVar 0) (mC (.str "*")))) (sRet (mC (D.tup [(D.tup [(D.tup [(D.int 0), (D.int 0), (D.int 0)]), D.non])]))) sNil) (sSeq (sAsg (gdName 1) (mC (.str ""))) (sSeq (sFor (mIt tupItems (mF tupD (mCons (mC (.str "<=")) (mCons (mC (.str ">=")) (mCons (mC (.str "<")) (mCons (mC (.str ">")) (mCons (mC (.str "!")) (mCons (mC (.str "^")) (mCons (mC (.str "~")) mNil))))))))) (gdName 2) b_part_told_0) (sSeq (sAsg (gdName 3) (mCall f_version_told (mCons (mSl slS (mVar 0) (mPart (mF lenD (mCons (mVar 1) mNil))) mNoPart) mNil))) (sSeq (sIf (mIsT (mB isND (mVar 3) (mC .non))) (sRet (mC .non)) sNil) (sSeq (sAsg (gdName 4) (mComp (mIt lstItems (mCall f_stretches_told (mCons (mVar 1) (mCons (mVar 3) mNil)))) (gdTup 2 (gdCons (gdName 5) (gdCons (gdName 6) gdNil))) (mIsT (mCall f_is_below (mCons (mVar 5) (mCons (mVar 6) mNil)))) c_part_told_0 [5, 6])) (sRet (mIf (mIsT (mF allD (mCons (mComp (mIt lstItems (mVar 4)) (gdName 7) mYes c_part_told_1 [7]) mNil))) (mF tupleCD (mCons (mVar 4) mNil)) (mC .non)))))))))
theorem ok_part_told (T : Txt K mg) : DOk P w K mg base (HandB p c) "part_told" 5 ["text"] f_part_told := by
  obtain ⟨fd, Fn⟩ := T.fns d_part_told (List.Mem.tail _ (List.Mem.tail _ (List.Mem.tail _ (List.Mem.tail _ (List.Mem.tail _ (List.Mem.tail _ (List.Mem.tail _ (List.Mem.tail _ (List.Mem.tail _ (List.Mem.tail _ (List.Mem.tail _ (List.Mem.tail _ (List.Mem.tail _ (List.Mem.tail _ (List.Mem.tail _ (List.Mem.head _))))))))))))))))
  exact d_defD Fn (T.glo _ (List.Mem.tail _ (List.Mem.tail _ (List.Mem.tail _ (List.Mem.tail _ (List.Mem.tail _ (List.Mem.tail _ (List.Mem.tail _ (List.Mem.tail _ (List.Mem.tail _ (List.Mem.tail _ (List.Mem.tail _ (List.Mem.tail _ (List.Mem.tail _ (List.Mem.tail _ (List.Mem.tail _ (List.Mem.head _))))))))))))))))) sc_part_told (fun _ _ _ _ _ _ us hl => match us, hl with | [_], _ => rfl) (fun cdv A outer s H E hr => (s_cons (s_if (dt_cmp (op_eqP hr.units) (relD_ok _) (d_var (pv 0)) d_str) (s_one (s_ret (d_gtup (g_WHOLE T)))) s_nil) (s_cons (s_set (i := 1) sc_part_told.nd d_str) (s_cons (s_for PassesOwn.never rfl (i_tup (d_tup (l_cons d_str (l_cons d_str (l_cons d_str (l_cons d_str (l_cons d_str (l_cons d_str (l_cons d_str l_nil))))))))) (pg_name (i := 2) sc_part_told.nd rfl (by first | exact Or.inl rfl | exact Or.inr rfl)) (g_name 2) (s_one (s_if (dt_w (dw_and (dt_cmp (op_eqP hr.units) (relD_ok _) (d_var (pv 1)) d_str) (dw_and1 (dt_cmp (op_eqP hr.units) (relD_ok _) (d_sl sl_str slS_ok (d_var (pv 0)) do_none (do_some (d_callB call_len lenD_ok (u_len T) (by decide +kernel) (l_cons (d_var (pv 2)) l_nil)))) (d_var (pv 2)))))) (s_one (s_set (i := 1) sc_part_told.nd (d_var (pv 2)))) s_nil))) (s_cons (s_set (i := 3) sc_part_told.nd (d_callO (ok_version_told T) hr (l_cons (d_sl sl_str slS_ok (d_var (pv 0)) (do_some (d_callB call_len lenD_ok (u_len T) (by decide +kernel) (l_cons (d_var (pv 1)) l_nil))) do_none) l_nil))) (s_cons (s_if (dt_cmp op_isN isND_ok (d_var (pv 3)) d_non) (s_one (s_ret d_non)) s_nil) (s_cons (s_setLc (i := 4) rfl sc_part_told.nd rfl rfl (sw_true rfl rfl rfl (by decide +kernel)) (i_lst (d_callO (ok_stretches_told T) hr (l_cons (d_var (pv 1)) (l_cons (d_var (pv 3)) l_nil)))) (blkOk_by (own := [("low", 5), ("high", 6)]) (by kernel_rfl)) (fun _ _ _ _ _ => (pg_tup (n := 2) rfl (pgs_cons (pg_name (i := 5) sc_part_told.nd rfl (by first | exact Or.inl rfl | exact Or.inr rfl)) (pgs_cons (pg_name (i := 6) sc_part_told.nd rfl (by first | exact Or.inl rfl | exact Or.inr rfl)) pgs_nil)))) (g_tup (g_cons (g_name 5) (g_cons (g_name 6) g_nil))) (fun _ _ _ _ _ => (dts_one (dt_val (d_callO (ok_is_below T) hr (l_cons (d_var (pv 5)) (l_cons (d_var (pv 6)) l_nil)))))) (fun _ _ _ _ _ => (d_tup (l_cons (d_var (pv 5)) (l_cons (d_var (pv 6)) l_nil))))) (s_one (s_ret (d_if (dt_val (d_callB (cr_all rfl) allD_ok (u_all T) (by decide +kernel) (l_cons (d_lc rfl sc_part_told.nd (i_lst (d_var (pv 4))) (blkOk_by (own := [("stretch", 7)]) (by kernel_rfl)) (fun _ _ _ _ _ => (pg_name (i := 7) sc_part_told.nd rfl (by first | exact Or.inl rfl | exact Or.inr rfl))) (g_name 7) (fun _ _ _ _ _ => dts_nil) (fun _ _ _ _ _ => (d_callO (ok_is_stretch T) hr (l_cons (d_var (pv 7)) l_nil)))) l_nil))) (d_callTy call_tuple_of tupleCD_ok (u_tuple T) (by decide +kernel) (l_cons (d_var (pv 4)) l_nil)) d_non))))))))))
theorem sc_read_range : FnScope ["text", "found", "index", "alternative", "kept", "part", "told"] ["text"] (defScope s_read_range) := ⟨rfl, rfl, rfl, by decide +kernel, rfl, by decide +kernel, by decide +kernel⟩
def b_read_range_1 : MS (Hand) := (sSeq (sAsg (gdName 6) (mCall f_part_told (mCons (mVar 5) mNil))) (sSeq (sIf (mIsT (mB isND (mVar 6) (mC .non))) sNone sNil) (sSeq (sAsg (gdName 4) (mCall f_both (mCons (mVar 4) (mCons (mVar 6) mNil)))) (sAug 2 iaddD (mC (.int 1))))))
theorem b_read_range_1_eq (env : DE) (s : Hand) : b_read_range_1 env s = (sSeq (sAsg (gdName 6) (mCall f_part_told (mCons (mVar 5) mNil))) (sSeq (sIf (mIsT (mB isND (mVar 6) (mC .non))) sNone sNil) (sSeq (sAsg (gdName 4) (mCall f_both (mCons (mVar 4) (mCons (mVar 6) mNil)))) (sAug 2 iaddD (mC (.int 1)))))) env s := rfl
def b_read_range_0 : MS (Hand) := (sSeq (sAsg (gdName 4) (mC (D.tup [(D.tup [(D.tup [(D.int 0), (D.int 0), (D.int 0)]), D.non])]))) (sSeq (sFor (mIt lstItems (mB splitD (mVar 3) (mC (.str ", ")))) (gdName 5) b_read_range_1) (sAsg (gdName 1) (mCall f_either (mCons (mVar 1) (mCons (mVar 4) mNil))))))
theorem b_read_range_0_eq (env : DE) (s : Hand) : b_read_range_0 env s = (sSeq (sAsg (gdName 4) (mC (D.tup [(D.tup [(D.tup [(D.int 0), (D.int 0), (D.int 0)]), D.non])]))) (sSeq (sFor (mIt lstItems (mB splitD (mVar 3) (mC (.str ", ")))) (gdName 5) b_read_range_1) (sAsg (gdName 1) (mCall f_either (mCons (mVar 1) (mCons (mVar 4) mNil)))))) env s := rfl
def f_read_range : List D → Hand → Option (D × Hand) := mDef 7 (sSeq (sIf (mNotT (mIsT (mU (isiD .tStr) (mVar 0)))) sNone sNil) (sSeq (sAsg (gdName 1) (mF tupD mNil)) (sSeq (sAsg (gdName 2) (mC (.int 0))) (sSeq (sFor (mIt lstItems (mB splitD (mVar 0) (mC (.str " | ")))) (gdName 3) b_read_range_0) (sRet (mVar 1))))))
theorem ok_read_range (T : Txt K mg) : DOk P w K mg base (HandB p c) "read_range" 6 ["text"] f_read_range := by
  obtain ⟨fd, Fn⟩ := T.fns d_read_range (List.Mem.tail _ (List.Mem.tail _ (List.Mem.tail _ (List.Mem.tail _ (List.Mem.tail _ (List.Mem.tail _ (List.Mem.tail _ (List.Mem.tail _ (List.Mem.tail _ (List.Mem.tail _ (List.Mem.tail _ (List.Mem.tail _ (List.Mem.tail _ (List.Mem.tail _ (List.Mem.tail _ (List.Mem.tail _ (List.Mem.head _)))))))))))))))))
  exact d_defD Fn (T.glo _ (List.Mem.tail _ (List.Mem.tail _ (List.Mem.tail _ (List.Mem.tail _ (List.Mem.tail _ (List.Mem.tail _ (List.Mem.tail _ (List.Mem.tail _ (List.Mem.tail _ (List.Mem.tail _ (List.Mem.tail _ (List.Mem.tail _ (List.Mem.tail _ (List.Mem.tail _ (List.Mem.tail _ (List.Mem.tail _ (List.Mem.head _)))))))))))))))))) sc_read_range (fun _ _ _ _ _ _ us hl => match us, hl with | [_], _ => rfl) (fun cdv A outer s H E hr => (s_cons (s_if (dt_not (dt_val (d_isi (u_isinstance T) (d_var (pv 0)) (pe_ty .tStr (u_str T) (by decide +kernel))))) (s_one s_none) s_nil) (s_cons (s_set (i := 1) sc_read_range.nd (d_tup l_nil)) (s_cons (s_set (i := 2) sc_read_range.nd d_int) (s_cons (s_for PassesOwn.never rfl (i_lst (d_split (d_var (pv 0)) (d_gstr (g_OR T)))) (pg_name (i := 3) sc_read_range.nd rfl (by first | exact Or.inl rfl | exact Or.inr rfl)) (g_name 3) (s_cons (s_set (i := 4) sc_read_range.nd (d_gtup (g_WHOLE T))) (s_cons (s_for PassesOwn.never rfl (i_lst (d_split (d_var (pv 3)) (d_gstr (g_AND T)))) (pg_name (i := 5) sc_read_range.nd rfl (by first | exact Or.inl rfl | exact Or.inr rfl)) (g_name 5) (s_cons (s_set (i := 6) sc_read_range.nd (d_callO (ok_part_told T) hr (l_cons (d_var (pv 5)) l_nil))) (s_cons (s_if (dt_cmp op_isN isND_ok (d_var (pv 6)) d_non) (s_one s_none) s_nil) (s_cons (s_set (i := 4) sc_read_range.nd (d_callO (ok_both T) hr (l_cons (d_var (pv 4)) (l_cons (d_var (pv 6)) l_nil)))) (s_one (s_aug (i := 2) sc_read_range.nd iop_addA iaddD_ok d_int)))))) (s_one (s_set (i := 1) sc_read_range.nd (d_callO (ok_either T) hr (l_cons (d_var (pv 1)) (l_cons (d_var (pv 4)) l_nil)))))))) (s_one (s_ret (d_var (pv 1)))))))))
theorem sc_stretch_text : FnScope ["stretch", "low", "high"] ["stretch"] (defScope s_stretch_text) := ⟨rfl, rfl, rfl, by decide +kernel, rfl, by decide +kernel, by decide +kernel⟩
def f_stretch_text : List D → Hand → Option (D × Hand) := mDef 3 (sSeq (sAsg (gdTup 2 (gdCons (gdName 1) (gdCons (gdName 2) gdNil))) (mVar 0)) (sSeq (sIf (mIsT (mB isND (mVar 2) (mC .non))) (sRet (mB addD (mC (.str ">=")) (mCall f_version_text (mCons (mVar 1) mNil)))) sNil) (sSeq (sIf (mIsT (mB (relD eqP) (mVar 2) (mCall f_behind (mCons (mVar 1) mNil)))) (sRet (mCall f_version_text (mCons (mVar 1) mNil))) sNil) (sRet (mB addD (mB addD (mB addD (mB addD (mC (.str ">=")) (mCall f_version_text (mCons (mVar 1) mNil))) (mC (.str ", "))) (mC (.str "<"))) (mCall f_version_text (mCons (mVar 2) mNil)))))))
theorem ok_stretch_text (T : Txt K mg) : DOk P w K mg base (HandB p c) "stretch_text" 2 ["stretch"] f_stretch_text := by
  obtain ⟨fd, Fn⟩ := T.fns d_stretch_text (List.Mem.tail _ (List.Mem.tail _ (List.Mem.tail _ (List.Mem.tail _ (List.Mem.tail _ (List.Mem.tail _ (List.Mem.tail _ (List.Mem.tail _ (List.Mem.tail _ (List.Mem.tail _ (List.Mem.tail _ (List.Mem.tail _ (List.Mem.tail _ (List.Mem.tail _ (List.Mem.tail _ (List.Mem.tail _ (List.Mem.tail _ (List.Mem.head _))))))))))))))))))
  exact d_defD Fn (T.glo _ (List.Mem.tail _ (List.Mem.tail _ (List.Mem.tail _ (List.Mem.tail _ (List.Mem.tail _ (List.Mem.tail _ (List.Mem.tail _ (List.Mem.tail _ (List.Mem.tail _ (List.Mem.tail _ (List.Mem.tail _ (List.Mem.tail _ (List.Mem.tail _ (List.Mem.tail _ (List.Mem.tail _ (List.Mem.tail _ (List.Mem.tail _ (List.Mem.head _))))))))))))))))))) sc_stretch_text (fun _ _ _ _ _ _ us hl => match us, hl with | [_], _ => rfl) (fun cdv A outer s H E hr => (s_cons (s_asg (g_tup (g_cons (g_name 1) (g_cons (g_name 2) g_nil))) (d_var (pv 0)) (pg_tup (n := 2) rfl (pgs_cons (pg_name (i := 1) sc_stretch_text.nd rfl (by first | exact Or.inl rfl | exact Or.inr rfl)) (pgs_cons (pg_name (i := 2) sc_stretch_text.nd rfl (by first | exact Or.inl rfl | exact Or.inr rfl)) pgs_nil)))) (s_cons (s_if (dt_cmp op_isN isND_ok (d_var (pv 2)) d_non) (s_one (s_ret (d_op op_addA addD_ok d_str (d_callO (ok_version_text T) hr (l_cons (d_var (pv 1)) l_nil))))) s_nil) (s_cons (s_if (dt_cmp (op_eqP hr.units) (relD_ok _) (d_var (pv 2)) (d_callO (ok_behind T) hr (l_cons (d_var (pv 1)) l_nil))) (s_one (s_ret (d_callO (ok_version_text T) hr (l_cons (d_var (pv 1)) l_nil)))) s_nil) (s_one (s_ret (d_op op_addA addD_ok (d_op op_addA addD_ok (d_op op_addA addD_ok (d_op op_addA addD_ok d_str (d_callO (ok_version_text T) hr (l_cons (d_var (pv 1)) l_nil))) (d_gstr (g_AND T))) d_str) (d_callO (ok_version_text T) hr (l_cons (d_var (pv 2)) l_nil)))))))))
theorem sc_range_text : FnScope ["rng", "stretch"] ["rng"] (defScope s_range_text) := ⟨rfl, rfl, rfl, by decide +kernel, rfl, by decide +kernel, by decide +kernel⟩
def c_range_text_0 : ME (Hand) := (mCall f_stretch_text (mCons (mVar 1) mNil))
theorem c_range_text_0_eq (env : DE) (s : Hand) : c_range_text_0 env s = (mCall f_stretch_text (mCons (mVar 1) mNil)) env s := rfl
def f_range_text : List D → Hand → Option (D × Hand) := mDef 2 (sSeq (sIf (mIsT (mB (relD eqP) (mVar 0) (mC (D.tup [(D.tup [(D.tup [(D.int 0), (D.int 0), (D.int 0)]), D.non])])))) (sRet (mC (.str "*"))) sNil) (sSeq (sIf (mIsT (mB (relD eqP) (mVar 0) (mF tupD mNil))) (sRet (mB addD (mC (.str "<")) (mCall f_version_text (mCons (mC (D.tup [(D.int 0), (D.int 0), (D.int 0)])) mNil)))) sNil) (sRet (mB joinD (mC (.str " | ")) (mComp (mIt tupItems (mVar 0)) (gdName 1) mYes c_range_text_0 [1])))))
theorem ok_range_text (T : Txt K mg) : DOk P w K mg base (HandB p c) "range_text" 3 ["rng"] f_range_text := by
  obtain ⟨fd, Fn⟩ := T.fns d_range_text (List.Mem.tail _ (List.Mem.tail _ (List.Mem.tail _ (List.Mem.tail _ (List.Mem.tail _ (List.Mem.tail _ (List.Mem.tail _ (List.Mem.tail _ (List.Mem.tail _ (List.Mem.tail _ (List.Mem.tail _ (List.Mem.tail _ (List.Mem.tail _ (List.Mem.tail _ (List.Mem.tail _ (List.Mem.tail _ (List.Mem.tail _ (List.Mem.tail _ (List.Mem.head _)))))))))))))))))))
  exact d_defD Fn (T.glo _ (List.Mem.tail _ (List.Mem.tail _ (List.Mem.tail _ (List.Mem.tail _ (List.Mem.tail _ (List.Mem.tail _ (List.Mem.tail _ (List.Mem.tail _ (List.Mem.tail _ (List.Mem.tail _ (List.Mem.tail _ (List.Mem.tail _ (List.Mem.tail _ (List.Mem.tail _ (List.Mem.tail _ (List.Mem.tail _ (List.Mem.tail _ (List.Mem.tail _ (List.Mem.head _)))))))))))))))))))) sc_range_text (fun _ _ _ _ _ _ us hl => match us, hl with | [_], _ => rfl) (fun cdv A outer s H E hr => (s_cons (s_if (dt_cmp (op_eqP hr.units) (relD_ok _) (d_var (pv 0)) (d_gtup (g_WHOLE T))) (s_one (s_ret d_str)) s_nil) (s_cons (s_if (dt_cmp (op_eqP hr.units) (relD_ok _) (d_var (pv 0)) (d_tup l_nil)) (s_one (s_ret (d_op op_addA addD_ok d_str (d_callO (ok_version_text T) hr (l_cons (d_gtup (g_LEAST T)) l_nil))))) s_nil) (s_one (s_ret (d_join (d_gstr (g_OR T)) (d_lc rfl sc_range_text.nd (i_tup (d_var (pv 0))) (blkOk_by (own := [("stretch", 1)]) (by kernel_rfl)) (fun _ _ _ _ _ => (pg_name (i := 1) sc_range_text.nd rfl (by first | exact Or.inl rfl | exact Or.inr rfl))) (g_name 1) (fun _ _ _ _ _ => dts_nil) (fun _ _ _ _ _ => (d_callO (ok_stretch_text T) hr (l_cons (d_var (pv 1)) l_nil))))))))))
theorem sc__law_hand : FnScope ["_law_script", "_law_cells", "_law_cell"] ["_law_script"] (defScope s__law_hand) := ⟨rfl, rfl, rfl, by decide +kernel, rfl, by decide +kernel, by decide +kernel⟩
def c__law_hand_0 : ME (List Int) := (mF absD (mCons (mF intCD (mCons (mVar 2) mNil)) mNil))
theorem c__law_hand_0_eq (env : DE) (s : List Int) : c__law_hand_0 env s = (mF absD (mCons (mF intCD (mCons (mVar 2) mNil)) mNil)) env s := rfl
def f__law_hand : List D → List Int → Option (D × List Int) := mDef 3 (sSeq (sAsg (gdName 1) (mComp (mIt lstItems (mScr 0 63)) (gdName 2) mYes c__law_hand_0 [2])) (sRet (mF lstD (mCons (mVar 1) (mCons (mC (.int 0)) (mCons (mC (.int 0)) (mCons (mB addD (mC (.int 1)) (mF lenD (mCons (mVar 1) mNil))) (mCons (mC (.int 0)) mNil))))))))
theorem ok__law_hand (T : Txt K mg) : DOk P w K mg base (ScrB K a bp) "_law_hand" 1 ["_law_script"] f__law_hand := by
  obtain ⟨fd, Fn⟩ := T.fns d__law_hand (List.Mem.tail _ (List.Mem.tail _ (List.Mem.tail _ (List.Mem.tail _ (List.Mem.tail _ (List.Mem.tail _ (List.Mem.tail _ (List.Mem.tail _ (List.Mem.tail _ (List.Mem.tail _ (List.Mem.tail _ (List.Mem.tail _ (List.Mem.tail _ (List.Mem.tail _ (List.Mem.tail _ (List.Mem.tail _ (List.Mem.tail _ (List.Mem.tail _ (List.Mem.tail _ (List.Mem.head _))))))))))))))))))))
  exact d_defD Fn (T.glo _ (List.Mem.tail _ (List.Mem.tail _ (List.Mem.tail _ (List.Mem.tail _ (List.Mem.tail _ (List.Mem.tail _ (List.Mem.tail _ (List.Mem.tail _ (List.Mem.tail _ (List.Mem.tail _ (List.Mem.tail _ (List.Mem.tail _ (List.Mem.tail _ (List.Mem.tail _ (List.Mem.tail _ (List.Mem.tail _ (List.Mem.tail _ (List.Mem.tail _ (List.Mem.tail _ (List.Mem.head _))))))))))))))))))))) sc__law_hand (fun _ _ _ _ _ _ us hl => match us, hl with | [_], _ => rfl) (fun cdv A outer s H E hr => (s_cons (s_setLc (i := 1) rfl sc__law_hand.nd rfl rfl (sw_true rfl rfl rfl (by decide +kernel)) (i_lst (d_scr (pv 0))) (blkOk_by (own := [("_law_cell", 2)]) (by kernel_rfl)) (fun _ _ _ _ _ => (pg_name (i := 2) sc__law_hand.nd rfl (by first | exact Or.inl rfl | exact Or.inr rfl))) (g_name 2) (fun _ _ _ _ _ => dts_nil) (fun _ _ _ _ _ => (d_callB call_abs absD_ok (u_abs T) (by decide +kernel) (l_cons (d_callTy call_int1 intCD_ok (u_int T) (by decide +kernel) (l_cons (d_var (pv 2)) l_nil)) l_nil)))) (s_one (s_ret (d_lst (l_cons (d_var (pv 1)) (l_cons d_int (l_cons d_int (l_cons (d_op op_addA addD_ok d_int (d_callB call_len lenD_ok (u_len T) (by decide +kernel) (l_cons (d_var (pv 1)) l_nil))) (l_cons d_int l_nil))))))))))
theorem sc__law_draw : FnScope ["_law_hand_here", "_law_many", "_law_number", "_law_cell", "_law_digit"] ["_law_hand_here", "_law_many"] (defScope s__law_draw) := ⟨rfl, rfl, rfl, by decide +kernel, rfl, by decide +kernel, by decide +kernel⟩
def f__law_draw : List D → Hand → Option (D × Hand) := mDef 5 (sSeq (sIf (mAndT (mIsT (mB (relD eqP) (mHx 0 2) (mC (.int 0)))) (mIsT (mB (relD ltP) (mHx 0 1) (mHlen 0)))) (sSeq (sAsg (gdName 3) (mHcell 0 (mHx 0 1))) (sSeq (sHput 0 1 (mB addD (mHx 0 1) (mC (.int 1)))) (sSeq (sHput 0 3 (mB modD (mF intCD (mCons (mB addD (mB addD (mB mulD (mHx 0 3) (mC (.int 69621))) (mVar 3)) (mC (.int 11))) mNil)) (mC (.int 2147483629)))) (sIf (mIsT (mB (relD geP) (mVar 3) (mB powD (mC (.int 10)) (mC (.int 18))))) (sHput 0 2 (mVar 3)) sNil)))) sNil) (sSeq (sIf (mIsT (mB (relD gtP) (mHx 0 2) (mC (.int 0)))) (sSeq (sAsg (gdName 4) (mB modD (mF intCD (mCons (mHx 0 2) mNil)) (mVar 1))) (sSeq (sHput 0 2 (mB divD (mHx 0 2) (mVar 1))) (sRet (mVar 4)))) sNil) (sSeq (sHput 0 4 (mB addD (mHx 0 4) (mC (.int 1)))) (sSeq (sAsg (gdName 2) (mB modD (mF intCD (mCons (mB mulD (mF intCD (mCons (mB addD (mHx 0 3) (mB mulD (mC (.int 7919)) (mHx 0 4))) mNil)) (mC (.int 48271))) mNil)) (mC (.int 2147483647)))) (sSeq (sAsg (gdName 2) (mB modD (mF intCD (mCons (mB mulD (mVar 2) (mB addD (mB divD (mVar 2) (mC (.int 1009))) (mC (.int 69621)))) mNil)) (mC (.int 2147483647)))) (sSeq (sAsg (gdName 2) (mB modD (mF intCD (mCons (mB mulD (mVar 2) (mB addD (mB divD (mVar 2) (mC (.int 2003))) (mC (.int 40692)))) mNil)) (mC (.int 2147483399)))) (sRet (mB modD (mF intCD (mCons (mB divD (mVar 2) (mC (.int 16))) mNil)) (mVar 1)))))))))
theorem ok__law_draw (T : Txt K mg) : DOk P w K mg base (HandB p c) "_law_draw" 1 ["_law_hand_here", "_law_many"] f__law_draw := by
  obtain ⟨fd, Fn⟩ := T.fns d__law_draw (List.Mem.tail _ (List.Mem.tail _ (List.Mem.tail _ (List.Mem.tail _ (List.Mem.tail _ (List.Mem.tail _ (List.Mem.tail _ (List.Mem.tail _ (List.Mem.tail _ (List.Mem.tail _ (List.Mem.tail _ (List.Mem.tail _ (List.Mem.tail _ (List.Mem.tail _ (List.Mem.tail _ (List.Mem.tail _ (List.Mem.tail _ (List.Mem.tail _ (List.Mem.tail _ (List.Mem.tail _ (List.Mem.head _)))))))))))))))))))))
  exact d_defD Fn (T.glo _ (List.Mem.tail _ (List.Mem.tail _ (List.Mem.tail _ (List.Mem.tail _ (List.Mem.tail _ (List.Mem.tail _ (List.Mem.tail _ (List.Mem.tail _ (List.Mem.tail _ (List.Mem.tail _ (List.Mem.tail _ (List.Mem.tail _ (List.Mem.tail _ (List.Mem.tail _ (List.Mem.tail _ (List.Mem.tail _ (List.Mem.tail _ (List.Mem.tail _ (List.Mem.tail _ (List.Mem.tail _ (List.Mem.head _)))))))))))))))))))))) sc__law_draw (fun _ _ _ _ _ _ us hl => match us, hl with | [_, _], _ => rfl) (fun cdv A outer s H E hr => (s_cons (s_if (dt_w (dw_and (dt_cmp (op_eqP hr.units) (relD_ok _) (d_hx (pv 0)) d_int) (dw_and1 (dt_cmp (op_ltP hr.units) (relD_ok _) (d_hx (pv 0)) (d_hlen (u_len T) (pv 0)))))) (s_cons (s_set (i := 3) sc__law_draw.nd (d_hcell (pv 0) (d_hx (pv 0)))) (s_cons (s_hput (pv 0) (d_op op_addA addD_ok (d_hx (pv 0)) d_int) (fun ho hk => pg_sub ho hk set_list)) (s_cons (s_hput (pv 0) (d_op op_mod modD_ok (d_callTy call_int1 intCD_ok (u_int T) (by decide +kernel) (l_cons (d_op op_addA addD_ok (d_op op_addA addD_ok (d_op op_mulA mulD_ok (d_hx (pv 0)) d_int) (d_var (pv 3))) d_int) l_nil)) d_int) (fun ho hk => pg_sub ho hk set_list)) (s_one (s_if (dt_cmp (op_geP hr.units) (relD_ok _) (d_var (pv 3)) (d_op op_pow powD_ok d_int d_int)) (s_one (s_hput (pv 0) (d_var (pv 3)) (fun ho hk => pg_sub ho hk set_list))) s_nil))))) s_nil) (s_cons (s_if (dt_cmp (op_gtP hr.units) (relD_ok _) (d_hx (pv 0)) d_int) (s_cons (s_set (i := 4) sc__law_draw.nd (d_op op_mod modD_ok (d_callTy call_int1 intCD_ok (u_int T) (by decide +kernel) (l_cons (d_hx (pv 0)) l_nil)) (d_var (pv 1)))) (s_cons (s_hput (pv 0) (d_op op_fdivW divD_ok (d_hx (pv 0)) (d_var (pv 1))) (fun ho hk => pg_sub ho hk set_list)) (s_one (s_ret (d_var (pv 4)))))) s_nil) (s_cons (s_hput (pv 0) (d_op op_addA addD_ok (d_hx (pv 0)) d_int) (fun ho hk => pg_sub ho hk set_list)) (s_cons (s_set (i := 2) sc__law_draw.nd (d_op op_mod modD_ok (d_callTy call_int1 intCD_ok (u_int T) (by decide +kernel) (l_cons (d_op op_mulA mulD_ok (d_callTy call_int1 intCD_ok (u_int T) (by decide +kernel) (l_cons (d_op op_addA addD_ok (d_hx (pv 0)) (d_op op_mulA mulD_ok d_int (d_hx (pv 0)))) l_nil)) d_int) l_nil)) d_int)) (s_cons (s_set (i := 2) sc__law_draw.nd (d_op op_mod modD_ok (d_callTy call_int1 intCD_ok (u_int T) (by decide +kernel) (l_cons (d_op op_mulA mulD_ok (d_var (pv 2)) (d_op op_addA addD_ok (d_op op_fdivW divD_ok (d_var (pv 2)) d_int) d_int)) l_nil)) d_int)) (s_cons (s_set (i := 2) sc__law_draw.nd (d_op op_mod modD_ok (d_callTy call_int1 intCD_ok (u_int T) (by decide +kernel) (l_cons (d_op op_mulA mulD_ok (d_var (pv 2)) (d_op op_addA addD_ok (d_op op_fdivW divD_ok (d_var (pv 2)) d_int) d_int)) l_nil)) d_int)) (s_one (s_ret (d_op op_mod modD_ok (d_callTy call_int1 intCD_ok (u_int T) (by decide +kernel) (l_cons (d_op op_fdivW divD_ok (d_var (pv 2)) d_int) l_nil)) (d_var (pv 1))))))))))))
theorem sc__law_some : FnScope ["_law_hand_here", "_law_things"] ["_law_hand_here", "_law_things"] (defScope s__law_some) := ⟨rfl, rfl, rfl, by decide +kernel, rfl, by decide +kernel, by decide +kernel⟩
def f__law_some : List D → Hand → Option (D × Hand) := mDef 2 (sRet (mB ixD (mVar 1) (mCall f__law_draw (mCons (mVar 0) (mCons (mF lenD (mCons (mVar 1) mNil)) mNil)))))
theorem ok__law_some (T : Txt K mg) : DOk P w K mg base (HandB p c) "_law_some" 2 ["_law_hand_here", "_law_things"] f__law_some := by
  obtain ⟨fd, Fn⟩ := T.fns d__law_some (List.Mem.tail _ (List.Mem.tail _ (List.Mem.tail _ (List.Mem.tail _ (List.Mem.tail _ (List.Mem.tail _ (List.Mem.tail _ (List.Mem.tail _ (List.Mem.tail _ (List.Mem.tail _ (List.Mem.tail _ (List.Mem.tail _ (List.Mem.tail _ (List.Mem.tail _ (List.Mem.tail _ (List.Mem.tail _ (List.Mem.tail _ (List.Mem.tail _ (List.Mem.tail _ (List.Mem.tail _ (List.Mem.tail _ (List.Mem.head _))))))))))))))))))))))
  exact d_defD Fn (T.glo _ (List.Mem.tail _ (List.Mem.tail _ (List.Mem.tail _ (List.Mem.tail _ (List.Mem.tail _ (List.Mem.tail _ (List.Mem.tail _ (List.Mem.tail _ (List.Mem.tail _ (List.Mem.tail _ (List.Mem.tail _ (List.Mem.tail _ (List.Mem.tail _ (List.Mem.tail _ (List.Mem.tail _ (List.Mem.tail _ (List.Mem.tail _ (List.Mem.tail _ (List.Mem.tail _ (List.Mem.tail _ (List.Mem.tail _ (List.Mem.head _))))))))))))))))))))))) sc__law_some (fun _ _ _ _ _ _ us hl => match us, hl with | [_, _], _ => rfl) (fun cdv A outer s H E hr => (s_one (s_ret (d_ix ix_seq ixD_ok (d_var (pv 1)) (d_callO (ok__law_draw T) hr (l_cons (d_var (pv 0)) (l_cons (d_callB call_len lenD_ok (u_len T) (by decide +kernel) (l_cons (d_var (pv 1)) l_nil)) l_nil)))))))
theorem sc__law_is : FnScope ["_law_told", "_law_due", "_law_k", "_law_key"] ["_law_told", "_law_due"] (defScope s__law_is) := ⟨rfl, rfl, rfl, by decide +kernel, rfl, by decide +kernel, by decide +kernel⟩
def c__law_is_0 (r : List D → Hand → Option (D × Hand)) : ME (Hand) := (mCall r (mCons (mB ixD (mVar 0) (mVar 2)) (mCons (mB ixD (mVar 1) (mVar 2)) mNil)))
theorem c__law_is_0_eq (r : List D → Hand → Option (D × Hand)) (env : DE) (s : Hand) : c__law_is_0 r env s = (mCall r (mCons (mB ixD (mVar 0) (mVar 2)) (mCons (mB ixD (mVar 1) (mVar 2)) mNil))) env s := rfl
def g__law_is (r : List D → Hand → Option (D × Hand)) : List D → Hand → Option (D × Hand) := mDef 4 (sSeq (sIf (mIsT (mU (isiTD [.tTuple, .tList]) (mVar 1))) (sSeq (sIf (mOrT (mIsT (mB (relD neP) (mU (isiD .tTuple) (mVar 0)) (mU (isiD .tTuple) (mVar 1)))) (mIsT (mB (relD neP) (mU (isiD .tList) (mVar 0)) (mU (isiD .tList) (mVar 1))))) (sRet (mC (.bl false))) sNil) (sRet (mAnd (mB (relD eqP) (mF lenD (mCons (mVar 0) mNil)) (mF lenD (mCons (mVar 1) mNil))) (mF allD (mCons (mComp (mRng rng1D (mCons (mF lenD (mCons (mVar 1) mNil)) mNil)) (gdName 2) mYes (c__law_is_0 r) [2]) mNil))))) sNil) (sSeq (sIf (mIsT (mU (isiD .tDict) (mVar 1))) sNone sNil) (sRet (mAnd (mB (relD eqP) (mU (isiD .tBool) (mVar 0)) (mU (isiD .tBool) (mVar 1))) (mB (relD eqP) (mVar 0) (mVar 1))))))
def f__law_is : Nat → List D → Hand → Option (D × Hand)
  | 0 => mDef 4 sNone
  | n + 1 => g__law_is (f__law_is n)
theorem ok__law_is (T : Txt K mg) : ∀ n : Nat, DOk P w K mg base (HandB p c) "_law_is" (n + 1) ["_law_told", "_law_due"] (f__law_is n)
  | 0 => by
    obtain ⟨fd, Fn⟩ := T.fns d__law_is (List.Mem.tail _ (List.Mem.tail _ (List.Mem.tail _ (List.Mem.tail _ (List.Mem.tail _ (List.Mem.tail _ (List.Mem.tail _ (List.Mem.tail _ (List.Mem.tail _ (List.Mem.tail _ (List.Mem.tail _ (List.Mem.tail _ (List.Mem.tail _ (List.Mem.tail _ (List.Mem.tail _ (List.Mem.tail _ (List.Mem.tail _ (List.Mem.tail _ (List.Mem.tail _ (List.Mem.tail _ (List.Mem.tail _ (List.Mem.tail _ (List.Mem.head _)))))))))))))))))))))))
    exact DOk.mono (j := 1) (d_defD (k := 0) Fn (T.glo _ (List.Mem.tail _ (List.Mem.tail _ (List.Mem.tail _ (List.Mem.tail _ (List.Mem.tail _ (List.Mem.tail _ (List.Mem.tail _ (List.Mem.tail _ (List.Mem.tail _ (List.Mem.tail _ (List.Mem.tail _ (List.Mem.tail _ (List.Mem.tail _ (List.Mem.tail _ (List.Mem.tail _ (List.Mem.tail _ (List.Mem.tail _ (List.Mem.tail _ (List.Mem.tail _ (List.Mem.tail _ (List.Mem.tail _ (List.Mem.tail _ (List.Mem.head _)))))))))))))))))))))))) sc__law_is (fun _ _ _ _ _ _ us hl => match us, hl with | [_, _], _ => rfl) (fun cdv A outer s H E hr => ss_none)) (by omega)
  | m + 1 => by
    have ih := ok__law_is T m
    obtain ⟨fd, Fn⟩ := T.fns d__law_is (List.Mem.tail _ (List.Mem.tail _ (List.Mem.tail _ (List.Mem.tail _ (List.Mem.tail _ (List.Mem.tail _ (List.Mem.tail _ (List.Mem.tail _ (List.Mem.tail _ (List.Mem.tail _ (List.Mem.tail _ (List.Mem.tail _ (List.Mem.tail _ (List.Mem.tail _ (List.Mem.tail _ (List.Mem.tail _ (List.Mem.tail _ (List.Mem.tail _ (List.Mem.tail _ (List.Mem.tail _ (List.Mem.tail _ (List.Mem.tail _ (List.Mem.head _)))))))))))))))))))))))
    exact DOk.mono (j := m + 1 + 1) (d_defD (k := m + 1) Fn (T.glo _ (List.Mem.tail _ (List.Mem.tail _ (List.Mem.tail _ (List.Mem.tail _ (List.Mem.tail _ (List.Mem.tail _ (List.Mem.tail _ (List.Mem.tail _ (List.Mem.tail _ (List.Mem.tail _ (List.Mem.tail _ (List.Mem.tail _ (List.Mem.tail _ (List.Mem.tail _ (List.Mem.tail _ (List.Mem.tail _ (List.Mem.tail _ (List.Mem.tail _ (List.Mem.tail _ (List.Mem.tail _ (List.Mem.tail _ (List.Mem.tail _ (List.Mem.head _)))))))))))))))))))))))) sc__law_is (fun _ _ _ _ _ _ us hl => match us, hl with | [_, _], _ => rfl) (fun cdv A outer s H E hr => (s_cons (s_if (dt_val (d_isiT (u_isinstance T) (d_var (pv 1)) (tys_cons (pe_ty .tTuple (u_tuple T) (by decide +kernel)) (tys_cons (pe_ty .tList (u_list T) (by decide +kernel)) tys_nil)))) (s_cons (s_if (dt_w (dw_or (dt_cmp (op_neP hr.units) (relD_ok _) (d_isi (u_isinstance T) (d_var (pv 0)) (pe_ty .tTuple (u_tuple T) (by decide +kernel))) (d_isi (u_isinstance T) (d_var (pv 1)) (pe_ty .tTuple (u_tuple T) (by decide +kernel)))) (dw_or1 (dt_cmp (op_neP hr.units) (relD_ok _) (d_isi (u_isinstance T) (d_var (pv 0)) (pe_ty .tList (u_list T) (by decide +kernel))) (d_isi (u_isinstance T) (d_var (pv 1)) (pe_ty .tList (u_list T) (by decide +kernel))))))) (s_one (s_ret d_bl)) s_nil) (s_one (s_ret (d_and (d_cmp (op_eqP hr.units) (relD_ok _) (d_callB call_len lenD_ok (u_len T) (by decide +kernel) (l_cons (d_var (pv 0)) l_nil)) (d_callB call_len lenD_ok (u_len T) (by decide +kernel) (l_cons (d_var (pv 1)) l_nil))) (d_one (d_callB (cr_all rfl) allD_ok (u_all T) (by decide +kernel) (l_cons (d_lc rfl sc__law_is.nd (i_rng1 (u_range T) (l_cons (d_callB call_len lenD_ok (u_len T) (by decide +kernel) (l_cons (d_var (pv 1)) l_nil)) l_nil)) (blkOk_by (own := [("_law_k", 2)]) (by kernel_rfl)) (fun _ _ _ _ _ => (pg_name (i := 2) sc__law_is.nd rfl (by first | exact Or.inl rfl | exact Or.inr rfl))) (g_name 2) (fun _ _ _ _ _ => dts_nil) (fun _ _ _ _ _ => (d_callO ih hr (l_cons (d_ix ix_seq ixD_ok (d_var (pv 0)) (d_var (pv 2))) (l_cons (d_ix ix_seq ixD_ok (d_var (pv 1)) (d_var (pv 2))) l_nil)) (hj := by omega)))) l_nil))))))) s_nil) (s_cons (s_if (dt_val (d_isi (u_isinstance T) (d_var (pv 1)) (pe_ty .tDict (u_dict T) (by decide +kernel)))) (s_one s_none) s_nil) (s_one (s_ret (d_and (d_cmp (op_eqP hr.units) (relD_ok _) (d_isi (u_isinstance T) (d_var (pv 0)) (pe_ty .tBool (u_bool T) (by decide +kernel))) (d_isi (u_isinstance T) (d_var (pv 1)) (pe_ty .tBool (u_bool T) (by decide +kernel)))) (d_one (d_cmp (op_eqP hr.units) (relD_ok _) (d_var (pv 0)) (d_var (pv 1))))))))))) (by omega)
theorem sc__law_version : FnScope ["_law_hand_here", "_law_kind", "_law_most", "_law_k"] ["_law_hand_here"] (defScope s__law_version) := ⟨rfl, rfl, rfl, by decide +kernel, rfl, by decide +kernel, by decide +kernel⟩
def c__law_version_0 : ME (Hand) := (mCall f__law_some (mCons (mVar 0) (mCons (mF lstD (mCons (mC (.int 0)) (mCons (mC (.int 1)) (mCons (mC (.int 9)) (mCons (mC (.int 10)) (mCons (mC (.int 99)) (mCons (mC (.int 999999)) (mCons (mCall f__law_draw (mCons (mVar 0) (mCons (mC (.int 999999)) mNil))) mNil)))))))) mNil)))
theorem c__law_version_0_eq (env : DE) (s : Hand) : c__law_version_0 env s = (mCall f__law_some (mCons (mVar 0) (mCons (mF lstD (mCons (mC (.int 0)) (mCons (mC (.int 1)) (mCons (mC (.int 9)) (mCons (mC (.int 10)) (mCons (mC (.int 99)) (mCons (mC (.int 999999)) (mCons (mCall f__law_draw (mCons (mVar 0) (mCons (mC (.int 999999)) mNil))) mNil)))))))) mNil))) env s := rfl
def f__law_version : List D → Hand → Option (D × Hand) := mDef 4 (sSeq (sAsg (gdName 1) (mCall f__law_draw (mCons (mVar 0) (mCons (mC (.int 16)) mNil)))) (sSeq (sIf (mIsT (mB (relD eqP) (mVar 1) (mC (.int 0)))) (sRet (mF tupleCD (mCons (mComp (mRng rng1D (mCons (mC (.int 3)) mNil)) (gdName 3) mYes c__law_version_0 [3]) mNil))) sNil) (sSeq (sAsg (gdName 2) (mCall f__law_some (mCons (mVar 0) (mCons (mF lstD (mCons (mC (.int 2)) (mCons (mC (.int 3)) (mCons (mC (.int 3)) (mCons (mC (.int 4)) mNil))))) mNil)))) (sRet (mF tupD (mCons (mCall f__law_draw (mCons (mVar 0) (mCons (mVar 2) mNil))) (mCons (mCall f__law_draw (mCons (mVar 0) (mCons (mVar 2) mNil))) (mCons (mCall f__law_draw (mCons (mVar 0) (mCons (mVar 2) mNil))) mNil))))))))
theorem ok__law_version (T : Txt K mg) : DOk P w K mg base (HandB p c) "_law_version" 3 ["_law_hand_here"] f__law_version := by
  obtain ⟨fd, Fn⟩ := T.fns d__law_version (List.Mem.tail _ (List.Mem.tail _ (List.Mem.tail _ (List.Mem.tail _ (List.Mem.tail _ (List.Mem.tail _ (List.Mem.tail _ (List.Mem.tail _ (List.Mem.tail _ (List.Mem.tail _ (List.Mem.tail _ (List.Mem.tail _ (List.Mem.tail _ (List.Mem.tail _ (List.Mem.tail _ (List.Mem.tail _ (List.Mem.tail _ (List.Mem.tail _ (List.Mem.tail _ (List.Mem.tail _ (List.Mem.tail _ (List.Mem.tail _ (List.Mem.tail _ (List.Mem.head _))))))))))))))))))))))))
  exact d_defD Fn (T.glo _ (List.Mem.tail _ (List.Mem.tail _ (List.Mem.tail _ (List.Mem.tail _ (List.Mem.tail _ (List.Mem.tail _ (List.Mem.tail _ (List.Mem.tail _ (List.Mem.tail _ (List.Mem.tail _ (List.Mem.tail _ (List.Mem.tail _ (List.Mem.tail _ (List.Mem.tail _ (List.Mem.tail _ (List.Mem.tail _ (List.Mem.tail _ (List.Mem.tail _ (List.Mem.tail _ (List.Mem.tail _ (List.Mem.tail _ (List.Mem.tail _ (List.Mem.tail _ (List.Mem.head _))))))))))))))))))))))))) sc__law_version (fun _ _ _ _ _ _ us hl => match us, hl with | [_], _ => rfl) (fun cdv A outer s H E hr => (s_cons (s_set (i := 1) sc__law_version.nd (d_callO (ok__law_draw T) hr (l_cons (d_var (pv 0)) (l_cons d_int l_nil)))) (s_cons (s_if (dt_cmp (op_eqP hr.units) (relD_ok _) (d_var (pv 1)) d_int) (s_one (s_ret (d_callTy call_tuple_of tupleCD_ok (u_tuple T) (by decide +kernel) (l_cons (d_lc rfl sc__law_version.nd (i_rng1 (u_range T) (l_cons d_int l_nil)) (blkOk_by (own := [("_law_k", 3)]) (by kernel_rfl)) (fun _ _ _ _ _ => (pg_name (i := 3) sc__law_version.nd rfl (by first | exact Or.inl rfl | exact Or.inr rfl))) (g_name 3) (fun _ _ _ _ _ => dts_nil) (fun _ _ _ _ _ => (d_callO (ok__law_some T) hr (l_cons (d_var (pv 0)) (l_cons (d_lst (l_cons d_int (l_cons d_int (l_cons d_int (l_cons d_int (l_cons d_int (l_cons d_int (l_cons (d_callO (ok__law_draw T) hr (l_cons (d_var (pv 0)) (l_cons d_int l_nil))) l_nil)))))))) l_nil))))) l_nil)))) s_nil) (s_cons (s_set (i := 2) sc__law_version.nd (d_callO (ok__law_some T) hr (l_cons (d_var (pv 0)) (l_cons (d_lst (l_cons d_int (l_cons d_int (l_cons d_int (l_cons d_int l_nil))))) l_nil)))) (s_one (s_ret (d_tup (l_cons (d_callO (ok__law_draw T) hr (l_cons (d_var (pv 0)) (l_cons (d_var (pv 2)) l_nil))) (l_cons (d_callO (ok__law_draw T) hr (l_cons (d_var (pv 0)) (l_cons (d_var (pv 2)) l_nil))) (l_cons (d_callO (ok__law_draw T) hr (l_cons (d_var (pv 0)) (l_cons (d_var (pv 2)) l_nil))) l_nil))))))))))
theorem sc__law_behind : FnScope ["_law_version_here"] ["_law_version_here"] (defScope s__law_behind) := ⟨rfl, rfl, rfl, by decide +kernel, rfl, by decide +kernel, by decide +kernel⟩
def f__law_behind : List D → Hand → Option (D × Hand) := mDef 1 (sRet (mF tupD (mCons (mB ixD (mVar 0) (mC (.int 0))) (mCons (mB ixD (mVar 0) (mC (.int 1))) (mCons (mB addD (mB ixD (mVar 0) (mC (.int 2))) (mC (.int 1))) mNil)))))
theorem ok__law_behind (T : Txt K mg) : DOk P w K mg base (HandB p c) "_law_behind" 1 ["_law_version_here"] f__law_behind := by
  obtain ⟨fd, Fn⟩ := T.fns d__law_behind (List.Mem.tail _ (List.Mem.tail _ (List.Mem.tail _ (List.Mem.tail _ (List.Mem.tail _ (List.Mem.tail _ (List.Mem.tail _ (List.Mem.tail _ (List.Mem.tail _ (List.Mem.tail _ (List.Mem.tail _ (List.Mem.tail _ (List.Mem.tail _ (List.Mem.tail _ (List.Mem.tail _ (List.Mem.tail _ (List.Mem.tail _ (List.Mem.tail _ (List.Mem.tail _ (List.Mem.tail _ (List.Mem.tail _ (List.Mem.tail _ (List.Mem.tail _ (List.Mem.tail _ (List.Mem.head _)))))))))))))))))))))))))
  exact d_defD Fn (T.glo _ (List.Mem.tail _ (List.Mem.tail _ (List.Mem.tail _ (List.Mem.tail _ (List.Mem.tail _ (List.Mem.tail _ (List.Mem.tail _ (List.Mem.tail _ (List.Mem.tail _ (List.Mem.tail _ (List.Mem.tail _ (List.Mem.tail _ (List.Mem.tail _ (List.Mem.tail _ (List.Mem.tail _ (List.Mem.tail _ (List.Mem.tail _ (List.Mem.tail _ (List.Mem.tail _ (List.Mem.tail _ (List.Mem.tail _ (List.Mem.tail _ (List.Mem.tail _ (List.Mem.tail _ (List.Mem.head _)))))))))))))))))))))))))) sc__law_behind (fun _ _ _ _ _ _ us hl => match us, hl with | [_], _ => rfl) (fun cdv A outer s H E hr => (s_one (s_ret (d_tup (l_cons (d_ix ix_seq ixD_ok (d_var (pv 0)) d_int) (l_cons (d_ix ix_seq ixD_ok (d_var (pv 0)) d_int) (l_cons (d_op op_addA addD_ok (d_ix ix_seq ixD_ok (d_var (pv 0)) d_int) d_int) l_nil)))))))
theorem sc__law_has : FnScope ["_law_rng", "_law_version_here", "_law_low", "_law_high"] ["_law_rng", "_law_version_here"] (defScope s__law_has) := ⟨rfl, rfl, rfl, by decide +kernel, rfl, by decide +kernel, by decide +kernel⟩
def b__law_has_0 : MS (Hand) := (sIf (mAndT (mIsT (mB (relD leP) (mVar 2) (mVar 1))) (mOrT (mIsT (mB isND (mVar 3) (mC .non))) (mIsT (mB (relD ltP) (mVar 1) (mVar 3))))) (sRet (mC (.bl true))) sNil)
theorem b__law_has_0_eq (env : DE) (s : Hand) : b__law_has_0 env s = (sIf (mAndT (mIsT (mB (relD leP) (mVar 2) (mVar 1))) (mOrT (mIsT (mB isND (mVar 3) (mC .non))) (mIsT (mB (relD ltP) (mVar 1) (mVar 3))))) (sRet (mC (.bl true))) sNil) env s := rfl
def f__law_has : List D → Hand → Option (D × Hand) := mDef 4 (sSeq (sFor (mIt tupItems (mVar 0)) (gdTup 2 (gdCons (gdName 2) (gdCons (gdName 3) gdNil))) b__law_has_0) (sRet (mC (.bl false))))
theorem ok__law_has (T : Txt K mg) : DOk P w K mg base (HandB p c) "_law_has" 1 ["_law_rng", "_law_version_here"] f__law_has := by
  obtain ⟨fd, Fn⟩ := T.fns d__law_has (List.Mem.tail _ (List.Mem.tail _ (List.Mem.tail _ (List.Mem.tail _ (List.Mem.tail _ (List.Mem.tail _ (List.Mem.tail _ (List.Mem.tail _ (List.Mem.tail _ (List.Mem.tail _ (List.Mem.tail _ (List.Mem.tail _ (List.Mem.tail _ (List.Mem.tail _ (List.Mem.tail _ (List.Mem.tail _ (List.Mem.tail _ (List.Mem.tail _ (List.Mem.tail _ (List.Mem.tail _ (List.Mem.tail _ (List.Mem.tail _ (List.Mem.tail _ (List.Mem.tail _ (List.Mem.tail _ (List.Mem.head _))))))))))))))))))))))))))
  exact d_defD Fn (T.glo _ (List.Mem.tail _ (List.Mem.tail _ (List.Mem.tail _ (List.Mem.tail _ (List.Mem.tail _ (List.Mem.tail _ (List.Mem.tail _ (List.Mem.tail _ (List.Mem.tail _ (List.Mem.tail _ (List.Mem.tail _ (List.Mem.tail _ (List.Mem.tail _ (List.Mem.tail _ (List.Mem.tail _ (List.Mem.tail _ (List.Mem.tail _ (List.Mem.tail _ (List.Mem.tail _ (List.Mem.tail _ (List.Mem.tail _ (List.Mem.tail _ (List.Mem.tail _ (List.Mem.tail _ (List.Mem.tail _ (List.Mem.head _))))))))))))))))))))))))))) sc__law_has (fun _ _ _ _ _ _ us hl => match us, hl with | [_, _], _ => rfl) (fun cdv A outer s H E hr => (s_cons (s_for PassesOwn.never rfl (i_tup (d_var (pv 0))) (pg_tup (n := 2) rfl (pgs_cons (pg_name (i := 2) sc__law_has.nd rfl (by first | exact Or.inl rfl | exact Or.inr rfl)) (pgs_cons (pg_name (i := 3) sc__law_has.nd rfl (by first | exact Or.inl rfl | exact Or.inr rfl)) pgs_nil))) (g_tup (g_cons (g_name 2) (g_cons (g_name 3) g_nil))) (s_one (s_if (dt_w (dw_and (dt_cmp (op_leP hr.units) (relD_ok _) (d_var (pv 2)) (d_var (pv 1))) (dw_and1 (dt_w (dw_or (dt_cmp op_isN isND_ok (d_var (pv 3)) d_non) (dw_or1 (dt_cmp (op_ltP hr.units) (relD_ok _) (d_var (pv 1)) (d_var (pv 3))))))))) (s_one (s_ret d_bl)) s_nil))) (s_one (s_ret d_bl))))
theorem sc__law_marks : FnScope ["_law_ranges", "_law_found", "_law_rng", "_law_low", "_law_high"] ["_law_ranges"] (defScope s__law_marks) := ⟨rfl, rfl, rfl, by decide +kernel, rfl, by decide +kernel, by decide +kernel⟩
def b__law_marks_1 : MS (Hand) := (sExt 1 (mIf (mIsT (mB isND (mVar 4) (mC .non))) (mF lstD (mCons (mVar 3) mNil)) (mF lstD (mCons (mVar 3) (mCons (mVar 4) mNil)))))
theorem b__law_marks_1_eq (env : DE) (s : Hand) : b__law_marks_1 env s = (sExt 1 (mIf (mIsT (mB isND (mVar 4) (mC .non))) (mF lstD (mCons (mVar 3) mNil)) (mF lstD (mCons (mVar 3) (mCons (mVar 4) mNil))))) env s := rfl
def b__law_marks_0 : MS (Hand) := (sFor (mIt tupItems (mVar 2)) (gdTup 2 (gdCons (gdName 3) (gdCons (gdName 4) gdNil))) b__law_marks_1)
theorem b__law_marks_0_eq (env : DE) (s : Hand) : b__law_marks_0 env s = (sFor (mIt tupItems (mVar 2)) (gdTup 2 (gdCons (gdName 3) (gdCons (gdName 4) gdNil))) b__law_marks_1) env s := rfl
def f__law_marks : List D → Hand → Option (D × Hand) := mDef 5 (sSeq (sOwn 1 (mCons (mF tupD (mCons (mC (.int 0)) (mCons (mC (.int 0)) (mCons (mC (.int 0)) mNil)))) mNil)) (sSeq (sFor (mIt lstItems (mVar 0)) (gdName 2) b__law_marks_0) (sFrz 1 (sRet (mF ssetD (mCons (mVar 1) mNil))))))
theorem ok__law_marks (T : Txt K mg) : DOk P w K mg base (HandB p c) "_law_marks" 1 ["_law_ranges"] f__law_marks := by
  obtain ⟨fd, Fn⟩ := T.fns d__law_marks (List.Mem.tail _ (List.Mem.tail _ (List.Mem.tail _ (List.Mem.tail _ (List.Mem.tail _ (List.Mem.tail _ (List.Mem.tail _ (List.Mem.tail _ (List.Mem.tail _ (List.Mem.tail _ (List.Mem.tail _ (List.Mem.tail _ (List.Mem.tail _ (List.Mem.tail _ (List.Mem.tail _ (List.Mem.tail _ (List.Mem.tail _ (List.Mem.tail _ (List.Mem.tail _ (List.Mem.tail _ (List.Mem.tail _ (List.Mem.tail _ (List.Mem.tail _ (List.Mem.tail _ (List.Mem.tail _ (List.Mem.tail _ (List.Mem.head _)))))))))))))))))))))))))))
  exact d_defD Fn (T.glo _ (List.Mem.tail _ (List.Mem.tail _ (List.Mem.tail _ (List.Mem.tail _ (List.Mem.tail _ (List.Mem.tail _ (List.Mem.tail _ (List.Mem.tail _ (List.Mem.tail _ (List.Mem.tail _ (List.Mem.tail _ (List.Mem.tail _ (List.Mem.tail _ (List.Mem.tail _ (List.Mem.tail _ (List.Mem.tail _ (List.Mem.tail _ (List.Mem.tail _ (List.Mem.tail _ (List.Mem.tail _ (List.Mem.tail _ (List.Mem.tail _ (List.Mem.tail _ (List.Mem.tail _ (List.Mem.tail _ (List.Mem.tail _ (List.Mem.head _)))))))))))))))))))))))))))) sc__law_marks (fun _ _ _ _ _ _ us hl => match us, hl with | [_], _ => rfl) (fun cdv A outer s H E hr => (s_cons (s_own (i := 1) sc__law_marks.nd (l_cons (d_tup (l_cons d_int (l_cons d_int (l_cons d_int l_nil)))) l_nil)) (s_cons (s_for PassesOwn.never rfl (i_lst (d_var (pv 0))) (pg_name (i := 2) sc__law_marks.nd rfl (by first | exact Or.inl rfl | exact Or.inr rfl)) (g_name 2) (s_one (s_for PassesOwn.never rfl (i_tup (d_var (pv 2))) (pg_tup (n := 2) rfl (pgs_cons (pg_name (i := 3) sc__law_marks.nd rfl (by first | exact Or.inl rfl | exact Or.inr rfl)) (pgs_cons (pg_name (i := 4) sc__law_marks.nd rfl (by first | exact Or.inl rfl | exact Or.inr rfl)) pgs_nil))) (g_tup (g_cons (g_name 3) (g_cons (g_name 4) g_nil))) (s_one (s_ext (pv 1) (d_if (dt_cmp op_isN isND_ok (d_var (pv 4)) d_non) (d_lst (l_cons (d_var (pv 3)) l_nil)) (d_lst (l_cons (d_var (pv 3)) (l_cons (d_var (pv 4)) l_nil))))))))) (s_frz 1 (s_one (s_ret (d_sset rfl hr.units (u_sorted T) (u_set T) (l_cons (d_var (pv 1)) l_nil))))))))
theorem sc__law_made : FnScope ["_law_marks_here", "_law_flags", "_law_found", "_law_at"] ["_law_marks_here", "_law_flags"] (defScope s__law_made) := ⟨rfl, rfl, rfl, by decide +kernel, rfl, by decide +kernel, by decide +kernel⟩
def b__law_made_0 : MS (Hand) := (sSeq (sIf (mAndT (mIsT (mB ixD (mVar 1) (mVar 3))) (mOrT (mIsT (mB (relD eqP) (mVar 3) (mC (.int 0)))) (mNotT (mIsT (mB ixD (mVar 1) (mB subD (mVar 3) (mC (.int 1)))))))) (sApp 2 (mF tupD (mCons (mB ixD (mVar 0) (mVar 3)) (mCons (mC .non) mNil)))) sNil) (sIf (mAndT (mIsT (mB (relD gtP) (mVar 3) (mC (.int 0)))) (mAndT (mIsT (mB ixD (mVar 1) (mB subD (mVar 3) (mC (.int 1))))) (mNotT (mIsT (mB ixD (mVar 1) (mVar 3)))))) (sPut 2 (mU negD (mC (.int 1))) (mF tupD (mCons (mB ixD (mIxO 2 (mU negD (mC (.int 1)))) (mC (.int 0))) (mCons (mB ixD (mVar 0) (mVar 3)) mNil)))) sNil))
theorem b__law_made_0_eq (env : DE) (s : Hand) : b__law_made_0 env s = (sSeq (sIf (mAndT (mIsT (mB ixD (mVar 1) (mVar 3))) (mOrT (mIsT (mB (relD eqP) (mVar 3) (mC (.int 0)))) (mNotT (mIsT (mB ixD (mVar 1) (mB subD (mVar 3) (mC (.int 1)))))))) (sApp 2 (mF tupD (mCons (mB ixD (mVar 0) (mVar 3)) (mCons (mC .non) mNil)))) sNil) (sIf (mAndT (mIsT (mB (relD gtP) (mVar 3) (mC (.int 0)))) (mAndT (mIsT (mB ixD (mVar 1) (mB subD (mVar 3) (mC (.int 1))))) (mNotT (mIsT (mB ixD (mVar 1) (mVar 3)))))) (sPut 2 (mU negD (mC (.int 1))) (mF tupD (mCons (mB ixD (mIxO 2 (mU negD (mC (.int 1)))) (mC (.int 0))) (mCons (mB ixD (mVar 0) (mVar 3)) mNil)))) sNil)) env s := rfl
def f__law_made : List D → Hand → Option (D × Hand) := mDef 4 (sSeq (sOwn 2 mNil) (sSeq (sFor (mRng rng1D (mCons (mF lenD (mCons (mVar 0) mNil)) mNil)) (gdName 3) b__law_made_0) (sRet (mTupO 2))))
theorem ok__law_made (T : Txt K mg) : DOk P w K mg base (HandB p c) "_law_made" 1 ["_law_marks_here", "_law_flags"] f__law_made := by
  obtain ⟨fd, Fn⟩ := T.fns d__law_made (List.Mem.tail _ (List.Mem.tail _ (List.Mem.tail _ (List.Mem.tail _ (List.Mem.tail _ (List.Mem.tail _ (List.Mem.tail _ (List.Mem.tail _ (List.Mem.tail _ (List.Mem.tail _ (List.Mem.tail _ (List.Mem.tail _ (List.Mem.tail _ (List.Mem.tail _ (List.Mem.tail _ (List.Mem.tail _ (List.Mem.tail _ (List.Mem.tail _ (List.Mem.tail _ (List.Mem.tail _ (List.Mem.tail _ (List.Mem.tail _ (List.Mem.tail _ (List.Mem.tail _ (List.Mem.tail _ (List.Mem.tail _ (List.Mem.tail _ (List.Mem.head _))))))))))))))))))))))))))))
  exact d_defD Fn (T.glo _ (List.Mem.tail _ (List.Mem.tail _ (List.Mem.tail _ (List.Mem.tail _ (List.Mem.tail _ (List.Mem.tail _ (List.Mem.tail _ (List.Mem.tail _ (List.Mem.tail _ (List.Mem.tail _ (List.Mem.tail _ (List.Mem.tail _ (List.Mem.tail _ (List.Mem.tail _ (List.Mem.tail _ (List.Mem.tail _ (List.Mem.tail _ (List.Mem.tail _ (List.Mem.tail _ (List.Mem.tail _ (List.Mem.tail _ (List.Mem.tail _ (List.Mem.tail _ (List.Mem.tail _ (List.Mem.tail _ (List.Mem.tail _ (List.Mem.tail _ (List.Mem.head _))))))))))))))))))))))))))))) sc__law_made (fun _ _ _ _ _ _ us hl => match us, hl with | [_, _], _ => rfl) (fun cdv A outer s H E hr => (s_cons (s_own (i := 2) sc__law_made.nd l_nil) (s_cons (s_for PassesOwn.never rfl (i_rng1 (u_range T) (l_cons (d_callB call_len lenD_ok (u_len T) (by decide +kernel) (l_cons (d_var (pv 0)) l_nil)) l_nil)) (pg_name (i := 3) sc__law_made.nd rfl (by first | exact Or.inl rfl | exact Or.inr rfl)) (g_name 3) (s_cons (s_if (dt_w (dw_and (dt_val (d_ix ix_seq ixD_ok (d_var (pv 1)) (d_var (pv 3)))) (dw_and1 (dt_w (dw_or (dt_cmp (op_eqP hr.units) (relD_ok _) (d_var (pv 3)) d_int) (dw_or1 (dt_not (dt_val (d_ix ix_seq ixD_ok (d_var (pv 1)) (d_op op_subA subD_ok (d_var (pv 3)) d_int)))))))))) (s_one (s_app (pv 2) (d_tup (l_cons (d_ix ix_seq ixD_ok (d_var (pv 0)) (d_var (pv 3))) (l_cons d_non l_nil))))) s_nil) (s_one (s_if (dt_w (dw_and (dt_cmp (op_gtP hr.units) (relD_ok _) (d_var (pv 3)) d_int) (dw_and (dt_val (d_ix ix_seq ixD_ok (d_var (pv 1)) (d_op op_subA subD_ok (d_var (pv 3)) d_int))) (dw_and1 (dt_not (dt_val (d_ix ix_seq ixD_ok (d_var (pv 1)) (d_var (pv 3))))))))) (s_one (s_put (pv 2) (d_un un_neg negD_ok d_int) (d_tup (l_cons (d_ix ix_seq ixD_ok (d_ixO (pv 2) (d_un un_neg negD_ok d_int)) d_int) (l_cons (d_ix ix_seq ixD_ok (d_var (pv 0)) (d_var (pv 3))) l_nil))) (fun ho hk => pg_sub ho hk set_list))) s_nil)))) (s_one (s_ret (d_tupO (u_tuple T) (pv 2)))))))
theorem sc__law_both : FnScope ["_law_one", "_law_other", "_law_marks_here", "_law_mark"] ["_law_one", "_law_other"] (defScope s__law_both) := ⟨rfl, rfl, rfl, by decide +kernel, rfl, by decide +kernel, by decide +kernel⟩
def c__law_both_0 : ME (Hand) := (mAnd (mCall f__law_has (mCons (mVar 0) (mCons (mVar 3) mNil))) (mCall f__law_has (mCons (mVar 1) (mCons (mVar 3) mNil))))
theorem c__law_both_0_eq (env : DE) (s : Hand) : c__law_both_0 env s = (mAnd (mCall f__law_has (mCons (mVar 0) (mCons (mVar 3) mNil))) (mCall f__law_has (mCons (mVar 1) (mCons (mVar 3) mNil)))) env s := rfl
def f__law_both : List D → Hand → Option (D × Hand) := mDef 4 (sSeq (sAsg (gdName 2) (mCall f__law_marks (mCons (mF lstD (mCons (mVar 0) (mCons (mVar 1) mNil))) mNil))) (sRet (mCall f__law_made (mCons (mVar 2) (mCons (mComp (mIt lstItems (mVar 2)) (gdName 3) mYes c__law_both_0 [3]) mNil)))))
theorem ok__law_both (T : Txt K mg) : DOk P w K mg base (HandB p c) "_law_both" 2 ["_law_one", "_law_other"] f__law_both := by
  obtain ⟨fd, Fn⟩ := T.fns d__law_both (List.Mem.tail _ (List.Mem.tail _ (List.Mem.tail _ (List.Mem.tail _ (List.Mem.tail _ (List.Mem.tail _ (List.Mem.tail _ (List.Mem.tail _ (List.Mem.tail _ (List.Mem.tail _ (List.Mem.tail _ (List.Mem.tail _ (List.Mem.tail _ (List.Mem.tail _ (List.Mem.tail _ (List.Mem.tail _ (List.Mem.tail _ (List.Mem.tail _ (List.Mem.tail _ (List.Mem.tail _ (List.Mem.tail _ (List.Mem.tail _ (List.Mem.tail _ (List.Mem.tail _ (List.Mem.tail _ (List.Mem.tail _ (List.Mem.tail _ (List.Mem.tail _ (List.Mem.head _)))))))))))))))))))))))))))))
  exact d_defD Fn (T.glo _ (List.Mem.tail _ (List.Mem.tail _ (List.Mem.tail _ (List.Mem.tail _ (List.Mem.tail _ (List.Mem.tail _ (List.Mem.tail _ (List.Mem.tail _ (List.Mem.tail _ (List.Mem.tail _ (List.Mem.tail _ (List.Mem.tail _ (List.Mem.tail _ (List.Mem.tail _ (List.Mem.tail _ (List.Mem.tail _ (List.Mem.tail _ (List.Mem.tail _ (List.Mem.tail _ (List.Mem.tail _ (List.Mem.tail _ (List.Mem.tail _ (List.Mem.tail _ (List.Mem.tail _ (List.Mem.tail _ (List.Mem.tail _ (List.Mem.tail _ (List.Mem.tail _ (List.Mem.head _)))))))))))))))))))))))))))))) sc__law_both (fun _ _ _ _ _ _ us hl => match us, hl with | [_, _], _ => rfl) (fun cdv A outer s H E hr => (s_cons (s_set (i := 2) sc__law_both.nd (d_callO (ok__law_marks T) hr (l_cons (d_lst (l_cons (d_var (pv 0)) (l_cons (d_var (pv 1)) l_nil))) l_nil))) (s_one (s_ret (d_callO (ok__law_made T) hr (l_cons (d_var (pv 2)) (l_cons (d_lc rfl sc__law_both.nd (i_lst (d_var (pv 2))) (blkOk_by (own := [("_law_mark", 3)]) (by kernel_rfl)) (fun _ _ _ _ _ => (pg_name (i := 3) sc__law_both.nd rfl (by first | exact Or.inl rfl | exact Or.inr rfl))) (g_name 3) (fun _ _ _ _ _ => dts_nil) (fun _ _ _ _ _ => (d_and (d_callO (ok__law_has T) hr (l_cons (d_var (pv 0)) (l_cons (d_var (pv 3)) l_nil))) (d_one (d_callO (ok__law_has T) hr (l_cons (d_var (pv 1)) (l_cons (d_var (pv 3)) l_nil))))))) l_nil)))))))
theorem sc__law_either : FnScope ["_law_one", "_law_other", "_law_marks_here", "_law_mark"] ["_law_one", "_law_other"] (defScope s__law_either) := ⟨rfl, rfl, rfl, by decide +kernel, rfl, by decide +kernel, by decide +kernel⟩
def c__law_either_0 : ME (Hand) := (mOr (mCall f__law_has (mCons (mVar 0) (mCons (mVar 3) mNil))) (mCall f__law_has (mCons (mVar 1) (mCons (mVar 3) mNil))))
theorem c__law_either_0_eq (env : DE) (s : Hand) : c__law_either_0 env s = (mOr (mCall f__law_has (mCons (mVar 0) (mCons (mVar 3) mNil))) (mCall f__law_has (mCons (mVar 1) (mCons (mVar 3) mNil)))) env s := rfl
def f__law_either : List D → Hand → Option (D × Hand) := mDef 4 (sSeq (sAsg (gdName 2) (mCall f__law_marks (mCons (mF lstD (mCons (mVar 0) (mCons (mVar 1) mNil))) mNil))) (sRet (mCall f__law_made (mCons (mVar 2) (mCons (mComp (mIt lstItems (mVar 2)) (gdName 3) mYes c__law_either_0 [3]) mNil)))))
theorem ok__law_either (T : Txt K mg) : DOk P w K mg base (HandB p c) "_law_either" 2 ["_law_one", "_law_other"] f__law_either := by
  obtain ⟨fd, Fn⟩ := T.fns d__law_either (List.Mem.tail _ (List.Mem.tail _ (List.Mem.tail _ (List.Mem.tail _ (List.Mem.tail _ (List.Mem.tail _ (List.Mem.tail _ (List.Mem.tail _ (List.Mem.tail _ (List.Mem.tail _ (List.Mem.tail _ (List.Mem.tail _ (List.Mem.tail _ (List.Mem.tail _ (List.Mem.tail _ (List.Mem.tail _ (List.Mem.tail _ (List.Mem.tail _ (List.Mem.tail _ (List.Mem.tail _ (List.Mem.tail _ (List.Mem.tail _ (List.Mem.tail _ (List.Mem.tail _ (List.Mem.tail _ (List.Mem.tail _ (List.Mem.tail _ (List.Mem.tail _ (List.Mem.tail _ (List.Mem.head _))))))))))))))))))))))))))))))
  exact d_defD Fn (T.glo _ (List.Mem.tail _ (List.Mem.tail _ (List.Mem.tail _ (List.Mem.tail _ (List.Mem.tail _ (List.Mem.tail _ (List.Mem.tail _ (List.Mem.tail _ (List.Mem.tail _ (List.Mem.tail _ (List.Mem.tail _ (List.Mem.tail _ (List.Mem.tail _ (List.Mem.tail _ (List.Mem.tail _ (List.Mem.tail _ (List.Mem.tail _ (List.Mem.tail _ (List.Mem.tail _ (List.Mem.tail _ (List.Mem.tail _ (List.Mem.tail _ (List.Mem.tail _ (List.Mem.tail _ (List.Mem.tail _ (List.Mem.tail _ (List.Mem.tail _ (List.Mem.tail _ (List.Mem.tail _ (List.Mem.head _))))))))))))))))))))))))))))))) sc__law_either (fun _ _ _ _ _ _ us hl => match us, hl with | [_, _], _ => rfl) (fun cdv A outer s H E hr => (s_cons (s_set (i := 2) sc__law_either.nd (d_callO (ok__law_marks T) hr (l_cons (d_lst (l_cons (d_var (pv 0)) (l_cons (d_var (pv 1)) l_nil))) l_nil))) (s_one (s_ret (d_callO (ok__law_made T) hr (l_cons (d_var (pv 2)) (l_cons (d_lc rfl sc__law_either.nd (i_lst (d_var (pv 2))) (blkOk_by (own := [("_law_mark", 3)]) (by kernel_rfl)) (fun _ _ _ _ _ => (pg_name (i := 3) sc__law_either.nd rfl (by first | exact Or.inl rfl | exact Or.inr rfl))) (g_name 3) (fun _ _ _ _ _ => dts_nil) (fun _ _ _ _ _ => (d_or (d_callO (ok__law_has T) hr (l_cons (d_var (pv 0)) (l_cons (d_var (pv 3)) l_nil))) (d_one (d_callO (ok__law_has T) hr (l_cons (d_var (pv 1)) (l_cons (d_var (pv 3)) l_nil))))))) l_nil)))))))
theorem sc__law_outside : FnScope ["_law_rng", "_law_marks_here", "_law_mark"] ["_law_rng"] (defScope s__law_outside) := ⟨rfl, rfl, rfl, by decide +kernel, rfl, by decide +kernel, by decide +kernel⟩
def c__law_outside_0 : ME (Hand) := (mNot (mCall f__law_has (mCons (mVar 0) (mCons (mVar 2) mNil))))
theorem c__law_outside_0_eq (env : DE) (s : Hand) : c__law_outside_0 env s = (mNot (mCall f__law_has (mCons (mVar 0) (mCons (mVar 2) mNil)))) env s := rfl
def f__law_outside : List D → Hand → Option (D × Hand) := mDef 3 (sSeq (sAsg (gdName 1) (mCall f__law_marks (mCons (mF lstD (mCons (mVar 0) mNil)) mNil))) (sRet (mCall f__law_made (mCons (mVar 1) (mCons (mComp (mIt lstItems (mVar 1)) (gdName 2) mYes c__law_outside_0 [2]) mNil)))))
theorem ok__law_outside (T : Txt K mg) : DOk P w K mg base (HandB p c) "_law_outside" 2 ["_law_rng"] f__law_outside := by
  obtain ⟨fd, Fn⟩ := T.fns d__law_outside (List.Mem.tail _ (List.Mem.tail _ (List.Mem.tail _ (List.Mem.tail _ (List.Mem.tail _ (List.Mem.tail _ (List.Mem.tail _ (List.Mem.tail _ (List.Mem.tail _ (List.Mem.tail _ (List.Mem.tail _ (List.Mem.tail _ (List.Mem.tail _ (List.Mem.tail _ (List.Mem.tail _ (List.Mem.tail _ (List.Mem.tail _ (List.Mem.tail _ (List.Mem.tail _ (List.Mem.tail _ (List.Mem.tail _ (List.Mem.tail _ (List.Mem.tail _ (List.Mem.tail _ (List.Mem.tail _ (List.Mem.tail _ (List.Mem.tail _ (List.Mem.tail _ (List.Mem.tail _ (List.Mem.tail _ (List.Mem.head _)))))))))))))))))))))))))))))))
  exact d_defD Fn (T.glo _ (List.Mem.tail _ (List.Mem.tail _ (List.Mem.tail _ (List.Mem.tail _ (List.Mem.tail _ (List.Mem.tail _ (List.Mem.tail _ (List.Mem.tail _ (List.Mem.tail _ (List.Mem.tail _ (List.Mem.tail _ (List.Mem.tail _ (List.Mem.tail _ (List.Mem.tail _ (List.Mem.tail _ (List.Mem.tail _ (List.Mem.tail _ (List.Mem.tail _ (List.Mem.tail _ (List.Mem.tail _ (List.Mem.tail _ (List.Mem.tail _ (List.Mem.tail _ (List.Mem.tail _ (List.Mem.tail _ (List.Mem.tail _ (List.Mem.tail _ (List.Mem.tail _ (List.Mem.tail _ (List.Mem.tail _ (List.Mem.head _)))))))))))))))))))))))))))))))) sc__law_outside (fun _ _ _ _ _ _ us hl => match us, hl with | [_], _ => rfl) (fun cdv A outer s H E hr => (s_cons (s_set (i := 1) sc__law_outside.nd (d_callO (ok__law_marks T) hr (l_cons (d_lst (l_cons (d_var (pv 0)) l_nil)) l_nil))) (s_one (s_ret (d_callO (ok__law_made T) hr (l_cons (d_var (pv 1)) (l_cons (d_lc rfl sc__law_outside.nd (i_lst (d_var (pv 1))) (blkOk_by (own := [("_law_mark", 2)]) (by kernel_rfl)) (fun _ _ _ _ _ => (pg_name (i := 2) sc__law_outside.nd rfl (by first | exact Or.inl rfl | exact Or.inr rfl))) (g_name 2) (fun _ _ _ _ _ => dts_nil) (fun _ _ _ _ _ => (d_not (d_callO (ok__law_has T) hr (l_cons (d_var (pv 0)) (l_cons (d_var (pv 2)) l_nil)))))) l_nil)))))))
theorem sc__law_range : FnScope ["_law_hand_here", "_law_marks_here", "_law_mark", "_law_k"] ["_law_hand_here"] (defScope s__law_range) := ⟨rfl, rfl, rfl, by decide +kernel, rfl, by decide +kernel, by decide +kernel⟩
def c__law_range_0 : ME (Hand) := (mCall f__law_version (mCons (mVar 0) mNil))
theorem c__law_range_0_eq (env : DE) (s : Hand) : c__law_range_0 env s = (mCall f__law_version (mCons (mVar 0) mNil)) env s := rfl
def c__law_range_1 : ME (Hand) := (mB (relD eqP) (mCall f__law_draw (mCons (mVar 0) (mCons (mC (.int 2)) mNil))) (mC (.int 0)))
theorem c__law_range_1_eq (env : DE) (s : Hand) : c__law_range_1 env s = (mB (relD eqP) (mCall f__law_draw (mCons (mVar 0) (mCons (mC (.int 2)) mNil))) (mC (.int 0))) env s := rfl
def f__law_range : List D → Hand → Option (D × Hand) := mDef 4 (sSeq (sAsg (gdName 1) (mF ssetD (mCons (mB addD (mComp (mRng rng1D (mCons (mB addD (mC (.int 1)) (mCall f__law_draw (mCons (mVar 0) (mCons (mC (.int 5)) mNil)))) mNil)) (gdName 3) mYes c__law_range_0 [3]) (mF lstD (mCons (mF tupD (mCons (mC (.int 0)) (mCons (mC (.int 0)) (mCons (mC (.int 0)) mNil)))) mNil))) mNil))) (sRet (mCall f__law_made (mCons (mVar 1) (mCons (mComp (mIt lstItems (mVar 1)) (gdName 2) mYes c__law_range_1 [2]) mNil)))))
theorem ok__law_range (T : Txt K mg) : DOk P w K mg base (HandB p c) "_law_range" 4 ["_law_hand_here"] f__law_range := by
  obtain ⟨fd, Fn⟩ := T.fns d__law_range (List.Mem.tail _ (List.Mem.tail _ (List.Mem.tail _ (List.Mem.tail _ (List.Mem.tail _ (List.Mem.tail _ (List.Mem.tail _ (List.Mem.tail _ (List.Mem.tail _ (List.Mem.tail _ (List.Mem.tail _ (List.Mem.tail _ (List.Mem.tail _ (List.Mem.tail _ (List.Mem.tail _ (List.Mem.tail _ (List.Mem.tail _ (List.Mem.tail _ (List.Mem.tail _ (List.Mem.tail _ (List.Mem.tail _ (List.Mem.tail _ (List.Mem.tail _ (List.Mem.tail _ (List.Mem.tail _ (List.Mem.tail _ (List.Mem.tail _ (List.Mem.tail _ (List.Mem.tail _ (List.Mem.tail _ (List.Mem.tail _ (List.Mem.head _))))))))))))))))))))))))))))))))
  exact d_defD Fn (T.glo _ (List.Mem.tail _ (List.Mem.tail _ (List.Mem.tail _ (List.Mem.tail _ (List.Mem.tail _ (List.Mem.tail _ (List.Mem.tail _ (List.Mem.tail _ (List.Mem.tail _ (List.Mem.tail _ (List.Mem.tail _ (List.Mem.tail _ (List.Mem.tail _ (List.Mem.tail _ (List.Mem.tail _ (List.Mem.tail _ (List.Mem.tail _ (List.Mem.tail _ (List.Mem.tail _ (List.Mem.tail _ (List.Mem.tail _ (List.Mem.tail _ (List.Mem.tail _ (List.Mem.tail _ (List.Mem.tail _ (List.Mem.tail _ (List.Mem.tail _ (List.Mem.tail _ (List.Mem.tail _ (List.Mem.tail _ (List.Mem.tail _ (List.Mem.head _))))))))))))))))))))))))))))))))) sc__law_range (fun _ _ _ _ _ _ us hl => match us, hl with | [_], _ => rfl) (fun cdv A outer s H E hr => (s_cons (s_set (i := 1) sc__law_range.nd (d_sset rfl hr.units (u_sorted T) (u_set T) (l_cons (d_op op_addA addD_ok (d_lc rfl sc__law_range.nd (i_rng1 (u_range T) (l_cons (d_op op_addA addD_ok d_int (d_callO (ok__law_draw T) hr (l_cons (d_var (pv 0)) (l_cons d_int l_nil)))) l_nil)) (blkOk_by (own := [("_law_k", 3)]) (by kernel_rfl)) (fun _ _ _ _ _ => (pg_name (i := 3) sc__law_range.nd rfl (by first | exact Or.inl rfl | exact Or.inr rfl))) (g_name 3) (fun _ _ _ _ _ => dts_nil) (fun _ _ _ _ _ => (d_callO (ok__law_version T) hr (l_cons (d_var (pv 0)) l_nil)))) (d_lst (l_cons (d_tup (l_cons d_int (l_cons d_int (l_cons d_int l_nil)))) l_nil))) l_nil))) (s_one (s_ret (d_callO (ok__law_made T) hr (l_cons (d_var (pv 1)) (l_cons (d_lc rfl sc__law_range.nd (i_lst (d_var (pv 1))) (blkOk_by (own := [("_law_mark", 2)]) (by kernel_rfl)) (fun _ _ _ _ _ => (pg_name (i := 2) sc__law_range.nd rfl (by first | exact Or.inl rfl | exact Or.inr rfl))) (g_name 2) (fun _ _ _ _ _ => dts_nil) (fun _ _ _ _ _ => (d_cmp (op_eqP hr.units) (relD_ok _) (d_callO (ok__law_draw T) hr (l_cons (d_var (pv 0)) (l_cons d_int l_nil))) d_int))) l_nil)))))))
theorem sc__law_version_text : FnScope ["_law_version_here", "_law_number"] ["_law_version_here"] (defScope s__law_version_text) := ⟨rfl, rfl, rfl, by decide +kernel, rfl, by decide +kernel, by decide +kernel⟩
def c__law_version_text_0 : ME (Hand) := (mF strCD (mCons (mVar 1) mNil))
theorem c__law_version_text_0_eq (env : DE) (s : Hand) : c__law_version_text_0 env s = (mF strCD (mCons (mVar 1) mNil)) env s := rfl
def f__law_version_text : List D → Hand → Option (D × Hand) := mDef 2 (sRet (mB joinD (mC (.str ".")) (mComp (mIt tupItems (mVar 0)) (gdName 1) mYes c__law_version_text_0 [1])))
theorem ok__law_version_text (T : Txt K mg) : DOk P w K mg base (HandB p c) "_law_version_text" 1 ["_law_version_here"] f__law_version_text := by
  obtain ⟨fd, Fn⟩ := T.fns d__law_version_text (List.Mem.tail _ (List.Mem.tail _ (List.Mem.tail _ (List.Mem.tail _ (List.Mem.tail _ (List.Mem.tail _ (List.Mem.tail _ (List.Mem.tail _ (List.Mem.tail _ (List.Mem.tail _ (List.Mem.tail _ (List.Mem.tail _ (List.Mem.tail _ (List.Mem.tail _ (List.Mem.tail _ (List.Mem.tail _ (List.Mem.tail _ (List.Mem.tail _ (List.Mem.tail _ (List.Mem.tail _ (List.Mem.tail _ (List.Mem.tail _ (List.Mem.tail _ (List.Mem.tail _ (List.Mem.tail _ (List.Mem.tail _ (List.Mem.tail _ (List.Mem.tail _ (List.Mem.tail _ (List.Mem.tail _ (List.Mem.tail _ (List.Mem.tail _ (List.Mem.head _)))))))))))))))))))))))))))))))))
  exact d_defD Fn (T.glo _ (List.Mem.tail _ (List.Mem.tail _ (List.Mem.tail _ (List.Mem.tail _ (List.Mem.tail _ (List.Mem.tail _ (List.Mem.tail _ (List.Mem.tail _ (List.Mem.tail _ (List.Mem.tail _ (List.Mem.tail _ (List.Mem.tail _ (List.Mem.tail _ (List.Mem.tail _ (List.Mem.tail _ (List.Mem.tail _ (List.Mem.tail _ (List.Mem.tail _ (List.Mem.tail _ (List.Mem.tail _ (List.Mem.tail _ (List.Mem.tail _ (List.Mem.tail _ (List.Mem.tail _ (List.Mem.tail _ (List.Mem.tail _ (List.Mem.tail _ (List.Mem.tail _ (List.Mem.tail _ (List.Mem.tail _ (List.Mem.tail _ (List.Mem.tail _ (List.Mem.head _)))))))))))))))))))))))))))))))))) sc__law_version_text (fun _ _ _ _ _ _ us hl => match us, hl with | [_], _ => rfl) (fun cdv A outer s H E hr => (s_one (s_ret (d_join d_str (d_lc rfl sc__law_version_text.nd (i_tup (d_var (pv 0))) (blkOk_by (own := [("_law_number", 1)]) (by kernel_rfl)) (fun _ _ _ _ _ => (pg_name (i := 1) sc__law_version_text.nd rfl (by first | exact Or.inl rfl | exact Or.inr rfl))) (g_name 1) (fun _ _ _ _ _ => dts_nil) (fun _ _ _ _ _ => (d_callTy (CallR.or call_str_int SkE.call_str_str) strCD_ok (u_str T) (by decide +kernel) (l_cons (d_var (pv 1)) l_nil))))))))
theorem sc__law_part_text : FnScope ["_law_word", "_law_version_here"] ["_law_word", "_law_version_here"] (defScope s__law_part_text) := ⟨rfl, rfl, rfl, by decide +kernel, rfl, by decide +kernel, by decide +kernel⟩
def f__law_part_text : List D → Hand → Option (D × Hand) := mDef 2 (sRet (mIf (mIsT (mB (relD eqP) (mVar 0) (mC (.str "*")))) (mC (.str "*")) (mB addD (mVar 0) (mCall f__law_version_text (mCons (mVar 1) mNil)))))
theorem ok__law_part_text (T : Txt K mg) : DOk P w K mg base (HandB p c) "_law_part_text" 2 ["_law_word", "_law_version_here"] f__law_part_text := by
  obtain ⟨fd, Fn⟩ := T.fns d__law_part_text (List.Mem.tail _ (List.Mem.tail _ (List.Mem.tail _ (List.Mem.tail _ (List.Mem.tail _ (List.Mem.tail _ (List.Mem.tail _ (List.Mem.tail _ (List.Mem.tail _ (List.Mem.tail _ (List.Mem.tail _ (List.Mem.tail _ (List.Mem.tail _ (List.Mem.tail _ (List.Mem.tail _ (List.Mem.tail _ (List.Mem.tail _ (List.Mem.tail _ (List.Mem.tail _ (List.Mem.tail _ (List.Mem.tail _ (List.Mem.tail _ (List.Mem.tail _ (List.Mem.tail _ (List.Mem.tail _ (List.Mem.tail _ (List.Mem.tail _ (List.Mem.tail _ (List.Mem.tail _ (List.Mem.tail _ (List.Mem.tail _ (List.Mem.tail _ (List.Mem.tail _ (List.Mem.head _))))))))))))))))))))))))))))))))))
  exact d_defD Fn (T.glo _ (List.Mem.tail _ (List.Mem.tail _ (List.Mem.tail _ (List.Mem.tail _ (List.Mem.tail _ (List.Mem.tail _ (List.Mem.tail _ (List.Mem.tail _ (List.Mem.tail _ (List.Mem.tail _ (List.Mem.tail _ (List.Mem.tail _ (List.Mem.tail _ (List.Mem.tail _ (List.Mem.tail _ (List.Mem.tail _ (List.Mem.tail _ (List.Mem.tail _ (List.Mem.tail _ (List.Mem.tail _ (List.Mem.tail _ (List.Mem.tail _ (List.Mem.tail _ (List.Mem.tail _ (List.Mem.tail _ (List.Mem.tail _ (List.Mem.tail _ (List.Mem.tail _ (List.Mem.tail _ (List.Mem.tail _ (List.Mem.tail _ (List.Mem.tail _ (List.Mem.tail _ (List.Mem.head _))))))))))))))))))))))))))))))))))) sc__law_part_text (fun _ _ _ _ _ _ us hl => match us, hl with | [_, _], _ => rfl) (fun cdv A outer s H E hr => (s_one (s_ret (d_if (dt_cmp (op_eqP hr.units) (relD_ok _) (d_var (pv 0)) d_str) d_str (d_op op_addA addD_ok (d_var (pv 0)) (d_callO (ok__law_version_text T) hr (l_cons (d_var (pv 1)) l_nil)))))))
theorem sc__law_part : FnScope ["_law_word", "_law_version_here", "_law_every", "_law_later", "_law_a", "_law_b", "_law_c", "_law_first", "_law_high"] ["_law_word", "_law_version_here"] (defScope s__law_part) := ⟨rfl, rfl, rfl, by decide +kernel, rfl, by decide +kernel, by decide +kernel⟩
def f__law_part : List D → Hand → Option (D × Hand) := mDef 9 (sSeq (sAsg (gdTup 3 (gdCons (gdName 4) (gdCons (gdName 5) (gdCons (gdName 6) gdNil)))) (mVar 1)) (sSeq (sAsg (gdName 2) (mF tupD (mCons (mF tupD (mCons (mF tupD (mCons (mC (.int 0)) (mCons (mC (.int 0)) (mCons (mC (.int 0)) mNil)))) (mCons (mC .non) mNil))) mNil))) (sSeq (sIf (mIsT (mB inD (mVar 0) (mF tupD (mCons (mC (.str "*")) (mCons (mC (.str ">=")) (mCons (mC (.str "<")) mNil)))))) (sSeq (sAsg (gdName 7) (mIf (mIsT (mB (relD eqP) (mVar 1) (mF tupD (mCons (mC (.int 0)) (mCons (mC (.int 0)) (mCons (mC (.int 0)) mNil)))))) (mF tupD mNil) (mF tupD (mCons (mF tupD (mCons (mF tupD (mCons (mC (.int 0)) (mCons (mC (.int 0)) (mCons (mC (.int 0)) mNil)))) (mCons (mVar 1) mNil))) mNil)))) (sRet (mB dgetD (mDisp ["*", ">=", "<"] (mCons (mVar 2) (mCons (mF tupD (mCons (mF tupD (mCons (mVar 1) (mCons (mC .non) mNil))) mNil)) (mCons (mVar 7) mNil)))) (mVar 0)))) sNil) (sSeq (sIf (mIsT (mB inD (mVar 0) (mF tupD (mCons (mC (.str "^")) (mCons (mC (.str "~")) mNil))))) (sSeq (sAsg (gdName 8) (mF tupD (mCons (mVar 4) (mCons (mB addD (mVar 5) (mC (.int 1))) (mCons (mC (.int 0)) mNil))))) (sSeq (sIf (mIsT (mB (relD eqP) (mVar 0) (mC (.str "^")))) (sAsg (gdName 8) (mIf (mIsT (mB (relD gtP) (mVar 4) (mC (.int 0)))) (mF tupD (mCons (mB addD (mVar 4) (mC (.int 1))) (mCons (mC (.int 0)) (mCons (mC (.int 0)) mNil)))) (mIf (mIsT (mB (relD gtP) (mVar 5) (mC (.int 0)))) (mF tupD (mCons (mC (.int 0)) (mCons (mB addD (mVar 5) (mC (.int 1))) (mCons (mC (.int 0)) mNil)))) (mF tupD (mCons (mC (.int 0)) (mCons (mC (.int 0)) (mCons (mB addD (mVar 6) (mC (.int 1))) mNil))))))) sNil) (sRet (mIf (mIsT (mB (relD gtP) (mF maxTD (mCons (mVar 8) mNil)) (mC (.int 1000000)))) (mC .non) (mF tupD (mCons (mF tupD (mCons (mVar 1) (mCons (mVar 8) mNil))) mNil)))))) sNil) (sSeq (sAsg (gdName 3) (mCall f__law_behind (mCons (mVar 1) mNil))) (sSeq (sIf (mIsT (mB (relD geP) (mVar 6) (mC (.int 1000000)))) (sRet (mC .non)) sNil) (sSeq (sIf (mIsT (mB (relD eqP) (mVar 0) (mC (.str "")))) (sRet (mF tupD (mCons (mF tupD (mCons (mVar 1) (mCons (mVar 3) mNil))) mNil))) sNil) (sSeq (sIf (mIsT (mB (relD eqP) (mVar 0) (mC (.str "!")))) (sRet (mCall f__law_outside (mCons (mF tupD (mCons (mF tupD (mCons (mVar 1) (mCons (mVar 3) mNil))) mNil)) mNil))) sNil) (sRet (mIf (mIsT (mB (relD eqP) (mVar 0) (mC (.str "<=")))) (mF tupD (mCons (mF tupD (mCons (mF tupD (mCons (mC (.int 0)) (mCons (mC (.int 0)) (mCons (mC (.int 0)) mNil)))) (mCons (mVar 3) mNil))) mNil)) (mF tupD (mCons (mF tupD (mCons (mVar 3) (mCons (mC .non) mNil))) mNil))))))))))))
theorem ok__law_part (T : Txt K mg) : DOk P w K mg base (HandB p c) "_law_part" 3 ["_law_word", "_law_version_here"] f__law_part := by
  obtain ⟨fd, Fn⟩ := T.fns d__law_part (List.Mem.tail _ (List.Mem.tail _ (List.Mem.tail _ (List.Mem.tail _ (List.Mem.tail _ (List.Mem.tail _ (List.Mem.tail _ (List.Mem.tail _ (List.Mem.tail _ (List.Mem.tail _ (List.Mem.tail _ (List.Mem.tail _ (List.Mem.tail _ (List.Mem.tail _ (List.Mem.tail _ (List.Mem.tail _ (List.Mem.tail _ (List.Mem.tail _ (List.Mem.tail _ (List.Mem.tail _ (List.Mem.tail _ (List.Mem.tail _ (List.Mem.tail _ (List.Mem.tail _ (List.Mem.tail _ (List.Mem.tail _ (List.Mem.tail _ (List.Mem.tail _ (List.Mem.tail _ (List.Mem.tail _ (List.Mem.tail _ (List.Mem.tail _ (List.Mem.tail _ (List.Mem.tail _ (List.Mem.head _)))))))))))))))))))))))))))))))))))
  exact d_defD Fn (T.glo _ (List.Mem.tail _ (List.Mem.tail _ (List.Mem.tail _ (List.Mem.tail _ (List.Mem.tail _ (List.Mem.tail _ (List.Mem.tail _ (List.Mem.tail _ (List.Mem.tail _ (List.Mem.tail _ (List.Mem.tail _ (List.Mem.tail _ (List.Mem.tail _ (List.Mem.tail _ (List.Mem.tail _ (List.Mem.tail _ (List.Mem.tail _ (List.Mem.tail _ (List.Mem.tail _ (List.Mem.tail _ (List.Mem.tail _ (List.Mem.tail _ (List.Mem.tail _ (List.Mem.tail _ (List.Mem.tail _ (List.Mem.tail _ (List.Mem.tail _ (List.Mem.tail _ (List.Mem.tail _ (List.Mem.tail _ (List.Mem.tail _ (List.Mem.tail _ (List.Mem.tail _ (List.Mem.tail _ (List.Mem.head _)))))))))))))))))))))))))))))))))))) sc__law_part (fun _ _ _ _ _ _ us hl => match us, hl with | [_, _], _ => rfl) (fun cdv A outer s H E hr => (s_cons (s_asg (g_tup (g_cons (g_name 4) (g_cons (g_name 5) (g_cons (g_name 6) g_nil)))) (d_var (pv 1)) (pg_tup (n := 3) rfl (pgs_cons (pg_name (i := 4) sc__law_part.nd rfl (by first | exact Or.inl rfl | exact Or.inr rfl)) (pgs_cons (pg_name (i := 5) sc__law_part.nd rfl (by first | exact Or.inl rfl | exact Or.inr rfl)) (pgs_cons (pg_name (i := 6) sc__law_part.nd rfl (by first | exact Or.inl rfl | exact Or.inr rfl)) pgs_nil))))) (s_cons (s_set (i := 2) sc__law_part.nd (d_tup (l_cons (d_tup (l_cons (d_tup (l_cons d_int (l_cons d_int (l_cons d_int l_nil)))) (l_cons d_non l_nil))) l_nil))) (s_cons (s_if (dt_cmp (op_inA hr.units) inD_ok (d_var (pv 0)) (d_tup (l_cons d_str (l_cons d_str (l_cons d_str l_nil))))) (s_cons (s_set (i := 7) sc__law_part.nd (d_if (dt_cmp (op_eqP hr.units) (relD_ok _) (d_var (pv 1)) (d_tup (l_cons d_int (l_cons d_int (l_cons d_int l_nil))))) (d_tup l_nil) (d_tup (l_cons (d_tup (l_cons (d_tup (l_cons d_int (l_cons d_int (l_cons d_int l_nil)))) (l_cons (d_var (pv 1)) l_nil))) l_nil)))) (s_one (s_ret (d_dget hr.units (d_disp (pd_cons (d_var (pv 2)) (pd_cons (d_tup (l_cons (d_tup (l_cons (d_var (pv 1)) (l_cons d_non l_nil))) l_nil)) (pd_cons (d_var (pv 7)) pd_nil))) (by simp)) (d_var (pv 0)))))) s_nil) (s_cons (s_if (dt_cmp (op_inA hr.units) inD_ok (d_var (pv 0)) (d_tup (l_cons d_str (l_cons d_str l_nil)))) (s_cons (s_set (i := 8) sc__law_part.nd (d_tup (l_cons (d_var (pv 4)) (l_cons (d_op op_addA addD_ok (d_var (pv 5)) d_int) (l_cons d_int l_nil))))) (s_cons (s_if (dt_cmp (op_eqP hr.units) (relD_ok _) (d_var (pv 0)) d_str) (s_one (s_set (i := 8) sc__law_part.nd (d_if (dt_cmp (op_gtP hr.units) (relD_ok _) (d_var (pv 4)) d_int) (d_tup (l_cons (d_op op_addA addD_ok (d_var (pv 4)) d_int) (l_cons d_int (l_cons d_int l_nil)))) (d_if (dt_cmp (op_gtP hr.units) (relD_ok _) (d_var (pv 5)) d_int) (d_tup (l_cons d_int (l_cons (d_op op_addA addD_ok (d_var (pv 5)) d_int) (l_cons d_int l_nil)))) (d_tup (l_cons d_int (l_cons d_int (l_cons (d_op op_addA addD_ok (d_var (pv 6)) d_int) l_nil)))))))) s_nil) (s_one (s_ret (d_if (dt_cmp (op_gtP hr.units) (relD_ok _) (d_callB (CallR.or (cr_maxT rfl hr.units) (call_maxA rfl hr.units)) maxTD_ok (u_max T) (by decide +kernel) (l_cons (d_var (pv 8)) l_nil)) d_int) d_non (d_tup (l_cons (d_tup (l_cons (d_var (pv 1)) (l_cons (d_var (pv 8)) l_nil))) l_nil))))))) s_nil) (s_cons (s_set (i := 3) sc__law_part.nd (d_callO (ok__law_behind T) hr (l_cons (d_var (pv 1)) l_nil))) (s_cons (s_if (dt_cmp (op_geP hr.units) (relD_ok _) (d_var (pv 6)) d_int) (s_one (s_ret d_non)) s_nil) (s_cons (s_if (dt_cmp (op_eqP hr.units) (relD_ok _) (d_var (pv 0)) d_str) (s_one (s_ret (d_tup (l_cons (d_tup (l_cons (d_var (pv 1)) (l_cons (d_var (pv 3)) l_nil))) l_nil)))) s_nil) (s_cons (s_if (dt_cmp (op_eqP hr.units) (relD_ok _) (d_var (pv 0)) d_str) (s_one (s_ret (d_callO (ok__law_outside T) hr (l_cons (d_tup (l_cons (d_tup (l_cons (d_var (pv 1)) (l_cons (d_var (pv 3)) l_nil))) l_nil)) l_nil)))) s_nil) (s_one (s_ret (d_if (dt_cmp (op_eqP hr.units) (relD_ok _) (d_var (pv 0)) d_str) (d_tup (l_cons (d_tup (l_cons (d_tup (l_cons d_int (l_cons d_int (l_cons d_int l_nil)))) (l_cons (d_var (pv 3)) l_nil))) l_nil)) (d_tup (l_cons (d_tup (l_cons (d_var (pv 3)) (l_cons d_non l_nil))) l_nil))))))))))))))
theorem sc__law_words : FnScope ["_law_hand_here", "_law_word"] ["_law_hand_here"] (defScope s__law_words) := ⟨rfl, rfl, rfl, by decide +kernel, rfl, by decide +kernel, by decide +kernel⟩
def f__law_words : List D → Hand → Option (D × Hand) := mDef 2 (sSeq (sAsg (gdName 1) (mCall f__law_some (mCons (mVar 0) (mCons (mF lstD (mCons (mC (.str "*")) (mCons (mC (.str "")) (mCons (mC (.str "")) (mCons (mC (.str "!")) (mCons (mC (.str "<")) (mCons (mC (.str "<=")) (mCons (mC (.str ">")) (mCons (mC (.str ">=")) (mCons (mC (.str "^")) (mCons (mC (.str "^")) (mCons (mC (.str "~")) (mCons (mC (.str ">=")) mNil))))))))))))) mNil)))) (sRet (mF tupD (mCons (mVar 1) (mCons (mCall f__law_version (mCons (mVar 0) mNil)) mNil)))))
theorem ok__law_words (T : Txt K mg) : DOk P w K mg base (HandB p c) "_law_words" 4 ["_law_hand_here"] f__law_words := by
  obtain ⟨fd, Fn⟩ := T.fns d__law_words (List.Mem.tail _ (List.Mem.tail _ (List.Mem.tail _ (List.Mem.tail _ (List.Mem.tail _ (List.Mem.tail _ (List.Mem.tail _ (List.Mem.tail _ (List.Mem.tail _ (List.Mem.tail _ (List.Mem.tail _ (List.Mem.tail _ (List.Mem.tail _ (List.Mem.tail _ (List.Mem.tail _ (List.Mem.tail _ (List.Mem.tail _ (List.Mem.tail _ (List.Mem.tail _ (List.Mem.tail _ (List.Mem.tail _ (List.Mem.tail _ (List.Mem.tail _ (List.Mem.tail _ (List.Mem.tail _ (List.Mem.tail _ (List.Mem.tail _ (List.Mem.tail _ (List.Mem.tail _ (List.Mem.tail _ (List.Mem.tail _ (List.Mem.tail _ (List.Mem.tail _ (List.Mem.tail _ (List.Mem.tail _ (List.Mem.head _))))))))))))))))))))))))))))))))))))
  exact d_defD Fn (T.glo _ (List.Mem.tail _ (List.Mem.tail _ (List.Mem.tail _ (List.Mem.tail _ (List.Mem.tail _ (List.Mem.tail _ (List.Mem.tail _ (List.Mem.tail _ (List.Mem.tail _ (List.Mem.tail _ (List.Mem.tail _ (List.Mem.tail _ (List.Mem.tail _ (List.Mem.tail _ (List.Mem.tail _ (List.Mem.tail _ (List.Mem.tail _ (List.Mem.tail _ (List.Mem.tail _ (List.Mem.tail _ (List.Mem.tail _ (List.Mem.tail _ (List.Mem.tail _ (List.Mem.tail _ (List.Mem.tail _ (List.Mem.tail _ (List.Mem.tail _ (List.Mem.tail _ (List.Mem.tail _ (List.Mem.tail _ (List.Mem.tail _ (List.Mem.tail _ (List.Mem.tail _ (List.Mem.tail _ (List.Mem.tail _ (List.Mem.head _))))))))))))))))))))))))))))))))))))) sc__law_words (fun _ _ _ _ _ _ us hl => match us, hl with | [_], _ => rfl) (fun cdv A outer s H E hr => (s_cons (s_set (i := 1) sc__law_words.nd (d_callO (ok__law_some T) hr (l_cons (d_var (pv 0)) (l_cons (d_lst (l_cons d_str (l_cons d_str (l_cons d_str (l_cons d_str (l_cons d_str (l_cons d_str (l_cons d_str (l_cons d_str (l_cons d_str (l_cons d_str (l_cons d_str (l_cons d_str l_nil))))))))))))) l_nil)))) (s_one (s_ret (d_tup (l_cons (d_var (pv 1)) (l_cons (d_callO (ok__law_version T) hr (l_cons (d_var (pv 0)) l_nil)) l_nil)))))))
theorem sc__law_range_text : FnScope ["_law_rng", "_law_found", "_law_low", "_law_high"] ["_law_rng"] (defScope s__law_range_text) := ⟨rfl, rfl, rfl, by decide +kernel, rfl, by decide +kernel, by decide +kernel⟩
def b__law_range_text_0 : MS (Hand) := (sIf (mIsT (mB isND (mVar 3) (mC .non))) (sApp 1 (mB addD (mC (.str ">=")) (mCall f__law_version_text (mCons (mVar 2) mNil)))) (sIf (mIsT (mB (relD eqP) (mVar 3) (mCall f__law_behind (mCons (mVar 2) mNil)))) (sApp 1 (mCall f__law_version_text (mCons (mVar 2) mNil))) (sApp 1 (mB addD (mB addD (mB addD (mC (.str ">=")) (mCall f__law_version_text (mCons (mVar 2) mNil))) (mC (.str ", <"))) (mCall f__law_version_text (mCons (mVar 3) mNil))))))
theorem b__law_range_text_0_eq (env : DE) (s : Hand) : b__law_range_text_0 env s = (sIf (mIsT (mB isND (mVar 3) (mC .non))) (sApp 1 (mB addD (mC (.str ">=")) (mCall f__law_version_text (mCons (mVar 2) mNil)))) (sIf (mIsT (mB (relD eqP) (mVar 3) (mCall f__law_behind (mCons (mVar 2) mNil)))) (sApp 1 (mCall f__law_version_text (mCons (mVar 2) mNil))) (sApp 1 (mB addD (mB addD (mB addD (mC (.str ">=")) (mCall f__law_version_text (mCons (mVar 2) mNil))) (mC (.str ", <"))) (mCall f__law_version_text (mCons (mVar 3) mNil)))))) env s := rfl
def f__law_range_text : List D → Hand → Option (D × Hand) := mDef 4 (sSeq (sIf (mIsT (mB (relD eqP) (mF lenD (mCons (mVar 0) mNil)) (mC (.int 0)))) (sRet (mC (.str "<0.0.0"))) sNil) (sSeq (sIf (mIsT (mB (relD eqP) (mVar 0) (mF tupD (mCons (mF tupD (mCons (mF tupD (mCons (mC (.int 0)) (mCons (mC (.int 0)) (mCons (mC (.int 0)) mNil)))) (mCons (mC .non) mNil))) mNil)))) (sRet (mC (.str "*"))) sNil) (sSeq (sOwn 1 mNil) (sSeq (sFor (mIt tupItems (mVar 0)) (gdTup 2 (gdCons (gdName 2) (gdCons (gdName 3) gdNil))) b__law_range_text_0) (sFrz 1 (sRet (mB joinD (mC (.str " | ")) (mVar 1))))))))
theorem ok__law_range_text (T : Txt K mg) : DOk P w K mg base (HandB p c) "_law_range_text" 2 ["_law_rng"] f__law_range_text := by
  obtain ⟨fd, Fn⟩ := T.fns d__law_range_text (List.Mem.tail _ (List.Mem.tail _ (List.Mem.tail _ (List.Mem.tail _ (List.Mem.tail _ (List.Mem.tail _ (List.Mem.tail _ (List.Mem.tail _ (List.Mem.tail _ (List.Mem.tail _ (List.Mem.tail _ (List.Mem.tail _ (List.Mem.tail _ (List.Mem.tail _ (List.Mem.tail _ (List.Mem.tail _ (List.Mem.tail _ (List.Mem.tail _ (List.Mem.tail _ (List.Mem.tail _ (List.Mem.tail _ (List.Mem.tail _ (List.Mem.tail _ (List.Mem.tail _ (List.Mem.tail _ (List.Mem.tail _ (List.Mem.tail _ (List.Mem.tail _ (List.Mem.tail _ (List.Mem.tail _ (List.Mem.tail _ (List.Mem.tail _ (List.Mem.tail _ (List.Mem.tail _ (List.Mem.tail _ (List.Mem.tail _ (List.Mem.head _)))))))))))))))))))))))))))))))))))))
  exact d_defD Fn (T.glo _ (List.Mem.tail _ (List.Mem.tail _ (List.Mem.tail _ (List.Mem.tail _ (List.Mem.tail _ (List.Mem.tail _ (List.Mem.tail _ (List.Mem.tail _ (List.Mem.tail _ (List.Mem.tail _ (List.Mem.tail _ (List.Mem.tail _ (List.Mem.tail _ (List.Mem.tail _ (List.Mem.tail _ (List.Mem.tail _ (List.Mem.tail _ (List.Mem.tail _ (List.Mem.tail _ (List.Mem.tail _ (List.Mem.tail _ (List.Mem.tail _ (List.Mem.tail _ (List.Mem.tail _ (List.Mem.tail _ (List.Mem.tail _ (List.Mem.tail _ (List.Mem.tail _ (List.Mem.tail _ (List.Mem.tail _ (List.Mem.tail _ (List.Mem.tail _ (List.Mem.tail _ (List.Mem.tail _ (List.Mem.tail _ (List.Mem.tail _ (List.Mem.head _)))))))))))))))))))))))))))))))))))))) sc__law_range_text (fun _ _ _ _ _ _ us hl => match us, hl with | [_], _ => rfl) (fun cdv A outer s H E hr => (s_cons (s_if (dt_cmp (op_eqP hr.units) (relD_ok _) (d_callB call_len lenD_ok (u_len T) (by decide +kernel) (l_cons (d_var (pv 0)) l_nil)) d_int) (s_one (s_ret d_str)) s_nil) (s_cons (s_if (dt_cmp (op_eqP hr.units) (relD_ok _) (d_var (pv 0)) (d_tup (l_cons (d_tup (l_cons (d_tup (l_cons d_int (l_cons d_int (l_cons d_int l_nil)))) (l_cons d_non l_nil))) l_nil))) (s_one (s_ret d_str)) s_nil) (s_cons (s_own (i := 1) sc__law_range_text.nd l_nil) (s_cons (s_for PassesOwn.never rfl (i_tup (d_var (pv 0))) (pg_tup (n := 2) rfl (pgs_cons (pg_name (i := 2) sc__law_range_text.nd rfl (by first | exact Or.inl rfl | exact Or.inr rfl)) (pgs_cons (pg_name (i := 3) sc__law_range_text.nd rfl (by first | exact Or.inl rfl | exact Or.inr rfl)) pgs_nil))) (g_tup (g_cons (g_name 2) (g_cons (g_name 3) g_nil))) (s_one (s_if (dt_cmp op_isN isND_ok (d_var (pv 3)) d_non) (s_one (s_app (pv 1) (d_op op_addA addD_ok d_str (d_callO (ok__law_version_text T) hr (l_cons (d_var (pv 2)) l_nil))))) (s_one (s_if (dt_cmp (op_eqP hr.units) (relD_ok _) (d_var (pv 3)) (d_callO (ok__law_behind T) hr (l_cons (d_var (pv 2)) l_nil))) (s_one (s_app (pv 1) (d_callO (ok__law_version_text T) hr (l_cons (d_var (pv 2)) l_nil)))) (s_one (s_app (pv 1) (d_op op_addA addD_ok (d_op op_addA addD_ok (d_op op_addA addD_ok d_str (d_callO (ok__law_version_text T) hr (l_cons (d_var (pv 2)) l_nil))) d_str) (d_callO (ok__law_version_text T) hr (l_cons (d_var (pv 3)) l_nil)))))))))) (s_frz 1 (s_one (s_ret (d_join d_str (d_var (pv 1)))))))))))
theorem sc_law : FnScope ["_law_script", "_law_hand_here", "_law_turn", "_law_alternative", "_law_rng", "_law_version_here", "_law_due", "_law_words_here", "_law_k", "_law_every", "_law_parts", "_law_word"] ["_law_script"] (defScope s_law) := ⟨rfl, rfl, rfl, by decide +kernel, rfl, by decide +kernel, by decide +kernel⟩
def b_law_2 : MS (Hand) := (sSeq (sAsg (gdTup 2 (gdCons (gdName 11) (gdCons (gdName 5) gdNil))) (mCall f__law_words (mCons (mVar 1) mNil))) (sSeq (sAsg (gdName 9) (mCall f__law_both (mCons (mVar 9) (mCons (mCall f__law_part (mCons (mVar 11) (mCons (mVar 5) mNil))) mNil)))) (sApp 10 (mCall f__law_part_text (mCons (mVar 11) (mCons (mVar 5) mNil))))))
theorem b_law_2_eq (env : DE) (s : Hand) : b_law_2 env s = (sSeq (sAsg (gdTup 2 (gdCons (gdName 11) (gdCons (gdName 5) gdNil))) (mCall f__law_words (mCons (mVar 1) mNil))) (sSeq (sAsg (gdName 9) (mCall f__law_both (mCons (mVar 9) (mCons (mCall f__law_part (mCons (mVar 11) (mCons (mVar 5) mNil))) mNil)))) (sApp 10 (mCall f__law_part_text (mCons (mVar 11) (mCons (mVar 5) mNil)))))) env s := rfl
def b_law_1 : MS (Hand) := (sSeq (sParO 9 10 (mF tupD (mCons (mF tupD (mCons (mF tupD (mCons (mC (.int 0)) (mCons (mC (.int 0)) (mCons (mC (.int 0)) mNil)))) (mCons (mC .non) mNil))) mNil)) mNil) (sSeq (sFor (mRng rng1D (mCons (mB addD (mC (.int 1)) (mCall f__law_draw (mCons (mVar 1) (mCons (mC (.int 3)) mNil)))) mNil)) (gdName 8) b_law_2) (sSeq (sAsg (gdName 6) (mCall f__law_either (mCons (mVar 6) (mCons (mVar 9) mNil)))) (sFrz 10 (sApp 7 (mB joinD (mC (.str ", ")) (mVar 10)))))))
theorem b_law_1_eq (env : DE) (s : Hand) : b_law_1 env s = (sSeq (sParO 9 10 (mF tupD (mCons (mF tupD (mCons (mF tupD (mCons (mC (.int 0)) (mCons (mC (.int 0)) (mCons (mC (.int 0)) mNil)))) (mCons (mC .non) mNil))) mNil)) mNil) (sSeq (sFor (mRng rng1D (mCons (mB addD (mC (.int 1)) (mCall f__law_draw (mCons (mVar 1) (mCons (mC (.int 3)) mNil)))) mNil)) (gdName 8) b_law_2) (sSeq (sAsg (gdName 6) (mCall f__law_either (mCons (mVar 6) (mCons (mVar 9) mNil)))) (sFrz 10 (sApp 7 (mB joinD (mC (.str ", ")) (mVar 10))))))) env s := rfl
def b_law_3 : MS (Hand) := (sIf (mOrT (mNotT (mIsT (mCall (f__law_is 5) (mCons (mCall f_range_text (mCons (mVar 4) mNil)) (mCons (mCall f__law_range_text (mCons (mVar 4) mNil)) mNil))))) (mNotT (mIsT (mCall (f__law_is 5) (mCons (mCall f_read_range (mCons (mCall f_range_text (mCons (mVar 4) mNil)) mNil)) (mCons (mVar 4) mNil)))))) (sRet (mC (.bl false))) sNil)
theorem b_law_3_eq (env : DE) (s : Hand) : b_law_3 env s = (sIf (mOrT (mNotT (mIsT (mCall (f__law_is 5) (mCons (mCall f_range_text (mCons (mVar 4) mNil)) (mCons (mCall f__law_range_text (mCons (mVar 4) mNil)) mNil))))) (mNotT (mIsT (mCall (f__law_is 5) (mCons (mCall f_read_range (mCons (mCall f_range_text (mCons (mVar 4) mNil)) mNil)) (mCons (mVar 4) mNil)))))) (sRet (mC (.bl false))) sNil) env s := rfl
def b_law_0 : MS (Hand) := (sSeq (sParO 6 7 (mF tupD mNil) mNil) (sSeq (sFor (mRng rng1D (mCons (mB addD (mC (.int 1)) (mCall f__law_draw (mCons (mVar 1) (mCons (mC (.int 3)) mNil)))) mNil)) (gdName 3) b_law_1) (sFrz 7 (sSeq (sIf (mNotT (mIsT (mCall (f__law_is 5) (mCons (mCall f_read_range (mCons (mB joinD (mC (.str " | ")) (mVar 7)) mNil)) (mCons (mVar 6) mNil))))) (sRet (mC (.bl false))) sNil) (sSeq (sFor (mIt tupItems (mF tupD (mCons (mVar 6) (mCons (mCall f__law_range (mCons (mVar 1) mNil)) mNil)))) (gdName 4) b_law_3) (sSeq (sAsg (gdName 5) (mCall f__law_version (mCons (mVar 1) mNil))) (sIf (mNotT (mIsT (mCall (f__law_is 5) (mCons (mCall f_version_text (mCons (mVar 5) mNil)) (mCons (mCall f__law_version_text (mCons (mVar 5) mNil)) mNil))))) (sRet (mC (.bl false))) sNil)))))))
theorem b_law_0_eq (env : DE) (s : Hand) : b_law_0 env s = (sSeq (sParO 6 7 (mF tupD mNil) mNil) (sSeq (sFor (mRng rng1D (mCons (mB addD (mC (.int 1)) (mCall f__law_draw (mCons (mVar 1) (mCons (mC (.int 3)) mNil)))) mNil)) (gdName 3) b_law_1) (sFrz 7 (sSeq (sIf (mNotT (mIsT (mCall (f__law_is 5) (mCons (mCall f_read_range (mCons (mB joinD (mC (.str " | ")) (mVar 7)) mNil)) (mCons (mVar 6) mNil))))) (sRet (mC (.bl false))) sNil) (sSeq (sFor (mIt tupItems (mF tupD (mCons (mVar 6) (mCons (mCall f__law_range (mCons (mVar 1) mNil)) mNil)))) (gdName 4) b_law_3) (sSeq (sAsg (gdName 5) (mCall f__law_version (mCons (mVar 1) mNil))) (sIf (mNotT (mIsT (mCall (f__law_is 5) (mCons (mCall f_version_text (mCons (mVar 5) mNil)) (mCons (mCall f__law_version_text (mCons (mVar 5) mNil)) mNil))))) (sRet (mC (.bl false))) sNil))))))) env s := rfl
def m_law : MS Hand := (sSeq (sFor (mRng rng1D (mCons (mC (.int 6)) mNil)) (gdName 2) b_law_0) (sRet (mC (.bl true))))
theorem ok_law (T : Txt K mg) (hlaw : LawOk 12 1 m_law f__law_hand) : ∃ fd, (∀ (s : Shared) (v : Value), BindsTo s fd ⟨[v], []⟩ [("_law_script", v)]) ∧ ∀ (P : Program) (w : World) (base : Heap), FnOk P w K mg base CX0 7 (He.fAd K ("law", none)) fd ["_law_script"] (spLaw K) := by
  obtain ⟨fd, Fn⟩ := T.fns d_law (List.Mem.tail _ (List.Mem.tail _ (List.Mem.tail _ (List.Mem.tail _ (List.Mem.tail _ (List.Mem.tail _ (List.Mem.tail _ (List.Mem.tail _ (List.Mem.tail _ (List.Mem.tail _ (List.Mem.tail _ (List.Mem.tail _ (List.Mem.tail _ (List.Mem.tail _ (List.Mem.tail _ (List.Mem.tail _ (List.Mem.tail _ (List.Mem.tail _ (List.Mem.tail _ (List.Mem.tail _ (List.Mem.tail _ (List.Mem.tail _ (List.Mem.tail _ (List.Mem.tail _ (List.Mem.tail _ (List.Mem.tail _ (List.Mem.tail _ (List.Mem.tail _ (List.Mem.tail _ (List.Mem.tail _ (List.Mem.tail _ (List.Mem.tail _ (List.Mem.tail _ (List.Mem.tail _ (List.Mem.tail _ (List.Mem.tail _ (List.Mem.tail _ (List.Mem.head _))))))))))))))))))))))))))))))))))))))
  refine ⟨fd, fun s v => (FunD.bindsA (ps := ["_law_script"]) Fn fun _ _ _ _ _ _ us hl => match us, hl with | [_], _ => rfl) s [v] rfl, ?_⟩
  exact fun P w base => law_fn Fn sc_law (by decide) (by decide) hlaw rfl (fun a bp cdv A outer s H E hr => s_set (i := 1) sc_law.nd (d_callO (ok__law_hand T) hr (l_cons (d_var (pv 0)) l_nil))) (fun p c cdv A outer s H E hr => (s_cons (s_for PassesOwn.never rfl (i_rng1 (u_range T) (l_cons d_int l_nil)) (pg_name (i := 2) sc_law.nd rfl (by first | exact Or.inl rfl | exact Or.inr rfl)) (g_name 2) (s_cons (s_parO (i := 6) (j := 7) rfl sc_law.nd (d_tup l_nil) l_nil) (s_cons (s_for PassesOwn.never rfl (i_rng1 (u_range T) (l_cons (d_op op_addA addD_ok d_int (d_callO (ok__law_draw T) hr (l_cons (d_var (pv 1)) (l_cons d_int l_nil)))) l_nil)) (pg_name (i := 3) sc_law.nd rfl (by first | exact Or.inl rfl | exact Or.inr rfl)) (g_name 3) (s_cons (s_parO (i := 9) (j := 10) rfl sc_law.nd (d_tup (l_cons (d_tup (l_cons (d_tup (l_cons d_int (l_cons d_int (l_cons d_int l_nil)))) (l_cons d_non l_nil))) l_nil)) l_nil) (s_cons (s_for PassesOwn.never rfl (i_rng1 (u_range T) (l_cons (d_op op_addA addD_ok d_int (d_callO (ok__law_draw T) hr (l_cons (d_var (pv 1)) (l_cons d_int l_nil)))) l_nil)) (pg_name (i := 8) sc_law.nd rfl (by first | exact Or.inl rfl | exact Or.inr rfl)) (g_name 8) (s_cons (s_asg (g_tup (g_cons (g_name 11) (g_cons (g_name 5) g_nil))) (d_callO (ok__law_words T) hr (l_cons (d_var (pv 1)) l_nil)) (pg_tup (n := 2) rfl (pgs_cons (pg_name (i := 11) sc_law.nd rfl (by first | exact Or.inl rfl | exact Or.inr rfl)) (pgs_cons (pg_name (i := 5) sc_law.nd rfl (by first | exact Or.inl rfl | exact Or.inr rfl)) pgs_nil)))) (s_cons (s_set (i := 9) sc_law.nd (d_callO (ok__law_both T) hr (l_cons (d_var (pv 9)) (l_cons (d_callO (ok__law_part T) hr (l_cons (d_var (pv 11)) (l_cons (d_var (pv 5)) l_nil))) l_nil)))) (s_one (s_app (pv 10) (d_callO (ok__law_part_text T) hr (l_cons (d_var (pv 11)) (l_cons (d_var (pv 5)) l_nil)))))))) (s_cons (s_set (i := 6) sc_law.nd (d_callO (ok__law_either T) hr (l_cons (d_var (pv 6)) (l_cons (d_var (pv 9)) l_nil)))) (s_frz 10 (s_one (s_app (pv 7) (d_join d_str (d_var (pv 10)))))))))) (s_frz 7 (s_cons (s_if (dt_not (dt_val (d_callO (ok__law_is T 5) hr (l_cons (d_callO (ok_read_range T) hr (l_cons (d_join d_str (d_var (pv 7))) l_nil)) (l_cons (d_var (pv 6)) l_nil))))) (s_one (s_ret d_bl)) s_nil) (s_cons (s_for PassesOwn.never rfl (i_tup (d_tup (l_cons (d_var (pv 6)) (l_cons (d_callO (ok__law_range T) hr (l_cons (d_var (pv 1)) l_nil)) l_nil)))) (pg_name (i := 4) sc_law.nd rfl (by first | exact Or.inl rfl | exact Or.inr rfl)) (g_name 4) (s_one (s_if (dt_w (dw_or (dt_not (dt_val (d_callO (ok__law_is T 5) hr (l_cons (d_callO (ok_range_text T) hr (l_cons (d_var (pv 4)) l_nil)) (l_cons (d_callO (ok__law_range_text T) hr (l_cons (d_var (pv 4)) l_nil)) l_nil))))) (dw_or1 (dt_not (dt_val (d_callO (ok__law_is T 5) hr (l_cons (d_callO (ok_read_range T) hr (l_cons (d_callO (ok_range_text T) hr (l_cons (d_var (pv 4)) l_nil)) l_nil)) (l_cons (d_var (pv 4)) l_nil)))))))) (s_one (s_ret d_bl)) s_nil))) (s_cons (s_set (i := 5) sc_law.nd (d_callO (ok__law_version T) hr (l_cons (d_var (pv 1)) l_nil))) (s_one (s_if (dt_not (dt_val (d_callO (ok__law_is T 5) hr (l_cons (d_callO (ok_version_text T) hr (l_cons (d_var (pv 5)) l_nil)) (l_cons (d_callO (ok__law_version_text T) hr (l_cons (d_var (pv 5)) l_nil)) l_nil))))) (s_one (s_ret d_bl)) s_nil))))))))) (s_one (s_ret d_bl))))
end
end K02

set_option Elab.async false
set_option linter.all false
set_option maxRecDepth 100000
set_option maxHeartbeats 4000000
namespace K02
open PySem
open L2
open Dl
/-! draws -/
theorem log_lt {m : Int} (h0 : 0 < m) (h : m < 2 ^ 62) : m.natAbs.log2 < 9000 := by
  have : m.natAbs < 2 ^ 62 := by omega
  have h2 : m.natAbs.log2 < 62 := (Nat.log2_lt (by omega)).mpr this
  omega
theorem leaf {m x : Int} (h0 : 0 < m) : (∃ n, D.int (x % m) = D.int n ∧ 0 ≤ n ∧ n < m) = True :=
  eq_true ⟨_, rfl, Int.emod_nonneg x (Int.ne_of_gt h0), Int.emod_lt_of_pos x h0⟩
theorem draw_ok {s : Hand} {m : Int} (h0 : 0 < m) (h : m < 2 ^ 62) : OW (f__law_draw [.hnd, .int m] s) fun p => ∃ n, p.1 = .int n ∧ 0 ≤ n ∧ n < m := by
  have hl := log_lt h0 h
  unfold f__law_draw
  simp only [mDef_eq, outD_nx, outD_rt, startE, sNil, sSeq, thenS_nx, thenS_rt, thenS_bk, thenS_ct, sAsg, sIf, sRet, sRetN, sDrop, sBrk, sCnt, sFor, sOwn, ownAt, sApp, sExt, sPut, sFrz, sPar, mIxO, mLenO, mTupO, mVar, mC, mU, mB, mNil, mCons, mF, mIsT, mAndT, mOrT, mNotT, mAnd, mOr, mNot, mIf, mChain, mPart, mNoPart, mSl, mCall, mIt, mRng, mComp, mYes, gdName, gdTup, gdCons, gdNil, wipeE, tupItems_tup, lstItems_lst, bl_bl, int_int, mHx_eq, mHlen_eq, mHcell_eq, sHput_eq, isH_hnd, hget1, hget2, hget3, hget4, hset1, hset2, hset3, hset4, eq_int, ne_int, lt_int, gt_int, le_int, ge_int, eq_bl, add_int, add_tup, add_lst, sub_int, neg_int, isN_hi, notN_hi, mul_int, div_int, mod_int, pow_int, abs_int, intC_int, len_tup, len_lst, tup_D, lst_D, rt_D, Bool.not_not, Bool.not_true, Bool.not_false, true_and, and_true, false_and, and_false, or_true, true_or, or_false, false_or, List.length_cons, List.length_nil, List.length_append, List.length_map, List.map_cons, List.map_nil, List.replicate_succ, List.replicate_zero, List.cons_append, List.nil_append, List.append_nil, List.set_cons_zero, List.set_cons_succ, List.getElem?_cons_zero, List.getElem?_cons_succ, Option.bind_some, Option.map_some, Option.bind_none, Option.map_none, OW_some, OW_bind, OW_map, OW_if, Bool.false_eq_true, if_true, if_false, ↓reduceIte, Nat.reduceAdd, Nat.reduceSub, Nat.zero_add, Nat.sub_self, Function.comp]
  by_cases c : s.pos < s.cells.length
  · simp only [atI_nat c, OW_some, mulI_r (j := 69621) (by decide), mulI_l (i := 7919) (by decide), mulI_r (j := 48271) (by decide), modI_ok (j := 2147483629) (by decide), modI_ok (j := 2147483647) (by decide), modI_ok (j := 2147483399) (by decide),
      mulI_mod (c := 2147483647) (by decide) (by decide), modI_ok h0, divI_ok h0 hl, pow_10_18, divI_ok (j := 1009) (by decide) (by decide +kernel), divI_ok (j := 2003) (by decide) (by decide +kernel), divI_ok (j := 16) (by decide) (by decide +kernel), leaf h0, ite_self]
    have e : (0 : Int) ≤ (s.pos : Int) + 1 := by omega
    simp only [e, if_true, ite_self]
  · have e : decide ((s.pos : Int) < (s.cells.length : Int)) = false := decide_eq_false (by omega)
    simp only [e, OW_some, mulI_r (j := 69621) (by decide), mulI_l (i := 7919) (by decide), mulI_r (j := 48271) (by decide), modI_ok (j := 2147483629) (by decide), modI_ok (j := 2147483647) (by decide), modI_ok (j := 2147483399) (by decide),
      mulI_mod (c := 2147483647) (by decide) (by decide), modI_ok h0, divI_ok h0 hl, pow_10_18, divI_ok (j := 1009) (by decide) (by decide +kernel), divI_ok (j := 2003) (by decide) (by decide +kernel), divI_ok (j := 16) (by decide) (by decide +kernel), leaf h0, ite_self, Bool.false_eq_true, if_false]
theorem pure_is_integer {d : D} {s : Hand} (h : noH d = true) : f_is_integer [d] s = some (.bl (match d with | .int _ => true | _ => false), s) := by
  cases d with
  | hnd => cases h
  | _ => rfl
theorem pure_is_within {d : D} {s : Hand} {l m : Int} (h : noH d = true) : f_is_within [d, .int l, .int m] s = some (.bl (inR l m d), s) := by
  refine eq_of_OW ?_
  unfold f_is_within
  simp only [mDef_eq, outD_nx, outD_rt, startE, sNil, sSeq, thenS_nx, thenS_rt, thenS_bk, thenS_ct, sAsg, sIf, sRet, sRetN, sDrop, sBrk, sCnt, sFor, sOwn, ownAt, sApp, sExt, sPut, sFrz, sPar, mIxO, mLenO, mTupO, mVar, mC, mU, mB, mNil, mCons, mF, mIsT, mAndT, mOrT, mNotT, mAnd, mOr, mNot, mIf, mChain, mPart, mNoPart, mSl, mCall, mIt, mRng, mComp, mYes, gdName, gdTup, gdCons, gdNil, wipeE, tupItems_tup, lstItems_lst, bl_bl, int_int, mHx_eq, mHlen_eq, mHcell_eq, sHput_eq, isH_hnd, hget1, hget2, hget3, hget4, hset1, hset2, hset3, hset4, eq_int, ne_int, lt_int, gt_int, le_int, ge_int, eq_bl, add_int, add_tup, add_lst, sub_int, neg_int, isN_hi, notN_hi, mul_int, div_int, mod_int, pow_int, abs_int, intC_int, len_tup, len_lst, tup_D, lst_D, rt_D, Bool.not_not, Bool.not_true, Bool.not_false, true_and, and_true, false_and, and_false, or_true, true_or, or_false, false_or, List.length_cons, List.length_nil, List.length_append, List.length_map, List.map_cons, List.map_nil, List.replicate_succ, List.replicate_zero, List.cons_append, List.nil_append, List.append_nil, List.set_cons_zero, List.set_cons_succ, List.getElem?_cons_zero, List.getElem?_cons_succ, Option.bind_some, Option.map_some, Option.bind_none, Option.map_none, OW_some, OW_bind, OW_map, OW_if, Bool.false_eq_true, if_true, if_false, ↓reduceIte, Nat.reduceAdd, Nat.reduceSub, Nat.zero_add, Nat.sub_self, Function.comp, pure_is_integer h]
  cases d with
  | hnd => cases h
  | int i =>
    simp only [mDef_eq, outD_nx, outD_rt, startE, sNil, sSeq, thenS_nx, thenS_rt, thenS_bk, thenS_ct, sAsg, sIf, sRet, sRetN, sDrop, sBrk, sCnt, sFor, sOwn, ownAt, sApp, sExt, sPut, sFrz, sPar, mIxO, mLenO, mTupO, mVar, mC, mU, mB, mNil, mCons, mF, mIsT, mAndT, mOrT, mNotT, mAnd, mOr, mNot, mIf, mChain, mPart, mNoPart, mSl, mCall, mIt, mRng, mComp, mYes, gdName, gdTup, gdCons, gdNil, wipeE, tupItems_tup, lstItems_lst, bl_bl, int_int, mHx_eq, mHlen_eq, mHcell_eq, sHput_eq, isH_hnd, hget1, hget2, hget3, hget4, hset1, hset2, hset3, hset4, eq_int, ne_int, lt_int, gt_int, le_int, ge_int, eq_bl, add_int, add_tup, add_lst, sub_int, neg_int, isN_hi, notN_hi, mul_int, div_int, mod_int, pow_int, abs_int, intC_int, len_tup, len_lst, tup_D, lst_D, rt_D, Bool.not_not, Bool.not_true, Bool.not_false, true_and, and_true, false_and, and_false, or_true, true_or, or_false, false_or, List.length_cons, List.length_nil, List.length_append, List.length_map, List.map_cons, List.map_nil, List.replicate_succ, List.replicate_zero, List.cons_append, List.nil_append, List.append_nil, List.set_cons_zero, List.set_cons_succ, List.getElem?_cons_zero, List.getElem?_cons_succ, Option.bind_some, Option.map_some, Option.bind_none, Option.map_none, OW_some, OW_bind, OW_map, OW_if, Bool.false_eq_true, if_true, if_false, ↓reduceIte, Nat.reduceAdd, Nat.reduceSub, Nat.zero_add, Nat.sub_self, Function.comp, inR]
    cases decide (l ≤ i) <;> rfl
  | _ => rfl
theorem pure_is_version {d : D} {s : Hand} (h : noH d = true) : f_is_version [d] s = some (.bl (isV d), s) := by
  refine eq_of_OW ?_
  unfold f_is_version
  simp only [mDef_eq, outD_nx, outD_rt, startE, sNil, sSeq, thenS_nx, thenS_rt, thenS_bk, thenS_ct, sAsg, sIf, sRet, sRetN, sDrop, sBrk, sCnt, sFor, sOwn, ownAt, sApp, sExt, sPut, sFrz, sPar, mIxO, mLenO, mTupO, mVar, mC, mU, mB, mNil, mCons, mF, mIsT, mAndT, mOrT, mNotT, mAnd, mOr, mNot, mIf, mChain, mPart, mNoPart, mSl, mCall, mIt, mRng, mComp, mYes, gdName, gdTup, gdCons, gdNil, wipeE, tupItems_tup, lstItems_lst, bl_bl, int_int, mHx_eq, mHlen_eq, mHcell_eq, sHput_eq, isH_hnd, hget1, hget2, hget3, hget4, hset1, hset2, hset3, hset4, eq_int, ne_int, lt_int, gt_int, le_int, ge_int, eq_bl, add_int, add_tup, add_lst, sub_int, neg_int, isN_hi, notN_hi, mul_int, div_int, mod_int, pow_int, abs_int, intC_int, len_tup, len_lst, tup_D, lst_D, rt_D, Bool.not_not, Bool.not_true, Bool.not_false, true_and, and_true, false_and, and_false, or_true, true_or, or_false, false_or, List.length_cons, List.length_nil, List.length_append, List.length_map, List.map_cons, List.map_nil, List.replicate_succ, List.replicate_zero, List.cons_append, List.nil_append, List.append_nil, List.set_cons_zero, List.set_cons_succ, List.getElem?_cons_zero, List.getElem?_cons_succ, Option.bind_some, Option.map_some, Option.bind_none, Option.map_none, OW_some, OW_bind, OW_map, OW_if, Bool.false_eq_true, if_true, if_false, ↓reduceIte, Nat.reduceAdd, Nat.reduceSub, Nat.zero_add, Nat.sub_self, Function.comp, isi_of h]
  cases d with
  | tup ds =>
    have e : compL (gdName 1) mYes c_is_version_0 [some (.dat (.tup ds)), none] ds s = some (ds.map fun x => .bl (inR 0 1000000 x), s) := by
      refine comp_pure fun x hx => ⟨_, rfl, ?_⟩
      unfold c_is_version_0
      simp only [mDef_eq, outD_nx, outD_rt, startE, sNil, sSeq, thenS_nx, thenS_rt, thenS_bk, thenS_ct, sAsg, sIf, sRet, sRetN, sDrop, sBrk, sCnt, sFor, sOwn, ownAt, sApp, sExt, sPut, sFrz, sPar, mIxO, mLenO, mTupO, mVar, mC, mU, mB, mNil, mCons, mF, mIsT, mAndT, mOrT, mNotT, mAnd, mOr, mNot, mIf, mChain, mPart, mNoPart, mSl, mCall, mIt, mRng, mComp, mYes, gdName, gdTup, gdCons, gdNil, wipeE, tupItems_tup, lstItems_lst, bl_bl, int_int, mHx_eq, mHlen_eq, mHcell_eq, sHput_eq, isH_hnd, hget1, hget2, hget3, hget4, hset1, hset2, hset3, hset4, eq_int, ne_int, lt_int, gt_int, le_int, ge_int, eq_bl, add_int, add_tup, add_lst, sub_int, neg_int, isN_hi, notN_hi, mul_int, div_int, mod_int, pow_int, abs_int, intC_int, len_tup, len_lst, tup_D, lst_D, rt_D, Bool.not_not, Bool.not_true, Bool.not_false, true_and, and_true, false_and, and_false, or_true, true_or, or_false, false_or, List.length_cons, List.length_nil, List.length_append, List.length_map, List.map_cons, List.map_nil, List.replicate_succ, List.replicate_zero, List.cons_append, List.nil_append, List.append_nil, List.set_cons_zero, List.set_cons_succ, List.getElem?_cons_zero, List.getElem?_cons_succ, Option.bind_some, Option.map_some, Option.bind_none, Option.map_none, OW_some, OW_bind, OW_map, OW_if, Bool.false_eq_true, if_true, if_false, ↓reduceIte, Nat.reduceAdd, Nat.reduceSub, Nat.zero_add, Nat.sub_self, Function.comp, pure_is_within (noHL_mem (show noHL ds = true from h) hx)]
    have hl : ((ds.length : Int) == 3) = (ds.length == 3) := by
      rw [Bool.eq_iff_iff]
      simp
      omega
    simp only [mDef_eq, outD_nx, outD_rt, startE, sNil, sSeq, thenS_nx, thenS_rt, thenS_bk, thenS_ct, sAsg, sIf, sRet, sRetN, sDrop, sBrk, sCnt, sFor, sOwn, ownAt, sApp, sExt, sPut, sFrz, sPar, mIxO, mLenO, mTupO, mVar, mC, mU, mB, mNil, mCons, mF, mIsT, mAndT, mOrT, mNotT, mAnd, mOr, mNot, mIf, mChain, mPart, mNoPart, mSl, mCall, mIt, mRng, mComp, mYes, gdName, gdTup, gdCons, gdNil, wipeE, tupItems_tup, lstItems_lst, bl_bl, int_int, mHx_eq, mHlen_eq, mHcell_eq, sHput_eq, isH_hnd, hget1, hget2, hget3, hget4, hset1, hset2, hset3, hset4, eq_int, ne_int, lt_int, gt_int, le_int, ge_int, eq_bl, add_int, add_tup, add_lst, sub_int, neg_int, isN_hi, notN_hi, mul_int, div_int, mod_int, pow_int, abs_int, intC_int, len_tup, len_lst, tup_D, lst_D, rt_D, Bool.not_not, Bool.not_true, Bool.not_false, true_and, and_true, false_and, and_false, or_true, true_or, or_false, false_or, List.length_cons, List.length_nil, List.length_append, List.length_map, List.map_cons, List.map_nil, List.replicate_succ, List.replicate_zero, List.cons_append, List.nil_append, List.append_nil, List.set_cons_zero, List.set_cons_succ, List.getElem?_cons_zero, List.getElem?_cons_succ, Option.bind_some, Option.map_some, Option.bind_none, Option.map_none, OW_some, OW_bind, OW_map, OW_if, Bool.false_eq_true, if_true, if_false, ↓reduceIte, Nat.reduceAdd, Nat.reduceSub, Nat.zero_add, Nat.sub_self, Function.comp, isI, OW_eq e, OW_eq all_map, isV, hl]
    cases ds.length == 3 <;> simp
  | hnd => cases h
  | _ => rfl
theorem len_eq3 {ds : List D} {k : Nat} : ((ds.length : Int) == (k : Int)) = (ds.length == k) := by
  rw [Bool.eq_iff_iff, beq_iff_eq, beq_iff_eq]
  omega
open Classical in
noncomputable def dS (d : D) : Bool := decide (IsS d)
open Classical in
theorem dS_true {d : D} (h : IsS d) : dS d = true := by
  unfold dS
  exact decide_eq_true h
open Classical in
theorem dS_false {d : D} (h : ¬ IsS d) : dS d = false := by
  unfold dS
  exact decide_eq_false h
theorem noS_len {ds : List D} (h : ds.length ≠ 2) : ¬ IsS (.tup ds) := fun ⟨p, _, e⟩ => by
  cases e
  exact h rfl
theorem noS_fst {a b : D} (h : isV a ≠ true) : ¬ IsS (.tup [a, b]) := fun ⟨p, hp, e⟩ => by
  cases e
  exact h (ver_isV hp.1)
theorem S_snd {x : Int} {b : D} : IsS (.tup [verD x, b]) ↔ OkV x ∧ (b = .non ∨ ∃ y, OkV y ∧ b = verD y ∧ x < y) := by
  constructor
  · rintro ⟨⟨lo, hi⟩, hp, e⟩
    unfold strD at e
    rw [D.tup.injEq] at e
    simp only [List.cons.injEq, and_true] at e
    obtain ⟨e1, e2⟩ := e
    cases ver_inj e1
    refine ⟨hp.1, ?_⟩
    cases hi with
    | none => exact .inl e2
    | some y => exact .inr ⟨y, (hp.2 y rfl).1, e2, (hp.2 y rfl).2⟩
  · rintro ⟨hx, e | ⟨y, hy, e, hlt⟩⟩
    · subst e
      exact ⟨(x, none), ⟨hx, fun _ h => by cases h⟩, rfl⟩
    · subst e
      exact ⟨(x, some y), ⟨hx, fun z h => by cases h; exact ⟨hy, hlt⟩⟩, rfl⟩
theorem isND_non {b : D} : isND b .non = some (.bl (isNonD b)) := by cases b <;> rfl
theorem notND_non {b : D} : notND b .non = some (.bl (!isNonD b)) := by cases b <;> rfl
theorem noH2 {a b : D} (h : noH (.tup [a, b]) = true) : noH a = true ∧ noH b = true := by
  have h' : (noH a && (noH b && true)) = true := h
  rw [Bool.and_true, Bool.and_eq_true] at h'
  exact h'
theorem pure_is_stretch {d : D} {s : Hand} (h : noH d = true) : f_is_stretch [d] s = some (.bl (dS d), s) := by
  refine eq_of_OW ?_
  unfold f_is_stretch
  simp only [mDef_eq, outD_nx, outD_rt, startE, sNil, sSeq, thenS_nx, thenS_rt, thenS_bk, thenS_ct, sAsg, sIf, sRet, sRetN, sDrop, sBrk, sCnt, sFor, sOwn, ownAt, sApp, sExt, sPut, sFrz, sPar, mIxO, mLenO, mTupO, mVar, mC, mU, mB, mNil, mCons, mF, mIsT, mAndT, mOrT, mNotT, mAnd, mOr, mNot, mIf, mChain, mPart, mNoPart, mSl, mCall, mIt, mRng, mComp, mYes, gdName, gdTup, gdCons, gdNil, wipeE, tupItems_tup, lstItems_lst, bl_bl, int_int, mHx_eq, mHlen_eq, mHcell_eq, sHput_eq, isH_hnd, hget1, hget2, hget3, hget4, hset1, hset2, hset3, hset4, eq_int, ne_int, lt_int, gt_int, le_int, ge_int, eq_bl, add_int, add_tup, add_lst, sub_int, neg_int, isN_hi, notN_hi, mul_int, div_int, mod_int, pow_int, abs_int, intC_int, len_tup, len_lst, tup_D, lst_D, rt_D, Bool.not_not, Bool.not_true, Bool.not_false, true_and, and_true, false_and, and_false, or_true, true_or, or_false, false_or, List.length_cons, List.length_nil, List.length_append, List.length_map, List.map_cons, List.map_nil, List.replicate_succ, List.replicate_zero, List.cons_append, List.nil_append, List.append_nil, List.set_cons_zero, List.set_cons_succ, List.getElem?_cons_zero, List.getElem?_cons_succ, Option.bind_some, Option.map_some, Option.bind_none, Option.map_none, OW_some, OW_bind, OW_map, OW_if, Bool.false_eq_true, if_true, if_false, ↓reduceIte, Nat.reduceAdd, Nat.reduceSub, Nat.zero_add, Nat.sub_self, Function.comp, isi_of h]
  cases d with
  | tup ds =>
    have hl : ((ds.length : Int) == 2) = (ds.length == 2) := len_eq3 (k := 2)
    simp only [mDef_eq, outD_nx, outD_rt, startE, sNil, sSeq, thenS_nx, thenS_rt, thenS_bk, thenS_ct, sAsg, sIf, sRet, sRetN, sDrop, sBrk, sCnt, sFor, sOwn, ownAt, sApp, sExt, sPut, sFrz, sPar, mIxO, mLenO, mTupO, mVar, mC, mU, mB, mNil, mCons, mF, mIsT, mAndT, mOrT, mNotT, mAnd, mOr, mNot, mIf, mChain, mPart, mNoPart, mSl, mCall, mIt, mRng, mComp, mYes, gdName, gdTup, gdCons, gdNil, wipeE, tupItems_tup, lstItems_lst, bl_bl, int_int, mHx_eq, mHlen_eq, mHcell_eq, sHput_eq, isH_hnd, hget1, hget2, hget3, hget4, hset1, hset2, hset3, hset4, eq_int, ne_int, lt_int, gt_int, le_int, ge_int, eq_bl, add_int, add_tup, add_lst, sub_int, neg_int, isN_hi, notN_hi, mul_int, div_int, mod_int, pow_int, abs_int, intC_int, len_tup, len_lst, tup_D, lst_D, rt_D, Bool.not_not, Bool.not_true, Bool.not_false, true_and, and_true, false_and, and_false, or_true, true_or, or_false, false_or, List.length_cons, List.length_nil, List.length_append, List.length_map, List.map_cons, List.map_nil, List.replicate_succ, List.replicate_zero, List.cons_append, List.nil_append, List.append_nil, List.set_cons_zero, List.set_cons_succ, List.getElem?_cons_zero, List.getElem?_cons_succ, Option.bind_some, Option.map_some, Option.bind_none, Option.map_none, OW_some, OW_bind, OW_map, OW_if, Bool.false_eq_true, if_true, if_false, ↓reduceIte, Nat.reduceAdd, Nat.reduceSub, Nat.zero_add, Nat.sub_self, Function.comp, isI, hl]
    by_cases c : ds.length = 2
    · match ds, c with
      | [a, b], _ =>
        obtain ⟨ha, hb⟩ := noH2 h
        simp only [mDef_eq, outD_nx, outD_rt, startE, sNil, sSeq, thenS_nx, thenS_rt, thenS_bk, thenS_ct, sAsg, sIf, sRet, sRetN, sDrop, sBrk, sCnt, sFor, sOwn, ownAt, sApp, sExt, sPut, sFrz, sPar, mIxO, mLenO, mTupO, mVar, mC, mU, mB, mNil, mCons, mF, mIsT, mAndT, mOrT, mNotT, mAnd, mOr, mNot, mIf, mChain, mPart, mNoPart, mSl, mCall, mIt, mRng, mComp, mYes, gdName, gdTup, gdCons, gdNil, wipeE, tupItems_tup, lstItems_lst, bl_bl, int_int, mHx_eq, mHlen_eq, mHcell_eq, sHput_eq, isH_hnd, hget1, hget2, hget3, hget4, hset1, hset2, hset3, hset4, eq_int, ne_int, lt_int, gt_int, le_int, ge_int, eq_bl, add_int, add_tup, add_lst, sub_int, neg_int, isN_hi, notN_hi, mul_int, div_int, mod_int, pow_int, abs_int, intC_int, len_tup, len_lst, tup_D, lst_D, rt_D, Bool.not_not, Bool.not_true, Bool.not_false, true_and, and_true, false_and, and_false, or_true, true_or, or_false, false_or, List.length_cons, List.length_nil, List.length_append, List.length_map, List.map_cons, List.map_nil, List.replicate_succ, List.replicate_zero, List.cons_append, List.nil_append, List.append_nil, List.set_cons_zero, List.set_cons_succ, List.getElem?_cons_zero, List.getElem?_cons_succ, Option.bind_some, Option.map_some, Option.bind_none, Option.map_none, OW_some, OW_bind, OW_map, OW_if, Bool.false_eq_true, if_true, if_false, ↓reduceIte, Nat.reduceAdd, Nat.reduceSub, Nat.zero_add, Nat.sub_self, Function.comp, ix_0, ix_1, pure_is_version ha, pure_is_version hb, isND_non, beq_self_eq_true]
        by_cases cv : isV a = true
        · obtain ⟨x, hx, e⟩ := isV_ver cv
          subst e
          simp only [cv, mDef_eq, outD_nx, outD_rt, startE, sNil, sSeq, thenS_nx, thenS_rt, thenS_bk, thenS_ct, sAsg, sIf, sRet, sRetN, sDrop, sBrk, sCnt, sFor, sOwn, ownAt, sApp, sExt, sPut, sFrz, sPar, mIxO, mLenO, mTupO, mVar, mC, mU, mB, mNil, mCons, mF, mIsT, mAndT, mOrT, mNotT, mAnd, mOr, mNot, mIf, mChain, mPart, mNoPart, mSl, mCall, mIt, mRng, mComp, mYes, gdName, gdTup, gdCons, gdNil, wipeE, tupItems_tup, lstItems_lst, bl_bl, int_int, mHx_eq, mHlen_eq, mHcell_eq, sHput_eq, isH_hnd, hget1, hget2, hget3, hget4, hset1, hset2, hset3, hset4, eq_int, ne_int, lt_int, gt_int, le_int, ge_int, eq_bl, add_int, add_tup, add_lst, sub_int, neg_int, isN_hi, notN_hi, mul_int, div_int, mod_int, pow_int, abs_int, intC_int, len_tup, len_lst, tup_D, lst_D, rt_D, Bool.not_not, Bool.not_true, Bool.not_false, true_and, and_true, false_and, and_false, or_true, true_or, or_false, false_or, List.length_cons, List.length_nil, List.length_append, List.length_map, List.map_cons, List.map_nil, List.replicate_succ, List.replicate_zero, List.cons_append, List.nil_append, List.append_nil, List.set_cons_zero, List.set_cons_succ, List.getElem?_cons_zero, List.getElem?_cons_succ, Option.bind_some, Option.map_some, Option.bind_none, Option.map_none, OW_some, OW_bind, OW_map, OW_if, Bool.false_eq_true, if_true, if_false, ↓reduceIte, Nat.reduceAdd, Nat.reduceSub, Nat.zero_add, Nat.sub_self, Function.comp]
          by_cases cn : b = .non
          · subst cn
            simp only [isNonD, if_true, dS_true (S_snd.mpr ⟨hx, .inl rfl⟩)]
          · have cn' : isNonD b = false := by
              cases b with
              | non => exact absurd rfl cn
              | _ => rfl
            simp only [cn', mDef_eq, outD_nx, outD_rt, startE, sNil, sSeq, thenS_nx, thenS_rt, thenS_bk, thenS_ct, sAsg, sIf, sRet, sRetN, sDrop, sBrk, sCnt, sFor, sOwn, ownAt, sApp, sExt, sPut, sFrz, sPar, mIxO, mLenO, mTupO, mVar, mC, mU, mB, mNil, mCons, mF, mIsT, mAndT, mOrT, mNotT, mAnd, mOr, mNot, mIf, mChain, mPart, mNoPart, mSl, mCall, mIt, mRng, mComp, mYes, gdName, gdTup, gdCons, gdNil, wipeE, tupItems_tup, lstItems_lst, bl_bl, int_int, mHx_eq, mHlen_eq, mHcell_eq, sHput_eq, isH_hnd, hget1, hget2, hget3, hget4, hset1, hset2, hset3, hset4, eq_int, ne_int, lt_int, gt_int, le_int, ge_int, eq_bl, add_int, add_tup, add_lst, sub_int, neg_int, isN_hi, notN_hi, mul_int, div_int, mod_int, pow_int, abs_int, intC_int, len_tup, len_lst, tup_D, lst_D, rt_D, Bool.not_not, Bool.not_true, Bool.not_false, true_and, and_true, false_and, and_false, or_true, true_or, or_false, false_or, List.length_cons, List.length_nil, List.length_append, List.length_map, List.map_cons, List.map_nil, List.replicate_succ, List.replicate_zero, List.cons_append, List.nil_append, List.append_nil, List.set_cons_zero, List.set_cons_succ, List.getElem?_cons_zero, List.getElem?_cons_succ, Option.bind_some, Option.map_some, Option.bind_none, Option.map_none, OW_some, OW_bind, OW_map, OW_if, Bool.false_eq_true, if_true, if_false, ↓reduceIte, Nat.reduceAdd, Nat.reduceSub, Nat.zero_add, Nat.sub_self, Function.comp]
            by_cases cb : isV b = true
            · obtain ⟨y, hy, e⟩ := isV_ver cb
              subst e
              simp only [cb, if_true, OW_eq (lt_ver hx hy)]
              by_cases hlt : x < y
              · rw [dS_true (S_snd.mpr ⟨hx, .inr ⟨y, hy, rfl, hlt⟩⟩), decide_eq_true hlt]
              · rw [dS_false fun z => ?_, decide_eq_false hlt]
                rcases (S_snd.mp z).2 with e | ⟨y', _, e, h3⟩
                · cases e
                · rw [ver_inj e] at hlt
                  exact hlt h3
            · simp only [cb, mDef_eq, outD_nx, outD_rt, startE, sNil, sSeq, thenS_nx, thenS_rt, thenS_bk, thenS_ct, sAsg, sIf, sRet, sRetN, sDrop, sBrk, sCnt, sFor, sOwn, ownAt, sApp, sExt, sPut, sFrz, sPar, mIxO, mLenO, mTupO, mVar, mC, mU, mB, mNil, mCons, mF, mIsT, mAndT, mOrT, mNotT, mAnd, mOr, mNot, mIf, mChain, mPart, mNoPart, mSl, mCall, mIt, mRng, mComp, mYes, gdName, gdTup, gdCons, gdNil, wipeE, tupItems_tup, lstItems_lst, bl_bl, int_int, mHx_eq, mHlen_eq, mHcell_eq, sHput_eq, isH_hnd, hget1, hget2, hget3, hget4, hset1, hset2, hset3, hset4, eq_int, ne_int, lt_int, gt_int, le_int, ge_int, eq_bl, add_int, add_tup, add_lst, sub_int, neg_int, isN_hi, notN_hi, mul_int, div_int, mod_int, pow_int, abs_int, intC_int, len_tup, len_lst, tup_D, lst_D, rt_D, Bool.not_not, Bool.not_true, Bool.not_false, true_and, and_true, false_and, and_false, or_true, true_or, or_false, false_or, List.length_cons, List.length_nil, List.length_append, List.length_map, List.map_cons, List.map_nil, List.replicate_succ, List.replicate_zero, List.cons_append, List.nil_append, List.append_nil, List.set_cons_zero, List.set_cons_succ, List.getElem?_cons_zero, List.getElem?_cons_succ, Option.bind_some, Option.map_some, Option.bind_none, Option.map_none, OW_some, OW_bind, OW_map, OW_if, Bool.false_eq_true, if_true, if_false, ↓reduceIte, Nat.reduceAdd, Nat.reduceSub, Nat.zero_add, Nat.sub_self, Function.comp]
              rw [dS_false fun z => ?_]
              rcases (S_snd.mp z).2 with e | ⟨y', h2, e, h3⟩
              · exact cn e
              · rw [e] at cb
                exact cb (ver_isV h2)
        · simp only [cv, mDef_eq, outD_nx, outD_rt, startE, sNil, sSeq, thenS_nx, thenS_rt, thenS_bk, thenS_ct, sAsg, sIf, sRet, sRetN, sDrop, sBrk, sCnt, sFor, sOwn, ownAt, sApp, sExt, sPut, sFrz, sPar, mIxO, mLenO, mTupO, mVar, mC, mU, mB, mNil, mCons, mF, mIsT, mAndT, mOrT, mNotT, mAnd, mOr, mNot, mIf, mChain, mPart, mNoPart, mSl, mCall, mIt, mRng, mComp, mYes, gdName, gdTup, gdCons, gdNil, wipeE, tupItems_tup, lstItems_lst, bl_bl, int_int, mHx_eq, mHlen_eq, mHcell_eq, sHput_eq, isH_hnd, hget1, hget2, hget3, hget4, hset1, hset2, hset3, hset4, eq_int, ne_int, lt_int, gt_int, le_int, ge_int, eq_bl, add_int, add_tup, add_lst, sub_int, neg_int, isN_hi, notN_hi, mul_int, div_int, mod_int, pow_int, abs_int, intC_int, len_tup, len_lst, tup_D, lst_D, rt_D, Bool.not_not, Bool.not_true, Bool.not_false, true_and, and_true, false_and, and_false, or_true, true_or, or_false, false_or, List.length_cons, List.length_nil, List.length_append, List.length_map, List.map_cons, List.map_nil, List.replicate_succ, List.replicate_zero, List.cons_append, List.nil_append, List.append_nil, List.set_cons_zero, List.set_cons_succ, List.getElem?_cons_zero, List.getElem?_cons_succ, Option.bind_some, Option.map_some, Option.bind_none, Option.map_none, OW_some, OW_bind, OW_map, OW_if, Bool.false_eq_true, if_true, if_false, ↓reduceIte, Nat.reduceAdd, Nat.reduceSub, Nat.zero_add, Nat.sub_self, Function.comp, dS_false (noS_fst cv)]
    · have c' : (ds.length == 2) = false := by simpa using c
      simp only [c', mDef_eq, outD_nx, outD_rt, startE, sNil, sSeq, thenS_nx, thenS_rt, thenS_bk, thenS_ct, sAsg, sIf, sRet, sRetN, sDrop, sBrk, sCnt, sFor, sOwn, ownAt, sApp, sExt, sPut, sFrz, sPar, mIxO, mLenO, mTupO, mVar, mC, mU, mB, mNil, mCons, mF, mIsT, mAndT, mOrT, mNotT, mAnd, mOr, mNot, mIf, mChain, mPart, mNoPart, mSl, mCall, mIt, mRng, mComp, mYes, gdName, gdTup, gdCons, gdNil, wipeE, tupItems_tup, lstItems_lst, bl_bl, int_int, mHx_eq, mHlen_eq, mHcell_eq, sHput_eq, isH_hnd, hget1, hget2, hget3, hget4, hset1, hset2, hset3, hset4, eq_int, ne_int, lt_int, gt_int, le_int, ge_int, eq_bl, add_int, add_tup, add_lst, sub_int, neg_int, isN_hi, notN_hi, mul_int, div_int, mod_int, pow_int, abs_int, intC_int, len_tup, len_lst, tup_D, lst_D, rt_D, Bool.not_not, Bool.not_true, Bool.not_false, true_and, and_true, false_and, and_false, or_true, true_or, or_false, false_or, List.length_cons, List.length_nil, List.length_append, List.length_map, List.map_cons, List.map_nil, List.replicate_succ, List.replicate_zero, List.cons_append, List.nil_append, List.append_nil, List.set_cons_zero, List.set_cons_succ, List.getElem?_cons_zero, List.getElem?_cons_succ, Option.bind_some, Option.map_some, Option.bind_none, Option.map_none, OW_some, OW_bind, OW_map, OW_if, Bool.false_eq_true, if_true, if_false, ↓reduceIte, Nat.reduceAdd, Nat.reduceSub, Nat.zero_add, Nat.sub_self, Function.comp, dS_false (noS_len c)]
  | hnd => cases h
  | _ =>
    simp only [mDef_eq, outD_nx, outD_rt, startE, sNil, sSeq, thenS_nx, thenS_rt, thenS_bk, thenS_ct, sAsg, sIf, sRet, sRetN, sDrop, sBrk, sCnt, sFor, sOwn, ownAt, sApp, sExt, sPut, sFrz, sPar, mIxO, mLenO, mTupO, mVar, mC, mU, mB, mNil, mCons, mF, mIsT, mAndT, mOrT, mNotT, mAnd, mOr, mNot, mIf, mChain, mPart, mNoPart, mSl, mCall, mIt, mRng, mComp, mYes, gdName, gdTup, gdCons, gdNil, wipeE, tupItems_tup, lstItems_lst, bl_bl, int_int, mHx_eq, mHlen_eq, mHcell_eq, sHput_eq, isH_hnd, hget1, hget2, hget3, hget4, hset1, hset2, hset3, hset4, eq_int, ne_int, lt_int, gt_int, le_int, ge_int, eq_bl, add_int, add_tup, add_lst, sub_int, neg_int, isN_hi, notN_hi, mul_int, div_int, mod_int, pow_int, abs_int, intC_int, len_tup, len_lst, tup_D, lst_D, rt_D, Bool.not_not, Bool.not_true, Bool.not_false, true_and, and_true, false_and, and_false, or_true, true_or, or_false, false_or, List.length_cons, List.length_nil, List.length_append, List.length_map, List.map_cons, List.map_nil, List.replicate_succ, List.replicate_zero, List.cons_append, List.nil_append, List.append_nil, List.set_cons_zero, List.set_cons_succ, List.getElem?_cons_zero, List.getElem?_cons_succ, Option.bind_some, Option.map_some, Option.bind_none, Option.map_none, OW_some, OW_bind, OW_map, OW_if, Bool.false_eq_true, if_true, if_false, ↓reduceIte, Nat.reduceAdd, Nat.reduceSub, Nat.zero_add, Nat.sub_self, Function.comp, isI]
    rw [dS_false fun ⟨p, _, e⟩ => by cases e]
theorem get_mid {α : Type} (a : List α) (x : α) (b : List α) : (a ++ x :: b)[a.length]? = some x := by
  rw [List.getElem?_append_right (Nat.le_refl _), Nat.sub_self]
  rfl
theorem get_mid2 {α : Type} (a : List α) (x y : α) (b : List α) : (a ++ x :: y :: b)[a.length + 1]? = some y := by
  rw [List.getElem?_append_right (by omega), show a.length + 1 - a.length = 1 by omega]
  rfl
/-! how a plain walk ends -/
def Qn (P : DE → Prop) (s : Hand) : OutS Hand → Prop
  | .nx env s' => P env ∧ s' = s
  | _ => False
theorem Qn.mono {P P' : DE → Prop} {s : Hand} {o : OutS Hand} (h : Qn P s o) (g : ∀ env, P env → P' env) : Qn P' s o := by
  cases o with
  | nx env s' => exact ⟨g env h.1, h.2⟩
  | _ => exact h.elim
theorem Qn.get {P : DE → Prop} {s : Hand} {o : OutS Hand} (h : Qn P s o) : ∃ env, o = .nx env s ∧ P env := by
  cases o with
  | nx env s' =>
    obtain ⟨h1, h2⟩ := h
    subst h2
    exact ⟨env, rfl, h1⟩
  | _ => exact h.elim
/-- the walk's end, and then -/
theorem OW.walk {P : DE → Prop} {s : Hand} {x : Option (OutS Hand)} {Q : OutS Hand → Prop} (h : OW x (Qn P s)) (g : ∀ env, P env → Q (.nx env s)) : OW x Q := OW.mono h fun o r => by
  obtain ⟨env, e, p⟩ := r.get
  rw [e]
  exact g env p
def OkH (h : Option Int) : Prop := ∀ x, h = some x → OkV x
theorem pure_lesser {a b : Option Int} {s : Hand} (ha : OkH a) (hb : OkH b) : f_lesser_high [hiD a, hiD b] s = some (hiD (minH a b), s) := by
  refine eq_of_OW ?_
  unfold f_lesser_high
  simp only [mDef_eq, outD_nx, outD_rt, startE, sNil, sSeq, thenS_nx, thenS_rt, thenS_bk, thenS_ct, sAsg, sIf, sRet, sRetN, sDrop, sBrk, sCnt, sFor, sOwn, ownAt, sApp, sExt, sPut, sFrz, sPar, mIxO, mLenO, mTupO, mVar, mC, mU, mB, mNil, mCons, mF, mIsT, mAndT, mOrT, mNotT, mAnd, mOr, mNot, mIf, mChain, mPart, mNoPart, mSl, mCall, mIt, mRng, mComp, mYes, gdName, gdTup, gdCons, gdNil, wipeE, tupItems_tup, lstItems_lst, bl_bl, int_int, mHx_eq, mHlen_eq, mHcell_eq, sHput_eq, isH_hnd, hget1, hget2, hget3, hget4, hset1, hset2, hset3, hset4, eq_int, ne_int, lt_int, gt_int, le_int, ge_int, eq_bl, add_int, add_tup, add_lst, sub_int, neg_int, isN_hi, notN_hi, mul_int, div_int, mod_int, pow_int, abs_int, intC_int, len_tup, len_lst, tup_D, lst_D, rt_D, Bool.not_not, Bool.not_true, Bool.not_false, true_and, and_true, false_and, and_false, or_true, true_or, or_false, false_or, List.length_cons, List.length_nil, List.length_append, List.length_map, List.map_cons, List.map_nil, List.replicate_succ, List.replicate_zero, List.cons_append, List.nil_append, List.append_nil, List.set_cons_zero, List.set_cons_succ, List.getElem?_cons_zero, List.getElem?_cons_succ, Option.bind_some, Option.map_some, Option.bind_none, Option.map_none, OW_some, OW_bind, OW_map, OW_if, Bool.false_eq_true, if_true, if_false, ↓reduceIte, Nat.reduceAdd, Nat.reduceSub, Nat.zero_add, Nat.sub_self, Function.comp]
  cases a with
  | none =>
    simp only [Option.isNone_none, mDef_eq, outD_nx, outD_rt, startE, sNil, sSeq, thenS_nx, thenS_rt, thenS_bk, thenS_ct, sAsg, sIf, sRet, sRetN, sDrop, sBrk, sCnt, sFor, sOwn, ownAt, sApp, sExt, sPut, sFrz, sPar, mIxO, mLenO, mTupO, mVar, mC, mU, mB, mNil, mCons, mF, mIsT, mAndT, mOrT, mNotT, mAnd, mOr, mNot, mIf, mChain, mPart, mNoPart, mSl, mCall, mIt, mRng, mComp, mYes, gdName, gdTup, gdCons, gdNil, wipeE, tupItems_tup, lstItems_lst, bl_bl, int_int, mHx_eq, mHlen_eq, mHcell_eq, sHput_eq, isH_hnd, hget1, hget2, hget3, hget4, hset1, hset2, hset3, hset4, eq_int, ne_int, lt_int, gt_int, le_int, ge_int, eq_bl, add_int, add_tup, add_lst, sub_int, neg_int, isN_hi, notN_hi, mul_int, div_int, mod_int, pow_int, abs_int, intC_int, len_tup, len_lst, tup_D, lst_D, rt_D, Bool.not_not, Bool.not_true, Bool.not_false, true_and, and_true, false_and, and_false, or_true, true_or, or_false, false_or, List.length_cons, List.length_nil, List.length_append, List.length_map, List.map_cons, List.map_nil, List.replicate_succ, List.replicate_zero, List.cons_append, List.nil_append, List.append_nil, List.set_cons_zero, List.set_cons_succ, List.getElem?_cons_zero, List.getElem?_cons_succ, Option.bind_some, Option.map_some, Option.bind_none, Option.map_none, OW_some, OW_bind, OW_map, OW_if, Bool.false_eq_true, if_true, if_false, ↓reduceIte, Nat.reduceAdd, Nat.reduceSub, Nat.zero_add, Nat.sub_self, Function.comp]
    rfl
  | some x =>
    cases b with
    | none =>
      simp only [Option.isNone_none, Option.isNone_some, mDef_eq, outD_nx, outD_rt, startE, sNil, sSeq, thenS_nx, thenS_rt, thenS_bk, thenS_ct, sAsg, sIf, sRet, sRetN, sDrop, sBrk, sCnt, sFor, sOwn, ownAt, sApp, sExt, sPut, sFrz, sPar, mIxO, mLenO, mTupO, mVar, mC, mU, mB, mNil, mCons, mF, mIsT, mAndT, mOrT, mNotT, mAnd, mOr, mNot, mIf, mChain, mPart, mNoPart, mSl, mCall, mIt, mRng, mComp, mYes, gdName, gdTup, gdCons, gdNil, wipeE, tupItems_tup, lstItems_lst, bl_bl, int_int, mHx_eq, mHlen_eq, mHcell_eq, sHput_eq, isH_hnd, hget1, hget2, hget3, hget4, hset1, hset2, hset3, hset4, eq_int, ne_int, lt_int, gt_int, le_int, ge_int, eq_bl, add_int, add_tup, add_lst, sub_int, neg_int, isN_hi, notN_hi, mul_int, div_int, mod_int, pow_int, abs_int, intC_int, len_tup, len_lst, tup_D, lst_D, rt_D, Bool.not_not, Bool.not_true, Bool.not_false, true_and, and_true, false_and, and_false, or_true, true_or, or_false, false_or, List.length_cons, List.length_nil, List.length_append, List.length_map, List.map_cons, List.map_nil, List.replicate_succ, List.replicate_zero, List.cons_append, List.nil_append, List.append_nil, List.set_cons_zero, List.set_cons_succ, List.getElem?_cons_zero, List.getElem?_cons_succ, Option.bind_some, Option.map_some, Option.bind_none, Option.map_none, OW_some, OW_bind, OW_map, OW_if, Bool.false_eq_true, if_true, if_false, ↓reduceIte, Nat.reduceAdd, Nat.reduceSub, Nat.zero_add, Nat.sub_self, Function.comp]
      rfl
    | some y =>
      simp only [Option.isNone_some, mDef_eq, outD_nx, outD_rt, startE, sNil, sSeq, thenS_nx, thenS_rt, thenS_bk, thenS_ct, sAsg, sIf, sRet, sRetN, sDrop, sBrk, sCnt, sFor, sOwn, ownAt, sApp, sExt, sPut, sFrz, sPar, mIxO, mLenO, mTupO, mVar, mC, mU, mB, mNil, mCons, mF, mIsT, mAndT, mOrT, mNotT, mAnd, mOr, mNot, mIf, mChain, mPart, mNoPart, mSl, mCall, mIt, mRng, mComp, mYes, gdName, gdTup, gdCons, gdNil, wipeE, tupItems_tup, lstItems_lst, bl_bl, int_int, mHx_eq, mHlen_eq, mHcell_eq, sHput_eq, isH_hnd, hget1, hget2, hget3, hget4, hset1, hset2, hset3, hset4, eq_int, ne_int, lt_int, gt_int, le_int, ge_int, eq_bl, add_int, add_tup, add_lst, sub_int, neg_int, isN_hi, notN_hi, mul_int, div_int, mod_int, pow_int, abs_int, intC_int, len_tup, len_lst, tup_D, lst_D, rt_D, Bool.not_not, Bool.not_true, Bool.not_false, true_and, and_true, false_and, and_false, or_true, true_or, or_false, false_or, List.length_cons, List.length_nil, List.length_append, List.length_map, List.map_cons, List.map_nil, List.replicate_succ, List.replicate_zero, List.cons_append, List.nil_append, List.append_nil, List.set_cons_zero, List.set_cons_succ, List.getElem?_cons_zero, List.getElem?_cons_succ, Option.bind_some, Option.map_some, Option.bind_none, Option.map_none, OW_some, OW_bind, OW_map, OW_if, Bool.false_eq_true, if_true, if_false, ↓reduceIte, Nat.reduceAdd, Nat.reduceSub, Nat.zero_add, Nat.sub_self, Function.comp, hiD, OW_eq (lt_ver (ha x rfl) (hb y rfl)), minH]
      by_cases c : x < y
      · rw [decide_eq_true c, if_pos c]; rfl
      · rw [decide_eq_false c, if_neg c]; rfl
theorem pure_below {v : Int} {h : Option Int} {s : Hand} (hv : OkV v) (hh : OkH h) : f_is_below [verD v, hiD h] s = some (.bl (below v h), s) := by
  refine eq_of_OW ?_
  unfold f_is_below
  simp only [mDef_eq, outD_nx, outD_rt, startE, sNil, sSeq, thenS_nx, thenS_rt, thenS_bk, thenS_ct, sAsg, sIf, sRet, sRetN, sDrop, sBrk, sCnt, sFor, sOwn, ownAt, sApp, sExt, sPut, sFrz, sPar, mIxO, mLenO, mTupO, mVar, mC, mU, mB, mNil, mCons, mF, mIsT, mAndT, mOrT, mNotT, mAnd, mOr, mNot, mIf, mChain, mPart, mNoPart, mSl, mCall, mIt, mRng, mComp, mYes, gdName, gdTup, gdCons, gdNil, wipeE, tupItems_tup, lstItems_lst, bl_bl, int_int, mHx_eq, mHlen_eq, mHcell_eq, sHput_eq, isH_hnd, hget1, hget2, hget3, hget4, hset1, hset2, hset3, hset4, eq_int, ne_int, lt_int, gt_int, le_int, ge_int, eq_bl, add_int, add_tup, add_lst, sub_int, neg_int, isN_hi, notN_hi, mul_int, div_int, mod_int, pow_int, abs_int, intC_int, len_tup, len_lst, tup_D, lst_D, rt_D, Bool.not_not, Bool.not_true, Bool.not_false, true_and, and_true, false_and, and_false, or_true, true_or, or_false, false_or, List.length_cons, List.length_nil, List.length_append, List.length_map, List.map_cons, List.map_nil, List.replicate_succ, List.replicate_zero, List.cons_append, List.nil_append, List.append_nil, List.set_cons_zero, List.set_cons_succ, List.getElem?_cons_zero, List.getElem?_cons_succ, Option.bind_some, Option.map_some, Option.bind_none, Option.map_none, OW_some, OW_bind, OW_map, OW_if, Bool.false_eq_true, if_true, if_false, ↓reduceIte, Nat.reduceAdd, Nat.reduceSub, Nat.zero_add, Nat.sub_self, Function.comp]
  cases h with
  | none =>
    simp only [Option.isNone_none, mDef_eq, outD_nx, outD_rt, startE, sNil, sSeq, thenS_nx, thenS_rt, thenS_bk, thenS_ct, sAsg, sIf, sRet, sRetN, sDrop, sBrk, sCnt, sFor, sOwn, ownAt, sApp, sExt, sPut, sFrz, sPar, mIxO, mLenO, mTupO, mVar, mC, mU, mB, mNil, mCons, mF, mIsT, mAndT, mOrT, mNotT, mAnd, mOr, mNot, mIf, mChain, mPart, mNoPart, mSl, mCall, mIt, mRng, mComp, mYes, gdName, gdTup, gdCons, gdNil, wipeE, tupItems_tup, lstItems_lst, bl_bl, int_int, mHx_eq, mHlen_eq, mHcell_eq, sHput_eq, isH_hnd, hget1, hget2, hget3, hget4, hset1, hset2, hset3, hset4, eq_int, ne_int, lt_int, gt_int, le_int, ge_int, eq_bl, add_int, add_tup, add_lst, sub_int, neg_int, isN_hi, notN_hi, mul_int, div_int, mod_int, pow_int, abs_int, intC_int, len_tup, len_lst, tup_D, lst_D, rt_D, Bool.not_not, Bool.not_true, Bool.not_false, true_and, and_true, false_and, and_false, or_true, true_or, or_false, false_or, List.length_cons, List.length_nil, List.length_append, List.length_map, List.map_cons, List.map_nil, List.replicate_succ, List.replicate_zero, List.cons_append, List.nil_append, List.append_nil, List.set_cons_zero, List.set_cons_succ, List.getElem?_cons_zero, List.getElem?_cons_succ, Option.bind_some, Option.map_some, Option.bind_none, Option.map_none, OW_some, OW_bind, OW_map, OW_if, Bool.false_eq_true, if_true, if_false, ↓reduceIte, Nat.reduceAdd, Nat.reduceSub, Nat.zero_add, Nat.sub_self, Function.comp]
    rfl
  | some x => simp only [Option.isNone_some, mDef_eq, outD_nx, outD_rt, startE, sNil, sSeq, thenS_nx, thenS_rt, thenS_bk, thenS_ct, sAsg, sIf, sRet, sRetN, sDrop, sBrk, sCnt, sFor, sOwn, ownAt, sApp, sExt, sPut, sFrz, sPar, mIxO, mLenO, mTupO, mVar, mC, mU, mB, mNil, mCons, mF, mIsT, mAndT, mOrT, mNotT, mAnd, mOr, mNot, mIf, mChain, mPart, mNoPart, mSl, mCall, mIt, mRng, mComp, mYes, gdName, gdTup, gdCons, gdNil, wipeE, tupItems_tup, lstItems_lst, bl_bl, int_int, mHx_eq, mHlen_eq, mHcell_eq, sHput_eq, isH_hnd, hget1, hget2, hget3, hget4, hset1, hset2, hset3, hset4, eq_int, ne_int, lt_int, gt_int, le_int, ge_int, eq_bl, add_int, add_tup, add_lst, sub_int, neg_int, isN_hi, notN_hi, mul_int, div_int, mod_int, pow_int, abs_int, intC_int, len_tup, len_lst, tup_D, lst_D, rt_D, Bool.not_not, Bool.not_true, Bool.not_false, true_and, and_true, false_and, and_false, or_true, true_or, or_false, false_or, List.length_cons, List.length_nil, List.length_append, List.length_map, List.map_cons, List.map_nil, List.replicate_succ, List.replicate_zero, List.cons_append, List.nil_append, List.append_nil, List.set_cons_zero, List.set_cons_succ, List.getElem?_cons_zero, List.getElem?_cons_succ, Option.bind_some, Option.map_some, Option.bind_none, Option.map_none, OW_some, OW_bind, OW_map, OW_if, Bool.false_eq_true, if_true, if_false, ↓reduceIte, Nat.reduceAdd, Nat.reduceSub, Nat.zero_add, Nat.sub_self, Function.comp, hiD, OW_eq (lt_ver hv (hh x rfl)), below]
def bothI (p : Int × Option Int) (other : Rng) : Rng := other.flatMap fun q => if below (if p.1 < q.1 then q.1 else p.1) (minH p.2 q.2) = true then [(if p.1 < q.1 then q.1 else p.1, minH p.2 q.2)] else []
theorem bothI_len (p : Int × Option Int) : ∀ other : Rng, (bothI p other).length ≤ other.length
  | [] => Nat.le_refl _
  | q :: other => by
    have := bothI_len p other
    have e : bothI p (q :: other) = (if below (if p.1 < q.1 then q.1 else p.1) (minH p.2 q.2) = true then [(if p.1 < q.1 then q.1 else p.1, minH p.2 q.2)] else []) ++ bothI p other := rfl
    rw [e, List.length_append, List.length_cons]
    by_cases c : below (if p.1 < q.1 then q.1 else p.1) (minH p.2 q.2) = true
    · rw [if_pos c, List.length_singleton]; omega
    · rw [if_neg c, List.length_nil]; omega
theorem minH_ok {a b : Option Int} (ha : OkH a) (hb : OkH b) : OkH (minH a b) := by
  intro x e
  cases a with
  | none => exact hb x e
  | some y => cases b with
    | none => exact ha x e
    | some z =>
      have e' : (if y < z then some y else some z) = some x := e
      by_cases c : y < z
      · rw [if_pos c] at e'; exact ha x e'
      · rw [if_neg c] at e'; exact hb x e'
theorem both_in {s : Hand} {A B : Option Slot} {lo : Int} {hi : Option Int} (hlo : OkV lo) (hhi : OkH hi) : ∀ (qs : Rng) (acc : Rng) (e5 e6 e7 e8 : Option Slot), (∀ q ∈ qs, OkV q.1 ∧ OkH q.2) → acc.length + qs.length < 16777216 →
    OW (loopS (gdTup 2 (gdCons (gdName 5) (gdCons (gdName 6) gdNil))) b_both_1 (qs.map strD) [A, B, some (.own (acc.map strD)), some (.dat (verD lo)), some (.dat (hiD hi)), e5, e6, e7, e8] s)
      (Qn (fun env => ∃ e5 e6 e7 e8, env = [A, B, some (.own ((acc ++ bothI (lo, hi) qs).map strD)), some (.dat (verD lo)), some (.dat (hiD hi)), e5, e6, e7, e8]) s)
  | [], acc, e5, e6, e7, e8, hq, hz => by
    show OW (some _) _
    rw [OW_some]
    exact ⟨⟨e5, e6, e7, e8, by rw [show bothI (lo, hi) [] = [] from rfl, List.append_nil]⟩, rfl⟩
  | q :: qs, acc, e5, e6, e7, e8, hq, hz => by
    obtain ⟨dn, top⟩ := q
    obtain ⟨hdn, htop⟩ := hq (dn, top) (List.mem_cons_self ..)
    have hqs : ∀ q ∈ qs, OkV q.1 ∧ OkH q.2 := fun q h => hq q (List.mem_cons_of_mem _ h)
    rw [List.length_cons] at hz
    rw [List.map_cons]
    unfold loopS
    have es : strD (dn, top) = .tup [verD dn, hiD top] := rfl
    have em : maxD [verD lo, verD dn] = some (verD (if lo < dn then dn else lo)) := by
      rw [max_ver hlo hdn]
      split <;> rfl
    have hm : OkV (if lo < dn then dn else lo) := by split <;> assumption
    have hsz : acc.length < sizeLine := by rw [sizeLine_eq]; omega
    have hs2 : (0 + 1 + 1 ≤ sizeLine) = True := eq_true (by rw [sizeLine_eq]; omega)
    have hb : bothI (lo, hi) ((dn, top) :: qs) = (if below (if lo < dn then dn else lo) (minH hi top) = true then [(if lo < dn then dn else lo, minH hi top)] else []) ++ bothI (lo, hi) qs := rfl
    simp only [es, mDef_eq, outD_nx, outD_rt, startE, sNil, sSeq, thenS_nx, thenS_rt, thenS_bk, thenS_ct, sAsg, sIf, sRet, sRetN, sDrop, sBrk, sCnt, sFor, sOwn, ownAt, sApp, sExt, sPut, sFrz, sPar, mIxO, mLenO, mTupO, mVar, mC, mU, mB, mNil, mCons, mF, mIsT, mAndT, mOrT, mNotT, mAnd, mOr, mNot, mIf, mChain, mPart, mNoPart, mSl, mCall, mIt, mRng, mComp, mYes, gdName, gdTup, gdCons, gdNil, wipeE, tupItems_tup, lstItems_lst, bl_bl, int_int, mHx_eq, mHlen_eq, mHcell_eq, sHput_eq, isH_hnd, hget1, hget2, hget3, hget4, hset1, hset2, hset3, hset4, eq_int, ne_int, lt_int, gt_int, le_int, ge_int, eq_bl, add_int, add_tup, add_lst, sub_int, neg_int, isN_hi, notN_hi, mul_int, div_int, mod_int, pow_int, abs_int, intC_int, len_tup, len_lst, tup_D, lst_D, rt_D, Bool.not_not, Bool.not_true, Bool.not_false, true_and, and_true, false_and, and_false, or_true, true_or, or_false, false_or, List.length_cons, List.length_nil, List.length_append, List.length_map, List.map_cons, List.map_nil, List.replicate_succ, List.replicate_zero, List.cons_append, List.nil_append, List.append_nil, List.set_cons_zero, List.set_cons_succ, List.getElem?_cons_zero, List.getElem?_cons_succ, Option.bind_some, Option.map_some, Option.bind_none, Option.map_none, OW_some, OW_bind, OW_map, OW_if, Bool.false_eq_true, if_true, if_false, ↓reduceIte, Nat.reduceAdd, Nat.reduceSub, Nat.zero_add, Nat.sub_self, Function.comp, b_both_1_eq, OW_eq em, pure_lesser hhi htop, pure_below hm (minH_ok hhi htop), hs2]
    by_cases c : below (if lo < dn then dn else lo) (minH hi top) = true
    · simp only [c, mDef_eq, outD_nx, outD_rt, startE, sNil, sSeq, thenS_nx, thenS_rt, thenS_bk, thenS_ct, sAsg, sIf, sRet, sRetN, sDrop, sBrk, sCnt, sFor, sOwn, ownAt, sApp, sExt, sPut, sFrz, sPar, mIxO, mLenO, mTupO, mVar, mC, mU, mB, mNil, mCons, mF, mIsT, mAndT, mOrT, mNotT, mAnd, mOr, mNot, mIf, mChain, mPart, mNoPart, mSl, mCall, mIt, mRng, mComp, mYes, gdName, gdTup, gdCons, gdNil, wipeE, tupItems_tup, lstItems_lst, bl_bl, int_int, mHx_eq, mHlen_eq, mHcell_eq, sHput_eq, isH_hnd, hget1, hget2, hget3, hget4, hset1, hset2, hset3, hset4, eq_int, ne_int, lt_int, gt_int, le_int, ge_int, eq_bl, add_int, add_tup, add_lst, sub_int, neg_int, isN_hi, notN_hi, mul_int, div_int, mod_int, pow_int, abs_int, intC_int, len_tup, len_lst, tup_D, lst_D, rt_D, Bool.not_not, Bool.not_true, Bool.not_false, true_and, and_true, false_and, and_false, or_true, true_or, or_false, false_or, List.length_cons, List.length_nil, List.length_append, List.length_map, List.map_cons, List.map_nil, List.replicate_succ, List.replicate_zero, List.cons_append, List.nil_append, List.append_nil, List.set_cons_zero, List.set_cons_succ, List.getElem?_cons_zero, List.getElem?_cons_succ, Option.bind_some, Option.map_some, Option.bind_none, Option.map_none, OW_some, OW_bind, OW_map, OW_if, Bool.false_eq_true, if_true, if_false, ↓reduceIte, Nat.reduceAdd, Nat.reduceSub, Nat.zero_add, Nat.sub_self, Function.comp, hsz]
      refine OW.mono ?_ fun o r => r
      have ih := both_in (s := s) (A := A) (B := B) hlo hhi qs (acc ++ [(if lo < dn then dn else lo, minH hi top)]) (some (.dat (verD dn))) (some (.dat (hiD top))) (some (.dat (verD (if lo < dn then dn else lo)))) (some (.dat (hiD (minH hi top)))) hqs (by rw [List.length_append, List.length_singleton]; omega)
      rw [hb, if_pos c, ← List.append_assoc]
      rw [List.map_append] at ih
      exact ih
    · simp only [c, mDef_eq, outD_nx, outD_rt, startE, sNil, sSeq, thenS_nx, thenS_rt, thenS_bk, thenS_ct, sAsg, sIf, sRet, sRetN, sDrop, sBrk, sCnt, sFor, sOwn, ownAt, sApp, sExt, sPut, sFrz, sPar, mIxO, mLenO, mTupO, mVar, mC, mU, mB, mNil, mCons, mF, mIsT, mAndT, mOrT, mNotT, mAnd, mOr, mNot, mIf, mChain, mPart, mNoPart, mSl, mCall, mIt, mRng, mComp, mYes, gdName, gdTup, gdCons, gdNil, wipeE, tupItems_tup, lstItems_lst, bl_bl, int_int, mHx_eq, mHlen_eq, mHcell_eq, sHput_eq, isH_hnd, hget1, hget2, hget3, hget4, hset1, hset2, hset3, hset4, eq_int, ne_int, lt_int, gt_int, le_int, ge_int, eq_bl, add_int, add_tup, add_lst, sub_int, neg_int, isN_hi, notN_hi, mul_int, div_int, mod_int, pow_int, abs_int, intC_int, len_tup, len_lst, tup_D, lst_D, rt_D, Bool.not_not, Bool.not_true, Bool.not_false, true_and, and_true, false_and, and_false, or_true, true_or, or_false, false_or, List.length_cons, List.length_nil, List.length_append, List.length_map, List.map_cons, List.map_nil, List.replicate_succ, List.replicate_zero, List.cons_append, List.nil_append, List.append_nil, List.set_cons_zero, List.set_cons_succ, List.getElem?_cons_zero, List.getElem?_cons_succ, Option.bind_some, Option.map_some, Option.bind_none, Option.map_none, OW_some, OW_bind, OW_map, OW_if, Bool.false_eq_true, if_true, if_false, ↓reduceIte, Nat.reduceAdd, Nat.reduceSub, Nat.zero_add, Nat.sub_self, Function.comp]
      have ih := both_in (s := s) (A := A) (B := B) hlo hhi qs acc (some (.dat (verD dn))) (some (.dat (hiD top))) (some (.dat (verD (if lo < dn then dn else lo)))) (some (.dat (hiD (minH hi top)))) hqs (by omega)
      rw [hb, if_neg c, List.nil_append]
      exact ih
theorem both_out {s : Hand} {A : Option Slot} {other : Rng} (ho : ∀ q ∈ other, OkV q.1 ∧ OkH q.2) : ∀ (ps : Rng) (acc : Rng) (e3 e4 e5 e6 e7 e8 : Option Slot), (∀ q ∈ ps, OkV q.1 ∧ OkH q.2) → acc.length + ps.length * other.length + other.length < 16777216 →
    OW (loopS (gdTup 2 (gdCons (gdName 3) (gdCons (gdName 4) gdNil))) b_both_0 (ps.map strD) [A, some (.dat (rngD other)), some (.own (acc.map strD)), e3, e4, e5, e6, e7, e8] s)
      (Qn (fun env => ∃ e3 e4 e5 e6 e7 e8, env = [A, some (.dat (rngD other)), some (.own ((acc ++ bothR ps other).map strD)), e3, e4, e5, e6, e7, e8]) s)
  | [], acc, e3, e4, e5, e6, e7, e8, hq, hz => by
    show OW (some _) _
    rw [OW_some]
    exact ⟨⟨e3, e4, e5, e6, e7, e8, by rw [show bothR [] other = [] from rfl, List.append_nil]⟩, rfl⟩
  | p :: ps, acc, e3, e4, e5, e6, e7, e8, hq, hz => by
    obtain ⟨lo, hi⟩ := p
    obtain ⟨hlo, hhi⟩ := hq (lo, hi) (List.mem_cons_self ..)
    rw [List.length_cons, Nat.add_mul, Nat.one_mul] at hz
    have hin := both_in (s := s) (A := A) (B := some (.dat (rngD other))) hlo hhi other acc e5 e6 e7 e8 ho (by omega)
    rw [List.map_cons]
    unfold loopS
    have es : strD (lo, hi) = .tup [verD lo, hiD hi] := rfl
    have er : tupItems (rngD other) = some (other.map strD) := rfl
    simp only [es, mDef_eq, outD_nx, outD_rt, startE, sNil, sSeq, thenS_nx, thenS_rt, thenS_bk, thenS_ct, sAsg, sIf, sRet, sRetN, sDrop, sBrk, sCnt, sFor, sOwn, ownAt, sApp, sExt, sPut, sFrz, sPar, mIxO, mLenO, mTupO, mVar, mC, mU, mB, mNil, mCons, mF, mIsT, mAndT, mOrT, mNotT, mAnd, mOr, mNot, mIf, mChain, mPart, mNoPart, mSl, mCall, mIt, mRng, mComp, mYes, gdName, gdTup, gdCons, gdNil, wipeE, tupItems_tup, lstItems_lst, bl_bl, int_int, mHx_eq, mHlen_eq, mHcell_eq, sHput_eq, isH_hnd, hget1, hget2, hget3, hget4, hset1, hset2, hset3, hset4, eq_int, ne_int, lt_int, gt_int, le_int, ge_int, eq_bl, add_int, add_tup, add_lst, sub_int, neg_int, isN_hi, notN_hi, mul_int, div_int, mod_int, pow_int, abs_int, intC_int, len_tup, len_lst, tup_D, lst_D, rt_D, Bool.not_not, Bool.not_true, Bool.not_false, true_and, and_true, false_and, and_false, or_true, true_or, or_false, false_or, List.length_cons, List.length_nil, List.length_append, List.length_map, List.map_cons, List.map_nil, List.replicate_succ, List.replicate_zero, List.cons_append, List.nil_append, List.append_nil, List.set_cons_zero, List.set_cons_succ, List.getElem?_cons_zero, List.getElem?_cons_succ, Option.bind_some, Option.map_some, Option.bind_none, Option.map_none, OW_some, OW_bind, OW_map, OW_if, Bool.false_eq_true, if_true, if_false, ↓reduceIte, Nat.reduceAdd, Nat.reduceSub, Nat.zero_add, Nat.sub_self, Function.comp, b_both_0_eq, er]
    refine OW.walk hin fun env he => ?_
    obtain ⟨e5', e6', e7', e8', he⟩ := he
    subst he
    have hb : bothR ((lo, hi) :: ps) other = bothI (lo, hi) other ++ bothR ps other := rfl
    have := bothI_len (lo, hi) other
    have ih := both_out (s := s) (A := A) ho ps (acc ++ bothI (lo, hi) other) (some (.dat (verD lo))) (some (.dat (hiD hi))) e5' e6' e7' e8' (fun q h => hq q (List.mem_cons_of_mem _ h)) (by rw [List.length_append]; omega)
    rw [hb, ← List.append_assoc]
    exact ih
theorem OkS.two {p : Int × Option Int} (h : OkS p) : OkV p.1 ∧ OkH p.2 := ⟨h.1, fun x e => (h.2 x e).1⟩
theorem pure_both {one other : Rng} {s : Hand} (h1 : ∀ q ∈ one, OkV q.1 ∧ OkH q.2) (h2 : ∀ q ∈ other, OkV q.1 ∧ OkH q.2) (hz : one.length * other.length + other.length < 16777216) : f_both [rngD one, rngD other] s = some (rngD (bothR one other), s) := by
  refine eq_of_OW ?_
  unfold f_both
  have er : tupItems (rngD one) = some (one.map strD) := rfl
  have hs0 : (0 ≤ sizeLine) = True := eq_true (Nat.zero_le _)
  simp only [mDef_eq, outD_nx, outD_rt, startE, sNil, sSeq, thenS_nx, thenS_rt, thenS_bk, thenS_ct, sAsg, sIf, sRet, sRetN, sDrop, sBrk, sCnt, sFor, sOwn, ownAt, sApp, sExt, sPut, sFrz, sPar, mIxO, mLenO, mTupO, mVar, mC, mU, mB, mNil, mCons, mF, mIsT, mAndT, mOrT, mNotT, mAnd, mOr, mNot, mIf, mChain, mPart, mNoPart, mSl, mCall, mIt, mRng, mComp, mYes, gdName, gdTup, gdCons, gdNil, wipeE, tupItems_tup, lstItems_lst, bl_bl, int_int, mHx_eq, mHlen_eq, mHcell_eq, sHput_eq, isH_hnd, hget1, hget2, hget3, hget4, hset1, hset2, hset3, hset4, eq_int, ne_int, lt_int, gt_int, le_int, ge_int, eq_bl, add_int, add_tup, add_lst, sub_int, neg_int, isN_hi, notN_hi, mul_int, div_int, mod_int, pow_int, abs_int, intC_int, len_tup, len_lst, tup_D, lst_D, rt_D, Bool.not_not, Bool.not_true, Bool.not_false, true_and, and_true, false_and, and_false, or_true, true_or, or_false, false_or, List.length_cons, List.length_nil, List.length_append, List.length_map, List.map_cons, List.map_nil, List.replicate_succ, List.replicate_zero, List.cons_append, List.nil_append, List.append_nil, List.set_cons_zero, List.set_cons_succ, List.getElem?_cons_zero, List.getElem?_cons_succ, Option.bind_some, Option.map_some, Option.bind_none, Option.map_none, OW_some, OW_bind, OW_map, OW_if, Bool.false_eq_true, if_true, if_false, ↓reduceIte, Nat.reduceAdd, Nat.reduceSub, Nat.zero_add, Nat.sub_self, Function.comp, er, hs0]
  refine OW.walk (both_out (s := s) (A := some (.dat (rngD one))) h2 one [] none none none none none none h1 (by rw [List.length_nil]; omega)) fun env he => ?_
  obtain ⟨e3, e4, e5, e6, e7, e8, he⟩ := he
  subst he
  simp only [mDef_eq, outD_nx, outD_rt, startE, sNil, sSeq, thenS_nx, thenS_rt, thenS_bk, thenS_ct, sAsg, sIf, sRet, sRetN, sDrop, sBrk, sCnt, sFor, sOwn, ownAt, sApp, sExt, sPut, sFrz, sPar, mIxO, mLenO, mTupO, mVar, mC, mU, mB, mNil, mCons, mF, mIsT, mAndT, mOrT, mNotT, mAnd, mOr, mNot, mIf, mChain, mPart, mNoPart, mSl, mCall, mIt, mRng, mComp, mYes, gdName, gdTup, gdCons, gdNil, wipeE, tupItems_tup, lstItems_lst, bl_bl, int_int, mHx_eq, mHlen_eq, mHcell_eq, sHput_eq, isH_hnd, hget1, hget2, hget3, hget4, hset1, hset2, hset3, hset4, eq_int, ne_int, lt_int, gt_int, le_int, ge_int, eq_bl, add_int, add_tup, add_lst, sub_int, neg_int, isN_hi, notN_hi, mul_int, div_int, mod_int, pow_int, abs_int, intC_int, len_tup, len_lst, tup_D, lst_D, rt_D, Bool.not_not, Bool.not_true, Bool.not_false, true_and, and_true, false_and, and_false, or_true, true_or, or_false, false_or, List.length_cons, List.length_nil, List.length_append, List.length_map, List.map_cons, List.map_nil, List.replicate_succ, List.replicate_zero, List.cons_append, List.nil_append, List.append_nil, List.set_cons_zero, List.set_cons_succ, List.getElem?_cons_zero, List.getElem?_cons_succ, Option.bind_some, Option.map_some, Option.bind_none, Option.map_none, OW_some, OW_bind, OW_map, OW_if, Bool.false_eq_true, if_true, if_false, ↓reduceIte, Nat.reduceAdd, Nat.reduceSub, Nat.zero_add, Nat.sub_self, Function.comp]
  rfl
def tlO : Option Int → Rng
  | none => []
  | some b => [(b, none)]
theorem out_loop {s : Hand} {A : Option Slot} : ∀ (r : Rng) (acc : Rng) (o : Option Int) (e3 e4 : Option Slot), (∀ q ∈ r, OkV q.1 ∧ OkH q.2) → OkH o → acc.length + r.length < 16777216 →
    OW (loopS (gdTup 2 (gdCons (gdName 3) (gdCons (gdName 4) gdNil))) b_outside_0 (r.map strD) [A, some (.own (acc.map strD)), some (.dat (hiD o)), e3, e4] s)
      (Qn (fun env => ∃ acc' o' e3 e4, env = [A, some (.own (acc'.map strD)), some (.dat (hiD o')), e3, e4] ∧ acc' ++ tlO o' = acc ++ outR o r ∧ acc'.length ≤ acc.length + r.length) s)
  | [], acc, o, e3, e4, hq, ho, hz => by
    show OW (some _) _
    rw [OW_some]
    refine ⟨⟨acc, o, e3, e4, rfl, ?_, Nat.le_refl _⟩, rfl⟩
    cases o <;> rfl
  | q :: r, acc, o, e3, e4, hq, ho, hz => by
    obtain ⟨lo, hi⟩ := q
    obtain ⟨hlo, hhi⟩ := hq (lo, hi) (List.mem_cons_self ..)
    have hr : ∀ q ∈ r, OkV q.1 ∧ OkH q.2 := fun q h => hq q (List.mem_cons_of_mem _ h)
    rw [List.length_cons] at hz
    rw [List.map_cons]
    unfold loopS
    have es : strD (lo, hi) = .tup [verD lo, hiD hi] := rfl
    have hsz : acc.length < sizeLine := by rw [sizeLine_eq]; omega
    have hs2 : (0 + 1 + 1 ≤ sizeLine) = True := eq_true (by rw [sizeLine_eq]; omega)
    simp only [es, mDef_eq, outD_nx, outD_rt, startE, sNil, sSeq, thenS_nx, thenS_rt, thenS_bk, thenS_ct, sAsg, sIf, sRet, sRetN, sDrop, sBrk, sCnt, sFor, sOwn, ownAt, sApp, sExt, sPut, sFrz, sPar, mIxO, mLenO, mTupO, mVar, mC, mU, mB, mNil, mCons, mF, mIsT, mAndT, mOrT, mNotT, mAnd, mOr, mNot, mIf, mChain, mPart, mNoPart, mSl, mCall, mIt, mRng, mComp, mYes, gdName, gdTup, gdCons, gdNil, wipeE, tupItems_tup, lstItems_lst, bl_bl, int_int, mHx_eq, mHlen_eq, mHcell_eq, sHput_eq, isH_hnd, hget1, hget2, hget3, hget4, hset1, hset2, hset3, hset4, eq_int, ne_int, lt_int, gt_int, le_int, ge_int, eq_bl, add_int, add_tup, add_lst, sub_int, neg_int, isN_hi, notN_hi, mul_int, div_int, mod_int, pow_int, abs_int, intC_int, len_tup, len_lst, tup_D, lst_D, rt_D, Bool.not_not, Bool.not_true, Bool.not_false, true_and, and_true, false_and, and_false, or_true, true_or, or_false, false_or, List.length_cons, List.length_nil, List.length_append, List.length_map, List.map_cons, List.map_nil, List.replicate_succ, List.replicate_zero, List.cons_append, List.nil_append, List.append_nil, List.set_cons_zero, List.set_cons_succ, List.getElem?_cons_zero, List.getElem?_cons_succ, Option.bind_some, Option.map_some, Option.bind_none, Option.map_none, OW_some, OW_bind, OW_map, OW_if, Bool.false_eq_true, if_true, if_false, ↓reduceIte, Nat.reduceAdd, Nat.reduceSub, Nat.zero_add, Nat.sub_self, Function.comp, b_outside_0_eq]
    have stay : outR o ((lo, hi) :: r) = outR hi r → OW (loopS (gdTup 2 (gdCons (gdName 3) (gdCons (gdName 4) gdNil))) b_outside_0 (r.map strD) [A, some (.own (acc.map strD)), some (.dat (hiD hi)), some (.dat (verD lo)), some (.dat (hiD hi))] s)
      (Qn (fun env => ∃ acc' o' e3 e4, env = [A, some (.own (acc'.map strD)), some (.dat (hiD o')), e3, e4] ∧ acc' ++ tlO o' = acc ++ outR o ((lo, hi) :: r) ∧ acc'.length ≤ acc.length + (r.length + 1)) s) := fun e => by
      refine OW.mono (out_loop (s := s) (A := A) r acc hi (some (.dat (verD lo))) (some (.dat (hiD hi))) hr hhi (by omega)) fun x h => h.mono fun env ⟨a, o', e3, e4, h1, h2, h3⟩ => ⟨a, o', e3, e4, h1, by rw [e]; exact h2, by omega⟩
    cases o with
    | none =>
      simp only [Option.isSome_none, mDef_eq, outD_nx, outD_rt, startE, sNil, sSeq, thenS_nx, thenS_rt, thenS_bk, thenS_ct, sAsg, sIf, sRet, sRetN, sDrop, sBrk, sCnt, sFor, sOwn, ownAt, sApp, sExt, sPut, sFrz, sPar, mIxO, mLenO, mTupO, mVar, mC, mU, mB, mNil, mCons, mF, mIsT, mAndT, mOrT, mNotT, mAnd, mOr, mNot, mIf, mChain, mPart, mNoPart, mSl, mCall, mIt, mRng, mComp, mYes, gdName, gdTup, gdCons, gdNil, wipeE, tupItems_tup, lstItems_lst, bl_bl, int_int, mHx_eq, mHlen_eq, mHcell_eq, sHput_eq, isH_hnd, hget1, hget2, hget3, hget4, hset1, hset2, hset3, hset4, eq_int, ne_int, lt_int, gt_int, le_int, ge_int, eq_bl, add_int, add_tup, add_lst, sub_int, neg_int, isN_hi, notN_hi, mul_int, div_int, mod_int, pow_int, abs_int, intC_int, len_tup, len_lst, tup_D, lst_D, rt_D, Bool.not_not, Bool.not_true, Bool.not_false, true_and, and_true, false_and, and_false, or_true, true_or, or_false, false_or, List.length_cons, List.length_nil, List.length_append, List.length_map, List.map_cons, List.map_nil, List.replicate_succ, List.replicate_zero, List.cons_append, List.nil_append, List.append_nil, List.set_cons_zero, List.set_cons_succ, List.getElem?_cons_zero, List.getElem?_cons_succ, Option.bind_some, Option.map_some, Option.bind_none, Option.map_none, OW_some, OW_bind, OW_map, OW_if, Bool.false_eq_true, if_true, if_false, ↓reduceIte, Nat.reduceAdd, Nat.reduceSub, Nat.zero_add, Nat.sub_self, Function.comp]
      exact stay rfl
    | some b =>
      simp only [Option.isSome_some, mDef_eq, outD_nx, outD_rt, startE, sNil, sSeq, thenS_nx, thenS_rt, thenS_bk, thenS_ct, sAsg, sIf, sRet, sRetN, sDrop, sBrk, sCnt, sFor, sOwn, ownAt, sApp, sExt, sPut, sFrz, sPar, mIxO, mLenO, mTupO, mVar, mC, mU, mB, mNil, mCons, mF, mIsT, mAndT, mOrT, mNotT, mAnd, mOr, mNot, mIf, mChain, mPart, mNoPart, mSl, mCall, mIt, mRng, mComp, mYes, gdName, gdTup, gdCons, gdNil, wipeE, tupItems_tup, lstItems_lst, bl_bl, int_int, mHx_eq, mHlen_eq, mHcell_eq, sHput_eq, isH_hnd, hget1, hget2, hget3, hget4, hset1, hset2, hset3, hset4, eq_int, ne_int, lt_int, gt_int, le_int, ge_int, eq_bl, add_int, add_tup, add_lst, sub_int, neg_int, isN_hi, notN_hi, mul_int, div_int, mod_int, pow_int, abs_int, intC_int, len_tup, len_lst, tup_D, lst_D, rt_D, Bool.not_not, Bool.not_true, Bool.not_false, true_and, and_true, false_and, and_false, or_true, true_or, or_false, false_or, List.length_cons, List.length_nil, List.length_append, List.length_map, List.map_cons, List.map_nil, List.replicate_succ, List.replicate_zero, List.cons_append, List.nil_append, List.append_nil, List.set_cons_zero, List.set_cons_succ, List.getElem?_cons_zero, List.getElem?_cons_succ, Option.bind_some, Option.map_some, Option.bind_none, Option.map_none, OW_some, OW_bind, OW_map, OW_if, Bool.false_eq_true, if_true, if_false, ↓reduceIte, Nat.reduceAdd, Nat.reduceSub, Nat.zero_add, Nat.sub_self, Function.comp]
      simp only [hiD, OW_eq (lt_ver (ho b rfl) hlo)]
      by_cases c : b < lo
      · simp only [decide_eq_true c, mDef_eq, outD_nx, outD_rt, startE, sNil, sSeq, thenS_nx, thenS_rt, thenS_bk, thenS_ct, sAsg, sIf, sRet, sRetN, sDrop, sBrk, sCnt, sFor, sOwn, ownAt, sApp, sExt, sPut, sFrz, sPar, mIxO, mLenO, mTupO, mVar, mC, mU, mB, mNil, mCons, mF, mIsT, mAndT, mOrT, mNotT, mAnd, mOr, mNot, mIf, mChain, mPart, mNoPart, mSl, mCall, mIt, mRng, mComp, mYes, gdName, gdTup, gdCons, gdNil, wipeE, tupItems_tup, lstItems_lst, bl_bl, int_int, mHx_eq, mHlen_eq, mHcell_eq, sHput_eq, isH_hnd, hget1, hget2, hget3, hget4, hset1, hset2, hset3, hset4, eq_int, ne_int, lt_int, gt_int, le_int, ge_int, eq_bl, add_int, add_tup, add_lst, sub_int, neg_int, isN_hi, notN_hi, mul_int, div_int, mod_int, pow_int, abs_int, intC_int, len_tup, len_lst, tup_D, lst_D, rt_D, Bool.not_not, Bool.not_true, Bool.not_false, true_and, and_true, false_and, and_false, or_true, true_or, or_false, false_or, List.length_cons, List.length_nil, List.length_append, List.length_map, List.map_cons, List.map_nil, List.replicate_succ, List.replicate_zero, List.cons_append, List.nil_append, List.append_nil, List.set_cons_zero, List.set_cons_succ, List.getElem?_cons_zero, List.getElem?_cons_succ, Option.bind_some, Option.map_some, Option.bind_none, Option.map_none, OW_some, OW_bind, OW_map, OW_if, Bool.false_eq_true, if_true, if_false, ↓reduceIte, Nat.reduceAdd, Nat.reduceSub, Nat.zero_add, Nat.sub_self, Function.comp, hs2, hsz]
        have ih := out_loop (s := s) (A := A) r (acc ++ [(b, some lo)]) hi (some (.dat (verD lo))) (some (.dat (hiD hi))) hr hhi (by rw [List.length_append, List.length_singleton]; omega)
        rw [List.map_append] at ih
        refine OW.mono ih fun x h => h.mono fun env ⟨a, o', e3, e4, h1, h2, h3⟩ => ⟨a, o', e3, e4, h1, ?_, by rw [List.length_append, List.length_singleton] at h3; omega⟩
        rw [h2, List.append_assoc]
        show _ = acc ++ (if b < lo then (b, some lo) :: outR hi r else outR hi r)
        rw [if_pos c]
        rfl
      · simp only [decide_eq_false c, mDef_eq, outD_nx, outD_rt, startE, sNil, sSeq, thenS_nx, thenS_rt, thenS_bk, thenS_ct, sAsg, sIf, sRet, sRetN, sDrop, sBrk, sCnt, sFor, sOwn, ownAt, sApp, sExt, sPut, sFrz, sPar, mIxO, mLenO, mTupO, mVar, mC, mU, mB, mNil, mCons, mF, mIsT, mAndT, mOrT, mNotT, mAnd, mOr, mNot, mIf, mChain, mPart, mNoPart, mSl, mCall, mIt, mRng, mComp, mYes, gdName, gdTup, gdCons, gdNil, wipeE, tupItems_tup, lstItems_lst, bl_bl, int_int, mHx_eq, mHlen_eq, mHcell_eq, sHput_eq, isH_hnd, hget1, hget2, hget3, hget4, hset1, hset2, hset3, hset4, eq_int, ne_int, lt_int, gt_int, le_int, ge_int, eq_bl, add_int, add_tup, add_lst, sub_int, neg_int, isN_hi, notN_hi, mul_int, div_int, mod_int, pow_int, abs_int, intC_int, len_tup, len_lst, tup_D, lst_D, rt_D, Bool.not_not, Bool.not_true, Bool.not_false, true_and, and_true, false_and, and_false, or_true, true_or, or_false, false_or, List.length_cons, List.length_nil, List.length_append, List.length_map, List.map_cons, List.map_nil, List.replicate_succ, List.replicate_zero, List.cons_append, List.nil_append, List.append_nil, List.set_cons_zero, List.set_cons_succ, List.getElem?_cons_zero, List.getElem?_cons_succ, Option.bind_some, Option.map_some, Option.bind_none, Option.map_none, OW_some, OW_bind, OW_map, OW_if, Bool.false_eq_true, if_true, if_false, ↓reduceIte, Nat.reduceAdd, Nat.reduceSub, Nat.zero_add, Nat.sub_self, Function.comp]
        refine stay ?_
        show (if b < lo then (b, some lo) :: outR hi r else outR hi r) = _
        rw [if_neg c]
theorem ver0 : D.tup [.int 0, .int 0, .int 0] = verD 0 := rfl
theorem okV0 : OkV 0 := by
  unfold OkV
  decide
theorem pure_outside {r : Rng} {s : Hand} (h : ∀ q ∈ r, OkV q.1 ∧ OkH q.2) (hz : r.length < 1000000) : f_outside [rngD r] s = some (rngD (outR (some 0) r), s) := by
  refine eq_of_OW ?_
  unfold f_outside
  have er : tupItems (rngD r) = some (r.map strD) := rfl
  have hs0 : (0 ≤ sizeLine) = True := eq_true (Nat.zero_le _)
  have hs2 : (0 + 1 + 1 ≤ sizeLine) = True := eq_true (by rw [sizeLine_eq]; omega)
  simp only [mDef_eq, outD_nx, outD_rt, startE, sNil, sSeq, thenS_nx, thenS_rt, thenS_bk, thenS_ct, sAsg, sIf, sRet, sRetN, sDrop, sBrk, sCnt, sFor, sOwn, ownAt, sApp, sExt, sPut, sFrz, sPar, mIxO, mLenO, mTupO, mVar, mC, mU, mB, mNil, mCons, mF, mIsT, mAndT, mOrT, mNotT, mAnd, mOr, mNot, mIf, mChain, mPart, mNoPart, mSl, mCall, mIt, mRng, mComp, mYes, gdName, gdTup, gdCons, gdNil, wipeE, tupItems_tup, lstItems_lst, bl_bl, int_int, mHx_eq, mHlen_eq, mHcell_eq, sHput_eq, isH_hnd, hget1, hget2, hget3, hget4, hset1, hset2, hset3, hset4, eq_int, ne_int, lt_int, gt_int, le_int, ge_int, eq_bl, add_int, add_tup, add_lst, sub_int, neg_int, isN_hi, notN_hi, mul_int, div_int, mod_int, pow_int, abs_int, intC_int, len_tup, len_lst, tup_D, lst_D, rt_D, Bool.not_not, Bool.not_true, Bool.not_false, true_and, and_true, false_and, and_false, or_true, true_or, or_false, false_or, List.length_cons, List.length_nil, List.length_append, List.length_map, List.map_cons, List.map_nil, List.replicate_succ, List.replicate_zero, List.cons_append, List.nil_append, List.append_nil, List.set_cons_zero, List.set_cons_succ, List.getElem?_cons_zero, List.getElem?_cons_succ, Option.bind_some, Option.map_some, Option.bind_none, Option.map_none, OW_some, OW_bind, OW_map, OW_if, Bool.false_eq_true, if_true, if_false, ↓reduceIte, Nat.reduceAdd, Nat.reduceSub, Nat.zero_add, Nat.sub_self, Function.comp, er, hs0, ver0]
  refine OW.walk (out_loop (s := s) (A := some (.dat (rngD r))) r [] (some 0) none none h (fun x e => by cases e; exact okV0) (by rw [List.length_nil]; omega)) fun env he => ?_
  obtain ⟨a, o', e3, e4, e, h2, h3⟩ := he
  subst e
  rw [List.nil_append] at h2
  rw [List.length_nil] at h3
  have hsz : a.length < sizeLine := by rw [sizeLine_eq]; omega
  cases o' with
  | none =>
    simp only [mDef_eq, outD_nx, outD_rt, startE, sNil, sSeq, thenS_nx, thenS_rt, thenS_bk, thenS_ct, sAsg, sIf, sRet, sRetN, sDrop, sBrk, sCnt, sFor, sOwn, ownAt, sApp, sExt, sPut, sFrz, sPar, mIxO, mLenO, mTupO, mVar, mC, mU, mB, mNil, mCons, mF, mIsT, mAndT, mOrT, mNotT, mAnd, mOr, mNot, mIf, mChain, mPart, mNoPart, mSl, mCall, mIt, mRng, mComp, mYes, gdName, gdTup, gdCons, gdNil, wipeE, tupItems_tup, lstItems_lst, bl_bl, int_int, mHx_eq, mHlen_eq, mHcell_eq, sHput_eq, isH_hnd, hget1, hget2, hget3, hget4, hset1, hset2, hset3, hset4, eq_int, ne_int, lt_int, gt_int, le_int, ge_int, eq_bl, add_int, add_tup, add_lst, sub_int, neg_int, isN_hi, notN_hi, mul_int, div_int, mod_int, pow_int, abs_int, intC_int, len_tup, len_lst, tup_D, lst_D, rt_D, Bool.not_not, Bool.not_true, Bool.not_false, true_and, and_true, false_and, and_false, or_true, true_or, or_false, false_or, List.length_cons, List.length_nil, List.length_append, List.length_map, List.map_cons, List.map_nil, List.replicate_succ, List.replicate_zero, List.cons_append, List.nil_append, List.append_nil, List.set_cons_zero, List.set_cons_succ, List.getElem?_cons_zero, List.getElem?_cons_succ, Option.bind_some, Option.map_some, Option.bind_none, Option.map_none, OW_some, OW_bind, OW_map, OW_if, Bool.false_eq_true, if_true, if_false, ↓reduceIte, Nat.reduceAdd, Nat.reduceSub, Nat.zero_add, Nat.sub_self, Function.comp, Option.isSome_none]
    rw [← h2, tlO, List.append_nil]
    rfl
  | some b =>
    simp only [mDef_eq, outD_nx, outD_rt, startE, sNil, sSeq, thenS_nx, thenS_rt, thenS_bk, thenS_ct, sAsg, sIf, sRet, sRetN, sDrop, sBrk, sCnt, sFor, sOwn, ownAt, sApp, sExt, sPut, sFrz, sPar, mIxO, mLenO, mTupO, mVar, mC, mU, mB, mNil, mCons, mF, mIsT, mAndT, mOrT, mNotT, mAnd, mOr, mNot, mIf, mChain, mPart, mNoPart, mSl, mCall, mIt, mRng, mComp, mYes, gdName, gdTup, gdCons, gdNil, wipeE, tupItems_tup, lstItems_lst, bl_bl, int_int, mHx_eq, mHlen_eq, mHcell_eq, sHput_eq, isH_hnd, hget1, hget2, hget3, hget4, hset1, hset2, hset3, hset4, eq_int, ne_int, lt_int, gt_int, le_int, ge_int, eq_bl, add_int, add_tup, add_lst, sub_int, neg_int, isN_hi, notN_hi, mul_int, div_int, mod_int, pow_int, abs_int, intC_int, len_tup, len_lst, tup_D, lst_D, rt_D, Bool.not_not, Bool.not_true, Bool.not_false, true_and, and_true, false_and, and_false, or_true, true_or, or_false, false_or, List.length_cons, List.length_nil, List.length_append, List.length_map, List.map_cons, List.map_nil, List.replicate_succ, List.replicate_zero, List.cons_append, List.nil_append, List.append_nil, List.set_cons_zero, List.set_cons_succ, List.getElem?_cons_zero, List.getElem?_cons_succ, Option.bind_some, Option.map_some, Option.bind_none, Option.map_none, OW_some, OW_bind, OW_map, OW_if, Bool.false_eq_true, if_true, if_false, ↓reduceIte, Nat.reduceAdd, Nat.reduceSub, Nat.zero_add, Nat.sub_self, Function.comp, Option.isSome_some, hs2, hsz]
    rw [← h2]
    show (D.tup (a.map strD ++ [strD (b, none)]), s) = _
    unfold rngD tlO
    rw [List.map_append]
    rfl
/-! is it empty? -/
mutual
theorem py_plain : ∀ {d : D} {p : PyData}, toPy d = some p → p.plain = true
  | .non, _, h => by cases h; rfl
  | .bl _, _, h => by cases h; rfl
  | .int _, _, h => by cases h; rfl
  | .str _, _, h => by cases h; rfl
  | .hnd, _, h => by cases h
  | .dct _ _, _, h => by cases h
  | .tup ds, p, h => by
    have h' : (toPyL ds).map PyData.tuple = some p := h
    cases e : toPyL ds with
    | none => rw [e] at h'; cases h'
    | some ps =>
      rw [e] at h'
      cases h'
      exact py_plainL e
  | .lst ds, p, h => by
    have h' : (toPyL ds).map PyData.list = some p := h
    cases e : toPyL ds with
    | none => rw [e] at h'; cases h'
    | some ps =>
      rw [e] at h'
      cases h'
      exact py_plainL e
theorem py_plainL : ∀ {ds : List D} {ps : List PyData}, toPyL ds = some ps → PyData.plainAll ps = true
  | [], _, h => by cases h; rfl
  | d :: ds, ps, h => by
    have h' : (match toPy d, toPyL ds with | some p, some ps => some (p :: ps) | _, _ => none) = some ps := h
    cases e : toPy d with
    | none => rw [e] at h'; cases h'
    | some q =>
      cases e2 : toPyL ds with
      | none => rw [e, e2] at h'; cases h'
      | some qs =>
        rw [e, e2] at h'
        cases h'
        show (q.plain && PyData.plainAll qs) = true
        rw [py_plain e, py_plainL e2]
        rfl
end
theorem pyL_map {α : Type} {f : α → D} (h : ∀ a, ∃ p, toPy (f a) = some p) : ∀ l : List α, ∃ ps, toPyL (l.map f) = some ps ∧ ps.length = l.length
  | [] => ⟨[], rfl, rfl⟩
  | a :: l => by
    obtain ⟨p, e⟩ := h a
    obtain ⟨ps, e2, e3⟩ := pyL_map h l
    refine ⟨p :: ps, ?_, by rw [List.length_cons, List.length_cons, e3]⟩
    show (match toPy (f a), toPyL (l.map f) with | some p, some ps => some (p :: ps) | _, _ => none) = _
    rw [e, e2]
theorem py_str (p : Int × Option Int) : ∃ q, toPy (strD p) = some q := by
  obtain ⟨lo, hi⟩ := p
  cases hi <;> exact ⟨_, rfl⟩
theorem eq_empty {r : Rng} : relD eqP (rngD r) (.tup []) = some (.bl r.isEmpty) := by
  obtain ⟨ps, e, el⟩ := pyL_map py_str r
  have e1 : toPy (rngD r) = some (.tuple ps) := by
    show (toPyL (r.map strD)).map PyData.tuple = _
    rw [e]
    rfl
  unfold relD
  rw [e1]
  show (eqP (.tuple ps) (.tuple [])).map D.bl = _
  unfold eqP
  have hd : min (PyData.tuple ps).depth (PyData.tuple []).depth ≤ 64 := Nat.le_trans (Nat.min_le_right _ _) (by decide)
  rw [if_pos ⟨py_plain e1, rfl, hd⟩]
  cases r with
  | nil =>
    cases ps with
    | nil => rfl
    | cons _ _ => cases el
  | cons a r =>
    cases ps with
    | nil => cases el
    | cons _ _ => rfl
/-! the law's own -/
def HasQ (b : Bool) (s : Hand) : OutS Hand → Prop
  | .nx _ s' => b = false ∧ s' = s
  | .rt d s' => b = true ∧ d = .bl true ∧ s' = s
  | _ => False
theorem has_loop {s : Hand} {A : Option Slot} {v : Int} (hv : OkV v) : ∀ (r : Rng) (e2 e3 : Option Slot), (∀ q ∈ r, OkV q.1 ∧ OkH q.2) →
    OW (loopS (gdTup 2 (gdCons (gdName 2) (gdCons (gdName 3) gdNil))) b__law_has_0 (r.map strD) [A, some (.dat (verD v)), e2, e3] s) (HasQ (has r v) s)
  | [], e2, e3, hq => by
    show OW (some _) _
    rw [OW_some]
    exact ⟨rfl, rfl⟩
  | q :: r, e2, e3, hq => by
    obtain ⟨lo, hi⟩ := q
    obtain ⟨hlo, hhi⟩ := hq (lo, hi) (List.mem_cons_self ..)
    have ih := fun e2 e3 => has_loop (s := s) (A := A) hv r e2 e3 fun q h => hq q (List.mem_cons_of_mem _ h)
    have hh : has ((lo, hi) :: r) v = (inS (lo, hi) v || has r v) := rfl
    rw [List.map_cons, hh]
    unfold loopS
    have es : strD (lo, hi) = .tup [verD lo, hiD hi] := rfl
    have yes : inS (lo, hi) v = true → HasQ (inS (lo, hi) v || has r v) s (.rt (.bl true) s) := fun z => ⟨by rw [z]; rfl, rfl, rfl⟩
    have no : inS (lo, hi) v = false → ∀ e2 e3, OW (loopS (gdTup 2 (gdCons (gdName 2) (gdCons (gdName 3) gdNil))) b__law_has_0 (r.map strD) [A, some (.dat (verD v)), e2, e3] s) (HasQ (inS (lo, hi) v || has r v) s) := fun z e2 e3 => by
      rw [z, Bool.false_or]
      exact ih e2 e3
    simp only [es, mDef_eq, outD_nx, outD_rt, startE, sNil, sSeq, thenS_nx, thenS_rt, thenS_bk, thenS_ct, sAsg, sIf, sRet, sRetN, sDrop, sBrk, sCnt, sFor, sOwn, ownAt, sApp, sExt, sPut, sFrz, sPar, mIxO, mLenO, mTupO, mVar, mC, mU, mB, mNil, mCons, mF, mIsT, mAndT, mOrT, mNotT, mAnd, mOr, mNot, mIf, mChain, mPart, mNoPart, mSl, mCall, mIt, mRng, mComp, mYes, gdName, gdTup, gdCons, gdNil, wipeE, tupItems_tup, lstItems_lst, bl_bl, int_int, mHx_eq, mHlen_eq, mHcell_eq, sHput_eq, isH_hnd, hget1, hget2, hget3, hget4, hset1, hset2, hset3, hset4, eq_int, ne_int, lt_int, gt_int, le_int, ge_int, eq_bl, add_int, add_tup, add_lst, sub_int, neg_int, isN_hi, notN_hi, mul_int, div_int, mod_int, pow_int, abs_int, intC_int, len_tup, len_lst, tup_D, lst_D, rt_D, Bool.not_not, Bool.not_true, Bool.not_false, true_and, and_true, false_and, and_false, or_true, true_or, or_false, false_or, List.length_cons, List.length_nil, List.length_append, List.length_map, List.map_cons, List.map_nil, List.replicate_succ, List.replicate_zero, List.cons_append, List.nil_append, List.append_nil, List.set_cons_zero, List.set_cons_succ, List.getElem?_cons_zero, List.getElem?_cons_succ, Option.bind_some, Option.map_some, Option.bind_none, Option.map_none, OW_some, OW_bind, OW_map, OW_if, Bool.false_eq_true, if_true, if_false, ↓reduceIte, Nat.reduceAdd, Nat.reduceSub, Nat.zero_add, Nat.sub_self, Function.comp, b__law_has_0_eq, OW_eq (le_ver hlo hv)]
    by_cases c : lo ≤ v
    · simp only [decide_eq_true c, mDef_eq, outD_nx, outD_rt, startE, sNil, sSeq, thenS_nx, thenS_rt, thenS_bk, thenS_ct, sAsg, sIf, sRet, sRetN, sDrop, sBrk, sCnt, sFor, sOwn, ownAt, sApp, sExt, sPut, sFrz, sPar, mIxO, mLenO, mTupO, mVar, mC, mU, mB, mNil, mCons, mF, mIsT, mAndT, mOrT, mNotT, mAnd, mOr, mNot, mIf, mChain, mPart, mNoPart, mSl, mCall, mIt, mRng, mComp, mYes, gdName, gdTup, gdCons, gdNil, wipeE, tupItems_tup, lstItems_lst, bl_bl, int_int, mHx_eq, mHlen_eq, mHcell_eq, sHput_eq, isH_hnd, hget1, hget2, hget3, hget4, hset1, hset2, hset3, hset4, eq_int, ne_int, lt_int, gt_int, le_int, ge_int, eq_bl, add_int, add_tup, add_lst, sub_int, neg_int, isN_hi, notN_hi, mul_int, div_int, mod_int, pow_int, abs_int, intC_int, len_tup, len_lst, tup_D, lst_D, rt_D, Bool.not_not, Bool.not_true, Bool.not_false, true_and, and_true, false_and, and_false, or_true, true_or, or_false, false_or, List.length_cons, List.length_nil, List.length_append, List.length_map, List.map_cons, List.map_nil, List.replicate_succ, List.replicate_zero, List.cons_append, List.nil_append, List.append_nil, List.set_cons_zero, List.set_cons_succ, List.getElem?_cons_zero, List.getElem?_cons_succ, Option.bind_some, Option.map_some, Option.bind_none, Option.map_none, OW_some, OW_bind, OW_map, OW_if, Bool.false_eq_true, if_true, if_false, ↓reduceIte, Nat.reduceAdd, Nat.reduceSub, Nat.zero_add, Nat.sub_self, Function.comp]
      cases hi with
      | none =>
        simp only [Option.isNone_none, mDef_eq, outD_nx, outD_rt, startE, sNil, sSeq, thenS_nx, thenS_rt, thenS_bk, thenS_ct, sAsg, sIf, sRet, sRetN, sDrop, sBrk, sCnt, sFor, sOwn, ownAt, sApp, sExt, sPut, sFrz, sPar, mIxO, mLenO, mTupO, mVar, mC, mU, mB, mNil, mCons, mF, mIsT, mAndT, mOrT, mNotT, mAnd, mOr, mNot, mIf, mChain, mPart, mNoPart, mSl, mCall, mIt, mRng, mComp, mYes, gdName, gdTup, gdCons, gdNil, wipeE, tupItems_tup, lstItems_lst, bl_bl, int_int, mHx_eq, mHlen_eq, mHcell_eq, sHput_eq, isH_hnd, hget1, hget2, hget3, hget4, hset1, hset2, hset3, hset4, eq_int, ne_int, lt_int, gt_int, le_int, ge_int, eq_bl, add_int, add_tup, add_lst, sub_int, neg_int, isN_hi, notN_hi, mul_int, div_int, mod_int, pow_int, abs_int, intC_int, len_tup, len_lst, tup_D, lst_D, rt_D, Bool.not_not, Bool.not_true, Bool.not_false, true_and, and_true, false_and, and_false, or_true, true_or, or_false, false_or, List.length_cons, List.length_nil, List.length_append, List.length_map, List.map_cons, List.map_nil, List.replicate_succ, List.replicate_zero, List.cons_append, List.nil_append, List.append_nil, List.set_cons_zero, List.set_cons_succ, List.getElem?_cons_zero, List.getElem?_cons_succ, Option.bind_some, Option.map_some, Option.bind_none, Option.map_none, OW_some, OW_bind, OW_map, OW_if, Bool.false_eq_true, if_true, if_false, ↓reduceIte, Nat.reduceAdd, Nat.reduceSub, Nat.zero_add, Nat.sub_self, Function.comp]
        exact yes (by unfold inS; rw [decide_eq_true c]; rfl)
      | some b =>
        simp only [Option.isNone_some, mDef_eq, outD_nx, outD_rt, startE, sNil, sSeq, thenS_nx, thenS_rt, thenS_bk, thenS_ct, sAsg, sIf, sRet, sRetN, sDrop, sBrk, sCnt, sFor, sOwn, ownAt, sApp, sExt, sPut, sFrz, sPar, mIxO, mLenO, mTupO, mVar, mC, mU, mB, mNil, mCons, mF, mIsT, mAndT, mOrT, mNotT, mAnd, mOr, mNot, mIf, mChain, mPart, mNoPart, mSl, mCall, mIt, mRng, mComp, mYes, gdName, gdTup, gdCons, gdNil, wipeE, tupItems_tup, lstItems_lst, bl_bl, int_int, mHx_eq, mHlen_eq, mHcell_eq, sHput_eq, isH_hnd, hget1, hget2, hget3, hget4, hset1, hset2, hset3, hset4, eq_int, ne_int, lt_int, gt_int, le_int, ge_int, eq_bl, add_int, add_tup, add_lst, sub_int, neg_int, isN_hi, notN_hi, mul_int, div_int, mod_int, pow_int, abs_int, intC_int, len_tup, len_lst, tup_D, lst_D, rt_D, Bool.not_not, Bool.not_true, Bool.not_false, true_and, and_true, false_and, and_false, or_true, true_or, or_false, false_or, List.length_cons, List.length_nil, List.length_append, List.length_map, List.map_cons, List.map_nil, List.replicate_succ, List.replicate_zero, List.cons_append, List.nil_append, List.append_nil, List.set_cons_zero, List.set_cons_succ, List.getElem?_cons_zero, List.getElem?_cons_succ, Option.bind_some, Option.map_some, Option.bind_none, Option.map_none, OW_some, OW_bind, OW_map, OW_if, Bool.false_eq_true, if_true, if_false, ↓reduceIte, Nat.reduceAdd, Nat.reduceSub, Nat.zero_add, Nat.sub_self, Function.comp]
        simp only [hiD, OW_eq (lt_ver hv (hhi b rfl)), mDef_eq, outD_nx, outD_rt, startE, sNil, sSeq, thenS_nx, thenS_rt, thenS_bk, thenS_ct, sAsg, sIf, sRet, sRetN, sDrop, sBrk, sCnt, sFor, sOwn, ownAt, sApp, sExt, sPut, sFrz, sPar, mIxO, mLenO, mTupO, mVar, mC, mU, mB, mNil, mCons, mF, mIsT, mAndT, mOrT, mNotT, mAnd, mOr, mNot, mIf, mChain, mPart, mNoPart, mSl, mCall, mIt, mRng, mComp, mYes, gdName, gdTup, gdCons, gdNil, wipeE, tupItems_tup, lstItems_lst, bl_bl, int_int, mHx_eq, mHlen_eq, mHcell_eq, sHput_eq, isH_hnd, hget1, hget2, hget3, hget4, hset1, hset2, hset3, hset4, eq_int, ne_int, lt_int, gt_int, le_int, ge_int, eq_bl, add_int, add_tup, add_lst, sub_int, neg_int, isN_hi, notN_hi, mul_int, div_int, mod_int, pow_int, abs_int, intC_int, len_tup, len_lst, tup_D, lst_D, rt_D, Bool.not_not, Bool.not_true, Bool.not_false, true_and, and_true, false_and, and_false, or_true, true_or, or_false, false_or, List.length_cons, List.length_nil, List.length_append, List.length_map, List.map_cons, List.map_nil, List.replicate_succ, List.replicate_zero, List.cons_append, List.nil_append, List.append_nil, List.set_cons_zero, List.set_cons_succ, List.getElem?_cons_zero, List.getElem?_cons_succ, Option.bind_some, Option.map_some, Option.bind_none, Option.map_none, OW_some, OW_bind, OW_map, OW_if, Bool.false_eq_true, if_true, if_false, ↓reduceIte, Nat.reduceAdd, Nat.reduceSub, Nat.zero_add, Nat.sub_self, Function.comp]
        by_cases c2 : v < b
        · simp only [decide_eq_true c2, mDef_eq, outD_nx, outD_rt, startE, sNil, sSeq, thenS_nx, thenS_rt, thenS_bk, thenS_ct, sAsg, sIf, sRet, sRetN, sDrop, sBrk, sCnt, sFor, sOwn, ownAt, sApp, sExt, sPut, sFrz, sPar, mIxO, mLenO, mTupO, mVar, mC, mU, mB, mNil, mCons, mF, mIsT, mAndT, mOrT, mNotT, mAnd, mOr, mNot, mIf, mChain, mPart, mNoPart, mSl, mCall, mIt, mRng, mComp, mYes, gdName, gdTup, gdCons, gdNil, wipeE, tupItems_tup, lstItems_lst, bl_bl, int_int, mHx_eq, mHlen_eq, mHcell_eq, sHput_eq, isH_hnd, hget1, hget2, hget3, hget4, hset1, hset2, hset3, hset4, eq_int, ne_int, lt_int, gt_int, le_int, ge_int, eq_bl, add_int, add_tup, add_lst, sub_int, neg_int, isN_hi, notN_hi, mul_int, div_int, mod_int, pow_int, abs_int, intC_int, len_tup, len_lst, tup_D, lst_D, rt_D, Bool.not_not, Bool.not_true, Bool.not_false, true_and, and_true, false_and, and_false, or_true, true_or, or_false, false_or, List.length_cons, List.length_nil, List.length_append, List.length_map, List.map_cons, List.map_nil, List.replicate_succ, List.replicate_zero, List.cons_append, List.nil_append, List.append_nil, List.set_cons_zero, List.set_cons_succ, List.getElem?_cons_zero, List.getElem?_cons_succ, Option.bind_some, Option.map_some, Option.bind_none, Option.map_none, OW_some, OW_bind, OW_map, OW_if, Bool.false_eq_true, if_true, if_false, ↓reduceIte, Nat.reduceAdd, Nat.reduceSub, Nat.zero_add, Nat.sub_self, Function.comp]
          exact yes (by unfold inS; rw [decide_eq_true c]; exact decide_eq_true c2)
        · simp only [decide_eq_false c2, mDef_eq, outD_nx, outD_rt, startE, sNil, sSeq, thenS_nx, thenS_rt, thenS_bk, thenS_ct, sAsg, sIf, sRet, sRetN, sDrop, sBrk, sCnt, sFor, sOwn, ownAt, sApp, sExt, sPut, sFrz, sPar, mIxO, mLenO, mTupO, mVar, mC, mU, mB, mNil, mCons, mF, mIsT, mAndT, mOrT, mNotT, mAnd, mOr, mNot, mIf, mChain, mPart, mNoPart, mSl, mCall, mIt, mRng, mComp, mYes, gdName, gdTup, gdCons, gdNil, wipeE, tupItems_tup, lstItems_lst, bl_bl, int_int, mHx_eq, mHlen_eq, mHcell_eq, sHput_eq, isH_hnd, hget1, hget2, hget3, hget4, hset1, hset2, hset3, hset4, eq_int, ne_int, lt_int, gt_int, le_int, ge_int, eq_bl, add_int, add_tup, add_lst, sub_int, neg_int, isN_hi, notN_hi, mul_int, div_int, mod_int, pow_int, abs_int, intC_int, len_tup, len_lst, tup_D, lst_D, rt_D, Bool.not_not, Bool.not_true, Bool.not_false, true_and, and_true, false_and, and_false, or_true, true_or, or_false, false_or, List.length_cons, List.length_nil, List.length_append, List.length_map, List.map_cons, List.map_nil, List.replicate_succ, List.replicate_zero, List.cons_append, List.nil_append, List.append_nil, List.set_cons_zero, List.set_cons_succ, List.getElem?_cons_zero, List.getElem?_cons_succ, Option.bind_some, Option.map_some, Option.bind_none, Option.map_none, OW_some, OW_bind, OW_map, OW_if, Bool.false_eq_true, if_true, if_false, ↓reduceIte, Nat.reduceAdd, Nat.reduceSub, Nat.zero_add, Nat.sub_self, Function.comp]
          exact no (by unfold inS; rw [decide_eq_true c]; exact decide_eq_false c2) _ _
    · simp only [decide_eq_false c, mDef_eq, outD_nx, outD_rt, startE, sNil, sSeq, thenS_nx, thenS_rt, thenS_bk, thenS_ct, sAsg, sIf, sRet, sRetN, sDrop, sBrk, sCnt, sFor, sOwn, ownAt, sApp, sExt, sPut, sFrz, sPar, mIxO, mLenO, mTupO, mVar, mC, mU, mB, mNil, mCons, mF, mIsT, mAndT, mOrT, mNotT, mAnd, mOr, mNot, mIf, mChain, mPart, mNoPart, mSl, mCall, mIt, mRng, mComp, mYes, gdName, gdTup, gdCons, gdNil, wipeE, tupItems_tup, lstItems_lst, bl_bl, int_int, mHx_eq, mHlen_eq, mHcell_eq, sHput_eq, isH_hnd, hget1, hget2, hget3, hget4, hset1, hset2, hset3, hset4, eq_int, ne_int, lt_int, gt_int, le_int, ge_int, eq_bl, add_int, add_tup, add_lst, sub_int, neg_int, isN_hi, notN_hi, mul_int, div_int, mod_int, pow_int, abs_int, intC_int, len_tup, len_lst, tup_D, lst_D, rt_D, Bool.not_not, Bool.not_true, Bool.not_false, true_and, and_true, false_and, and_false, or_true, true_or, or_false, false_or, List.length_cons, List.length_nil, List.length_append, List.length_map, List.map_cons, List.map_nil, List.replicate_succ, List.replicate_zero, List.cons_append, List.nil_append, List.append_nil, List.set_cons_zero, List.set_cons_succ, List.getElem?_cons_zero, List.getElem?_cons_succ, Option.bind_some, Option.map_some, Option.bind_none, Option.map_none, OW_some, OW_bind, OW_map, OW_if, Bool.false_eq_true, if_true, if_false, ↓reduceIte, Nat.reduceAdd, Nat.reduceSub, Nat.zero_add, Nat.sub_self, Function.comp]
      exact no (by unfold inS; rw [decide_eq_false c]; rfl) _ _
theorem pure_has {r : Rng} {v : Int} {s : Hand} (hv : OkV v) (h : ∀ q ∈ r, OkV q.1 ∧ OkH q.2) : f__law_has [rngD r, verD v] s = some (.bl (has r v), s) := by
  refine eq_of_OW ?_
  unfold f__law_has
  have er : tupItems (rngD r) = some (r.map strD) := rfl
  simp only [mDef_eq, outD_nx, outD_rt, startE, sNil, sSeq, thenS_nx, thenS_rt, thenS_bk, thenS_ct, sAsg, sIf, sRet, sRetN, sDrop, sBrk, sCnt, sFor, sOwn, ownAt, sApp, sExt, sPut, sFrz, sPar, mIxO, mLenO, mTupO, mVar, mC, mU, mB, mNil, mCons, mF, mIsT, mAndT, mOrT, mNotT, mAnd, mOr, mNot, mIf, mChain, mPart, mNoPart, mSl, mCall, mIt, mRng, mComp, mYes, gdName, gdTup, gdCons, gdNil, wipeE, tupItems_tup, lstItems_lst, bl_bl, int_int, mHx_eq, mHlen_eq, mHcell_eq, sHput_eq, isH_hnd, hget1, hget2, hget3, hget4, hset1, hset2, hset3, hset4, eq_int, ne_int, lt_int, gt_int, le_int, ge_int, eq_bl, add_int, add_tup, add_lst, sub_int, neg_int, isN_hi, notN_hi, mul_int, div_int, mod_int, pow_int, abs_int, intC_int, len_tup, len_lst, tup_D, lst_D, rt_D, Bool.not_not, Bool.not_true, Bool.not_false, true_and, and_true, false_and, and_false, or_true, true_or, or_false, false_or, List.length_cons, List.length_nil, List.length_append, List.length_map, List.map_cons, List.map_nil, List.replicate_succ, List.replicate_zero, List.cons_append, List.nil_append, List.append_nil, List.set_cons_zero, List.set_cons_succ, List.getElem?_cons_zero, List.getElem?_cons_succ, Option.bind_some, Option.map_some, Option.bind_none, Option.map_none, OW_some, OW_bind, OW_map, OW_if, Bool.false_eq_true, if_true, if_false, ↓reduceIte, Nat.reduceAdd, Nat.reduceSub, Nat.zero_add, Nat.sub_self, Function.comp, er]
  refine OW.mono (has_loop (s := s) hv r none none h) fun o r => ?_
  cases o with
  | nx env s' =>
    obtain ⟨g, e⟩ := r
    subst e
    simp only [mDef_eq, outD_nx, outD_rt, startE, sNil, sSeq, thenS_nx, thenS_rt, thenS_bk, thenS_ct, sAsg, sIf, sRet, sRetN, sDrop, sBrk, sCnt, sFor, sOwn, ownAt, sApp, sExt, sPut, sFrz, sPar, mIxO, mLenO, mTupO, mVar, mC, mU, mB, mNil, mCons, mF, mIsT, mAndT, mOrT, mNotT, mAnd, mOr, mNot, mIf, mChain, mPart, mNoPart, mSl, mCall, mIt, mRng, mComp, mYes, gdName, gdTup, gdCons, gdNil, wipeE, tupItems_tup, lstItems_lst, bl_bl, int_int, mHx_eq, mHlen_eq, mHcell_eq, sHput_eq, isH_hnd, hget1, hget2, hget3, hget4, hset1, hset2, hset3, hset4, eq_int, ne_int, lt_int, gt_int, le_int, ge_int, eq_bl, add_int, add_tup, add_lst, sub_int, neg_int, isN_hi, notN_hi, mul_int, div_int, mod_int, pow_int, abs_int, intC_int, len_tup, len_lst, tup_D, lst_D, rt_D, Bool.not_not, Bool.not_true, Bool.not_false, true_and, and_true, false_and, and_false, or_true, true_or, or_false, false_or, List.length_cons, List.length_nil, List.length_append, List.length_map, List.map_cons, List.map_nil, List.replicate_succ, List.replicate_zero, List.cons_append, List.nil_append, List.append_nil, List.set_cons_zero, List.set_cons_succ, List.getElem?_cons_zero, List.getElem?_cons_succ, Option.bind_some, Option.map_some, Option.bind_none, Option.map_none, OW_some, OW_bind, OW_map, OW_if, Bool.false_eq_true, if_true, if_false, ↓reduceIte, Nat.reduceAdd, Nat.reduceSub, Nat.zero_add, Nat.sub_self, Function.comp, g]
  | rt d' s' =>
    obtain ⟨g, e, e2⟩ := r
    subst e e2
    simp only [mDef_eq, outD_nx, outD_rt, startE, sNil, sSeq, thenS_nx, thenS_rt, thenS_bk, thenS_ct, sAsg, sIf, sRet, sRetN, sDrop, sBrk, sCnt, sFor, sOwn, ownAt, sApp, sExt, sPut, sFrz, sPar, mIxO, mLenO, mTupO, mVar, mC, mU, mB, mNil, mCons, mF, mIsT, mAndT, mOrT, mNotT, mAnd, mOr, mNot, mIf, mChain, mPart, mNoPart, mSl, mCall, mIt, mRng, mComp, mYes, gdName, gdTup, gdCons, gdNil, wipeE, tupItems_tup, lstItems_lst, bl_bl, int_int, mHx_eq, mHlen_eq, mHcell_eq, sHput_eq, isH_hnd, hget1, hget2, hget3, hget4, hset1, hset2, hset3, hset4, eq_int, ne_int, lt_int, gt_int, le_int, ge_int, eq_bl, add_int, add_tup, add_lst, sub_int, neg_int, isN_hi, notN_hi, mul_int, div_int, mod_int, pow_int, abs_int, intC_int, len_tup, len_lst, tup_D, lst_D, rt_D, Bool.not_not, Bool.not_true, Bool.not_false, true_and, and_true, false_and, and_false, or_true, true_or, or_false, false_or, List.length_cons, List.length_nil, List.length_append, List.length_map, List.map_cons, List.map_nil, List.replicate_succ, List.replicate_zero, List.cons_append, List.nil_append, List.append_nil, List.set_cons_zero, List.set_cons_succ, List.getElem?_cons_zero, List.getElem?_cons_succ, Option.bind_some, Option.map_some, Option.bind_none, Option.map_none, OW_some, OW_bind, OW_map, OW_if, Bool.false_eq_true, if_true, if_false, ↓reduceIte, Nat.reduceAdd, Nat.reduceSub, Nat.zero_add, Nat.sub_self, Function.comp, g]
  | bk => exact r.elim
  | ct => exact r.elim
theorem marks_in {s : Hand} {A C : Option Slot} : ∀ (r : Rng) (acc : List Int) (e3 e4 : Option Slot), acc.length + (bounds r).length < 16777216 →
    OW (loopS (gdTup 2 (gdCons (gdName 3) (gdCons (gdName 4) gdNil))) b__law_marks_1 (r.map strD) [A, some (.own (acc.map verD)), C, e3, e4] s)
      (Qn (fun env => ∃ e3 e4, env = [A, some (.own ((acc ++ bounds r).map verD)), C, e3, e4]) s)
  | [], acc, e3, e4, hz => by
    show OW (some _) _
    rw [OW_some]
    exact ⟨⟨e3, e4, by rw [show bounds [] = [] from rfl, List.append_nil]⟩, rfl⟩
  | q :: r, acc, e3, e4, hz => by
    obtain ⟨lo, hi⟩ := q
    rw [List.map_cons]
    unfold loopS
    have es : strD (lo, hi) = .tup [verD lo, hiD hi] := rfl
    cases hi with
    | none =>
      have eb : bounds ((lo, none) :: r) = [lo] ++ bounds r := rfl
      rw [eb, List.length_append, List.length_singleton] at hz
      have hs1 : (0 + 1 ≤ sizeLine) = True := eq_true (by rw [sizeLine_eq]; omega)
      have hs2 : (acc.length + (0 + 1) ≤ sizeLine) = True := eq_true (by rw [sizeLine_eq]; omega)
      simp only [es, mDef_eq, outD_nx, outD_rt, startE, sNil, sSeq, thenS_nx, thenS_rt, thenS_bk, thenS_ct, sAsg, sIf, sRet, sRetN, sDrop, sBrk, sCnt, sFor, sOwn, ownAt, sApp, sExt, sPut, sFrz, sPar, mIxO, mLenO, mTupO, mVar, mC, mU, mB, mNil, mCons, mF, mIsT, mAndT, mOrT, mNotT, mAnd, mOr, mNot, mIf, mChain, mPart, mNoPart, mSl, mCall, mIt, mRng, mComp, mYes, gdName, gdTup, gdCons, gdNil, wipeE, tupItems_tup, lstItems_lst, bl_bl, int_int, mHx_eq, mHlen_eq, mHcell_eq, sHput_eq, isH_hnd, hget1, hget2, hget3, hget4, hset1, hset2, hset3, hset4, eq_int, ne_int, lt_int, gt_int, le_int, ge_int, eq_bl, add_int, add_tup, add_lst, sub_int, neg_int, isN_hi, notN_hi, mul_int, div_int, mod_int, pow_int, abs_int, intC_int, len_tup, len_lst, tup_D, lst_D, rt_D, Bool.not_not, Bool.not_true, Bool.not_false, true_and, and_true, false_and, and_false, or_true, true_or, or_false, false_or, List.length_cons, List.length_nil, List.length_append, List.length_map, List.map_cons, List.map_nil, List.replicate_succ, List.replicate_zero, List.cons_append, List.nil_append, List.append_nil, List.set_cons_zero, List.set_cons_succ, List.getElem?_cons_zero, List.getElem?_cons_succ, Option.bind_some, Option.map_some, Option.bind_none, Option.map_none, OW_some, OW_bind, OW_map, OW_if, Bool.false_eq_true, if_true, if_false, ↓reduceIte, Nat.reduceAdd, Nat.reduceSub, Nat.zero_add, Nat.sub_self, Function.comp, b__law_marks_1_eq, Option.isNone_none, hs1]
      simp only [hs2, mDef_eq, outD_nx, outD_rt, startE, sNil, sSeq, thenS_nx, thenS_rt, thenS_bk, thenS_ct, sAsg, sIf, sRet, sRetN, sDrop, sBrk, sCnt, sFor, sOwn, ownAt, sApp, sExt, sPut, sFrz, sPar, mIxO, mLenO, mTupO, mVar, mC, mU, mB, mNil, mCons, mF, mIsT, mAndT, mOrT, mNotT, mAnd, mOr, mNot, mIf, mChain, mPart, mNoPart, mSl, mCall, mIt, mRng, mComp, mYes, gdName, gdTup, gdCons, gdNil, wipeE, tupItems_tup, lstItems_lst, bl_bl, int_int, mHx_eq, mHlen_eq, mHcell_eq, sHput_eq, isH_hnd, hget1, hget2, hget3, hget4, hset1, hset2, hset3, hset4, eq_int, ne_int, lt_int, gt_int, le_int, ge_int, eq_bl, add_int, add_tup, add_lst, sub_int, neg_int, isN_hi, notN_hi, mul_int, div_int, mod_int, pow_int, abs_int, intC_int, len_tup, len_lst, tup_D, lst_D, rt_D, Bool.not_not, Bool.not_true, Bool.not_false, true_and, and_true, false_and, and_false, or_true, true_or, or_false, false_or, List.length_cons, List.length_nil, List.length_append, List.length_map, List.map_cons, List.map_nil, List.replicate_succ, List.replicate_zero, List.cons_append, List.nil_append, List.append_nil, List.set_cons_zero, List.set_cons_succ, List.getElem?_cons_zero, List.getElem?_cons_succ, Option.bind_some, Option.map_some, Option.bind_none, Option.map_none, OW_some, OW_bind, OW_map, OW_if, Bool.false_eq_true, if_true, if_false, ↓reduceIte, Nat.reduceAdd, Nat.reduceSub, Nat.zero_add, Nat.sub_self, Function.comp]
      rw [eb, ← List.append_assoc]
      have ih := marks_in (s := s) (A := A) (C := C) r (acc ++ [lo]) (some (.dat (verD lo))) (some (.dat (hiD none))) (by rw [List.length_append, List.length_singleton]; omega)
      rw [List.map_append] at ih
      exact ih
    | some h =>
      have eb : bounds ((lo, some h) :: r) = [lo, h] ++ bounds r := rfl
      rw [eb, List.length_append, List.length_cons, List.length_singleton] at hz
      have hs1 : (0 + 1 + 1 ≤ sizeLine) = True := eq_true (by rw [sizeLine_eq]; omega)
      have hs2 : (acc.length + (0 + 1 + 1) ≤ sizeLine) = True := eq_true (by rw [sizeLine_eq]; omega)
      simp only [es, mDef_eq, outD_nx, outD_rt, startE, sNil, sSeq, thenS_nx, thenS_rt, thenS_bk, thenS_ct, sAsg, sIf, sRet, sRetN, sDrop, sBrk, sCnt, sFor, sOwn, ownAt, sApp, sExt, sPut, sFrz, sPar, mIxO, mLenO, mTupO, mVar, mC, mU, mB, mNil, mCons, mF, mIsT, mAndT, mOrT, mNotT, mAnd, mOr, mNot, mIf, mChain, mPart, mNoPart, mSl, mCall, mIt, mRng, mComp, mYes, gdName, gdTup, gdCons, gdNil, wipeE, tupItems_tup, lstItems_lst, bl_bl, int_int, mHx_eq, mHlen_eq, mHcell_eq, sHput_eq, isH_hnd, hget1, hget2, hget3, hget4, hset1, hset2, hset3, hset4, eq_int, ne_int, lt_int, gt_int, le_int, ge_int, eq_bl, add_int, add_tup, add_lst, sub_int, neg_int, isN_hi, notN_hi, mul_int, div_int, mod_int, pow_int, abs_int, intC_int, len_tup, len_lst, tup_D, lst_D, rt_D, Bool.not_not, Bool.not_true, Bool.not_false, true_and, and_true, false_and, and_false, or_true, true_or, or_false, false_or, List.length_cons, List.length_nil, List.length_append, List.length_map, List.map_cons, List.map_nil, List.replicate_succ, List.replicate_zero, List.cons_append, List.nil_append, List.append_nil, List.set_cons_zero, List.set_cons_succ, List.getElem?_cons_zero, List.getElem?_cons_succ, Option.bind_some, Option.map_some, Option.bind_none, Option.map_none, OW_some, OW_bind, OW_map, OW_if, Bool.false_eq_true, if_true, if_false, ↓reduceIte, Nat.reduceAdd, Nat.reduceSub, Nat.zero_add, Nat.sub_self, Function.comp, b__law_marks_1_eq, Option.isNone_some, hs1]
      simp only [hs2, mDef_eq, outD_nx, outD_rt, startE, sNil, sSeq, thenS_nx, thenS_rt, thenS_bk, thenS_ct, sAsg, sIf, sRet, sRetN, sDrop, sBrk, sCnt, sFor, sOwn, ownAt, sApp, sExt, sPut, sFrz, sPar, mIxO, mLenO, mTupO, mVar, mC, mU, mB, mNil, mCons, mF, mIsT, mAndT, mOrT, mNotT, mAnd, mOr, mNot, mIf, mChain, mPart, mNoPart, mSl, mCall, mIt, mRng, mComp, mYes, gdName, gdTup, gdCons, gdNil, wipeE, tupItems_tup, lstItems_lst, bl_bl, int_int, mHx_eq, mHlen_eq, mHcell_eq, sHput_eq, isH_hnd, hget1, hget2, hget3, hget4, hset1, hset2, hset3, hset4, eq_int, ne_int, lt_int, gt_int, le_int, ge_int, eq_bl, add_int, add_tup, add_lst, sub_int, neg_int, isN_hi, notN_hi, mul_int, div_int, mod_int, pow_int, abs_int, intC_int, len_tup, len_lst, tup_D, lst_D, rt_D, Bool.not_not, Bool.not_true, Bool.not_false, true_and, and_true, false_and, and_false, or_true, true_or, or_false, false_or, List.length_cons, List.length_nil, List.length_append, List.length_map, List.map_cons, List.map_nil, List.replicate_succ, List.replicate_zero, List.cons_append, List.nil_append, List.append_nil, List.set_cons_zero, List.set_cons_succ, List.getElem?_cons_zero, List.getElem?_cons_succ, Option.bind_some, Option.map_some, Option.bind_none, Option.map_none, OW_some, OW_bind, OW_map, OW_if, Bool.false_eq_true, if_true, if_false, ↓reduceIte, Nat.reduceAdd, Nat.reduceSub, Nat.zero_add, Nat.sub_self, Function.comp]
      rw [eb, ← List.append_assoc]
      have ih := marks_in (s := s) (A := A) (C := C) r (acc ++ [lo, h]) (some (.dat (verD lo))) (some (.dat (hiD (some h)))) (by rw [List.length_append, List.length_cons, List.length_singleton]; omega)
      rw [List.map_append] at ih
      exact ih
theorem marks_out {s : Hand} {A : Option Slot} : ∀ (rs : List Rng) (acc : List Int) (e2 e3 e4 : Option Slot), acc.length + (rs.flatMap bounds).length < 16777216 →
    OW (loopS (gdName 2) b__law_marks_0 (rs.map rngD) [A, some (.own (acc.map verD)), e2, e3, e4] s) (Qn (fun env => ∃ e2 e3 e4, env = [A, some (.own ((acc ++ rs.flatMap bounds).map verD)), e2, e3, e4]) s)
  | [], acc, e2, e3, e4, hz => by
    show OW (some _) _
    rw [OW_some]
    exact ⟨⟨e2, e3, e4, by rw [List.flatMap_nil, List.append_nil]⟩, rfl⟩
  | r :: rs, acc, e2, e3, e4, hz => by
    rw [List.flatMap_cons, List.length_append] at hz
    rw [List.map_cons, List.flatMap_cons]
    unfold loopS
    have er : tupItems (rngD r) = some (r.map strD) := rfl
    simp only [mDef_eq, outD_nx, outD_rt, startE, sNil, sSeq, thenS_nx, thenS_rt, thenS_bk, thenS_ct, sAsg, sIf, sRet, sRetN, sDrop, sBrk, sCnt, sFor, sOwn, ownAt, sApp, sExt, sPut, sFrz, sPar, mIxO, mLenO, mTupO, mVar, mC, mU, mB, mNil, mCons, mF, mIsT, mAndT, mOrT, mNotT, mAnd, mOr, mNot, mIf, mChain, mPart, mNoPart, mSl, mCall, mIt, mRng, mComp, mYes, gdName, gdTup, gdCons, gdNil, wipeE, tupItems_tup, lstItems_lst, bl_bl, int_int, mHx_eq, mHlen_eq, mHcell_eq, sHput_eq, isH_hnd, hget1, hget2, hget3, hget4, hset1, hset2, hset3, hset4, eq_int, ne_int, lt_int, gt_int, le_int, ge_int, eq_bl, add_int, add_tup, add_lst, sub_int, neg_int, isN_hi, notN_hi, mul_int, div_int, mod_int, pow_int, abs_int, intC_int, len_tup, len_lst, tup_D, lst_D, rt_D, Bool.not_not, Bool.not_true, Bool.not_false, true_and, and_true, false_and, and_false, or_true, true_or, or_false, false_or, List.length_cons, List.length_nil, List.length_append, List.length_map, List.map_cons, List.map_nil, List.replicate_succ, List.replicate_zero, List.cons_append, List.nil_append, List.append_nil, List.set_cons_zero, List.set_cons_succ, List.getElem?_cons_zero, List.getElem?_cons_succ, Option.bind_some, Option.map_some, Option.bind_none, Option.map_none, OW_some, OW_bind, OW_map, OW_if, Bool.false_eq_true, if_true, if_false, ↓reduceIte, Nat.reduceAdd, Nat.reduceSub, Nat.zero_add, Nat.sub_self, Function.comp, b__law_marks_0_eq, er]
    refine OW.walk (marks_in (s := s) (A := A) (C := some (.dat (rngD r))) r acc e3 e4 (by omega)) fun env he => ?_
    obtain ⟨e3', e4', he⟩ := he
    subst he
    have ih := marks_out (s := s) (A := A) rs (acc ++ bounds r) (some (.dat (rngD r))) e3' e4' (by rw [List.length_append]; omega)
    rw [← List.append_assoc]
    exact ih
theorem pure_marks {rs : List Rng} {s : Hand} (h : ∀ x ∈ rs.flatMap bounds, OkV x) (hz : (rs.flatMap bounds).length < 63) : ∃ l : List Int, f__law_marks [.lst (rs.map rngD)] s = some (.lst ((0 :: l).map verD), s) ∧ (0 :: l).Pairwise (· < ·) ∧ (∀ x, x ∈ 0 :: l ↔ x ∈ 0 :: rs.flatMap bounds) ∧
    (0 :: l).length ≤ 1 + (rs.flatMap bounds).length := by
  have hv : ∀ x ∈ 0 :: rs.flatMap bounds, OkV x := fun x hx => by
    rcases List.mem_cons.mp hx with e | e
    · rw [e]; exact okV0
    · exact h x e
  obtain ⟨l, e1, e2, e3, e4⟩ := sset_vers (ms := 0 :: rs.flatMap bounds) hv (by rw [List.length_cons]; omega) (by simp)
  have hl : ∃ l', l = 0 :: l' := by
    have h0 : 0 ∈ l := (e3 0).mpr (List.mem_cons_self ..)
    cases l with
    | nil => cases h0
    | cons a l' =>
      rcases List.mem_cons.mp h0 with e | e
      · exact ⟨l', by rw [e]⟩
      · have h1 := (List.pairwise_cons.mp e2).1 0 e
        have h2 := (hv a ((e3 a).mp (List.mem_cons_self ..))).1
        omega
  obtain ⟨l', rfl⟩ := hl
  refine ⟨l', ?_, e2, e3, by rw [List.length_cons] at e4; rw [List.length_cons]; rw [List.length_cons] at e4; omega⟩
  refine eq_of_OW ?_
  unfold f__law_marks
  have hs1 : (0 + 1 ≤ sizeLine) = True := eq_true (by rw [sizeLine_eq]; omega)
  have hs3 : (0 + 1 + 1 + 1 ≤ sizeLine) = True := eq_true (by rw [sizeLine_eq]; omega)
  simp only [mDef_eq, outD_nx, outD_rt, startE, sNil, sSeq, thenS_nx, thenS_rt, thenS_bk, thenS_ct, sAsg, sIf, sRet, sRetN, sDrop, sBrk, sCnt, sFor, sOwn, ownAt, sApp, sExt, sPut, sFrz, sPar, mIxO, mLenO, mTupO, mVar, mC, mU, mB, mNil, mCons, mF, mIsT, mAndT, mOrT, mNotT, mAnd, mOr, mNot, mIf, mChain, mPart, mNoPart, mSl, mCall, mIt, mRng, mComp, mYes, gdName, gdTup, gdCons, gdNil, wipeE, tupItems_tup, lstItems_lst, bl_bl, int_int, mHx_eq, mHlen_eq, mHcell_eq, sHput_eq, isH_hnd, hget1, hget2, hget3, hget4, hset1, hset2, hset3, hset4, eq_int, ne_int, lt_int, gt_int, le_int, ge_int, eq_bl, add_int, add_tup, add_lst, sub_int, neg_int, isN_hi, notN_hi, mul_int, div_int, mod_int, pow_int, abs_int, intC_int, len_tup, len_lst, tup_D, lst_D, rt_D, Bool.not_not, Bool.not_true, Bool.not_false, true_and, and_true, false_and, and_false, or_true, true_or, or_false, false_or, List.length_cons, List.length_nil, List.length_append, List.length_map, List.map_cons, List.map_nil, List.replicate_succ, List.replicate_zero, List.cons_append, List.nil_append, List.append_nil, List.set_cons_zero, List.set_cons_succ, List.getElem?_cons_zero, List.getElem?_cons_succ, Option.bind_some, Option.map_some, Option.bind_none, Option.map_none, OW_some, OW_bind, OW_map, OW_if, Bool.false_eq_true, if_true, if_false, ↓reduceIte, Nat.reduceAdd, Nat.reduceSub, Nat.zero_add, Nat.sub_self, Function.comp, hs1, hs3, ver0]
  refine OW.walk (marks_out (s := s) (A := some (.dat (.lst (rs.map rngD)))) rs [0] none none none (by rw [List.length_singleton]; omega)) fun env he => ?_
  obtain ⟨e2', e3', e4', he⟩ := he
  subst he
  have e1' : ssetD [.lst (([0] ++ rs.flatMap bounds).map verD)] = some (.lst ((0 :: l').map verD)) := e1
  simp only [mDef_eq, outD_nx, outD_rt, startE, sNil, sSeq, thenS_nx, thenS_rt, thenS_bk, thenS_ct, sAsg, sIf, sRet, sRetN, sDrop, sBrk, sCnt, sFor, sOwn, ownAt, sApp, sExt, sPut, sFrz, sPar, mIxO, mLenO, mTupO, mVar, mC, mU, mB, mNil, mCons, mF, mIsT, mAndT, mOrT, mNotT, mAnd, mOr, mNot, mIf, mChain, mPart, mNoPart, mSl, mCall, mIt, mRng, mComp, mYes, gdName, gdTup, gdCons, gdNil, wipeE, tupItems_tup, lstItems_lst, bl_bl, int_int, mHx_eq, mHlen_eq, mHcell_eq, sHput_eq, isH_hnd, hget1, hget2, hget3, hget4, hset1, hset2, hset3, hset4, eq_int, ne_int, lt_int, gt_int, le_int, ge_int, eq_bl, add_int, add_tup, add_lst, sub_int, neg_int, isN_hi, notN_hi, mul_int, div_int, mod_int, pow_int, abs_int, intC_int, len_tup, len_lst, tup_D, lst_D, rt_D, Bool.not_not, Bool.not_true, Bool.not_false, true_and, and_true, false_and, and_false, or_true, true_or, or_false, false_or, List.length_cons, List.length_nil, List.length_append, List.length_map, List.map_cons, List.map_nil, List.replicate_succ, List.replicate_zero, List.cons_append, List.nil_append, List.append_nil, List.set_cons_zero, List.set_cons_succ, List.getElem?_cons_zero, List.getElem?_cons_succ, Option.bind_some, Option.map_some, Option.bind_none, Option.map_none, OW_some, OW_bind, OW_map, OW_if, Bool.false_eq_true, if_true, if_false, ↓reduceIte, Nat.reduceAdd, Nat.reduceSub, Nat.zero_add, Nat.sub_self, Function.comp]
  simp only [List.map_append, List.map_cons, List.map_nil, List.cons_append, List.nil_append] at e1' ⊢
  simp only [OW_eq e1']
theorem ixN_last {n : Nat} : ixN (n + 1) (-1) = some n := by
  unfold ixN
  rw [if_neg (by omega), if_pos (by omega)]
  congr 1
  omega
theorem atI_last {α : Type} {l : List α} {x : α} : atI (l ++ [x]) (-1) = some x := by
  unfold atI
  rw [List.length_append, List.length_singleton, ixN_last]
  exact get_mid l x []
theorem set_last {α : Type} {x y : α} : ∀ {l : List α}, (l ++ [x]).set l.length y = l ++ [y]
  | [] => rfl
  | a :: l => congrArg (a :: ·) (set_last (l := l))
theorem tlO_len (o : Option Int) : (tlO o).length ≤ 1 := by cases o <;> exact by simp [tlO]
theorem ixl_get {ds : List D} {i : Nat} {d : D} (h : ds[i]? = some d) : ixD (.lst ds) (.int (i : Int)) = some d := by rw [ixl_nat, h]
theorem made_loop {s : Hand} {full : List (Int × Bool)} (hz : full.length < 1000000) : ∀ (l pre : List (Int × Bool)) (o : Option Int) (done : Rng) (e3 : Option Slot), full = pre ++ l → (∀ p f, pre.getLast? = some (p, f) → o.isSome = f) → (pre = [] → o = none) → done.length ≤ pre.length →
    OW (loopS (gdName 3) b__law_made_0 (rngOf (pre.length : Int) l.length) [some (.dat (.lst (full.map fun q => verD q.1))), some (.dat (.lst (full.map fun q => .bl q.2))), some (.own ((done ++ tlO o).map strD)), e3] s)
      (Qn (fun env => ∃ e3, env = [some (.dat (.lst (full.map fun q => verD q.1))), some (.dat (.lst (full.map fun q => .bl q.2))), some (.own ((done ++ madeR o l).map strD)), e3]) s)
  | [], pre, o, done, e3, hf, hp, hn, hd => by
    rw [List.length_nil, rngOf_zero]
    show OW (some _) _
    rw [OW_some]
    refine ⟨⟨e3, ?_⟩, rfl⟩
    have : madeR o [] = tlO o := by cases o <;> rfl
    rw [this]
  | (m, f) :: l, pre, o, done, e3, hf, hp, hn, hd => by
    rw [List.length_cons, rngOf_succ]
    unfold loopS
    have hlen : pre.length < full.length := by
      rw [hf, List.length_append, List.length_cons]; omega
    have g1 : (full.map fun q => verD q.1)[pre.length]? = some (verD m) := by
      rw [List.getElem?_map, hf, get_mid]; rfl
    have g2 : (full.map fun q => D.bl q.2)[pre.length]? = some (.bl f) := by
      rw [List.getElem?_map, hf, get_mid]; rfl
    have i1 := ixl_get g1
    have i2 := ixl_get g2
    have en : ((pre.length : Int) + 1) = (((pre ++ [(m, f)]).length : Nat) : Int) := by
      rw [List.length_append, List.length_singleton]; omega
    have ih := fun o' done' e3' h1 h2 => made_loop (s := s) hz l (pre ++ [(m, f)]) o' done' e3' (by rw [hf]; simp) h1 (fun z => by simp at z) h2
    have hl2 : ∀ (o' : Option Int), o'.isSome = f → ∀ p f', (pre ++ [(m, f)]).getLast? = some (p, f') → o'.isSome = f' := fun o' h p f' z => by
      rw [List.getLast?_append, List.getLast?_singleton] at z
      cases z
      exact h
    have hld : (pre ++ [(m, f)]).length = pre.length + 1 := by rw [List.length_append, List.length_singleton]
    have hpv : 0 < pre.length → ixD (.lst (full.map fun q => D.bl q.2)) (.int ((pre.length : Int) - 1)) = some (.bl o.isSome) := by
      intro h0
      obtain ⟨k, hk⟩ : ∃ k, pre.length = k + 1 := ⟨pre.length - 1, by omega⟩
      rw [show ((pre.length : Int) - 1) = (k : Int) by omega]
      refine ixl_get ?_
      rw [List.getElem?_map, hf, List.getElem?_append_left (by omega)]
      have e : pre.getLast? = pre[k]? := by
        rw [List.getLast?_eq_getElem?, hk]; rfl
      cases q : pre[k]? with
      | none =>
        rw [List.getElem?_eq_none_iff] at q
        omega
      | some z =>
        obtain ⟨a, b⟩ := z
        rw [q] at e
        rw [hp a b e]
        rfl
    have hs2 : (0 + 1 + 1 ≤ sizeLine) = True := eq_true (by rw [sizeLine_eq]; omega)
    have hap0 : (done.length + 0 < sizeLine) = True := eq_true (by
      rw [sizeLine_eq]
      have h1 : pre.length < 1000000 := Nat.lt_trans hlen hz
      omega)
    have hap : (done.length + (tlO o).length < sizeLine) = True := eq_true (by
      rw [sizeLine_eq]
      have := tlO_len o
      omega)
    simp only [mDef_eq, outD_nx, outD_rt, startE, sNil, sSeq, thenS_nx, thenS_rt, thenS_bk, thenS_ct, sAsg, sIf, sRet, sRetN, sDrop, sBrk, sCnt, sFor, sOwn, ownAt, sApp, sExt, sPut, sFrz, sPar, mIxO, mLenO, mTupO, mVar, mC, mU, mB, mNil, mCons, mF, mIsT, mAndT, mOrT, mNotT, mAnd, mOr, mNot, mIf, mChain, mPart, mNoPart, mSl, mCall, mIt, mRng, mComp, mYes, gdName, gdTup, gdCons, gdNil, wipeE, tupItems_tup, lstItems_lst, bl_bl, int_int, mHx_eq, mHlen_eq, mHcell_eq, sHput_eq, isH_hnd, hget1, hget2, hget3, hget4, hset1, hset2, hset3, hset4, eq_int, ne_int, lt_int, gt_int, le_int, ge_int, eq_bl, add_int, add_tup, add_lst, sub_int, neg_int, isN_hi, notN_hi, mul_int, div_int, mod_int, pow_int, abs_int, intC_int, len_tup, len_lst, tup_D, lst_D, rt_D, Bool.not_not, Bool.not_true, Bool.not_false, true_and, and_true, false_and, and_false, or_true, true_or, or_false, false_or, List.length_cons, List.length_nil, List.length_append, List.length_map, List.map_cons, List.map_nil, List.replicate_succ, List.replicate_zero, List.cons_append, List.nil_append, List.append_nil, List.set_cons_zero, List.set_cons_succ, List.getElem?_cons_zero, List.getElem?_cons_succ, Option.bind_some, Option.map_some, Option.bind_none, Option.map_none, OW_some, OW_bind, OW_map, OW_if, Bool.false_eq_true, if_true, if_false, ↓reduceIte, Nat.reduceAdd, Nat.reduceSub, Nat.zero_add, Nat.sub_self, Function.comp, b__law_made_0_eq, i2, i1]
    have z0 : pre.length = 0 → o = none := fun h => hn (List.eq_nil_of_length_eq_zero h)
    cases f with
    | true =>
      have eg : decide ((0 : Int) < (pre.length : Int)) = decide (0 < pre.length) := by
        by_cases c : 0 < pre.length
        · rw [decide_eq_true c, decide_eq_true (by omega)]
        · rw [decide_eq_false c, decide_eq_false (by omega)]
      cases o with
      | none =>
        have e0 := ih (some m) done (some (.dat (.int (pre.length : Int)))) (hl2 _ rfl) (by rw [hld]; omega)
        have em : madeR none ((m, true) :: l) = madeR (some m) l := rfl
        by_cases c : pre.length = 0
        · have ce : ((pre.length : Int) == 0) = true := by rw [beq_iff_eq]; omega
          have cg : decide ((0 : Int) < (pre.length : Int)) = false := decide_eq_false (by omega)
          simp only [mDef_eq, outD_nx, outD_rt, startE, sNil, sSeq, thenS_nx, thenS_rt, thenS_bk, thenS_ct, sAsg, sIf, sRet, sRetN, sDrop, sBrk, sCnt, sFor, sOwn, ownAt, sApp, sExt, sPut, sFrz, sPar, mIxO, mLenO, mTupO, mVar, mC, mU, mB, mNil, mCons, mF, mIsT, mAndT, mOrT, mNotT, mAnd, mOr, mNot, mIf, mChain, mPart, mNoPart, mSl, mCall, mIt, mRng, mComp, mYes, gdName, gdTup, gdCons, gdNil, wipeE, tupItems_tup, lstItems_lst, bl_bl, int_int, mHx_eq, mHlen_eq, mHcell_eq, sHput_eq, isH_hnd, hget1, hget2, hget3, hget4, hset1, hset2, hset3, hset4, eq_int, ne_int, lt_int, gt_int, le_int, ge_int, eq_bl, add_int, add_tup, add_lst, sub_int, neg_int, isN_hi, notN_hi, mul_int, div_int, mod_int, pow_int, abs_int, intC_int, len_tup, len_lst, tup_D, lst_D, rt_D, Bool.not_not, Bool.not_true, Bool.not_false, true_and, and_true, false_and, and_false, or_true, true_or, or_false, false_or, List.length_cons, List.length_nil, List.length_append, List.length_map, List.map_cons, List.map_nil, List.replicate_succ, List.replicate_zero, List.cons_append, List.nil_append, List.append_nil, List.set_cons_zero, List.set_cons_succ, List.getElem?_cons_zero, List.getElem?_cons_succ, Option.bind_some, Option.map_some, Option.bind_none, Option.map_none, OW_some, OW_bind, OW_map, OW_if, Bool.false_eq_true, if_true, if_false, ↓reduceIte, Nat.reduceAdd, Nat.reduceSub, Nat.zero_add, Nat.sub_self, Function.comp, ce, cg, hs2, hap0, tlO]
          rw [em, en]
          rw [List.map_append] at e0
          exact e0
        · have ce : ((pre.length : Int) == 0) = false := by
            rw [beq_eq_false_iff_ne]; omega
          have cg : decide ((0 : Int) < (pre.length : Int)) = true := decide_eq_true (by omega)
          have hp0 := hpv (by omega)
          simp only [Option.isSome_none] at hp0
          simp only [mDef_eq, outD_nx, outD_rt, startE, sNil, sSeq, thenS_nx, thenS_rt, thenS_bk, thenS_ct, sAsg, sIf, sRet, sRetN, sDrop, sBrk, sCnt, sFor, sOwn, ownAt, sApp, sExt, sPut, sFrz, sPar, mIxO, mLenO, mTupO, mVar, mC, mU, mB, mNil, mCons, mF, mIsT, mAndT, mOrT, mNotT, mAnd, mOr, mNot, mIf, mChain, mPart, mNoPart, mSl, mCall, mIt, mRng, mComp, mYes, gdName, gdTup, gdCons, gdNil, wipeE, tupItems_tup, lstItems_lst, bl_bl, int_int, mHx_eq, mHlen_eq, mHcell_eq, sHput_eq, isH_hnd, hget1, hget2, hget3, hget4, hset1, hset2, hset3, hset4, eq_int, ne_int, lt_int, gt_int, le_int, ge_int, eq_bl, add_int, add_tup, add_lst, sub_int, neg_int, isN_hi, notN_hi, mul_int, div_int, mod_int, pow_int, abs_int, intC_int, len_tup, len_lst, tup_D, lst_D, rt_D, Bool.not_not, Bool.not_true, Bool.not_false, true_and, and_true, false_and, and_false, or_true, true_or, or_false, false_or, List.length_cons, List.length_nil, List.length_append, List.length_map, List.map_cons, List.map_nil, List.replicate_succ, List.replicate_zero, List.cons_append, List.nil_append, List.append_nil, List.set_cons_zero, List.set_cons_succ, List.getElem?_cons_zero, List.getElem?_cons_succ, Option.bind_some, Option.map_some, Option.bind_none, Option.map_none, OW_some, OW_bind, OW_map, OW_if, Bool.false_eq_true, if_true, if_false, ↓reduceIte, Nat.reduceAdd, Nat.reduceSub, Nat.zero_add, Nat.sub_self, Function.comp, ce, cg, hp0, hs2, hap0, tlO]
          rw [em, en]
          rw [List.map_append] at e0
          exact e0
      | some lo =>
        have c : 0 < pre.length := by
          rcases Nat.eq_zero_or_pos pre.length with h | h
          · cases z0 h
          · exact h
        have ce : ((pre.length : Int) == 0) = false := by
          rw [beq_eq_false_iff_ne]; omega
        have cg : decide ((0 : Int) < (pre.length : Int)) = true := decide_eq_true (by omega)
        have hp0 := hpv c
        simp only [Option.isSome_some] at hp0
        have e0 := ih (some lo) done (some (.dat (.int (pre.length : Int)))) (hl2 _ rfl) (by rw [hld]; omega)
        have em : madeR (some lo) ((m, true) :: l) = madeR (some lo) l := rfl
        simp only [mDef_eq, outD_nx, outD_rt, startE, sNil, sSeq, thenS_nx, thenS_rt, thenS_bk, thenS_ct, sAsg, sIf, sRet, sRetN, sDrop, sBrk, sCnt, sFor, sOwn, ownAt, sApp, sExt, sPut, sFrz, sPar, mIxO, mLenO, mTupO, mVar, mC, mU, mB, mNil, mCons, mF, mIsT, mAndT, mOrT, mNotT, mAnd, mOr, mNot, mIf, mChain, mPart, mNoPart, mSl, mCall, mIt, mRng, mComp, mYes, gdName, gdTup, gdCons, gdNil, wipeE, tupItems_tup, lstItems_lst, bl_bl, int_int, mHx_eq, mHlen_eq, mHcell_eq, sHput_eq, isH_hnd, hget1, hget2, hget3, hget4, hset1, hset2, hset3, hset4, eq_int, ne_int, lt_int, gt_int, le_int, ge_int, eq_bl, add_int, add_tup, add_lst, sub_int, neg_int, isN_hi, notN_hi, mul_int, div_int, mod_int, pow_int, abs_int, intC_int, len_tup, len_lst, tup_D, lst_D, rt_D, Bool.not_not, Bool.not_true, Bool.not_false, true_and, and_true, false_and, and_false, or_true, true_or, or_false, false_or, List.length_cons, List.length_nil, List.length_append, List.length_map, List.map_cons, List.map_nil, List.replicate_succ, List.replicate_zero, List.cons_append, List.nil_append, List.append_nil, List.set_cons_zero, List.set_cons_succ, List.getElem?_cons_zero, List.getElem?_cons_succ, Option.bind_some, Option.map_some, Option.bind_none, Option.map_none, OW_some, OW_bind, OW_map, OW_if, Bool.false_eq_true, if_true, if_false, ↓reduceIte, Nat.reduceAdd, Nat.reduceSub, Nat.zero_add, Nat.sub_self, Function.comp, ce, cg, hp0]
        rw [em, en]
        exact e0
    | false =>
      cases o with
      | none =>
        have e0 := ih none done (some (.dat (.int (pre.length : Int)))) (hl2 _ rfl) (by rw [hld]; omega)
        have em : madeR none ((m, false) :: l) = madeR none l := rfl
        by_cases c : pre.length = 0
        · have cg : decide ((0 : Int) < (pre.length : Int)) = false := decide_eq_false (by omega)
          simp only [mDef_eq, outD_nx, outD_rt, startE, sNil, sSeq, thenS_nx, thenS_rt, thenS_bk, thenS_ct, sAsg, sIf, sRet, sRetN, sDrop, sBrk, sCnt, sFor, sOwn, ownAt, sApp, sExt, sPut, sFrz, sPar, mIxO, mLenO, mTupO, mVar, mC, mU, mB, mNil, mCons, mF, mIsT, mAndT, mOrT, mNotT, mAnd, mOr, mNot, mIf, mChain, mPart, mNoPart, mSl, mCall, mIt, mRng, mComp, mYes, gdName, gdTup, gdCons, gdNil, wipeE, tupItems_tup, lstItems_lst, bl_bl, int_int, mHx_eq, mHlen_eq, mHcell_eq, sHput_eq, isH_hnd, hget1, hget2, hget3, hget4, hset1, hset2, hset3, hset4, eq_int, ne_int, lt_int, gt_int, le_int, ge_int, eq_bl, add_int, add_tup, add_lst, sub_int, neg_int, isN_hi, notN_hi, mul_int, div_int, mod_int, pow_int, abs_int, intC_int, len_tup, len_lst, tup_D, lst_D, rt_D, Bool.not_not, Bool.not_true, Bool.not_false, true_and, and_true, false_and, and_false, or_true, true_or, or_false, false_or, List.length_cons, List.length_nil, List.length_append, List.length_map, List.map_cons, List.map_nil, List.replicate_succ, List.replicate_zero, List.cons_append, List.nil_append, List.append_nil, List.set_cons_zero, List.set_cons_succ, List.getElem?_cons_zero, List.getElem?_cons_succ, Option.bind_some, Option.map_some, Option.bind_none, Option.map_none, OW_some, OW_bind, OW_map, OW_if, Bool.false_eq_true, if_true, if_false, ↓reduceIte, Nat.reduceAdd, Nat.reduceSub, Nat.zero_add, Nat.sub_self, Function.comp, cg]
          rw [em, en]
          exact e0
        · have cg : decide ((0 : Int) < (pre.length : Int)) = true := decide_eq_true (by omega)
          have hp0 := hpv (by omega)
          simp only [Option.isSome_none] at hp0
          simp only [mDef_eq, outD_nx, outD_rt, startE, sNil, sSeq, thenS_nx, thenS_rt, thenS_bk, thenS_ct, sAsg, sIf, sRet, sRetN, sDrop, sBrk, sCnt, sFor, sOwn, ownAt, sApp, sExt, sPut, sFrz, sPar, mIxO, mLenO, mTupO, mVar, mC, mU, mB, mNil, mCons, mF, mIsT, mAndT, mOrT, mNotT, mAnd, mOr, mNot, mIf, mChain, mPart, mNoPart, mSl, mCall, mIt, mRng, mComp, mYes, gdName, gdTup, gdCons, gdNil, wipeE, tupItems_tup, lstItems_lst, bl_bl, int_int, mHx_eq, mHlen_eq, mHcell_eq, sHput_eq, isH_hnd, hget1, hget2, hget3, hget4, hset1, hset2, hset3, hset4, eq_int, ne_int, lt_int, gt_int, le_int, ge_int, eq_bl, add_int, add_tup, add_lst, sub_int, neg_int, isN_hi, notN_hi, mul_int, div_int, mod_int, pow_int, abs_int, intC_int, len_tup, len_lst, tup_D, lst_D, rt_D, Bool.not_not, Bool.not_true, Bool.not_false, true_and, and_true, false_and, and_false, or_true, true_or, or_false, false_or, List.length_cons, List.length_nil, List.length_append, List.length_map, List.map_cons, List.map_nil, List.replicate_succ, List.replicate_zero, List.cons_append, List.nil_append, List.append_nil, List.set_cons_zero, List.set_cons_succ, List.getElem?_cons_zero, List.getElem?_cons_succ, Option.bind_some, Option.map_some, Option.bind_none, Option.map_none, OW_some, OW_bind, OW_map, OW_if, Bool.false_eq_true, if_true, if_false, ↓reduceIte, Nat.reduceAdd, Nat.reduceSub, Nat.zero_add, Nat.sub_self, Function.comp, cg, hp0]
          rw [em, en]
          exact e0
      | some lo =>
        have c : 0 < pre.length := by
          rcases Nat.eq_zero_or_pos pre.length with h | h
          · cases z0 h
          · exact h
        have cg : decide ((0 : Int) < (pre.length : Int)) = true := decide_eq_true (by omega)
        have hp0 := hpv c
        simp only [Option.isSome_some] at hp0
        have e0 := ih none (done ++ [(lo, some m)]) (some (.dat (.int (pre.length : Int)))) (hl2 _ rfl) (by rw [hld, List.length_append, List.length_singleton]; omega)
        have em : madeR (some lo) ((m, false) :: l) = [(lo, some m)] ++ madeR none l := rfl
        have ea : atI ((done ++ tlO (some lo)).map strD) (-1) = some (.tup [verD lo, .non]) := by
          rw [List.map_append]
          exact atI_last
        have ex : ixN (done.length + (tlO (some lo)).length) (-1) = some done.length := ixN_last
        have est : ((done ++ tlO (some lo)).map strD).set done.length (.tup [verD lo, verD m]) = (done ++ [(lo, some m)]).map strD := by
          rw [List.map_append, List.map_append]
          have := set_last (l := done.map strD) (x := strD (lo, none)) (y := .tup [verD lo, verD m])
          rw [List.length_map] at this
          exact this
        simp only [mDef_eq, outD_nx, outD_rt, startE, sNil, sSeq, thenS_nx, thenS_rt, thenS_bk, thenS_ct, sAsg, sIf, sRet, sRetN, sDrop, sBrk, sCnt, sFor, sOwn, ownAt, sApp, sExt, sPut, sFrz, sPar, mIxO, mLenO, mTupO, mVar, mC, mU, mB, mNil, mCons, mF, mIsT, mAndT, mOrT, mNotT, mAnd, mOr, mNot, mIf, mChain, mPart, mNoPart, mSl, mCall, mIt, mRng, mComp, mYes, gdName, gdTup, gdCons, gdNil, wipeE, tupItems_tup, lstItems_lst, bl_bl, int_int, mHx_eq, mHlen_eq, mHcell_eq, sHput_eq, isH_hnd, hget1, hget2, hget3, hget4, hset1, hset2, hset3, hset4, eq_int, ne_int, lt_int, gt_int, le_int, ge_int, eq_bl, add_int, add_tup, add_lst, sub_int, neg_int, isN_hi, notN_hi, mul_int, div_int, mod_int, pow_int, abs_int, intC_int, len_tup, len_lst, tup_D, lst_D, rt_D, Bool.not_not, Bool.not_true, Bool.not_false, true_and, and_true, false_and, and_false, or_true, true_or, or_false, false_or, List.length_cons, List.length_nil, List.length_append, List.length_map, List.map_cons, List.map_nil, List.replicate_succ, List.replicate_zero, List.cons_append, List.nil_append, List.append_nil, List.set_cons_zero, List.set_cons_succ, List.getElem?_cons_zero, List.getElem?_cons_succ, Option.bind_some, Option.map_some, Option.bind_none, Option.map_none, OW_some, OW_bind, OW_map, OW_if, Bool.false_eq_true, if_true, if_false, ↓reduceIte, Nat.reduceAdd, Nat.reduceSub, Nat.zero_add, Nat.sub_self, Function.comp, cg, hp0, ea, ex, est, ix_0, hs2]
        rw [em, en, ← List.append_assoc]
        have e0' : ((done ++ [(lo, some m)]) ++ tlO none) = done ++ [(lo, some m)] := List.append_nil _
        rw [e0'] at e0
        exact e0
theorem made_key {xs ys : List D} {s : Hand} (m m2 : MS Hand) : sSeq (sOwn 2 mNil) (sSeq m m2) (startE 4 [.lst xs, .lst ys]) s = (m [some (.dat (.lst xs)), some (.dat (.lst ys)), some (.own []), none] s).bind fun o => thenS o m2 := by
  have hs0 : (0 ≤ sizeLine) = True := eq_true (Nat.zero_le _)
  simp only [mDef_eq, outD_nx, outD_rt, startE, sNil, sSeq, thenS_nx, thenS_rt, thenS_bk, thenS_ct, sAsg, sIf, sRet, sRetN, sDrop, sBrk, sCnt, sFor, sOwn, ownAt, sApp, sExt, sPut, sFrz, sPar, mIxO, mLenO, mTupO, mVar, mC, mU, mB, mNil, mCons, mF, mIsT, mAndT, mOrT, mNotT, mAnd, mOr, mNot, mIf, mChain, mPart, mNoPart, mSl, mCall, mIt, mRng, mComp, mYes, gdName, gdTup, gdCons, gdNil, wipeE, tupItems_tup, lstItems_lst, bl_bl, int_int, mHx_eq, mHlen_eq, mHcell_eq, sHput_eq, isH_hnd, hget1, hget2, hget3, hget4, hset1, hset2, hset3, hset4, eq_int, ne_int, lt_int, gt_int, le_int, ge_int, eq_bl, add_int, add_tup, add_lst, sub_int, neg_int, isN_hi, notN_hi, mul_int, div_int, mod_int, pow_int, abs_int, intC_int, len_tup, len_lst, tup_D, lst_D, rt_D, Bool.not_not, Bool.not_true, Bool.not_false, true_and, and_true, false_and, and_false, or_true, true_or, or_false, false_or, List.length_cons, List.length_nil, List.length_append, List.length_map, List.map_cons, List.map_nil, List.replicate_succ, List.replicate_zero, List.cons_append, List.nil_append, List.append_nil, List.set_cons_zero, List.set_cons_succ, List.getElem?_cons_zero, List.getElem?_cons_succ, Option.bind_some, Option.map_some, Option.bind_none, Option.map_none, OW_some, OW_bind, OW_map, OW_if, Bool.false_eq_true, if_true, if_false, ↓reduceIte, Nat.reduceAdd, Nat.reduceSub, Nat.zero_add, Nat.sub_self, Function.comp, hs0]
theorem made_start {xs ys : List D} {s : Hand} : f__law_made [.lst xs, .lst ys] s = (((sFor (mRng rng1D (mCons (mF lenD (mCons (mVar 0) mNil)) mNil)) (gdName 3) b__law_made_0) [some (.dat (.lst xs)), some (.dat (.lst ys)), some (.own []), none] s).bind fun o => thenS o (sRet (mTupO 2))).bind outD := by
  unfold f__law_made
  rw [mDef_eq, made_key]
theorem made_src (f : List D → Option (List D)) {xs : List D} {r : DE} {s : Hand} : mRng f (mCons (mF lenD (mCons (mVar 0) mNil)) mNil) (some (.dat (.lst xs)) :: r) s = (f [.int ((xs.length : Nat) : Int)]).map fun zs => (zs, s) := rfl
theorem made_for (f : List D → Option (List D)) (gd : D → DE → Option DE) (body : MS Hand) {xs zs : List D} {r : DE} {s : Hand} (h : f [.int ((xs.length : Nat) : Int)] = some zs) :
    sFor (mRng f (mCons (mF lenD (mCons (mVar 0) mNil)) mNil)) gd body (some (.dat (.lst xs)) :: r) s = loopS gd body zs (some (.dat (.lst xs)) :: r) s := by
  unfold sFor
  rw [made_src, h]
  rfl
theorem pure_made {l : List (Int × Bool)} {s : Hand} (hz : l.length < 1000000) : f__law_made [.lst (l.map fun q => verD q.1), .lst (l.map fun q => .bl q.2)] s = some (rngD (madeR none l), s) := by
  have hr : rng1D [.int (((l.map fun q => verD q.1).length : Nat) : Int)] = some (rngOf 0 l.length) := by
    rw [List.length_map]
    exact rng1_nat (by omega)
  have hw : OW (loopS (gdName 3) b__law_made_0 (rngOf 0 l.length) [some (.dat (.lst (l.map fun q => verD q.1))), some (.dat (.lst (l.map fun q => .bl q.2))), some (.own []), none] s)
      (Qn (fun env => ∃ e3, env = [some (.dat (.lst (l.map fun q => verD q.1))), some (.dat (.lst (l.map fun q => .bl q.2))), some (.own ((madeR none l).map strD)), e3]) s) :=
    made_loop (s := s) (full := l) hz l [] none [] none rfl (fun _ _ h => by cases h) (fun _ => rfl) (Nat.le_refl 0)
  obtain ⟨o, e, q⟩ := hw.get
  obtain ⟨env, eo, e3, he⟩ := q.get
  subst eo he
  rw [made_start, made_for rng1D _ _ hr, e]
  rfl
theorem twos {r : Rng} (h : ∀ q ∈ r, OkS q) : ∀ q ∈ r, OkV q.1 ∧ OkH q.2 := fun q hq => OkS.two (h q hq)
theorem bounds_ok {r : Rng} (h : ∀ q ∈ r, OkS q) : ∀ x ∈ bounds r, OkV x := fun x hx => by
  obtain ⟨p, hp, e⟩ := mem_bounds.mp hx
  rcases e with e | e
  · rw [e]; exact (h p hp).1
  · exact ((h p hp).2 x e).1
theorem bounds_len : ∀ r : Rng, (bounds r).length ≤ 2 * r.length
  | [] => Nat.le_refl _
  | (lo, hi) :: r => by
    have := bounds_len r
    cases hi with
    | none =>
      show ([lo] ++ bounds r).length ≤ _
      rw [List.length_append, List.length_singleton, List.length_cons]; omega
    | some h =>
      show ([lo, h] ++ bounds r).length ≤ _
      rw [List.length_append, List.length_cons, List.length_singleton, List.length_cons]; omega
theorem madeR_len : ∀ (l : List (Int × Bool)), (madeR none l).length ≤ l.length ∧ ∀ lo, (madeR (some lo) l).length ≤ l.length + 1
  | [] => ⟨Nat.le_refl _, fun _ => Nat.le_refl _⟩
  | (m, f) :: r => by
    obtain ⟨h1, h2⟩ := madeR_len r
    cases f with
    | true =>
      refine ⟨h2 m, fun lo => ?_⟩
      have := h2 lo
      show (madeR (some lo) r).length ≤ r.length + 1 + 1
      omega
    | false =>
      refine ⟨Nat.le_succ_of_le h1, fun lo => ?_⟩
      show (madeR none r).length + 1 ≤ r.length + 1 + 1
      omega
theorem lo_key {X R : D} {L F : List D} {s : Hand} (h1 : f__law_marks [.lst [X]] s = some (.lst L, s)) (h2 : compL (gdName 2) mYes c__law_outside_0 [some (.dat X), some (.dat (.lst L)), none] L s = some (F, s)) (h3 : f__law_made [.lst L, .lst F] s = some (R, s)) : f__law_outside [X] s = some (R, s) := by
  refine eq_of_OW ?_
  unfold f__law_outside
  have hs1 : (0 + 1 ≤ sizeLine) = True := eq_true (by rw [sizeLine_eq]; omega)
  simp only [mDef_eq, OW_bind, startE, List.map_cons, List.map_nil, List.cons_append, List.nil_append, List.length_cons, List.length_nil, Nat.reduceAdd, Nat.zero_add, Nat.reduceSub, List.replicate_succ, List.replicate_zero, sSeq, sAsg, OW_map, OW_some, mCall, mF, mCons, mVar, mNil, List.getElem?_cons_zero, List.getElem?_cons_succ, lst_D, OW_if, hs1, if_true, h1, gdName, List.set_cons_succ, List.set_cons_zero, thenS_nx, sRet, mComp, mIt, wipeE, lstItems_lst, OW_eq h2, h3, thenS_rt, outD_rt]
theorem lb_key {X Y R : D} {L F : List D} {s : Hand} (h1 : f__law_marks [.lst [X, Y]] s = some (.lst L, s)) (h2 : compL (gdName 3) mYes c__law_both_0 [some (.dat X), some (.dat Y), some (.dat (.lst L)), none] L s = some (F, s)) (h3 : f__law_made [.lst L, .lst F] s = some (R, s)) : f__law_both [X, Y] s = some (R, s) := by
  refine eq_of_OW ?_
  unfold f__law_both
  have hs1 : (0 + 1 + 1 ≤ sizeLine) = True := eq_true (by rw [sizeLine_eq]; omega)
  simp only [mDef_eq, OW_bind, startE, List.map_cons, List.map_nil, List.cons_append, List.nil_append, List.length_cons, List.length_nil, Nat.reduceAdd, Nat.zero_add, Nat.reduceSub, List.replicate_succ, List.replicate_zero, sSeq, sAsg, OW_map, OW_some, mCall, mF, mCons, mVar, mNil, List.getElem?_cons_zero, List.getElem?_cons_succ, lst_D, OW_if, hs1, if_true, h1, gdName, List.set_cons_succ, List.set_cons_zero, thenS_nx, sRet, mComp, mIt, wipeE, lstItems_lst, OW_eq h2, h3, thenS_rt, outD_rt]
/-- flags of marks -/
theorem comp_flags {g : D → DE → Option DE} {e : ME Hand} {env : DE} {s : Hand} {P : Int → Bool} : ∀ {l : List Int}, (∀ y ∈ l, ∃ env1, g (verD y) env = some env1 ∧ e env1 s = some (.bl (P y), s)) → compL g mYes e env (l.map verD) s = some ((l.map fun x => (x, P x)).map fun q => .bl q.2, s)
  | [], _ => rfl
  | y :: l, h => by
    obtain ⟨env1, h1, h2⟩ := h y (List.mem_cons_self ..)
    have ih := comp_flags (l := l) fun z hz => h z (List.mem_cons_of_mem _ hz)
    rw [List.map_cons]
    unfold compL
    rw [h1]
    show (if true = true then (e env1 s).bind fun q => (compL g mYes e env (l.map verD) q.2).map fun r => (q.1 :: r.1, r.2) else compL g mYes e env (l.map verD) s) = _
    rw [if_pos rfl, h2]
    show ((compL g mYes e env (l.map verD) s).map fun r => (D.bl (P y) :: r.1, r.2)) = _
    rw [ih]
    rfl
theorem marks_fst {P : Int → Bool} (l : List Int) : (l.map fun x => (x, P x)).map (fun q => verD q.1) = l.map verD := by
  rw [List.map_map]
  rfl
theorem draw_then {s : Hand} {m : Int} {Q : D × Hand → Prop} (h0 : 0 < m) (h : m < 2 ^ 62) (g : ∀ n s', 0 ≤ n → n < m → Q (.int n, s')) : OW (f__law_draw [.hnd, .int m] s) Q := OW.mono (draw_ok h0 h) fun p ⟨n, e, h1, h2⟩ => by
  obtain ⟨d, s'⟩ := p
  dsimp only at e
  subst e
  exact g n s' h1 h2
theorem some_then {s : Hand} {xs : List D} {Q : D × Hand → Prop} (h0 : 0 < xs.length) (h : xs.length < 1000000) (g : ∀ d s', d ∈ xs → Q (d, s')) : OW (f__law_some [.hnd, .lst xs] s) Q := by
  unfold f__law_some
  simp only [mDef_eq, outD_nx, outD_rt, startE, sNil, sSeq, thenS_nx, thenS_rt, thenS_bk, thenS_ct, sAsg, sIf, sRet, sRetN, sDrop, sBrk, sCnt, sFor, sOwn, ownAt, sApp, sExt, sPut, sFrz, sPar, mIxO, mLenO, mTupO, mVar, mC, mU, mB, mNil, mCons, mF, mIsT, mAndT, mOrT, mNotT, mAnd, mOr, mNot, mIf, mChain, mPart, mNoPart, mSl, mCall, mIt, mRng, mComp, mYes, gdName, gdTup, gdCons, gdNil, wipeE, tupItems_tup, lstItems_lst, bl_bl, int_int, mHx_eq, mHlen_eq, mHcell_eq, sHput_eq, isH_hnd, hget1, hget2, hget3, hget4, hset1, hset2, hset3, hset4, eq_int, ne_int, lt_int, gt_int, le_int, ge_int, eq_bl, add_int, add_tup, add_lst, sub_int, neg_int, isN_hi, notN_hi, mul_int, div_int, mod_int, pow_int, abs_int, intC_int, len_tup, len_lst, tup_D, lst_D, rt_D, Bool.not_not, Bool.not_true, Bool.not_false, true_and, and_true, false_and, and_false, or_true, true_or, or_false, false_or, List.length_cons, List.length_nil, List.length_append, List.length_map, List.map_cons, List.map_nil, List.replicate_succ, List.replicate_zero, List.cons_append, List.nil_append, List.append_nil, List.set_cons_zero, List.set_cons_succ, List.getElem?_cons_zero, List.getElem?_cons_succ, Option.bind_some, Option.map_some, Option.bind_none, Option.map_none, OW_some, OW_bind, OW_map, OW_if, Bool.false_eq_true, if_true, if_false, ↓reduceIte, Nat.reduceAdd, Nat.reduceSub, Nat.zero_add, Nat.sub_self, Function.comp]
  refine draw_then (by omega) (by omega) fun n s' n0 n1 => ?_
  obtain ⟨k, rfl⟩ : ∃ k : Nat, n = (k : Int) := ⟨n.toNat, by omega⟩
  have hk : k < xs.length := by omega
  have e : ixD (.lst xs) (.int (k : Int)) = some xs[k] := by
    rw [ixl_nat, List.getElem?_eq_getElem hk]
  simp only [OW_eq e, mDef_eq, outD_nx, outD_rt, startE, sNil, sSeq, thenS_nx, thenS_rt, thenS_bk, thenS_ct, sAsg, sIf, sRet, sRetN, sDrop, sBrk, sCnt, sFor, sOwn, ownAt, sApp, sExt, sPut, sFrz, sPar, mIxO, mLenO, mTupO, mVar, mC, mU, mB, mNil, mCons, mF, mIsT, mAndT, mOrT, mNotT, mAnd, mOr, mNot, mIf, mChain, mPart, mNoPart, mSl, mCall, mIt, mRng, mComp, mYes, gdName, gdTup, gdCons, gdNil, wipeE, tupItems_tup, lstItems_lst, bl_bl, int_int, mHx_eq, mHlen_eq, mHcell_eq, sHput_eq, isH_hnd, hget1, hget2, hget3, hget4, hset1, hset2, hset3, hset4, eq_int, ne_int, lt_int, gt_int, le_int, ge_int, eq_bl, add_int, add_tup, add_lst, sub_int, neg_int, isN_hi, notN_hi, mul_int, div_int, mod_int, pow_int, abs_int, intC_int, len_tup, len_lst, tup_D, lst_D, rt_D, Bool.not_not, Bool.not_true, Bool.not_false, true_and, and_true, false_and, and_false, or_true, true_or, or_false, false_or, List.length_cons, List.length_nil, List.length_append, List.length_map, List.map_cons, List.map_nil, List.replicate_succ, List.replicate_zero, List.cons_append, List.nil_append, List.append_nil, List.set_cons_zero, List.set_cons_succ, List.getElem?_cons_zero, List.getElem?_cons_succ, Option.bind_some, Option.map_some, Option.bind_none, Option.map_none, OW_some, OW_bind, OW_map, OW_if, Bool.false_eq_true, if_true, if_false, ↓reduceIte, Nat.reduceAdd, Nat.reduceSub, Nat.zero_add, Nat.sub_self, Function.comp]
  exact g _ _ (List.getElem_mem hk)
theorem comp_then {g : D → DE → Option DE} {e : ME Hand} {env : DE} {P : D → Prop} : ∀ {xs : List D} {s : Hand}, (∀ x ∈ xs, ∃ env1, g x env = some env1 ∧ ∀ s, OW (e env1 s) fun p => P p.1) → OW (compL g mYes e env xs s) fun p => p.1.length = xs.length ∧ ∀ d ∈ p.1, P d
  | [], s, _ => by
    show OW (some _) _
    rw [OW_some]
    exact ⟨rfl, fun _ h => by cases h⟩
  | x :: xs, s, h => by
    obtain ⟨env1, h1, h2⟩ := h x (List.mem_cons_self ..)
    unfold compL
    rw [h1]
    show OW (if true = true then (e env1 s).bind fun q => (compL g mYes e env xs q.2).map fun r => (q.1 :: r.1, r.2) else compL g mYes e env xs s) _
    rw [if_pos rfl, OW_bind]
    refine OW.mono (h2 s) fun q hq => ?_
    rw [OW_map]
    refine OW.mono (comp_then (s := q.2) fun y hy => h y (List.mem_cons_of_mem _ hy)) fun r hr => ?_
    refine ⟨by rw [List.length_cons, List.length_cons, hr.1], fun d hd => ?_⟩
    rcases List.mem_cons.mp hd with z | z
    · rw [z]; exact hq
    · exact hr.2 d z
theorem vers_of : ∀ {ds : List D}, (∀ d ∈ ds, ∃ x, OkV x ∧ d = verD x) → ∃ ms : List Int, ds = ms.map verD ∧ (∀ x ∈ ms, OkV x) ∧ ms.length = ds.length
  | [], _ => ⟨[], rfl, (fun _ h => by cases h), rfl⟩
  | d :: ds, h => by
    obtain ⟨x, hx, e⟩ := h d (List.mem_cons_self ..)
    obtain ⟨ms, e2, h2, h3⟩ := vers_of fun y hy => h y (List.mem_cons_of_mem _ hy)
    refine ⟨x :: ms, by rw [e, e2]; rfl, fun y hy => ?_, by rw [List.length_cons, List.length_cons, h3]⟩
    rcases List.mem_cons.mp hy with z | z
    · rw [z]; exact hx
    · exact h2 y z
theorem boolsOf : ∀ {ds : List D}, (∀ d ∈ ds, ∃ b, d = .bl b) → ∃ bs : List Bool, ds = bs.map .bl ∧ bs.length = ds.length
  | [], _ => ⟨[], rfl, rfl⟩
  | d :: ds, h => by
    obtain ⟨b, e⟩ := h d (List.mem_cons_self ..)
    obtain ⟨bs, e2, e3⟩ := boolsOf fun y hy => h y (List.mem_cons_of_mem _ hy)
    exact ⟨b :: bs, by rw [e, e2]; rfl, by rw [List.length_cons, List.length_cons, e3]⟩
theorem zip_maps : ∀ {l : List Int} {bs : List Bool}, bs.length = l.length → (l.zip bs).map (fun q => verD q.1) = l.map verD ∧ (l.zip bs).map (fun q => D.bl q.2) = bs.map .bl
  | [], [], _ => ⟨rfl, rfl⟩
  | [], _ :: _, h => by cases h
  | _ :: _, [], h => by cases h
  | x :: l, b :: bs, h => by
    obtain ⟨h1, h2⟩ := zip_maps (l := l) (bs := bs) (by simpa using h)
    exact ⟨by rw [List.zip_cons_cons, List.map_cons, List.map_cons, h1], by rw [List.zip_cons_cons, List.map_cons, List.map_cons, h2]⟩
def isN (d : D) : Prop := ∃ i, d = .int i ∧ 0 ≤ i ∧ i ≤ 1000000
theorem ver_of3 {a b c : D} (ha : isN a) (hb : isN b) (hc : isN c) : ∃ x, OkV x ∧ D.tup [a, b, c] = verD x := by
  obtain ⟨a, rfl, a0, a1⟩ := ha
  obtain ⟨b, rfl, b0, b1⟩ := hb
  obtain ⟨c, rfl, c0, c1⟩ := hc
  refine isV_ver ?_
  show (true && (inR 0 1000000 (.int a) && (inR 0 1000000 (.int b) && (inR 0 1000000 (.int c) && true)))) = true
  simp only [inR, Bool.and_eq_true, decide_eq_true_eq, true_and, and_true]
  omega
theorem version_ok {s : Hand} : OW (f__law_version [.hnd] s) fun p => ∃ x, OkV x ∧ p.1 = verD x := by
  unfold f__law_version
  have hs3 : (0 + 1 + 1 + 1 ≤ sizeLine) = True := eq_true (by rw [sizeLine_eq]; omega)
  have hs4 : (0 + 1 + 1 + 1 + 1 ≤ sizeLine) = True := eq_true (by rw [sizeLine_eq]; omega)
  have hs7 : (0 + 1 + 1 + 1 + 1 + 1 + 1 + 1 ≤ sizeLine) = True := eq_true (by rw [sizeLine_eq]; omega)
  have hr3 : rng1D [.int 3] = some (rngOf 0 3) := rng1_nat (n := 3) (by omega)
  simp only [mDef_eq, outD_nx, outD_rt, startE, sNil, sSeq, thenS_nx, thenS_rt, thenS_bk, thenS_ct, sAsg, sIf, sRet, sRetN, sDrop, sBrk, sCnt, sFor, sOwn, ownAt, sApp, sExt, sPut, sFrz, sPar, mIxO, mLenO, mTupO, mVar, mC, mU, mB, mNil, mCons, mF, mIsT, mAndT, mOrT, mNotT, mAnd, mOr, mNot, mIf, mChain, mPart, mNoPart, mSl, mCall, mIt, mRng, mComp, mYes, gdName, gdTup, gdCons, gdNil, wipeE, tupItems_tup, lstItems_lst, bl_bl, int_int, mHx_eq, mHlen_eq, mHcell_eq, sHput_eq, isH_hnd, hget1, hget2, hget3, hget4, hset1, hset2, hset3, hset4, eq_int, ne_int, lt_int, gt_int, le_int, ge_int, eq_bl, add_int, add_tup, add_lst, sub_int, neg_int, isN_hi, notN_hi, mul_int, div_int, mod_int, pow_int, abs_int, intC_int, len_tup, len_lst, tup_D, lst_D, rt_D, Bool.not_not, Bool.not_true, Bool.not_false, true_and, and_true, false_and, and_false, or_true, true_or, or_false, false_or, List.length_cons, List.length_nil, List.length_append, List.length_map, List.map_cons, List.map_nil, List.replicate_succ, List.replicate_zero, List.cons_append, List.nil_append, List.append_nil, List.set_cons_zero, List.set_cons_succ, List.getElem?_cons_zero, List.getElem?_cons_succ, Option.bind_some, Option.map_some, Option.bind_none, Option.map_none, OW_some, OW_bind, OW_map, OW_if, Bool.false_eq_true, if_true, if_false, ↓reduceIte, Nat.reduceAdd, Nat.reduceSub, Nat.zero_add, Nat.sub_self, Function.comp, hs4, hr3]
  refine draw_then (by omega) (by omega) fun n s1 n0 n1 => ?_
  simp only [mDef_eq, outD_nx, outD_rt, startE, sNil, sSeq, thenS_nx, thenS_rt, thenS_bk, thenS_ct, sAsg, sIf, sRet, sRetN, sDrop, sBrk, sCnt, sFor, sOwn, ownAt, sApp, sExt, sPut, sFrz, sPar, mIxO, mLenO, mTupO, mVar, mC, mU, mB, mNil, mCons, mF, mIsT, mAndT, mOrT, mNotT, mAnd, mOr, mNot, mIf, mChain, mPart, mNoPart, mSl, mCall, mIt, mRng, mComp, mYes, gdName, gdTup, gdCons, gdNil, wipeE, tupItems_tup, lstItems_lst, bl_bl, int_int, mHx_eq, mHlen_eq, mHcell_eq, sHput_eq, isH_hnd, hget1, hget2, hget3, hget4, hset1, hset2, hset3, hset4, eq_int, ne_int, lt_int, gt_int, le_int, ge_int, eq_bl, add_int, add_tup, add_lst, sub_int, neg_int, isN_hi, notN_hi, mul_int, div_int, mod_int, pow_int, abs_int, intC_int, len_tup, len_lst, tup_D, lst_D, rt_D, Bool.not_not, Bool.not_true, Bool.not_false, true_and, and_true, false_and, and_false, or_true, true_or, or_false, false_or, List.length_cons, List.length_nil, List.length_append, List.length_map, List.map_cons, List.map_nil, List.replicate_succ, List.replicate_zero, List.cons_append, List.nil_append, List.append_nil, List.set_cons_zero, List.set_cons_succ, List.getElem?_cons_zero, List.getElem?_cons_succ, Option.bind_some, Option.map_some, Option.bind_none, Option.map_none, OW_some, OW_bind, OW_map, OW_if, Bool.false_eq_true, if_true, if_false, ↓reduceIte, Nat.reduceAdd, Nat.reduceSub, Nat.zero_add, Nat.sub_self, Function.comp]
  by_cases c : (n == 0) = true
  · simp only [c, mDef_eq, outD_nx, outD_rt, startE, sNil, sSeq, thenS_nx, thenS_rt, thenS_bk, thenS_ct, sAsg, sIf, sRet, sRetN, sDrop, sBrk, sCnt, sFor, sOwn, ownAt, sApp, sExt, sPut, sFrz, sPar, mIxO, mLenO, mTupO, mVar, mC, mU, mB, mNil, mCons, mF, mIsT, mAndT, mOrT, mNotT, mAnd, mOr, mNot, mIf, mChain, mPart, mNoPart, mSl, mCall, mIt, mRng, mComp, mYes, gdName, gdTup, gdCons, gdNil, wipeE, tupItems_tup, lstItems_lst, bl_bl, int_int, mHx_eq, mHlen_eq, mHcell_eq, sHput_eq, isH_hnd, hget1, hget2, hget3, hget4, hset1, hset2, hset3, hset4, eq_int, ne_int, lt_int, gt_int, le_int, ge_int, eq_bl, add_int, add_tup, add_lst, sub_int, neg_int, isN_hi, notN_hi, mul_int, div_int, mod_int, pow_int, abs_int, intC_int, len_tup, len_lst, tup_D, lst_D, rt_D, Bool.not_not, Bool.not_true, Bool.not_false, true_and, and_true, false_and, and_false, or_true, true_or, or_false, false_or, List.length_cons, List.length_nil, List.length_append, List.length_map, List.map_cons, List.map_nil, List.replicate_succ, List.replicate_zero, List.cons_append, List.nil_append, List.append_nil, List.set_cons_zero, List.set_cons_succ, List.getElem?_cons_zero, List.getElem?_cons_succ, Option.bind_some, Option.map_some, Option.bind_none, Option.map_none, OW_some, OW_bind, OW_map, OW_if, Bool.false_eq_true, if_true, if_false, ↓reduceIte, Nat.reduceAdd, Nat.reduceSub, Nat.zero_add, Nat.sub_self, Function.comp]
    refine OW.mono (comp_then (P := isN) fun x hx => ⟨_, rfl, fun s => ?_⟩) fun p hp => ?_
    · rw [c__law_version_0_eq]
      simp only [mDef_eq, outD_nx, outD_rt, startE, sNil, sSeq, thenS_nx, thenS_rt, thenS_bk, thenS_ct, sAsg, sIf, sRet, sRetN, sDrop, sBrk, sCnt, sFor, sOwn, ownAt, sApp, sExt, sPut, sFrz, sPar, mIxO, mLenO, mTupO, mVar, mC, mU, mB, mNil, mCons, mF, mIsT, mAndT, mOrT, mNotT, mAnd, mOr, mNot, mIf, mChain, mPart, mNoPart, mSl, mCall, mIt, mRng, mComp, mYes, gdName, gdTup, gdCons, gdNil, wipeE, tupItems_tup, lstItems_lst, bl_bl, int_int, mHx_eq, mHlen_eq, mHcell_eq, sHput_eq, isH_hnd, hget1, hget2, hget3, hget4, hset1, hset2, hset3, hset4, eq_int, ne_int, lt_int, gt_int, le_int, ge_int, eq_bl, add_int, add_tup, add_lst, sub_int, neg_int, isN_hi, notN_hi, mul_int, div_int, mod_int, pow_int, abs_int, intC_int, len_tup, len_lst, tup_D, lst_D, rt_D, Bool.not_not, Bool.not_true, Bool.not_false, true_and, and_true, false_and, and_false, or_true, true_or, or_false, false_or, List.length_cons, List.length_nil, List.length_append, List.length_map, List.map_cons, List.map_nil, List.replicate_succ, List.replicate_zero, List.cons_append, List.nil_append, List.append_nil, List.set_cons_zero, List.set_cons_succ, List.getElem?_cons_zero, List.getElem?_cons_succ, Option.bind_some, Option.map_some, Option.bind_none, Option.map_none, OW_some, OW_bind, OW_map, OW_if, Bool.false_eq_true, if_true, if_false, ↓reduceIte, Nat.reduceAdd, Nat.reduceSub, Nat.zero_add, Nat.sub_self, Function.comp, hs7]
      refine draw_then (by omega) (by omega) fun k s2 k0 k1 => ?_
      refine some_then (by simp) (by simp) fun d s3 hd => ?_
      simp only [List.mem_cons, List.not_mem_nil, or_false] at hd
      rcases hd with e | e | e | e | e | e | e <;> exact ⟨_, e, by omega, by omega⟩
    · obtain ⟨ds, s2⟩ := p
      obtain ⟨hl, hP⟩ := hp
      dsimp only at hl hP ⊢
      match ds, hl, hP with
      | [a, b, c'], _, hP =>
        have et : tupleCD [.lst [a, b, c']] = some (.tup [a, b, c']) := rfl
        rw [OW_eq et]
        exact ver_of3 (hP a (by simp)) (hP b (by simp)) (hP c' (by simp))
  · simp only [c, mDef_eq, outD_nx, outD_rt, startE, sNil, sSeq, thenS_nx, thenS_rt, thenS_bk, thenS_ct, sAsg, sIf, sRet, sRetN, sDrop, sBrk, sCnt, sFor, sOwn, ownAt, sApp, sExt, sPut, sFrz, sPar, mIxO, mLenO, mTupO, mVar, mC, mU, mB, mNil, mCons, mF, mIsT, mAndT, mOrT, mNotT, mAnd, mOr, mNot, mIf, mChain, mPart, mNoPart, mSl, mCall, mIt, mRng, mComp, mYes, gdName, gdTup, gdCons, gdNil, wipeE, tupItems_tup, lstItems_lst, bl_bl, int_int, mHx_eq, mHlen_eq, mHcell_eq, sHput_eq, isH_hnd, hget1, hget2, hget3, hget4, hset1, hset2, hset3, hset4, eq_int, ne_int, lt_int, gt_int, le_int, ge_int, eq_bl, add_int, add_tup, add_lst, sub_int, neg_int, isN_hi, notN_hi, mul_int, div_int, mod_int, pow_int, abs_int, intC_int, len_tup, len_lst, tup_D, lst_D, rt_D, Bool.not_not, Bool.not_true, Bool.not_false, true_and, and_true, false_and, and_false, or_true, true_or, or_false, false_or, List.length_cons, List.length_nil, List.length_append, List.length_map, List.map_cons, List.map_nil, List.replicate_succ, List.replicate_zero, List.cons_append, List.nil_append, List.append_nil, List.set_cons_zero, List.set_cons_succ, List.getElem?_cons_zero, List.getElem?_cons_succ, Option.bind_some, Option.map_some, Option.bind_none, Option.map_none, OW_some, OW_bind, OW_map, OW_if, Bool.false_eq_true, if_true, if_false, ↓reduceIte, Nat.reduceAdd, Nat.reduceSub, Nat.zero_add, Nat.sub_self, Function.comp]
    refine some_then (by simp) (by simp) fun d s2 hd => ?_
    have hd' : ∃ m : Int, d = .int m ∧ 0 < m ∧ m < 5 := by
      simp only [List.mem_cons, List.not_mem_nil, or_false] at hd
      rcases hd with e | e | e | e <;> exact ⟨_, e, by omega, by omega⟩
    obtain ⟨m, e, m0, m1⟩ := hd'
    subst e
    simp only [mDef_eq, outD_nx, outD_rt, startE, sNil, sSeq, thenS_nx, thenS_rt, thenS_bk, thenS_ct, sAsg, sIf, sRet, sRetN, sDrop, sBrk, sCnt, sFor, sOwn, ownAt, sApp, sExt, sPut, sFrz, sPar, mIxO, mLenO, mTupO, mVar, mC, mU, mB, mNil, mCons, mF, mIsT, mAndT, mOrT, mNotT, mAnd, mOr, mNot, mIf, mChain, mPart, mNoPart, mSl, mCall, mIt, mRng, mComp, mYes, gdName, gdTup, gdCons, gdNil, wipeE, tupItems_tup, lstItems_lst, bl_bl, int_int, mHx_eq, mHlen_eq, mHcell_eq, sHput_eq, isH_hnd, hget1, hget2, hget3, hget4, hset1, hset2, hset3, hset4, eq_int, ne_int, lt_int, gt_int, le_int, ge_int, eq_bl, add_int, add_tup, add_lst, sub_int, neg_int, isN_hi, notN_hi, mul_int, div_int, mod_int, pow_int, abs_int, intC_int, len_tup, len_lst, tup_D, lst_D, rt_D, Bool.not_not, Bool.not_true, Bool.not_false, true_and, and_true, false_and, and_false, or_true, true_or, or_false, false_or, List.length_cons, List.length_nil, List.length_append, List.length_map, List.map_cons, List.map_nil, List.replicate_succ, List.replicate_zero, List.cons_append, List.nil_append, List.append_nil, List.set_cons_zero, List.set_cons_succ, List.getElem?_cons_zero, List.getElem?_cons_succ, Option.bind_some, Option.map_some, Option.bind_none, Option.map_none, OW_some, OW_bind, OW_map, OW_if, Bool.false_eq_true, if_true, if_false, ↓reduceIte, Nat.reduceAdd, Nat.reduceSub, Nat.zero_add, Nat.sub_self, Function.comp]
    refine draw_then m0 (by omega) fun a s3 a0 a1 => ?_
    refine draw_then m0 (by omega) fun b s4 b0 b1 => ?_
    refine draw_then m0 (by omega) fun c' s5 c0 c1 => ?_
    simp only [hs3, mDef_eq, outD_nx, outD_rt, startE, sNil, sSeq, thenS_nx, thenS_rt, thenS_bk, thenS_ct, sAsg, sIf, sRet, sRetN, sDrop, sBrk, sCnt, sFor, sOwn, ownAt, sApp, sExt, sPut, sFrz, sPar, mIxO, mLenO, mTupO, mVar, mC, mU, mB, mNil, mCons, mF, mIsT, mAndT, mOrT, mNotT, mAnd, mOr, mNot, mIf, mChain, mPart, mNoPart, mSl, mCall, mIt, mRng, mComp, mYes, gdName, gdTup, gdCons, gdNil, wipeE, tupItems_tup, lstItems_lst, bl_bl, int_int, mHx_eq, mHlen_eq, mHcell_eq, sHput_eq, isH_hnd, hget1, hget2, hget3, hget4, hset1, hset2, hset3, hset4, eq_int, ne_int, lt_int, gt_int, le_int, ge_int, eq_bl, add_int, add_tup, add_lst, sub_int, neg_int, isN_hi, notN_hi, mul_int, div_int, mod_int, pow_int, abs_int, intC_int, len_tup, len_lst, tup_D, lst_D, rt_D, Bool.not_not, Bool.not_true, Bool.not_false, true_and, and_true, false_and, and_false, or_true, true_or, or_false, false_or, List.length_cons, List.length_nil, List.length_append, List.length_map, List.map_cons, List.map_nil, List.replicate_succ, List.replicate_zero, List.cons_append, List.nil_append, List.append_nil, List.set_cons_zero, List.set_cons_succ, List.getElem?_cons_zero, List.getElem?_cons_succ, Option.bind_some, Option.map_some, Option.bind_none, Option.map_none, OW_some, OW_bind, OW_map, OW_if, Bool.false_eq_true, if_true, if_false, ↓reduceIte, Nat.reduceAdd, Nat.reduceSub, Nat.zero_add, Nat.sub_self, Function.comp]
    exact ver_of3 ⟨a, rfl, a0, by omega⟩ ⟨b, rfl, b0, by omega⟩ ⟨c', rfl, c0, by omega⟩
theorem range_tail {l : List Int} {fs : List D} {s3 : Hand} (e2 : l.Pairwise (· < ·)) (hv : ∀ x ∈ l, OkV x) (hlen : l.length ≤ 6) (hl2 : fs.length = l.length) (hP2 : ∀ d ∈ fs, ∃ b, d = D.bl b) :
    OW (f__law_made [.lst (l.map verD), .lst fs] s3) fun p => ∃ r : Rng, OkR r ∧ r.length ≤ 6 ∧ p.1 = rngD r := by
  obtain ⟨bs, hfs, hbl⟩ := boolsOf (ds := fs) hP2
  have hbs : bs.length = l.length := by rw [hbl, hl2]
  obtain ⟨z1, z2⟩ := zip_maps hbs
  have hz : (l.zip bs).length ≤ l.length := by rw [List.length_zip]; omega
  have hm := pure_made (s := s3) (l := l.zip bs) (by omega)
  rw [z1, z2, ← hfs] at hm
  rw [OW_eq hm]
  have hfst : (l.zip bs).map Prod.fst = l := List.map_fst_zip (by omega)
  have hmem : ∀ q ∈ l.zip bs, q.1 ∈ l := fun q hq => by
    have := List.mem_map_of_mem (f := Prod.fst) hq
    rw [hfst] at this
    exact this
  have hasc : Asc (l.zip bs) := by
    have : ((l.zip bs).map Prod.fst).Pairwise (· < ·) := by rw [hfst]; exact e2
    exact List.pairwise_map.mp this
  have hok := (made_ok hasc fun q hq => hv _ (hmem q hq)).1
  refine ⟨madeR none (l.zip bs), ⟨hok.1, hok.2.2⟩, ?_, rfl⟩
  have := (madeR_len (l.zip bs)).1
  omega
theorem range_ok {s : Hand} : OW (f__law_range [.hnd] s) fun p => ∃ r : Rng, OkR r ∧ r.length ≤ 6 ∧ p.1 = rngD r := by
  unfold f__law_range
  have hs1 : (0 + 1 ≤ sizeLine) = True := eq_true (by rw [sizeLine_eq]; omega)
  have hs3 : (0 + 1 + 1 + 1 ≤ sizeLine) = True := eq_true (by rw [sizeLine_eq]; omega)
  simp only [mDef_eq, outD_nx, outD_rt, startE, sNil, sSeq, thenS_nx, thenS_rt, thenS_bk, thenS_ct, sAsg, sIf, sRet, sRetN, sDrop, sBrk, sCnt, sFor, sOwn, ownAt, sApp, sExt, sPut, sFrz, sPar, mIxO, mLenO, mTupO, mVar, mC, mU, mB, mNil, mCons, mF, mIsT, mAndT, mOrT, mNotT, mAnd, mOr, mNot, mIf, mChain, mPart, mNoPart, mSl, mCall, mIt, mRng, mComp, mYes, gdName, gdTup, gdCons, gdNil, wipeE, tupItems_tup, lstItems_lst, bl_bl, int_int, mHx_eq, mHlen_eq, mHcell_eq, sHput_eq, isH_hnd, hget1, hget2, hget3, hget4, hset1, hset2, hset3, hset4, eq_int, ne_int, lt_int, gt_int, le_int, ge_int, eq_bl, add_int, add_tup, add_lst, sub_int, neg_int, isN_hi, notN_hi, mul_int, div_int, mod_int, pow_int, abs_int, intC_int, len_tup, len_lst, tup_D, lst_D, rt_D, Bool.not_not, Bool.not_true, Bool.not_false, true_and, and_true, false_and, and_false, or_true, true_or, or_false, false_or, List.length_cons, List.length_nil, List.length_append, List.length_map, List.map_cons, List.map_nil, List.replicate_succ, List.replicate_zero, List.cons_append, List.nil_append, List.append_nil, List.set_cons_zero, List.set_cons_succ, List.getElem?_cons_zero, List.getElem?_cons_succ, Option.bind_some, Option.map_some, Option.bind_none, Option.map_none, OW_some, OW_bind, OW_map, OW_if, Bool.false_eq_true, if_true, if_false, ↓reduceIte, Nat.reduceAdd, Nat.reduceSub, Nat.zero_add, Nat.sub_self, Function.comp, hs1, hs3]
  refine draw_then (by omega) (by omega) fun n s1 n0 n1 => ?_
  obtain ⟨k, hk, k5⟩ : ∃ k : Nat, 1 + n = (k : Int) ∧ k ≤ 5 := ⟨(1 + n).toNat, by omega, by omega⟩
  have hr : rng1D [.int (1 + n)] = some (rngOf 0 k) := by
    rw [hk]
    exact rng1_nat (by omega)
  simp only [OW_eq hr, mDef_eq, outD_nx, outD_rt, startE, sNil, sSeq, thenS_nx, thenS_rt, thenS_bk, thenS_ct, sAsg, sIf, sRet, sRetN, sDrop, sBrk, sCnt, sFor, sOwn, ownAt, sApp, sExt, sPut, sFrz, sPar, mIxO, mLenO, mTupO, mVar, mC, mU, mB, mNil, mCons, mF, mIsT, mAndT, mOrT, mNotT, mAnd, mOr, mNot, mIf, mChain, mPart, mNoPart, mSl, mCall, mIt, mRng, mComp, mYes, gdName, gdTup, gdCons, gdNil, wipeE, tupItems_tup, lstItems_lst, bl_bl, int_int, mHx_eq, mHlen_eq, mHcell_eq, sHput_eq, isH_hnd, hget1, hget2, hget3, hget4, hset1, hset2, hset3, hset4, eq_int, ne_int, lt_int, gt_int, le_int, ge_int, eq_bl, add_int, add_tup, add_lst, sub_int, neg_int, isN_hi, notN_hi, mul_int, div_int, mod_int, pow_int, abs_int, intC_int, len_tup, len_lst, tup_D, lst_D, rt_D, Bool.not_not, Bool.not_true, Bool.not_false, true_and, and_true, false_and, and_false, or_true, true_or, or_false, false_or, List.length_cons, List.length_nil, List.length_append, List.length_map, List.map_cons, List.map_nil, List.replicate_succ, List.replicate_zero, List.cons_append, List.nil_append, List.append_nil, List.set_cons_zero, List.set_cons_succ, List.getElem?_cons_zero, List.getElem?_cons_succ, Option.bind_some, Option.map_some, Option.bind_none, Option.map_none, OW_some, OW_bind, OW_map, OW_if, Bool.false_eq_true, if_true, if_false, ↓reduceIte, Nat.reduceAdd, Nat.reduceSub, Nat.zero_add, Nat.sub_self, Function.comp]
  refine OW.mono (comp_then (P := fun d => ∃ x, OkV x ∧ d = verD x) fun x hx => ⟨_, rfl, fun s => ?_⟩) fun p hp => ?_
  · rw [c__law_range_0_eq]
    simp only [mDef_eq, outD_nx, outD_rt, startE, sNil, sSeq, thenS_nx, thenS_rt, thenS_bk, thenS_ct, sAsg, sIf, sRet, sRetN, sDrop, sBrk, sCnt, sFor, sOwn, ownAt, sApp, sExt, sPut, sFrz, sPar, mIxO, mLenO, mTupO, mVar, mC, mU, mB, mNil, mCons, mF, mIsT, mAndT, mOrT, mNotT, mAnd, mOr, mNot, mIf, mChain, mPart, mNoPart, mSl, mCall, mIt, mRng, mComp, mYes, gdName, gdTup, gdCons, gdNil, wipeE, tupItems_tup, lstItems_lst, bl_bl, int_int, mHx_eq, mHlen_eq, mHcell_eq, sHput_eq, isH_hnd, hget1, hget2, hget3, hget4, hset1, hset2, hset3, hset4, eq_int, ne_int, lt_int, gt_int, le_int, ge_int, eq_bl, add_int, add_tup, add_lst, sub_int, neg_int, isN_hi, notN_hi, mul_int, div_int, mod_int, pow_int, abs_int, intC_int, len_tup, len_lst, tup_D, lst_D, rt_D, Bool.not_not, Bool.not_true, Bool.not_false, true_and, and_true, false_and, and_false, or_true, true_or, or_false, false_or, List.length_cons, List.length_nil, List.length_append, List.length_map, List.map_cons, List.map_nil, List.replicate_succ, List.replicate_zero, List.cons_append, List.nil_append, List.append_nil, List.set_cons_zero, List.set_cons_succ, List.getElem?_cons_zero, List.getElem?_cons_succ, Option.bind_some, Option.map_some, Option.bind_none, Option.map_none, OW_some, OW_bind, OW_map, OW_if, Bool.false_eq_true, if_true, if_false, ↓reduceIte, Nat.reduceAdd, Nat.reduceSub, Nat.zero_add, Nat.sub_self, Function.comp]
    exact version_ok
  · obtain ⟨ds, s2⟩ := p
    obtain ⟨hl, hP⟩ := hp
    dsimp only at hl hP ⊢
    obtain ⟨ms, rfl, hms, hml⟩ := vers_of hP
    have hlen : (rngOf 0 k).length = k := by
      unfold rngOf
      rw [List.length_map, List.length_range]
    rw [hlen, List.length_map] at hl
    have hsz : ((ms.map verD).length + (0 + 1) ≤ sizeLine) = True := eq_true (by rw [sizeLine_eq, List.length_map]; omega)
    rw [List.length_map] at hsz
    simp only [hsz, mDef_eq, outD_nx, outD_rt, startE, sNil, sSeq, thenS_nx, thenS_rt, thenS_bk, thenS_ct, sAsg, sIf, sRet, sRetN, sDrop, sBrk, sCnt, sFor, sOwn, ownAt, sApp, sExt, sPut, sFrz, sPar, mIxO, mLenO, mTupO, mVar, mC, mU, mB, mNil, mCons, mF, mIsT, mAndT, mOrT, mNotT, mAnd, mOr, mNot, mIf, mChain, mPart, mNoPart, mSl, mCall, mIt, mRng, mComp, mYes, gdName, gdTup, gdCons, gdNil, wipeE, tupItems_tup, lstItems_lst, bl_bl, int_int, mHx_eq, mHlen_eq, mHcell_eq, sHput_eq, isH_hnd, hget1, hget2, hget3, hget4, hset1, hset2, hset3, hset4, eq_int, ne_int, lt_int, gt_int, le_int, ge_int, eq_bl, add_int, add_tup, add_lst, sub_int, neg_int, isN_hi, notN_hi, mul_int, div_int, mod_int, pow_int, abs_int, intC_int, len_tup, len_lst, tup_D, lst_D, rt_D, Bool.not_not, Bool.not_true, Bool.not_false, true_and, and_true, false_and, and_false, or_true, true_or, or_false, false_or, List.length_cons, List.length_nil, List.length_append, List.length_map, List.map_cons, List.map_nil, List.replicate_succ, List.replicate_zero, List.cons_append, List.nil_append, List.append_nil, List.set_cons_zero, List.set_cons_succ, List.getElem?_cons_zero, List.getElem?_cons_succ, Option.bind_some, Option.map_some, Option.bind_none, Option.map_none, OW_some, OW_bind, OW_map, OW_if, Bool.false_eq_true, if_true, if_false, ↓reduceIte, Nat.reduceAdd, Nat.reduceSub, Nat.zero_add, Nat.sub_self, Function.comp, ver0]
    obtain ⟨l, e1, e2, e3, e4⟩ := sset_vers (ms := ms ++ [0]) (fun x hx => by
      rcases List.mem_append.mp hx with z | z
      · exact hms x z
      · rw [List.mem_singleton.mp z]; exact okV0) (by rw [List.length_append, List.length_singleton]; omega) (by simp)
    have e1' : ssetD [.lst (ms.map verD ++ [verD 0])] = some (.lst (l.map verD)) := by
      rw [← e1, List.map_append]
      rfl
    rw [List.length_append, List.length_singleton] at e4
    simp only [OW_eq e1', mDef_eq, outD_nx, outD_rt, startE, sNil, sSeq, thenS_nx, thenS_rt, thenS_bk, thenS_ct, sAsg, sIf, sRet, sRetN, sDrop, sBrk, sCnt, sFor, sOwn, ownAt, sApp, sExt, sPut, sFrz, sPar, mIxO, mLenO, mTupO, mVar, mC, mU, mB, mNil, mCons, mF, mIsT, mAndT, mOrT, mNotT, mAnd, mOr, mNot, mIf, mChain, mPart, mNoPart, mSl, mCall, mIt, mRng, mComp, mYes, gdName, gdTup, gdCons, gdNil, wipeE, tupItems_tup, lstItems_lst, bl_bl, int_int, mHx_eq, mHlen_eq, mHcell_eq, sHput_eq, isH_hnd, hget1, hget2, hget3, hget4, hset1, hset2, hset3, hset4, eq_int, ne_int, lt_int, gt_int, le_int, ge_int, eq_bl, add_int, add_tup, add_lst, sub_int, neg_int, isN_hi, notN_hi, mul_int, div_int, mod_int, pow_int, abs_int, intC_int, len_tup, len_lst, tup_D, lst_D, rt_D, Bool.not_not, Bool.not_true, Bool.not_false, true_and, and_true, false_and, and_false, or_true, true_or, or_false, false_or, List.length_cons, List.length_nil, List.length_append, List.length_map, List.map_cons, List.map_nil, List.replicate_succ, List.replicate_zero, List.cons_append, List.nil_append, List.append_nil, List.set_cons_zero, List.set_cons_succ, List.getElem?_cons_zero, List.getElem?_cons_succ, Option.bind_some, Option.map_some, Option.bind_none, Option.map_none, OW_some, OW_bind, OW_map, OW_if, Bool.false_eq_true, if_true, if_false, ↓reduceIte, Nat.reduceAdd, Nat.reduceSub, Nat.zero_add, Nat.sub_self, Function.comp]
    refine OW.mono (comp_then (P := fun d => ∃ b, d = .bl b) fun x hx => ⟨_, rfl, fun s => ?_⟩) fun p hp => ?_
    · rw [c__law_range_1_eq]
      simp only [mDef_eq, outD_nx, outD_rt, startE, sNil, sSeq, thenS_nx, thenS_rt, thenS_bk, thenS_ct, sAsg, sIf, sRet, sRetN, sDrop, sBrk, sCnt, sFor, sOwn, ownAt, sApp, sExt, sPut, sFrz, sPar, mIxO, mLenO, mTupO, mVar, mC, mU, mB, mNil, mCons, mF, mIsT, mAndT, mOrT, mNotT, mAnd, mOr, mNot, mIf, mChain, mPart, mNoPart, mSl, mCall, mIt, mRng, mComp, mYes, gdName, gdTup, gdCons, gdNil, wipeE, tupItems_tup, lstItems_lst, bl_bl, int_int, mHx_eq, mHlen_eq, mHcell_eq, sHput_eq, isH_hnd, hget1, hget2, hget3, hget4, hset1, hset2, hset3, hset4, eq_int, ne_int, lt_int, gt_int, le_int, ge_int, eq_bl, add_int, add_tup, add_lst, sub_int, neg_int, isN_hi, notN_hi, mul_int, div_int, mod_int, pow_int, abs_int, intC_int, len_tup, len_lst, tup_D, lst_D, rt_D, Bool.not_not, Bool.not_true, Bool.not_false, true_and, and_true, false_and, and_false, or_true, true_or, or_false, false_or, List.length_cons, List.length_nil, List.length_append, List.length_map, List.map_cons, List.map_nil, List.replicate_succ, List.replicate_zero, List.cons_append, List.nil_append, List.append_nil, List.set_cons_zero, List.set_cons_succ, List.getElem?_cons_zero, List.getElem?_cons_succ, Option.bind_some, Option.map_some, Option.bind_none, Option.map_none, OW_some, OW_bind, OW_map, OW_if, Bool.false_eq_true, if_true, if_false, ↓reduceIte, Nat.reduceAdd, Nat.reduceSub, Nat.zero_add, Nat.sub_self, Function.comp]
      refine draw_then (by omega) (by omega) fun n s1 n0 n1 => ?_
      simp only [mDef_eq, outD_nx, outD_rt, startE, sNil, sSeq, thenS_nx, thenS_rt, thenS_bk, thenS_ct, sAsg, sIf, sRet, sRetN, sDrop, sBrk, sCnt, sFor, sOwn, ownAt, sApp, sExt, sPut, sFrz, sPar, mIxO, mLenO, mTupO, mVar, mC, mU, mB, mNil, mCons, mF, mIsT, mAndT, mOrT, mNotT, mAnd, mOr, mNot, mIf, mChain, mPart, mNoPart, mSl, mCall, mIt, mRng, mComp, mYes, gdName, gdTup, gdCons, gdNil, wipeE, tupItems_tup, lstItems_lst, bl_bl, int_int, mHx_eq, mHlen_eq, mHcell_eq, sHput_eq, isH_hnd, hget1, hget2, hget3, hget4, hset1, hset2, hset3, hset4, eq_int, ne_int, lt_int, gt_int, le_int, ge_int, eq_bl, add_int, add_tup, add_lst, sub_int, neg_int, isN_hi, notN_hi, mul_int, div_int, mod_int, pow_int, abs_int, intC_int, len_tup, len_lst, tup_D, lst_D, rt_D, Bool.not_not, Bool.not_true, Bool.not_false, true_and, and_true, false_and, and_false, or_true, true_or, or_false, false_or, List.length_cons, List.length_nil, List.length_append, List.length_map, List.map_cons, List.map_nil, List.replicate_succ, List.replicate_zero, List.cons_append, List.nil_append, List.append_nil, List.set_cons_zero, List.set_cons_succ, List.getElem?_cons_zero, List.getElem?_cons_succ, Option.bind_some, Option.map_some, Option.bind_none, Option.map_none, OW_some, OW_bind, OW_map, OW_if, Bool.false_eq_true, if_true, if_false, ↓reduceIte, Nat.reduceAdd, Nat.reduceSub, Nat.zero_add, Nat.sub_self, Function.comp]
      exact ⟨_, rfl⟩
    · exact range_tail e2 (fun x hx => by
        rcases List.mem_append.mp ((e3 x).mp hx) with z | z
        · exact hms _ z
        · rw [List.mem_singleton.mp z]; exact okV0) (by omega) (hp.1.trans (List.length_map _)) hp.2
end K02

set_option Elab.async false
set_option linter.all false
set_option maxRecDepth 100000
set_option maxHeartbeats 4000000
namespace K02
open PySem
open L2
open Dl
theorem nodup_len : ∀ {l m : List Int}, l.Nodup → (∀ x ∈ l, x ∈ m) → l.length ≤ m.length
  | [], _, _, _ => Nat.zero_le _
  | x :: l, m, hn, h => by
    rw [List.nodup_cons] at hn
    have hx := h x (List.mem_cons_self ..)
    have ih := nodup_len (l := l) (m := m.erase x) hn.2 fun y hy => by
      have hne : y ≠ x := fun e => hn.1 (e ▸ hy)
      exact (List.mem_erase_of_ne hne).mpr (h y (List.mem_cons_of_mem _ hy))
    rw [List.length_erase_of_mem hx] at ih
    have : 0 < m.length := List.length_pos_of_mem hx
    rw [List.length_cons]
    omega
theorem bounds_up {r : Rng} (h : OkR r) : (bounds r).Pairwise (· < ·) := by
  rw [okR_iff] at h
  unfold bounds
  rw [List.pairwise_flatMap]
  refine ⟨fun p hp => ?_, List.Pairwise.imp_of_mem ?_ h.2⟩
  · obtain ⟨lo, hi⟩ := p
    cases hi with
    | none => exact List.pairwise_singleton _ _
    | some b =>
      have := (((h.1 (lo, some b) hp).2 b rfl).2)
      exact List.pairwise_cons.mpr ⟨fun x hx => by rw [List.mem_singleton.mp hx]; exact this, List.pairwise_singleton _ _⟩
  · intro p q hp hq hg x hx y hy
    obtain ⟨b, e, l⟩ := hg
    obtain ⟨lo, hi⟩ := p
    obtain ⟨lo2, hi2⟩ := q
    dsimp only at e l
    subst e
    have h1 := ((h.1 (lo, some b) hp).2 b rfl).2
    dsimp only at h1
    have hxb : x ≤ b := by
      rcases List.mem_cons.mp (show x ∈ [lo, b] from hx) with z | z
      · omega
      · rw [List.mem_singleton.mp z]; exact Int.le_refl _
    have hyl : lo2 ≤ y := by
      cases hi2 with
      | none =>
        rw [List.mem_singleton.mp (show y ∈ [lo2] from hy)]
        exact Int.le_refl _
      | some c =>
        have h2 := ((h.1 (lo2, some c) hq).2 c rfl).2
        dsimp only at h2
        rcases List.mem_cons.mp (show y ∈ [lo2, c] from hy) with z | z
        · omega
        · rw [List.mem_singleton.mp z]; omega
    omega
def Fits (L : List Int) (r : Rng) : Prop := OkR r ∧ ∀ b ∈ bounds r, b = 0 ∨ b ∈ L
theorem Fits.blen {L : List Int} {r : Rng} (h : Fits L r) : (bounds r).length ≤ L.length + 1 := by
  have hn : (bounds r).Nodup := (bounds_up h.1).imp fun h e => by omega
  exact nodup_len (m := 0 :: L) hn fun x hx => by
    rcases h.2 x hx with e | e
    · rw [e]; exact List.mem_cons_self ..
    · exact List.mem_cons_of_mem _ e
theorem len_bounds : ∀ r : Rng, r.length ≤ (bounds r).length
  | [] => Nat.le_refl _
  | (lo, hi) :: r => by
    have := len_bounds r
    cases hi with
    | none =>
      show _ ≤ ([lo] ++ bounds r).length
      simp only [List.length_append, List.length_cons, List.length_nil]; omega
    | some h =>
      show _ ≤ ([lo, h] ++ bounds r).length
      simp only [List.length_append, List.length_cons, List.length_nil]; omega
theorem Fits.len {L : List Int} {r : Rng} (h : Fits L r) : r.length ≤ L.length + 1 := Nat.le_trans (len_bounds r) h.blen
theorem Fits.mono {L M : List Int} {r : Rng} (h : Fits L r) (hm : ∀ x ∈ L, x ∈ M) : Fits M r := ⟨h.1, fun b hb => (h.2 b hb).imp id (hm b)⟩
theorem made_bounds : ∀ {l : List (Int × Bool)} {o : Option Int} {b : Int}, b ∈ bounds (madeR o l) → b ∈ l.map (·.1) ∨ o = some b
  | [], none, b, h => by cases h
  | [], some lo, b, h => by
    have h' : b ∈ [lo] := h
    rw [List.mem_singleton.mp h']
    exact .inr rfl
  | (m, f) :: l, o, b, h => by
    rw [List.map_cons]
    cases o with
    | none =>
      unfold madeR at h
      cases f with
      | true =>
        rw [if_pos rfl] at h
        rcases made_bounds h with z | z
        · exact .inl (List.mem_cons_of_mem _ z)
        · cases z; exact .inl (List.mem_cons_self ..)
      | false =>
        rw [if_neg Bool.false_ne_true] at h
        rcases made_bounds h with z | z
        · exact .inl (List.mem_cons_of_mem _ z)
        · cases z
    | some lo =>
      unfold madeR at h
      cases f with
      | true =>
        rw [if_pos rfl] at h
        rcases made_bounds h with z | z
        · exact .inl (List.mem_cons_of_mem _ z)
        · exact .inr z
      | false =>
        rw [if_neg Bool.false_ne_true] at h
        have h' : b ∈ [lo, m] ++ bounds (madeR none l) := h
        rcases List.mem_append.mp h' with z | z
        · rcases List.mem_cons.mp z with e | e
          · rw [e]; exact .inr rfl
          · rw [List.mem_singleton.mp e]; exact .inl (List.mem_cons_self ..)
        · rcases made_bounds z with z | z
          · exact .inl (List.mem_cons_of_mem _ z)
          · cases z
/-- what is made of marks by a rule that is constant between them, is the range that holds what the rule says -/
theorem made_is {P : Int → Bool} {l : List Int} {y : Rng} (hs : (0 :: l).Pairwise (· < ·)) (hv : ∀ x ∈ 0 :: l, OkV x) (hc : ∀ a b, 0 ≤ a → a ≤ b → (∀ x ∈ l, ¬ (a < x ∧ x ≤ b)) → P a = P b) (hy : OkR y) (hp : ∀ v, 0 ≤ v → has y v = P v) :
    madeR none ((0 :: l).map fun x => (x, P x)) = y ∧ ∀ b ∈ bounds y, b ∈ 0 :: l := by
  have hasc : Asc ((0 :: l).map fun x => (x, P x)) := List.pairwise_map.mpr (hs.imp fun h => h)
  have hok := (made_ok hasc fun q hq => by
    obtain ⟨x, hx, e⟩ := List.mem_map.mp hq
    rw [← e]
    exact hv x hx).1
  have e : madeR none ((0 :: l).map fun x => (x, P x)) = y := okR_uniq ⟨hok.1, hok.2.2⟩ hy fun v v0 => by rw [made_rule hs v0 hc, hp v v0]
  refine ⟨e, fun b hb => ?_⟩
  rw [← e] at hb
  rcases made_bounds hb with z | z
  · rw [List.map_map] at z
    obtain ⟨x, hx, ex⟩ := List.mem_map.mp z
    have ex' : x = b := ex
    rw [← ex']
    exact hx
  · cases z
def eitherR (a b : Rng) : Rng := outR (some 0) (bothR (outR (some 0) a) (outR (some 0) b))
theorem either_ok {a b : Rng} (ha : OkR a) (hb : OkR b) : OkR (eitherR a b) := out_ok (both_ok (out_ok ha okV0) (out_ok hb okV0)) okV0
theorem either_has {a b : Rng} (ha : OkR a) (hb : OkR b) {v : Int} (v0 : 0 ≤ v) : has (eitherR a b) v = (has a v || has b v) := by
  unfold eitherR
  rw [out_rule (both_ok (out_ok ha okV0) (out_ok hb okV0)) v0, both_has, out_rule ha v0, out_rule hb v0]
  cases has a v <;> cases has b v <;> rfl
theorem le_key {X Y R : D} {L F : List D} {s : Hand} (h1 : f__law_marks [.lst [X, Y]] s = some (.lst L, s)) (h2 : compL (gdName 3) mYes c__law_either_0 [some (.dat X), some (.dat Y), some (.dat (.lst L)), none] L s = some (F, s)) (h3 : f__law_made [.lst L, .lst F] s = some (R, s)) : f__law_either [X, Y] s = some (R, s) := by
  refine eq_of_OW ?_
  unfold f__law_either
  have hs1 : (0 + 1 + 1 ≤ sizeLine) = True := eq_true (by rw [sizeLine_eq]; omega)
  simp only [mDef_eq, OW_bind, startE, List.map_cons, List.map_nil, List.cons_append, List.nil_append, List.length_cons, List.length_nil, Nat.reduceAdd, Nat.zero_add, Nat.reduceSub, List.replicate_succ, List.replicate_zero, sSeq, sAsg, OW_map, OW_some, mCall, mF, mCons, mVar, mNil, List.getElem?_cons_zero, List.getElem?_cons_succ, lst_D, OW_if, hs1, if_true, h1, gdName, List.set_cons_succ, List.set_cons_zero, thenS_nx, sRet, mComp, mIt, wipeE, lstItems_lst, OW_eq h2, h3, thenS_rt, outD_rt]
section
variable {L M : List Int} {r o : Rng} {s : Hand}
theorem two_marks (h1 : Fits L r) (h2 : Fits M o) (hz : L.length + M.length ≤ 60) : ∃ l : List Int, f__law_marks [.lst [rngD r, rngD o]] s = some (.lst ((0 :: l).map verD), s) ∧ (0 :: l).Pairwise (· < ·) ∧ (∀ x ∈ 0 :: l, OkV x) ∧ (∀ x, x ∈ 0 :: l → x = 0 ∨ x ∈ L ++ M) ∧
    (∀ x ∈ bounds r, x ∈ 0 :: l) ∧ (∀ x ∈ bounds o, x ∈ 0 :: l) ∧ (0 :: l).length < 100 := by
  have hb1 := h1.blen
  have hb2 := h2.blen
  have e1 : [r, o].flatMap bounds = bounds r ++ bounds o := by rw [List.flatMap_cons, List.flatMap_cons, List.flatMap_nil, List.append_nil]
  have hbo : ∀ x ∈ bounds r ++ bounds o, OkV x := fun x hx => by
    rcases List.mem_append.mp hx with e | e
    · exact bounds_ok h1.1.1 x e
    · exact bounds_ok h2.1.1 x e
  obtain ⟨l, m1, m2, m3, m4⟩ := pure_marks (rs := [r, o]) (s := s) (by rw [e1]; exact hbo) (by rw [e1, List.length_append]; omega)
  rw [e1] at m3 m4
  rw [List.length_append] at m4
  refine ⟨l, m1, m2, fun x hx => ?_, fun x hx => ?_, fun x hx => (m3 x).mpr (List.mem_cons_of_mem _ (List.mem_append_left _ hx)), fun x hx => (m3 x).mpr (List.mem_cons_of_mem _ (List.mem_append_right _ hx)), by omega⟩
  · rcases List.mem_cons.mp ((m3 x).mp hx) with e | e
    · rw [e]; exact okV0
    · exact hbo x e
  · rcases List.mem_cons.mp ((m3 x).mp hx) with e | e
    · exact .inl e
    · rcases List.mem_append.mp e with z | z
      · exact (h1.2 x z).imp id fun z => List.mem_append_left _ z
      · exact (h2.2 x z).imp id fun z => List.mem_append_right _ z
theorem apart {r : Rng} {l : List Int} (hb : ∀ x ∈ bounds r, x ∈ 0 :: l) {a b : Int} (a0 : 0 ≤ a) (hx : ∀ x ∈ l, ¬ (a < x ∧ x ≤ b)) : ∀ y ∈ bounds r, ¬ (a < y ∧ y ≤ b) := fun y hy => by
  rcases List.mem_cons.mp (hb y hy) with e | e
  · rw [e]; omega
  · exact hx y e
theorem law_both_is (h1 : Fits L r) (h2 : Fits M o) (hz : L.length + M.length ≤ 60) : f__law_both [rngD r, rngD o] s = some (rngD (bothR r o), s) ∧ Fits (L ++ M) (bothR r o) := by
  obtain ⟨l, m1, m2, m3, m4, m5, m6, m7⟩ := two_marks (s := s) h1 h2 hz
  obtain ⟨y1, y2⟩ := made_is (P := fun v => has r v && has o v) (y := bothR r o) m2 m3 (fun a b a0 hab hx => by
    show (has r a && has o a) = (has r b && has o b)
    rw [has_const hab (apart m5 a0 hx), has_const (r := o) hab (apart m6 a0 hx)]) (both_ok h1.1 h2.1) fun v _ => both_has r o v
  have hm := pure_made (s := s) (l := (0 :: l).map fun x => (x, has r x && has o x)) (by rw [List.length_map]; omega)
  rw [marks_fst] at hm
  rw [y1] at hm
  refine ⟨lb_key m1 (comp_flags (P := fun x => has r x && has o x) fun y hy => ⟨_, rfl, ?_⟩) hm, both_ok h1.1 h2.1, fun b hb => m4 b (y2 b hb)⟩
  rw [c__law_both_0_eq]
  refine eq_of_OW ?_
  simp only [mDef_eq, outD_nx, outD_rt, startE, sNil, sSeq, thenS_nx, thenS_rt, thenS_bk, thenS_ct, sAsg, sIf, sRet, sRetN, sDrop, sBrk, sCnt, sFor, sOwn, ownAt, sApp, sExt, sPut, sFrz, sPar, mIxO, mLenO, mTupO, mVar, mC, mU, mB, mNil, mCons, mF, mIsT, mAndT, mOrT, mNotT, mAnd, mOr, mNot, mIf, mChain, mPart, mNoPart, mSl, mCall, mIt, mRng, mComp, mYes, gdName, gdTup, gdCons, gdNil, wipeE, tupItems_tup, lstItems_lst, bl_bl, int_int, mHx_eq, mHlen_eq, mHcell_eq, sHput_eq, isH_hnd, hget1, hget2, hget3, hget4, hset1, hset2, hset3, hset4, eq_int, ne_int, lt_int, gt_int, le_int, ge_int, eq_bl, add_int, add_tup, add_lst, sub_int, neg_int, isN_hi, notN_hi, mul_int, div_int, mod_int, pow_int, abs_int, intC_int, len_tup, len_lst, tup_D, lst_D, rt_D, Bool.not_not, Bool.not_true, Bool.not_false, true_and, and_true, false_and, and_false, or_true, true_or, or_false, false_or, List.length_cons, List.length_nil, List.length_append, List.length_map, List.map_cons, List.map_nil, List.replicate_succ, List.replicate_zero, List.cons_append, List.nil_append, List.append_nil, List.set_cons_zero, List.set_cons_succ, List.getElem?_cons_zero, List.getElem?_cons_succ, Option.bind_some, Option.map_some, Option.bind_none, Option.map_none, OW_some, OW_bind, OW_map, OW_if, Bool.false_eq_true, if_true, if_false, ↓reduceIte, Nat.reduceAdd, Nat.reduceSub, Nat.zero_add, Nat.sub_self, Function.comp, pure_has (m3 y hy) (twos h1.1.1), pure_has (m3 y hy) (twos h2.1.1)]
  cases has r y <;> simp
theorem law_either_is (h1 : Fits L r) (h2 : Fits M o) (hz : L.length + M.length ≤ 60) : f__law_either [rngD r, rngD o] s = some (rngD (eitherR r o), s) ∧ Fits (L ++ M) (eitherR r o) := by
  obtain ⟨l, m1, m2, m3, m4, m5, m6, m7⟩ := two_marks (s := s) h1 h2 hz
  obtain ⟨y1, y2⟩ := made_is (P := fun v => has r v || has o v) (y := eitherR r o) m2 m3 (fun a b a0 hab hx => by
    show (has r a || has o a) = (has r b || has o b)
    rw [has_const hab (apart m5 a0 hx), has_const (r := o) hab (apart m6 a0 hx)]) (either_ok h1.1 h2.1) fun v v0 => either_has h1.1 h2.1 v0
  have hm := pure_made (s := s) (l := (0 :: l).map fun x => (x, has r x || has o x)) (by rw [List.length_map]; omega)
  rw [marks_fst] at hm
  rw [y1] at hm
  refine ⟨le_key m1 (comp_flags (P := fun x => has r x || has o x) fun y hy => ⟨_, rfl, ?_⟩) hm, either_ok h1.1 h2.1, fun b hb => m4 b (y2 b hb)⟩
  rw [c__law_either_0_eq]
  refine eq_of_OW ?_
  simp only [mDef_eq, outD_nx, outD_rt, startE, sNil, sSeq, thenS_nx, thenS_rt, thenS_bk, thenS_ct, sAsg, sIf, sRet, sRetN, sDrop, sBrk, sCnt, sFor, sOwn, ownAt, sApp, sExt, sPut, sFrz, sPar, mIxO, mLenO, mTupO, mVar, mC, mU, mB, mNil, mCons, mF, mIsT, mAndT, mOrT, mNotT, mAnd, mOr, mNot, mIf, mChain, mPart, mNoPart, mSl, mCall, mIt, mRng, mComp, mYes, gdName, gdTup, gdCons, gdNil, wipeE, tupItems_tup, lstItems_lst, bl_bl, int_int, mHx_eq, mHlen_eq, mHcell_eq, sHput_eq, isH_hnd, hget1, hget2, hget3, hget4, hset1, hset2, hset3, hset4, eq_int, ne_int, lt_int, gt_int, le_int, ge_int, eq_bl, add_int, add_tup, add_lst, sub_int, neg_int, isN_hi, notN_hi, mul_int, div_int, mod_int, pow_int, abs_int, intC_int, len_tup, len_lst, tup_D, lst_D, rt_D, Bool.not_not, Bool.not_true, Bool.not_false, true_and, and_true, false_and, and_false, or_true, true_or, or_false, false_or, List.length_cons, List.length_nil, List.length_append, List.length_map, List.map_cons, List.map_nil, List.replicate_succ, List.replicate_zero, List.cons_append, List.nil_append, List.append_nil, List.set_cons_zero, List.set_cons_succ, List.getElem?_cons_zero, List.getElem?_cons_succ, Option.bind_some, Option.map_some, Option.bind_none, Option.map_none, OW_some, OW_bind, OW_map, OW_if, Bool.false_eq_true, if_true, if_false, ↓reduceIte, Nat.reduceAdd, Nat.reduceSub, Nat.zero_add, Nat.sub_self, Function.comp, pure_has (m3 y hy) (twos h1.1.1), pure_has (m3 y hy) (twos h2.1.1)]
  cases has r y <;> simp
theorem out_len (t : Rng) : ∀ o : Option Int, (outR o t).length ≤ t.length + 1 := by
  induction t with
  | nil => intro o; cases o <;> simp [outR]
  | cons q t ih =>
    obtain ⟨lo, hi⟩ := q
    intro o
    have := ih hi
    cases o with
    | none => exact Nat.le_succ_of_le this
    | some b =>
      show (if b < lo then (b, some lo) :: outR hi t else outR hi t).length ≤ _
      by_cases c : b < lo
      · rw [if_pos c, List.length_cons, List.length_cons]; omega
      · rw [if_neg c, List.length_cons]; omega
theorem both_len (a b : Rng) : (bothR a b).length ≤ a.length * b.length := by
  induction a with
  | nil => exact Nat.zero_le _
  | cons p a ih =>
    have e : bothR (p :: a) b = bothI p b ++ bothR a b := rfl
    have := bothI_len p b
    rw [e, List.length_append, List.length_cons, Nat.add_mul, Nat.one_mul]
    omega
theorem prog_either (h1 : OkR r) (h2 : OkR o) (hz1 : r.length ≤ 100) (hz2 : o.length ≤ 100) : f_either [rngD r, rngD o] s = some (rngD (eitherR r o), s) := by
  have l1 := out_len r (some 0)
  have l2 := out_len o (some 0)
  have hm : (outR (some 0) r).length * (outR (some 0) o).length ≤ 101 * 101 := Nat.mul_le_mul (Nat.le_trans l1 (by omega)) (Nat.le_trans l2 (by omega))
  have hb := both_len (outR (some 0) r) (outR (some 0) o)
  have o1 := out_ok h1 okV0
  have o2 := out_ok h2 okV0
  have ob := both_ok o1 o2
  refine eq_of_OW ?_
  unfold f_either
  simp only [mDef_eq, outD_nx, outD_rt, startE, sNil, sSeq, thenS_nx, thenS_rt, thenS_bk, thenS_ct, sAsg, sIf, sRet, sRetN, sDrop, sBrk, sCnt, sFor, sOwn, ownAt, sApp, sExt, sPut, sFrz, sPar, mIxO, mLenO, mTupO, mVar, mC, mU, mB, mNil, mCons, mF, mIsT, mAndT, mOrT, mNotT, mAnd, mOr, mNot, mIf, mChain, mPart, mNoPart, mSl, mCall, mIt, mRng, mComp, mYes, gdName, gdTup, gdCons, gdNil, wipeE, tupItems_tup, lstItems_lst, bl_bl, int_int, mHx_eq, mHlen_eq, mHcell_eq, sHput_eq, isH_hnd, hget1, hget2, hget3, hget4, hset1, hset2, hset3, hset4, eq_int, ne_int, lt_int, gt_int, le_int, ge_int, eq_bl, add_int, add_tup, add_lst, sub_int, neg_int, isN_hi, notN_hi, mul_int, div_int, mod_int, pow_int, abs_int, intC_int, len_tup, len_lst, tup_D, lst_D, rt_D, Bool.not_not, Bool.not_true, Bool.not_false, true_and, and_true, false_and, and_false, or_true, true_or, or_false, false_or, List.length_cons, List.length_nil, List.length_append, List.length_map, List.map_cons, List.map_nil, List.replicate_succ, List.replicate_zero, List.cons_append, List.nil_append, List.append_nil, List.set_cons_zero, List.set_cons_succ, List.getElem?_cons_zero, List.getElem?_cons_succ, Option.bind_some, Option.map_some, Option.bind_none, Option.map_none, OW_some, OW_bind, OW_map, OW_if, Bool.false_eq_true, if_true, if_false, ↓reduceIte, Nat.reduceAdd, Nat.reduceSub, Nat.zero_add, Nat.sub_self, Function.comp, pure_outside (twos h1.1) (s := s) (by omega), pure_outside (twos h2.1) (s := s) (by omega), pure_both (s := s) (twos o1.1) (twos o2.1) (by omega), pure_outside (s := s) (twos ob.1) (by omega)]
  rfl
end
end K02

set_option Elab.async false
set_option linter.all false
set_option maxRecDepth 100000
set_option maxHeartbeats 4000000
namespace K02
open PySem
open L2
open Dl
open Txt
open TL
theorem fig_tl : ("0123456789" : Str).cps.toList = [48, 49, 50, 51, 52, 53, 54, 55, 56, 57] := by decide +kernel
theorem fig_in {c : Nat} (h : 48 ≤ c ∧ c ≤ 57) : decide (c ∈ ("0123456789" : Str).cps.toList) = true := by
  rw [fig_tl, decide_eq_true_eq]
  simp only [List.mem_cons, List.not_mem_nil, or_false]
  omega
theorem num0 : num 0 = ("0" : Str) := by decide +kernel
theorem one_sign (c : Nat) : ((⟨#[c]⟩ : Str) == ("0" : Str)) = (c == 48) := by
  have e : ("0" : Str) = ⟨#[48]⟩ := by decide +kernel
  rw [e, Bool.eq_iff_iff, beq_iff_eq, beq_iff_eq]
  constructor
  · intro h
    have := congrArg (fun x : Str => x.cps.toList) h
    simpa using this
  · intro h
    rw [h]
theorem bls_true {l : List D} : ∀ {k : List Nat}, (∀ c ∈ k, 48 ≤ c ∧ c ≤ 57) → allD [.lst ((k.map fun c => D.str ⟨#[c]⟩).map fun _ => D.bl true)] = some (.bl true) := fun {k} h => by
  have e : (k.map fun c => D.str ⟨#[c]⟩).map (fun _ => D.bl true) = (k.map fun c => D.str ⟨#[c]⟩).map (fun x => D.bl ((fun _ => true) x)) := rfl
  rw [e, all_map]
  simp
theorem pure_number {n m : Nat} {s : Hand} (hn : n ≤ m) (hm : m ≤ 1000000) : f_number_told [.str (num n), .int (m : Int)] s = some (.int (n : Int), s) := by
  obtain ⟨l1, l7⟩ := num_len (n := n) (by omega)
  have hsz : (num n).length ≤ sizeLine := by rw [sizeLine_eq]; omega
  have hi : intTD [.str (num n)] = some (.int (n : Int)) := by
    show (if (num n).length ≤ 640 then (PySem.intText? (num n)).map D.int else none) = _
    rw [if_pos (by omega), num_int (by omega)]
    rfl
  have hd : ∀ c ∈ tl (num n), 48 ≤ c ∧ c ≤ 57 := fun c hc => num_digits hc
  obtain ⟨c0, t0, e0⟩ : ∃ c l, tl (num n) = c :: l := by
    cases e : tl (num n) with
    | nil =>
      have := tl_len (num n)
      rw [e] at this
      simp at this
      omega
    | cons c l => exact ⟨c, l, rfl⟩
  have hix := ix_str0 hsz e0
  have hz : (c0 == 48) = true → num n = ("0" : Str) := fun h => by
    have hc : c0 = 48 := by simpa using h
    by_cases z : n = 0
    · rw [z, num0]
    · exact absurd hc (numL_head n (by omega) c0 (by rw [← num_tl, e0]; rfl))
  have ec : compL (gdName 2) mYes c_number_told_0 [some (.dat (.str (num n))), some (.dat (.int (m : Int))), none] ((tl (num n)).map fun c => D.str ⟨#[c]⟩) s = some (((tl (num n)).map fun c => D.str ⟨#[c]⟩).map fun _ => .bl true, s) := by
    refine comp_pure fun x hx => ⟨_, rfl, ?_⟩
    obtain ⟨c, hc, ex⟩ := List.mem_map.mp hx
    subst ex
    rw [c_number_told_0_eq]
    refine eq_of_OW ?_
    simp only [mDef_eq, outD_nx, outD_rt, startE, sNil, sSeq, thenS_nx, thenS_rt, thenS_bk, thenS_ct, sAsg, sIf, sRet, sRetN, sDrop, sBrk, sCnt, sFor, sOwn, ownAt, sApp, sExt, sPut, sFrz, sPar, mIxO, mLenO, mTupO, mVar, mC, mU, mB, mNil, mCons, mF, mIsT, mAndT, mOrT, mNotT, mAnd, mOr, mNot, mIf, mChain, mPart, mNoPart, mSl, mCall, mIt, mRng, mComp, mYes, gdName, gdTup, gdCons, gdNil, wipeE, tupItems_tup, lstItems_lst, bl_bl, int_int, mHx_eq, mHlen_eq, mHcell_eq, sHput_eq, isH_hnd, hget1, hget2, hget3, hget4, hset1, hset2, hset3, hset4, eq_int, ne_int, lt_int, gt_int, le_int, ge_int, eq_bl, add_int, add_tup, add_lst, sub_int, neg_int, isN_hi, notN_hi, mul_int, div_int, mod_int, pow_int, abs_int, intC_int, len_tup, len_lst, tup_D, lst_D, rt_D, Bool.not_not, Bool.not_true, Bool.not_false, true_and, and_true, false_and, and_false, or_true, true_or, or_false, false_or, List.length_cons, List.length_nil, List.length_append, List.length_map, List.map_cons, List.map_nil, List.replicate_succ, List.replicate_zero, List.cons_append, List.nil_append, List.append_nil, List.set_cons_zero, List.set_cons_succ, List.getElem?_cons_zero, List.getElem?_cons_succ, Option.bind_some, Option.map_some, Option.bind_none, Option.map_none, OW_some, OW_bind, OW_map, OW_if, Bool.false_eq_true, if_true, if_false, ↓reduceIte, Nat.reduceAdd, Nat.reduceSub, Nat.zero_add, Nat.sub_self, Function.comp, OW_eq (sign_in (c := c) (z := ("0123456789" : Str))), fig_in (hd c hc)]
  have d1 : decide ((1 : Int) ≤ ((num n).length : Int)) = true := decide_eq_true (by omega)
  have d2 : decide (((num n).length : Int) ≤ 12) = true := decide_eq_true (by omega)
  have d3 : decide ((m : Int) < (n : Int)) = false := decide_eq_false (by omega)
  have ea := bls_true (l := []) hd
  refine eq_of_OW ?_
  unfold f_number_told
  simp only [mDef_eq, outD_nx, outD_rt, startE, sNil, sSeq, thenS_nx, thenS_rt, thenS_bk, thenS_ct, sAsg, sIf, sRet, sRetN, sDrop, sBrk, sCnt, sFor, sOwn, ownAt, sApp, sExt, sPut, sFrz, sPar, mIxO, mLenO, mTupO, mVar, mC, mU, mB, mNil, mCons, mF, mIsT, mAndT, mOrT, mNotT, mAnd, mOr, mNot, mIf, mChain, mPart, mNoPart, mSl, mCall, mIt, mRng, mComp, mYes, gdName, gdTup, gdCons, gdNil, wipeE, tupItems_tup, lstItems_lst, bl_bl, int_int, mHx_eq, mHlen_eq, mHcell_eq, sHput_eq, isH_hnd, hget1, hget2, hget3, hget4, hset1, hset2, hset3, hset4, eq_int, ne_int, lt_int, gt_int, le_int, ge_int, eq_bl, add_int, add_tup, add_lst, sub_int, neg_int, isN_hi, notN_hi, mul_int, div_int, mod_int, pow_int, abs_int, intC_int, len_tup, len_lst, tup_D, lst_D, rt_D, Bool.not_not, Bool.not_true, Bool.not_false, true_and, and_true, false_and, and_false, or_true, true_or, or_false, false_or, List.length_cons, List.length_nil, List.length_append, List.length_map, List.map_cons, List.map_nil, List.replicate_succ, List.replicate_zero, List.cons_append, List.nil_append, List.append_nil, List.set_cons_zero, List.set_cons_succ, List.getElem?_cons_zero, List.getElem?_cons_succ, Option.bind_some, Option.map_some, Option.bind_none, Option.map_none, OW_some, OW_bind, OW_map, OW_if, Bool.false_eq_true, if_true, if_false, ↓reduceIte, Nat.reduceAdd, Nat.reduceSub, Nat.zero_add, Nat.sub_self, Function.comp, OW_eq (len_str hsz), OW_eq (items_str hsz), OW_eq ec, OW_eq ea, d1, d2, OW_eq hix, OW_eq hi, d3, OW_eq (eq_str (a := ⟨#[c0]⟩) (b := ("0" : Str))), one_sign, OW_eq (ne_str (a := num n) (b := ("0" : Str)))]
  cases hc : c0 == 48 with
  | false => simp only [mDef_eq, outD_nx, outD_rt, startE, sNil, sSeq, thenS_nx, thenS_rt, thenS_bk, thenS_ct, sAsg, sIf, sRet, sRetN, sDrop, sBrk, sCnt, sFor, sOwn, ownAt, sApp, sExt, sPut, sFrz, sPar, mIxO, mLenO, mTupO, mVar, mC, mU, mB, mNil, mCons, mF, mIsT, mAndT, mOrT, mNotT, mAnd, mOr, mNot, mIf, mChain, mPart, mNoPart, mSl, mCall, mIt, mRng, mComp, mYes, gdName, gdTup, gdCons, gdNil, wipeE, tupItems_tup, lstItems_lst, bl_bl, int_int, mHx_eq, mHlen_eq, mHcell_eq, sHput_eq, isH_hnd, hget1, hget2, hget3, hget4, hset1, hset2, hset3, hset4, eq_int, ne_int, lt_int, gt_int, le_int, ge_int, eq_bl, add_int, add_tup, add_lst, sub_int, neg_int, isN_hi, notN_hi, mul_int, div_int, mod_int, pow_int, abs_int, intC_int, len_tup, len_lst, tup_D, lst_D, rt_D, Bool.not_not, Bool.not_true, Bool.not_false, true_and, and_true, false_and, and_false, or_true, true_or, or_false, false_or, List.length_cons, List.length_nil, List.length_append, List.length_map, List.map_cons, List.map_nil, List.replicate_succ, List.replicate_zero, List.cons_append, List.nil_append, List.append_nil, List.set_cons_zero, List.set_cons_succ, List.getElem?_cons_zero, List.getElem?_cons_succ, Option.bind_some, Option.map_some, Option.bind_none, Option.map_none, OW_some, OW_bind, OW_map, OW_if, Bool.false_eq_true, if_true, if_false, ↓reduceIte, Nat.reduceAdd, Nat.reduceSub, Nat.zero_add, Nat.sub_self, Function.comp, OW_eq hi, d3]
  | true =>
    have he : (num n == ("0" : Str)) = true := by rw [hz hc]; exact beq_self_eq_true _
    simp only [mDef_eq, outD_nx, outD_rt, startE, sNil, sSeq, thenS_nx, thenS_rt, thenS_bk, thenS_ct, sAsg, sIf, sRet, sRetN, sDrop, sBrk, sCnt, sFor, sOwn, ownAt, sApp, sExt, sPut, sFrz, sPar, mIxO, mLenO, mTupO, mVar, mC, mU, mB, mNil, mCons, mF, mIsT, mAndT, mOrT, mNotT, mAnd, mOr, mNot, mIf, mChain, mPart, mNoPart, mSl, mCall, mIt, mRng, mComp, mYes, gdName, gdTup, gdCons, gdNil, wipeE, tupItems_tup, lstItems_lst, bl_bl, int_int, mHx_eq, mHlen_eq, mHcell_eq, sHput_eq, isH_hnd, hget1, hget2, hget3, hget4, hset1, hset2, hset3, hset4, eq_int, ne_int, lt_int, gt_int, le_int, ge_int, eq_bl, add_int, add_tup, add_lst, sub_int, neg_int, isN_hi, notN_hi, mul_int, div_int, mod_int, pow_int, abs_int, intC_int, len_tup, len_lst, tup_D, lst_D, rt_D, Bool.not_not, Bool.not_true, Bool.not_false, true_and, and_true, false_and, and_false, or_true, true_or, or_false, false_or, List.length_cons, List.length_nil, List.length_append, List.length_map, List.map_cons, List.map_nil, List.replicate_succ, List.replicate_zero, List.cons_append, List.nil_append, List.append_nil, List.set_cons_zero, List.set_cons_succ, List.getElem?_cons_zero, List.getElem?_cons_succ, Option.bind_some, Option.map_some, Option.bind_none, Option.map_none, OW_some, OW_bind, OW_map, OW_if, Bool.false_eq_true, if_true, if_false, ↓reduceIte, Nat.reduceAdd, Nat.reduceSub, Nat.zero_add, Nat.sub_self, Function.comp, he, OW_eq hi, d3]
/-! versions' texts -/
def partsN (x : Int) : List Nat := [(x / 100000000000000).toNat, (x / 10000000 % 10000000).toNat, (x % 10000000).toNat]
def verT (x : Int) : Str := Txt.join ("." : Str) ((partsN x).map num)
theorem verD_N {x : Int} (h : OkV x) : verD x = .tup ((partsN x).map fun (n : Nat) => D.int ((n : Nat) : Int)) := by
  obtain ⟨h0, h1, h2, h3⟩ := h
  rw [verD_eq]
  unfold partsN
  simp only [List.map_cons, List.map_nil]
  rw [Int.toNat_of_nonneg (by omega), Int.toNat_of_nonneg (by omega), Int.toNat_of_nonneg (by omega)]
theorem parts_le {x : Int} (h : OkV x) : ∀ n ∈ partsN x, n ≤ 1000000 := fun n hn => by
  obtain ⟨h0, h1, h2, h3⟩ := h
  unfold partsN at hn
  simp only [List.mem_cons, List.not_mem_nil, or_false] at hn
  omega
theorem strs_map : ∀ l : List Str, strsOf (l.map D.str) = some l
  | [] => rfl
  | x :: l => by
    show (strsOf (l.map D.str)).map (x :: ·) = _
    rw [strs_map l]
    rfl
theorem join_D {y : Str} {l : List Str} (h : (l.map (·.length)).sum + l.length * y.length ≤ 16777216) : joinD (.str y) (.lst (l.map D.str)) = some (.str (Txt.join y l)) := by
  show ((seqItems (.lst (l.map D.str))).bind fun ds => (strsOf ds).bind fun ys => joinS y ys) = _
  show ((strsOf (l.map D.str)).bind fun ys => joinS y ys) = _
  rw [strs_map]
  show joinS y l = _
  unfold joinS
  rw [if_pos h]
theorem nums_sum {l : List Nat} (h : ∀ n ∈ l, n ≤ 1000000) : ((l.map num).map (·.length)).sum ≤ 7 * l.length := by
  induction l with
  | nil => exact Nat.le_refl _
  | cons n l ih =>
    have := (num_len (h n (List.mem_cons_self ..))).2
    have := ih fun m hm => h m (List.mem_cons_of_mem _ hm)
    simp only [List.map_cons, List.sum_cons, List.length_cons]
    omega
theorem dot_len : (("." : Str)).length = 1 := by decide +kernel
theorem dot_tl : tl ("." : Str) = [46] := by decide +kernel
theorem pure_version_text {x : Int} {s : Hand} (h : OkV x) : f_version_text [verD x] s = some (.str (verT x), s) := by
  have hp := parts_le h
  have hs := nums_sum hp
  have ec : compL (gdName 1) mYes c_version_text_0 [some (.dat (verD x)), none] ((partsN x).map fun (n : Nat) => D.int ((n : Nat) : Int)) s = some (((partsN x).map num).map D.str, s) := by
    have e : ((partsN x).map num).map D.str = ((partsN x).map fun (n : Nat) => D.int ((n : Nat) : Int)).map fun d => match d with | .int i => .str (num i.toNat) | d => d := by
      rw [List.map_map, List.map_map]
      refine List.map_congr_left fun n _ => ?_
      show D.str (num n) = D.str (num ((n : Int)).toNat)
      rw [Int.toNat_natCast]
    rw [e]
    refine comp_pure fun d hd => ⟨_, rfl, ?_⟩
    obtain ⟨n, hn, ed⟩ := List.mem_map.mp hd
    subst ed
    rw [c_version_text_0_eq]
    refine eq_of_OW ?_
    simp only [mDef_eq, outD_nx, outD_rt, startE, sNil, sSeq, thenS_nx, thenS_rt, thenS_bk, thenS_ct, sAsg, sIf, sRet, sRetN, sDrop, sBrk, sCnt, sFor, sOwn, ownAt, sApp, sExt, sPut, sFrz, sPar, mIxO, mLenO, mTupO, mVar, mC, mU, mB, mNil, mCons, mF, mIsT, mAndT, mOrT, mNotT, mAnd, mOr, mNot, mIf, mChain, mPart, mNoPart, mSl, mCall, mIt, mRng, mComp, mYes, gdName, gdTup, gdCons, gdNil, wipeE, tupItems_tup, lstItems_lst, bl_bl, int_int, mHx_eq, mHlen_eq, mHcell_eq, sHput_eq, isH_hnd, hget1, hget2, hget3, hget4, hset1, hset2, hset3, hset4, eq_int, ne_int, lt_int, gt_int, le_int, ge_int, eq_bl, add_int, add_tup, add_lst, sub_int, neg_int, isN_hi, notN_hi, mul_int, div_int, mod_int, pow_int, abs_int, intC_int, len_tup, len_lst, tup_D, lst_D, rt_D, Bool.not_not, Bool.not_true, Bool.not_false, true_and, and_true, false_and, and_false, or_true, true_or, or_false, false_or, List.length_cons, List.length_nil, List.length_append, List.length_map, List.map_cons, List.map_nil, List.replicate_succ, List.replicate_zero, List.cons_append, List.nil_append, List.append_nil, List.set_cons_zero, List.set_cons_succ, List.getElem?_cons_zero, List.getElem?_cons_succ, Option.bind_some, Option.map_some, Option.bind_none, Option.map_none, OW_some, OW_bind, OW_map, OW_if, Bool.false_eq_true, if_true, if_false, ↓reduceIte, Nat.reduceAdd, Nat.reduceSub, Nat.zero_add, Nat.sub_self, Function.comp, OW_eq (str_num (hp n hn)), Int.toNat_natCast]
  have ei : tupItems (verD x) = some ((partsN x).map fun (n : Nat) => D.int ((n : Nat) : Int)) := by rw [verD_N h]; rfl
  have ej := join_D (y := ("." : Str)) (l := (partsN x).map num) (by
    rw [List.length_map, dot_len]
    have : (partsN x).length = 3 := rfl
    omega)
  refine eq_of_OW ?_
  unfold f_version_text
  simp only [mDef_eq, outD_nx, outD_rt, startE, sNil, sSeq, thenS_nx, thenS_rt, thenS_bk, thenS_ct, sAsg, sIf, sRet, sRetN, sDrop, sBrk, sCnt, sFor, sOwn, ownAt, sApp, sExt, sPut, sFrz, sPar, mIxO, mLenO, mTupO, mVar, mC, mU, mB, mNil, mCons, mF, mIsT, mAndT, mOrT, mNotT, mAnd, mOr, mNot, mIf, mChain, mPart, mNoPart, mSl, mCall, mIt, mRng, mComp, mYes, gdName, gdTup, gdCons, gdNil, wipeE, tupItems_tup, lstItems_lst, bl_bl, int_int, mHx_eq, mHlen_eq, mHcell_eq, sHput_eq, isH_hnd, hget1, hget2, hget3, hget4, hset1, hset2, hset3, hset4, eq_int, ne_int, lt_int, gt_int, le_int, ge_int, eq_bl, add_int, add_tup, add_lst, sub_int, neg_int, isN_hi, notN_hi, mul_int, div_int, mod_int, pow_int, abs_int, intC_int, len_tup, len_lst, tup_D, lst_D, rt_D, Bool.not_not, Bool.not_true, Bool.not_false, true_and, and_true, false_and, and_false, or_true, true_or, or_false, false_or, List.length_cons, List.length_nil, List.length_append, List.length_map, List.map_cons, List.map_nil, List.replicate_succ, List.replicate_zero, List.cons_append, List.nil_append, List.append_nil, List.set_cons_zero, List.set_cons_succ, List.getElem?_cons_zero, List.getElem?_cons_succ, Option.bind_some, Option.map_some, Option.bind_none, Option.map_none, OW_some, OW_bind, OW_map, OW_if, Bool.false_eq_true, if_true, if_false, ↓reduceIte, Nat.reduceAdd, Nat.reduceSub, Nat.zero_add, Nat.sub_self, Function.comp, OW_eq ei, OW_eq ec, OW_eq ej]
  rfl
theorem joinL_len (S : List Nat) : ∀ l : List (List Nat), (joinL S l).length ≤ (l.map List.length).sum + l.length * S.length
  | [] => Nat.zero_le _
  | [p] => by
    show p.length ≤ p.length + 0 + 1 * S.length
    omega
  | p :: q :: r => by
    have := joinL_len S (q :: r)
    show (p ++ (S ++ joinL S (q :: r))).length ≤ p.length + ((q :: r).map List.length).sum + ((q :: r).length + 1) * S.length
    rw [List.length_append, List.length_append, Nat.add_mul, Nat.one_mul]
    omega
theorem join_len (y : Str) (l : List Str) : (Txt.join y l).length ≤ (l.map (·.length)).sum + l.length * y.length := by
  rw [join_eq, ← tl_len, tl_join]
  have := joinL_len (tl y) (l.map tl)
  rw [List.map_map, List.length_map, tl_len] at this
  have e : (List.length ∘ tl) = fun x : Str => x.length := funext fun x => tl_len x
  rw [e] at this
  exact this
theorem verT_len {x : Int} (h : OkV x) : (verT x).length ≤ 24 := by
  have h1 := join_len ("." : Str) ((partsN x).map num)
  have h2 := nums_sum (parts_le h)
  rw [List.length_map, dot_len] at h1
  have : (partsN x).length = 3 := rfl
  unfold verT
  omega
theorem verT_split {x : Int} (h : OkV x) : splitD (.str (verT x)) (.str ".") = some (.lst (((partsN x).map num).map D.str)) := by
  have hl := verT_len h
  show (if (("." : Str).length == 0) = false ∧ (verT x).length + 2 ≤ sizeLine then some (D.lst ((Txt.split (verT x) ".").map .str)) else none) = _
  rw [if_pos ⟨by rw [dot_len]; rfl, by rw [sizeLine_eq]; omega⟩]
  have e : Txt.split (verT x) "." = (partsN x).map num := by
    refine split_join (s := 46) (S := []) dot_tl (by decide +kernel) ?_ fun p hp => ?_
    · intro z
      have := congrArg List.length z
      cases this
    · obtain ⟨n, hn, e⟩ := List.mem_map.mp hp
      rw [← e, num_tl]
      exact numL_free (by omega)
  rw [e]
theorem none_not_in (l : List Nat) : ninD .non (.tup (l.map fun (n : Nat) => D.int ((n : Nat) : Int))) = some (.bl true) := by
  have e : ∀ l : List Nat, toPyL (l.map fun (n : Nat) => D.int ((n : Nat) : Int)) = some (l.map fun (n : Nat) => PyData.int ((n : Nat) : Int)) := by
    intro l
    induction l with
    | nil => rfl
    | cons n l ih =>
      show (match toPy (D.int ((n : Nat) : Int)), toPyL (l.map fun (n : Nat) => D.int ((n : Nat) : Int)) with | some p, some ps => some (p :: ps) | _, _ => none) = _
      rw [ih]
      rfl
  show relD (inP true) .non (.tup (l.map fun (n : Nat) => D.int ((n : Nat) : Int))) = _
  unfold relD
  have e2 : toPy (.tup (l.map fun (n : Nat) => D.int ((n : Nat) : Int))) = some (.tuple (l.map fun (n : Nat) => PyData.int ((n : Nat) : Int))) := by
    show (toPyL (l.map fun (n : Nat) => D.int ((n : Nat) : Int))).map PyData.tuple = _
    rw [e]
    rfl
  rw [e2]
  show (inP true .none (.tuple (l.map fun (n : Nat) => PyData.int ((n : Nat) : Int)))).map D.bl = _
  show (if min (PyData.depthAll (l.map fun (n : Nat) => PyData.int ((n : Nat) : Int))) (PyData.none).depth ≤ 62 then some (true != (l.map fun (n : Nat) => PyData.int ((n : Nat) : Int)).any fun y => PyData.eqv y .none) else none).map D.bl = _
  rw [if_pos (Nat.le_trans (Nat.min_le_right _ _) (by decide))]
  have e3 : ((l.map fun (n : Nat) => PyData.int ((n : Nat) : Int)).any fun y => PyData.eqv y .none) = false := by
    rw [List.any_map, List.any_eq_false]
    intro n _
    exact Bool.false_ne_true
  rw [e3]
  rfl
theorem pure_version_told {x : Int} {s : Hand} (h : OkV x) : f_version_told [.str (verT x)] s = some (verD x, s) := by
  have hp := parts_le h
  have ec : compL (gdName 2) mYes c_version_told_0 [some (.dat (.str (verT x))), none, none] (((partsN x).map num).map D.str) s = some ((partsN x).map fun (n : Nat) => D.int ((n : Nat) : Int), s) := by
    have e : ((partsN x).map fun (n : Nat) => D.int ((n : Nat) : Int)) = (((partsN x).map num).map D.str).map fun d => match d with | .str w => (match PySem.intText? w with | some i => D.int i | none => .non) | d => d := by
      rw [List.map_map, List.map_map]
      refine List.map_congr_left fun n hn => ?_
      show D.int (n : Int) = (match PySem.intText? (num n) with | some i => D.int i | none => .non)
      rw [num_int (hp n hn)]
    rw [e]
    refine comp_pure fun d hd => ⟨_, rfl, ?_⟩
    obtain ⟨w, hw, ed⟩ := List.mem_map.mp hd
    obtain ⟨n, hn, ew⟩ := List.mem_map.mp hw
    subst ew ed
    rw [c_version_told_0_eq]
    refine eq_of_OW ?_
    have := pure_number (n := n) (m := 1000000) (s := s) (hp n hn) (Nat.le_refl _)
    simp only [mDef_eq, outD_nx, outD_rt, startE, sNil, sSeq, thenS_nx, thenS_rt, thenS_bk, thenS_ct, sAsg, sIf, sRet, sRetN, sDrop, sBrk, sCnt, sFor, sOwn, ownAt, sApp, sExt, sPut, sFrz, sPar, mIxO, mLenO, mTupO, mVar, mC, mU, mB, mNil, mCons, mF, mIsT, mAndT, mOrT, mNotT, mAnd, mOr, mNot, mIf, mChain, mPart, mNoPart, mSl, mCall, mIt, mRng, mComp, mYes, gdName, gdTup, gdCons, gdNil, wipeE, tupItems_tup, lstItems_lst, bl_bl, int_int, mHx_eq, mHlen_eq, mHcell_eq, sHput_eq, isH_hnd, hget1, hget2, hget3, hget4, hset1, hset2, hset3, hset4, eq_int, ne_int, lt_int, gt_int, le_int, ge_int, eq_bl, add_int, add_tup, add_lst, sub_int, neg_int, isN_hi, notN_hi, mul_int, div_int, mod_int, pow_int, abs_int, intC_int, len_tup, len_lst, tup_D, lst_D, rt_D, Bool.not_not, Bool.not_true, Bool.not_false, true_and, and_true, false_and, and_false, or_true, true_or, or_false, false_or, List.length_cons, List.length_nil, List.length_append, List.length_map, List.map_cons, List.map_nil, List.replicate_succ, List.replicate_zero, List.cons_append, List.nil_append, List.append_nil, List.set_cons_zero, List.set_cons_succ, List.getElem?_cons_zero, List.getElem?_cons_succ, Option.bind_some, Option.map_some, Option.bind_none, Option.map_none, OW_some, OW_bind, OW_map, OW_if, Bool.false_eq_true, if_true, if_false, ↓reduceIte, Nat.reduceAdd, Nat.reduceSub, Nat.zero_add, Nat.sub_self, Function.comp]
    rw [OW_eq (show f_number_told [D.str (num n), D.int 1000000] s = some (D.int (n : Int), s) from this)]
    rw [num_int (hp n hn)]
  have et : ∀ l : List D, tupleCD [.lst l] = some (.tup l) := fun _ => rfl
  refine eq_of_OW ?_
  unfold f_version_told
  simp only [mDef_eq, outD_nx, outD_rt, startE, sNil, sSeq, thenS_nx, thenS_rt, thenS_bk, thenS_ct, sAsg, sIf, sRet, sRetN, sDrop, sBrk, sCnt, sFor, sOwn, ownAt, sApp, sExt, sPut, sFrz, sPar, mIxO, mLenO, mTupO, mVar, mC, mU, mB, mNil, mCons, mF, mIsT, mAndT, mOrT, mNotT, mAnd, mOr, mNot, mIf, mChain, mPart, mNoPart, mSl, mCall, mIt, mRng, mComp, mYes, gdName, gdTup, gdCons, gdNil, wipeE, tupItems_tup, lstItems_lst, bl_bl, int_int, mHx_eq, mHlen_eq, mHcell_eq, sHput_eq, isH_hnd, hget1, hget2, hget3, hget4, hset1, hset2, hset3, hset4, eq_int, ne_int, lt_int, gt_int, le_int, ge_int, eq_bl, add_int, add_tup, add_lst, sub_int, neg_int, isN_hi, notN_hi, mul_int, div_int, mod_int, pow_int, abs_int, intC_int, len_tup, len_lst, tup_D, lst_D, rt_D, Bool.not_not, Bool.not_true, Bool.not_false, true_and, and_true, false_and, and_false, or_true, true_or, or_false, false_or, List.length_cons, List.length_nil, List.length_append, List.length_map, List.map_cons, List.map_nil, List.replicate_succ, List.replicate_zero, List.cons_append, List.nil_append, List.append_nil, List.set_cons_zero, List.set_cons_succ, List.getElem?_cons_zero, List.getElem?_cons_succ, Option.bind_some, Option.map_some, Option.bind_none, Option.map_none, OW_some, OW_bind, OW_map, OW_if, Bool.false_eq_true, if_true, if_false, ↓reduceIte, Nat.reduceAdd, Nat.reduceSub, Nat.zero_add, Nat.sub_self, Function.comp, OW_eq (verT_split h), OW_eq ec, OW_eq (et _)]
  have hl3 : ((((partsN x).map fun (n : Nat) => D.int ((n : Nat) : Int)).length : Nat) : Int) = 3 := rfl
  have e3 : (((partsN x).length : Nat) : Int) = 3 := rfl
  simp only [e3, OW_eq (none_not_in (partsN x)), beq_self_eq_true, mDef_eq, outD_nx, outD_rt, startE, sNil, sSeq, thenS_nx, thenS_rt, thenS_bk, thenS_ct, sAsg, sIf, sRet, sRetN, sDrop, sBrk, sCnt, sFor, sOwn, ownAt, sApp, sExt, sPut, sFrz, sPar, mIxO, mLenO, mTupO, mVar, mC, mU, mB, mNil, mCons, mF, mIsT, mAndT, mOrT, mNotT, mAnd, mOr, mNot, mIf, mChain, mPart, mNoPart, mSl, mCall, mIt, mRng, mComp, mYes, gdName, gdTup, gdCons, gdNil, wipeE, tupItems_tup, lstItems_lst, bl_bl, int_int, mHx_eq, mHlen_eq, mHcell_eq, sHput_eq, isH_hnd, hget1, hget2, hget3, hget4, hset1, hset2, hset3, hset4, eq_int, ne_int, lt_int, gt_int, le_int, ge_int, eq_bl, add_int, add_tup, add_lst, sub_int, neg_int, isN_hi, notN_hi, mul_int, div_int, mod_int, pow_int, abs_int, intC_int, len_tup, len_lst, tup_D, lst_D, rt_D, Bool.not_not, Bool.not_true, Bool.not_false, true_and, and_true, false_and, and_false, or_true, true_or, or_false, false_or, List.length_cons, List.length_nil, List.length_append, List.length_map, List.map_cons, List.map_nil, List.replicate_succ, List.replicate_zero, List.cons_append, List.nil_append, List.append_nil, List.set_cons_zero, List.set_cons_succ, List.getElem?_cons_zero, List.getElem?_cons_succ, Option.bind_some, Option.map_some, Option.bind_none, Option.map_none, OW_some, OW_bind, OW_map, OW_if, Bool.false_eq_true, if_true, if_false, ↓reduceIte, Nat.reduceAdd, Nat.reduceSub, Nat.zero_add, Nat.sub_self, Function.comp]
  rw [verD_N h]
end K02

set_option Elab.async false
set_option linter.all false
set_option maxRecDepth 100000
set_option maxHeartbeats 4000000
namespace K02
open PySem
open L2
open Dl
/-! what a part tells -/
/-- all three numbers below 1000000 -/
def Small (x : Int) : Prop := 0 ≤ x ∧ x / 100000000000000 ≤ 999999 ∧ x / 10000000 % 10000000 ≤ 999999 ∧ x % 10000000 ≤ 999999
theorem Small.ok {x : Int} (h : Small x) : OkV x := by
  unfold Small at h
  unfold OkV
  omega
theorem Small.next {x : Int} (h : Small x) : OkV (x + 1) := by
  unfold Small at h
  unfold OkV
  omega
def topK (x : Int) : Int := if 0 < x / 100000000000000 then (x / 100000000000000 + 1) * 100000000000000 else if 0 < x / 10000000 % 10000000 then (x / 10000000 % 10000000 + 1) * 10000000 else x + 1
def tilK (x : Int) : Int := x / 100000000000000 * 100000000000000 + (x / 10000000 % 10000000 + 1) * 10000000
theorem Small.top {x : Int} (h : Small x) : OkV (topK x) ∧ x < topK x := by
  unfold Small at h
  unfold topK OkV
  split
  · omega
  · split <;> omega
theorem Small.til {x : Int} (h : Small x) : OkV (tilK x) ∧ x < tilK x := by
  unfold Small at h
  unfold tilK OkV
  omega
theorem behind_D {x : Int} (h : OkV x) : D.tup [.int (x / 100000000000000), .int (x / 10000000 % 10000000), .int (x % 10000000 + 1)] = verD (x + 1) := by
  unfold OkV at h
  rw [verD_eq, show (x + 1) / 100000000000000 = x / 100000000000000 by omega, show (x + 1) / 10000000 % 10000000 = x / 10000000 % 10000000 by omega, show (x + 1) % 10000000 = x % 10000000 + 1 by omega]
theorem top1_D {x : Int} (h : OkV x) : D.tup [.int (x / 100000000000000 + 1), .int 0, .int 0] = verD ((x / 100000000000000 + 1) * 100000000000000) := by
  unfold OkV at h
  rw [verD_eq]
  generalize x / 100000000000000 = a at *
  rw [show (a + 1) * 100000000000000 / 100000000000000 = a + 1 by omega, show (a + 1) * 100000000000000 / 10000000 % 10000000 = 0 by omega, show (a + 1) * 100000000000000 % 10000000 = 0 by omega]
theorem top2_D {b : Int} (h0 : 0 ≤ b) (h : b ≤ 1000000) : D.tup [.int 0, .int (b + 1), .int 0] = verD ((b + 1) * 10000000) := by
  rw [verD_eq, show (b + 1) * 10000000 / 100000000000000 = 0 by omega, show (b + 1) * 10000000 / 10000000 % 10000000 = b + 1 by omega, show (b + 1) * 10000000 % 10000000 = 0 by omega]
theorem til_D {x : Int} (h : OkV x) : D.tup [.int (x / 100000000000000), .int (x / 10000000 % 10000000 + 1), .int 0] = verD (tilK x) := by
  unfold OkV at h
  unfold tilK
  rw [verD_eq]
  have e : x / 10000000 % 10000000 ≤ 1000000 ∧ 0 ≤ x / 10000000 % 10000000 := by omega
  generalize x / 10000000 % 10000000 = b at *
  generalize x / 100000000000000 = a at *
  rw [show (a * 100000000000000 + (b + 1) * 10000000) / 100000000000000 = a by omega, show (a * 100000000000000 + (b + 1) * 10000000) / 10000000 % 10000000 = b + 1 by omega, show (a * 100000000000000 + (b + 1) * 10000000) % 10000000 = 0 by omega]
theorem pure_behind {x : Int} {s : Hand} (h : OkV x) : f_behind [verD x] s = some (verD (x + 1), s) := by
  rw [← behind_D h]
  kernel_rfl
theorem pure_law_behind {x : Int} {s : Hand} (h : OkV x) : f__law_behind [verD x] s = some (verD (x + 1), s) := by
  rw [← behind_D h]
  kernel_rfl
theorem pure_top {x : Int} {s : Hand} (h : OkV x) : f_top_of_kin [verD x] s = some (verD (topK x), s) := by
  have hs3 : (0 + 1 + 1 + 1 ≤ sizeLine) = True := eq_true (by rw [sizeLine_eq]; omega)
  have i0 : ixD (verD x) (.int 0) = some (.int (x / 100000000000000)) := ix_0
  have i1 : ixD (verD x) (.int 1) = some (.int (x / 10000000 % 10000000)) := ix_1
  refine eq_of_OW ?_
  unfold f_top_of_kin
  simp only [mDef_eq, outD_nx, outD_rt, startE, sNil, sSeq, thenS_nx, thenS_rt, thenS_bk, thenS_ct, sAsg, sIf, sRet, sRetN, sDrop, sBrk, sCnt, sFor, sOwn, ownAt, sApp, sExt, sPut, sFrz, sPar, mIxO, mLenO, mTupO, mVar, mC, mU, mB, mNil, mCons, mF, mIsT, mAndT, mOrT, mNotT, mAnd, mOr, mNot, mIf, mChain, mPart, mNoPart, mSl, mCall, mIt, mRng, mComp, mYes, gdName, gdTup, gdCons, gdNil, wipeE, tupItems_tup, lstItems_lst, bl_bl, int_int, mHx_eq, mHlen_eq, mHcell_eq, sHput_eq, isH_hnd, hget1, hget2, hget3, hget4, hset1, hset2, hset3, hset4, eq_int, ne_int, lt_int, gt_int, le_int, ge_int, eq_bl, add_int, add_tup, add_lst, sub_int, neg_int, isN_hi, notN_hi, mul_int, div_int, mod_int, pow_int, abs_int, intC_int, len_tup, len_lst, tup_D, lst_D, rt_D, Bool.not_not, Bool.not_true, Bool.not_false, true_and, and_true, false_and, and_false, or_true, true_or, or_false, false_or, List.length_cons, List.length_nil, List.length_append, List.length_map, List.map_cons, List.map_nil, List.replicate_succ, List.replicate_zero, List.cons_append, List.nil_append, List.append_nil, List.set_cons_zero, List.set_cons_succ, List.getElem?_cons_zero, List.getElem?_cons_succ, Option.bind_some, Option.map_some, Option.bind_none, Option.map_none, OW_some, OW_bind, OW_map, OW_if, Bool.false_eq_true, if_true, if_false, ↓reduceIte, Nat.reduceAdd, Nat.reduceSub, Nat.zero_add, Nat.sub_self, Function.comp, OW_eq i0, OW_eq i1, pure_behind h, hs3]
  unfold topK
  by_cases c : 0 < x / 100000000000000
  · rw [decide_eq_true c, if_pos rfl, if_pos c, ← top1_D h]
  · rw [decide_eq_false c, if_neg Bool.false_ne_true, if_neg c]
    by_cases c2 : 0 < x / 10000000 % 10000000
    · rw [decide_eq_true c2, if_pos rfl, if_pos c2, ← top2_D (by omega) (by unfold OkV at h; omega)]
    · rw [decide_eq_false c2, if_neg Bool.false_ne_true, if_neg c2]
def rawS (w : Str) (x : Int) : Rng :=
  if w = ("" : Str) then [(x, some (x + 1))]
  else if w = ("<" : Str) then [(0, some x)]
  else if w = ("<=" : Str) then [(0, some (x + 1))]
  else if w = (">" : Str) then [(x + 1, none)]
  else if w = (">=" : Str) then [(x, none)]
  else if w = ("^" : Str) then [(x, some (topK x))]
  else if w = ("~" : Str) then [(x, some (tilK x))]
  else [(0, some x), (x + 1, none)]
theorem eq_str' {a b : Str} : relD eqP (.str a) (.str b) = some (.bl (decide (a = b))) := by
  rw [eq_str]
  congr 2
theorem pure_stretches {w : Str} {x : Int} {s : Hand} (h : OkV x) : f_stretches_told [.str w, verD x] s = some (.lst ((rawS w x).map strD), s) := by
  have hs1 : (0 + 1 ≤ sizeLine) = True := eq_true (by rw [sizeLine_eq]; omega)
  have hs2 : (0 + 1 + 1 ≤ sizeLine) = True := eq_true (by rw [sizeLine_eq]; omega)
  have hs3 : (0 + 1 + 1 + 1 ≤ sizeLine) = True := eq_true (by rw [sizeLine_eq]; omega)
  have i0 : ixD (verD x) (.int 0) = some (.int (x / 100000000000000)) := ix_0
  have i1 : ixD (verD x) (.int 1) = some (.int (x / 10000000 % 10000000)) := ix_1
  refine eq_of_OW ?_
  unfold f_stretches_told rawS
  simp only [mDef_eq, outD_nx, outD_rt, startE, sNil, sSeq, thenS_nx, thenS_rt, thenS_bk, thenS_ct, sAsg, sIf, sRet, sRetN, sDrop, sBrk, sCnt, sFor, sOwn, ownAt, sApp, sExt, sPut, sFrz, sPar, mIxO, mLenO, mTupO, mVar, mC, mU, mB, mNil, mCons, mF, mIsT, mAndT, mOrT, mNotT, mAnd, mOr, mNot, mIf, mChain, mPart, mNoPart, mSl, mCall, mIt, mRng, mComp, mYes, gdName, gdTup, gdCons, gdNil, wipeE, tupItems_tup, lstItems_lst, bl_bl, int_int, mHx_eq, mHlen_eq, mHcell_eq, sHput_eq, isH_hnd, hget1, hget2, hget3, hget4, hset1, hset2, hset3, hset4, eq_int, ne_int, lt_int, gt_int, le_int, ge_int, eq_bl, add_int, add_tup, add_lst, sub_int, neg_int, isN_hi, notN_hi, mul_int, div_int, mod_int, pow_int, abs_int, intC_int, len_tup, len_lst, tup_D, lst_D, rt_D, Bool.not_not, Bool.not_true, Bool.not_false, true_and, and_true, false_and, and_false, or_true, true_or, or_false, false_or, List.length_cons, List.length_nil, List.length_append, List.length_map, List.map_cons, List.map_nil, List.replicate_succ, List.replicate_zero, List.cons_append, List.nil_append, List.append_nil, List.set_cons_zero, List.set_cons_succ, List.getElem?_cons_zero, List.getElem?_cons_succ, Option.bind_some, Option.map_some, Option.bind_none, Option.map_none, OW_some, OW_bind, OW_map, OW_if, Bool.false_eq_true, if_true, if_false, ↓reduceIte, Nat.reduceAdd, Nat.reduceSub, Nat.zero_add, Nat.sub_self, Function.comp, eq_str', pure_behind h, pure_top h, hs1, hs2, hs3, OW_eq i0, OW_eq i1, ver0, til_D h]
  simp only [decide_eq_true_eq]
  by_cases c0 : w = ("" : Str)
  · rw [if_pos c0, if_pos c0]
    rfl
  rw [if_neg c0, if_neg c0]
  by_cases c1 : w = ("<" : Str)
  · rw [if_pos c1, if_pos c1]
    rfl
  rw [if_neg c1, if_neg c1]
  by_cases c2 : w = ("<=" : Str)
  · rw [if_pos c2, if_pos c2]
    rfl
  rw [if_neg c2, if_neg c2]
  by_cases c3 : w = (">" : Str)
  · rw [if_pos c3, if_pos c3]
    rfl
  rw [if_neg c3, if_neg c3]
  by_cases c4 : w = (">=" : Str)
  · rw [if_pos c4, if_pos c4]
    rfl
  rw [if_neg c4, if_neg c4]
  by_cases c5 : w = ("^" : Str)
  · rw [if_pos c5, if_pos c5]
    rfl
  rw [if_neg c5, if_neg c5]
  by_cases c6 : w = ("~" : Str)
  · rw [if_pos c6, if_pos c6]
    rfl
  rw [if_neg c6, if_neg c6]
  rfl
end K02

set_option Elab.async false
set_option linter.all false
set_option maxRecDepth 100000
set_option maxHeartbeats 4000000
namespace K02
open PySem
open L2
open Dl
open Txt
open TL
theorem tl_inj {a b : Str} (h : tl a = tl b) : a = b := PySem.W.str_of_cps h
theorem cut_tl {z : Str} {k : Nat} : tl (cutS z none (some (k : Int))) = (tl z).take k := by
  unfold cutS
  rw [HT.sIx_nat, HT.sIx_none]
  show (((z.cps.toList.drop 0).take (min k z.length - 0)).toArray).toList = z.cps.toList.take k
  rw [List.drop_zero, Nat.sub_zero]
  show z.cps.toList.take (min k z.length) = z.cps.toList.take k
  by_cases c : k ≤ z.length
  · rw [Nat.min_eq_left c]
  · have e : z.length = z.cps.toList.length := (Array.length_toList).symm
    rw [Nat.min_eq_right (by omega), List.take_of_length_le (by omega), List.take_of_length_le (by omega)]
theorem cut_from_tl {z : Str} {k : Nat} : tl (cutS z (some (k : Int)) none) = (tl z).drop k := by
  unfold cutS
  rw [HT.sIx_nat, HT.sIx_none]
  show (((z.cps.toList.drop (min k z.length)).take (z.length - min k z.length)).toArray).toList = z.cps.toList.drop k
  have e : z.length = z.cps.toList.length := (Array.length_toList).symm
  show (z.cps.toList.drop (min k z.length)).take (z.length - min k z.length) = z.cps.toList.drop k
  rw [List.take_of_length_le (by rw [List.length_drop]; omega)]
  by_cases c : k ≤ z.length
  · rw [Nat.min_eq_left c]
  · rw [Nat.min_eq_right (by omega), List.drop_eq_nil_of_le (by omega), List.drop_eq_nil_of_le (by omega)]
def pickW (text : Str) : Str → List Str → Str
  | wd, [] => wd
  | wd, sg :: r => pickW text (if wd = ("" : Str) ∧ cutS text none (some (sg.length : Int)) = sg then sg else wd) r
theorem sl_S {z : Str} {lo hi : Option Int} (h : z.length ≤ sizeLine) : slS (.str z) lo hi = some (.str (cutS z lo hi)) := by
  show (if z.length ≤ sizeLine then some (D.str (cutS z lo hi)) else none) = _
  rw [if_pos h]
theorem pick_loop {text : Str} {s : Hand} (ht : text.length ≤ 1000) : ∀ (signs : List Str) (wd : Str) (e2 : Option Slot), (∀ sg ∈ signs, sg.length ≤ 1000) →
    OW (loopS (gdName 2) b_part_told_0 (signs.map D.str) [some (.dat (.str text)), some (.dat (.str wd)), e2, none, none, none, none, none] s)
      (Qn (fun env => ∃ e2, env = [some (.dat (.str text)), some (.dat (.str (pickW text wd signs))), e2, none, none, none, none, none]) s)
  | [], wd, e2, h => by
    show OW (some _) _
    rw [OW_some]
    exact ⟨⟨e2, rfl⟩, rfl⟩
  | sg :: signs, wd, e2, h => by
    rw [List.map_cons]
    unfold loopS
    have h1 : text.length ≤ sizeLine := by rw [sizeLine_eq]; omega
    have h2 : sg.length ≤ sizeLine := by
      have := h sg (List.mem_cons_self ..)
      rw [sizeLine_eq]; omega
    have ih := fun wd e2 => pick_loop (s := s) ht signs wd e2 fun x hx => h x (List.mem_cons_of_mem _ hx)
    simp only [mDef_eq, outD_nx, outD_rt, startE, sNil, sSeq, thenS_nx, thenS_rt, thenS_bk, thenS_ct, sAsg, sIf, sRet, sRetN, sDrop, sBrk, sCnt, sFor, sOwn, ownAt, sApp, sExt, sPut, sFrz, sPar, mIxO, mLenO, mTupO, mVar, mC, mU, mB, mNil, mCons, mF, mIsT, mAndT, mOrT, mNotT, mAnd, mOr, mNot, mIf, mChain, mPart, mNoPart, mSl, mCall, mIt, mRng, mComp, mYes, gdName, gdTup, gdCons, gdNil, wipeE, tupItems_tup, lstItems_lst, bl_bl, int_int, mHx_eq, mHlen_eq, mHcell_eq, sHput_eq, isH_hnd, hget1, hget2, hget3, hget4, hset1, hset2, hset3, hset4, eq_int, ne_int, lt_int, gt_int, le_int, ge_int, eq_bl, add_int, add_tup, add_lst, sub_int, neg_int, isN_hi, notN_hi, mul_int, div_int, mod_int, pow_int, abs_int, intC_int, len_tup, len_lst, tup_D, lst_D, rt_D, Bool.not_not, Bool.not_true, Bool.not_false, true_and, and_true, false_and, and_false, or_true, true_or, or_false, false_or, List.length_cons, List.length_nil, List.length_append, List.length_map, List.map_cons, List.map_nil, List.replicate_succ, List.replicate_zero, List.cons_append, List.nil_append, List.append_nil, List.set_cons_zero, List.set_cons_succ, List.getElem?_cons_zero, List.getElem?_cons_succ, Option.bind_some, Option.map_some, Option.bind_none, Option.map_none, OW_some, OW_bind, OW_map, OW_if, Bool.false_eq_true, if_true, if_false, ↓reduceIte, Nat.reduceAdd, Nat.reduceSub, Nat.zero_add, Nat.sub_self, Function.comp, b_part_told_0_eq, eq_str', OW_eq (len_str h2), OW_eq (sl_S h1)]
    unfold pickW
    by_cases c : wd = ("" : Str)
    · by_cases c2 : cutS text none (some (sg.length : Int)) = sg
      · rw [if_pos (by rw [decide_eq_true c]), if_pos (by rw [decide_eq_true c2]), if_pos ⟨c, c2⟩]
        exact ih sg _
      · rw [if_pos (by rw [decide_eq_true c]), if_neg (by rw [decide_eq_false c2]; exact Bool.false_ne_true), if_neg (fun z => c2 z.2)]
        exact ih wd _
    · rw [if_neg (by rw [decide_eq_false c]; exact Bool.false_ne_true), if_neg (fun z => c z.1)]
      exact ih wd _
def signs7 : List Str := ["<=", ">=", "<", ">", "!", "^", "~"]
def words8 : List Str := ["", "<=", ">=", "<", ">", "!", "^", "~"]
theorem app_tl (a b : Str) : tl (a ++ b) = tl a ++ tl b := tl_append a b
theorem pick_is {w b : Str} {d : Nat} {t : List Nat} (hb : tl b = d :: t) (hd : 48 ≤ d ∧ d ≤ 57) (hw : w ∈ words8) : pickW (w ++ b) "" signs7 = w := by
  have t0 : tl ("" : Str) = [] := by decide +kernel
  have t1 : tl ("<=" : Str) = [60, 61] := by decide +kernel
  have t2 : tl (">=" : Str) = [62, 61] := by decide +kernel
  have t3 : tl ("<" : Str) = [60] := by decide +kernel
  have t4 : tl (">" : Str) = [62] := by decide +kernel
  have t5 : tl ("!" : Str) = [33] := by decide +kernel
  have t6 : tl ("^" : Str) = [94] := by decide +kernel
  have t7 : tl ("~" : Str) = [126] := by decide +kernel
  have hc : ∀ (z sg : Str), (cutS z none (some (sg.length : Int)) = sg) = ((tl z).take (tl sg).length = tl sg) := fun z sg => propext ⟨fun h => by
    rw [← cut_tl, tl_len, h], fun h => tl_inj (by rw [cut_tl, ← tl_len]; exact h)⟩
  have he : ∀ a : Str, (a = ("" : Str)) = (tl a = []) := fun a => propext ⟨fun h => by rw [h, t0], fun h => tl_inj (by rw [h, t0])⟩
  have n1 : (d = 60) = False := eq_false (by omega)
  have n2 : (d = 62) = False := eq_false (by omega)
  have n3 : (d = 33) = False := eq_false (by omega)
  have n4 : (d = 94) = False := eq_false (by omega)
  have n5 : (d = 126) = False := eq_false (by omega)
  have n6 : (d = 61) = False := eq_false (by omega)
  unfold words8 at hw
  simp only [List.mem_cons, List.not_mem_nil, or_false] at hw
  unfold signs7
  rcases hw with e | e | e | e | e | e | e | e <;> subst e <;>
    simp [pickW, hc, he, app_tl, hb, t0, t1, t2, t3, t4, t5, t6, t7, n1, n2, n3, n4, n5, n6]
end K02

set_option Elab.async false
set_option linter.all false
set_option maxRecDepth 100000
set_option maxHeartbeats 4000000
namespace K02
open PySem
open L2
open Dl
open Txt
open TL
theorem verT_head (x : Int) : ∃ d t, tl (verT x) = d :: t ∧ 48 ≤ d ∧ d ≤ 57 := by
  unfold verT
  rw [join_eq, tl_join, dot_tl]
  have h : ∃ d l, tl (num (x / 100000000000000).toNat) = d :: l := by
    cases e : tl (num (x / 100000000000000).toNat) with
    | nil => rw [num_tl] at e; exact absurd e (numL_ne _)
    | cons d l => exact ⟨d, l, rfl⟩
  obtain ⟨d, l, e⟩ := h
  have hd := num_digits (n := (x / 100000000000000).toNat) (c := d) (by rw [e]; exact List.mem_cons_self ..)
  refine ⟨d, l ++ ([46] ++ joinL [46] (([(x / 10000000 % 10000000).toNat, (x % 10000000).toNat].map num).map tl)), ?_, hd⟩
  show tl (num (x / 100000000000000).toNat) ++ ([46] ++ joinL [46] (([(x / 10000000 % 10000000).toNat, (x % 10000000).toNat].map num).map tl)) = _
  rw [e]
  rfl
def partR (w : Str) (x : Int) : Rng := (rawS w x).filter fun p => below p.1 p.2
theorem raw_ok {w : Str} {x : Int} (h : Small x) : ∀ p ∈ rawS w x, OkV p.1 ∧ OkH p.2 := by
  have hx := h.ok
  have hn := h.next
  have ht := h.top.1
  have hl := h.til.1
  have one : ∀ {y : Int}, OkV y → OkH (some y) := fun hy z e => by cases e; exact hy
  have non : OkH none := fun _ e => by cases e
  intro p hp
  unfold rawS at hp
  repeat' split at hp
  all_goals first
    | (rcases List.mem_cons.mp hp with e | e
       · subst e
         first
           | exact ⟨hx, one hn⟩
           | exact ⟨okV0, one hx⟩
           | exact ⟨okV0, one hn⟩
           | exact ⟨hn, non⟩
           | exact ⟨hx, non⟩
           | exact ⟨hx, one ht⟩
           | exact ⟨hx, one hl⟩
       · first
           | (cases e; done)
           | (rw [List.mem_singleton.mp e]; exact ⟨hn, non⟩))
theorem part_oks {w : Str} {x : Int} (h : ∀ p ∈ rawS w x, OkV p.1 ∧ OkH p.2) : ∀ p ∈ partR w x, OkS p := fun p hp => by
  unfold partR at hp
  rw [List.mem_filter] at hp
  obtain ⟨h1, h2⟩ := h p hp.1
  refine ⟨h1, fun b e => ⟨h2 b e, ?_⟩⟩
  have := hp.2
  rw [e] at this
  simpa [below] using this
theorem comp_filter {s : Hand} {t2 : Option Slot} {T W V S1 : Option Slot} : ∀ {l : Rng}, (∀ p ∈ l, OkV p.1 ∧ OkH p.2) →
    compL (gdTup 2 (gdCons (gdName 5) (gdCons (gdName 6) gdNil))) (mIsT (mCall f_is_below (mCons (mVar 5) (mCons (mVar 6) mNil)))) c_part_told_0 [T, W, t2, V, S1, none, none, none] (l.map strD) s = some ((l.filter fun p => below p.1 p.2).map strD, s)
  | [], _ => rfl
  | p :: l, h => by
    obtain ⟨lo, hi⟩ := p
    obtain ⟨h1, h2⟩ := h (lo, hi) (List.mem_cons_self ..)
    have ih := comp_filter (s := s) (t2 := t2) (T := T) (W := W) (V := V) (S1 := S1) (l := l) fun q hq => h q (List.mem_cons_of_mem _ hq)
    have hs2 : (0 + 1 + 1 ≤ sizeLine) = True := eq_true (by rw [sizeLine_eq]; omega)
    rw [List.map_cons]
    refine eq_of_OW ?_
    unfold compL
    have es : strD (lo, hi) = .tup [verD lo, hiD hi] := rfl
    simp only [es, mDef_eq, outD_nx, outD_rt, startE, sNil, sSeq, thenS_nx, thenS_rt, thenS_bk, thenS_ct, sAsg, sIf, sRet, sRetN, sDrop, sBrk, sCnt, sFor, sOwn, ownAt, sApp, sExt, sPut, sFrz, sPar, mIxO, mLenO, mTupO, mVar, mC, mU, mB, mNil, mCons, mF, mIsT, mAndT, mOrT, mNotT, mAnd, mOr, mNot, mIf, mChain, mPart, mNoPart, mSl, mCall, mIt, mRng, mComp, mYes, gdName, gdTup, gdCons, gdNil, wipeE, tupItems_tup, lstItems_lst, bl_bl, int_int, mHx_eq, mHlen_eq, mHcell_eq, sHput_eq, isH_hnd, hget1, hget2, hget3, hget4, hset1, hset2, hset3, hset4, eq_int, ne_int, lt_int, gt_int, le_int, ge_int, eq_bl, add_int, add_tup, add_lst, sub_int, neg_int, isN_hi, notN_hi, mul_int, div_int, mod_int, pow_int, abs_int, intC_int, len_tup, len_lst, tup_D, lst_D, rt_D, Bool.not_not, Bool.not_true, Bool.not_false, true_and, and_true, false_and, and_false, or_true, true_or, or_false, false_or, List.length_cons, List.length_nil, List.length_append, List.length_map, List.map_cons, List.map_nil, List.replicate_succ, List.replicate_zero, List.cons_append, List.nil_append, List.append_nil, List.set_cons_zero, List.set_cons_succ, List.getElem?_cons_zero, List.getElem?_cons_succ, Option.bind_some, Option.map_some, Option.bind_none, Option.map_none, OW_some, OW_bind, OW_map, OW_if, Bool.false_eq_true, if_true, if_false, ↓reduceIte, Nat.reduceAdd, Nat.reduceSub, Nat.zero_add, Nat.sub_self, Function.comp, c_part_told_0_eq, pure_below h1 h2, hs2, OW_eq ih]
    cases c : below lo hi with
    | true =>
      rw [if_pos rfl, List.filter_cons_of_pos (by exact c)]
      rfl
    | false =>
      rw [if_neg Bool.false_ne_true, List.filter_cons_of_neg (by rw [show below (lo, hi).1 (lo, hi).2 = false from c]; exact Bool.false_ne_true)]
theorem not_star {w : Str} {x : Int} (hw : w ∈ words8) : decide (w ++ verT x = ("*" : Str)) = false := by
  obtain ⟨d, t, e, h1, h2⟩ := verT_head x
  refine decide_eq_false fun z => ?_
  have z' := congrArg tl z
  rw [app_tl, e, show tl ("*" : Str) = [42] by decide +kernel] at z'
  unfold words8 at hw
  simp only [List.mem_cons, List.not_mem_nil, or_false] at hw
  have t0 : tl ("" : Str) = [] := by decide +kernel
  have t1 : tl ("<=" : Str) = [60, 61] := by decide +kernel
  have t2 : tl (">=" : Str) = [62, 61] := by decide +kernel
  have t3 : tl ("<" : Str) = [60] := by decide +kernel
  have t4 : tl (">" : Str) = [62] := by decide +kernel
  have t5 : tl ("!" : Str) = [33] := by decide +kernel
  have t6 : tl ("^" : Str) = [94] := by decide +kernel
  have t7 : tl ("~" : Str) = [126] := by decide +kernel
  rcases hw with q | q | q | q | q | q | q | q <;> subst q
  · rw [t0, List.nil_append, List.cons.injEq] at z'
    omega
  · rw [t1] at z'; simp at z'
  · rw [t2] at z'; simp at z'
  · rw [t3] at z'; simp at z'
  · rw [t4] at z'; simp at z'
  · rw [t5] at z'; simp at z'
  · rw [t6] at z'; simp at z'
  · rw [t7] at z'; simp at z'
theorem word_len {w : Str} (hw : w ∈ words8) : w.length ≤ 2 := by
  unfold words8 at hw
  simp only [List.mem_cons, List.not_mem_nil, or_false] at hw
  rcases hw with q | q | q | q | q | q | q | q <;> subst q <;> decide +kernel
theorem app_len (a b : Str) : (a ++ b).length = a.length + b.length := by
  rw [← tl_len, app_tl, List.length_append, tl_len, tl_len]
theorem signs_len : ∀ sg ∈ signs7, sg.length ≤ 1000 := by
  intro sg h
  unfold signs7 at h
  simp only [List.mem_cons, List.not_mem_nil, or_false] at h
  rcases h with q | q | q | q | q | q | q <;> subst q <;> decide +kernel
theorem rest_is {w b : Str} : cutS (w ++ b) (some (w.length : Int)) none = b := tl_inj (by
  rw [cut_from_tl, app_tl, ← tl_len, List.drop_left])
theorem pure_part_told {w : Str} {x : Int} {s : Hand} (hw : w ∈ words8) (hx : OkV x) (hr : ∀ p ∈ rawS w x, OkV p.1 ∧ OkH p.2) : f_part_told [.str (w ++ verT x)] s = some (rngD (partR w x), s) := by
  obtain ⟨d, t, e, h1, h2⟩ := verT_head x
  have hp := pick_is (w := w) e ⟨h1, h2⟩ hw
  have hvl := verT_len hx
  have hwl := word_len hw
  have hal := app_len w (verT x)
  have hz : (w ++ verT x).length ≤ sizeLine := by rw [sizeLine_eq]; omega
  have hzw : w.length ≤ sizeLine := by rw [sizeLine_eq]; omega
  have hs7 : (0 + 1 + 1 + 1 + 1 + 1 + 1 + 1 ≤ sizeLine) = True := eq_true (by rw [sizeLine_eq]; omega)
  have hl := pick_loop (s := s) (text := w ++ verT x) (by omega) signs7 "" none signs_len
  rw [hp] at hl
  refine eq_of_OW ?_
  unfold f_part_told
  simp only [mDef_eq, outD_nx, outD_rt, startE, sNil, sSeq, thenS_nx, thenS_rt, thenS_bk, thenS_ct, sAsg, sIf, sRet, sRetN, sDrop, sBrk, sCnt, sFor, sOwn, ownAt, sApp, sExt, sPut, sFrz, sPar, mIxO, mLenO, mTupO, mVar, mC, mU, mB, mNil, mCons, mF, mIsT, mAndT, mOrT, mNotT, mAnd, mOr, mNot, mIf, mChain, mPart, mNoPart, mSl, mCall, mIt, mRng, mComp, mYes, gdName, gdTup, gdCons, gdNil, wipeE, tupItems_tup, lstItems_lst, bl_bl, int_int, mHx_eq, mHlen_eq, mHcell_eq, sHput_eq, isH_hnd, hget1, hget2, hget3, hget4, hset1, hset2, hset3, hset4, eq_int, ne_int, lt_int, gt_int, le_int, ge_int, eq_bl, add_int, add_tup, add_lst, sub_int, neg_int, isN_hi, notN_hi, mul_int, div_int, mod_int, pow_int, abs_int, intC_int, len_tup, len_lst, tup_D, lst_D, rt_D, Bool.not_not, Bool.not_true, Bool.not_false, true_and, and_true, false_and, and_false, or_true, true_or, or_false, false_or, List.length_cons, List.length_nil, List.length_append, List.length_map, List.map_cons, List.map_nil, List.replicate_succ, List.replicate_zero, List.cons_append, List.nil_append, List.append_nil, List.set_cons_zero, List.set_cons_succ, List.getElem?_cons_zero, List.getElem?_cons_succ, Option.bind_some, Option.map_some, Option.bind_none, Option.map_none, OW_some, OW_bind, OW_map, OW_if, Bool.false_eq_true, if_true, if_false, ↓reduceIte, Nat.reduceAdd, Nat.reduceSub, Nat.zero_add, Nat.sub_self, Function.comp, eq_str', not_star hw, hs7]
  refine OW.walk hl fun env he => ?_
  obtain ⟨e2, he⟩ := he
  subst he
  have hall : ∀ (l : Rng), (∀ p ∈ l, OkS p) → compL (gdName 7) mYes c_part_told_1 [some (.dat (.str (w ++ verT x))), some (.dat (.str w)), e2, some (.dat (verD x)), some (.dat (.lst (l.map strD))), none, none, none] (l.map strD) s = some ((l.map strD).map fun q => .bl (dS q), s) := fun l _ => by
    refine comp_pure fun q hq => ⟨_, rfl, ?_⟩
    obtain ⟨p, hp, ep⟩ := List.mem_map.mp hq
    subst ep
    rw [c_part_told_1_eq]
    refine eq_of_OW ?_
    simp only [mDef_eq, outD_nx, outD_rt, startE, sNil, sSeq, thenS_nx, thenS_rt, thenS_bk, thenS_ct, sAsg, sIf, sRet, sRetN, sDrop, sBrk, sCnt, sFor, sOwn, ownAt, sApp, sExt, sPut, sFrz, sPar, mIxO, mLenO, mTupO, mVar, mC, mU, mB, mNil, mCons, mF, mIsT, mAndT, mOrT, mNotT, mAnd, mOr, mNot, mIf, mChain, mPart, mNoPart, mSl, mCall, mIt, mRng, mComp, mYes, gdName, gdTup, gdCons, gdNil, wipeE, tupItems_tup, lstItems_lst, bl_bl, int_int, mHx_eq, mHlen_eq, mHcell_eq, sHput_eq, isH_hnd, hget1, hget2, hget3, hget4, hset1, hset2, hset3, hset4, eq_int, ne_int, lt_int, gt_int, le_int, ge_int, eq_bl, add_int, add_tup, add_lst, sub_int, neg_int, isN_hi, notN_hi, mul_int, div_int, mod_int, pow_int, abs_int, intC_int, len_tup, len_lst, tup_D, lst_D, rt_D, Bool.not_not, Bool.not_true, Bool.not_false, true_and, and_true, false_and, and_false, or_true, true_or, or_false, false_or, List.length_cons, List.length_nil, List.length_append, List.length_map, List.map_cons, List.map_nil, List.replicate_succ, List.replicate_zero, List.cons_append, List.nil_append, List.append_nil, List.set_cons_zero, List.set_cons_succ, List.getElem?_cons_zero, List.getElem?_cons_succ, Option.bind_some, Option.map_some, Option.bind_none, Option.map_none, OW_some, OW_bind, OW_map, OW_if, Bool.false_eq_true, if_true, if_false, ↓reduceIte, Nat.reduceAdd, Nat.reduceSub, Nat.zero_add, Nat.sub_self, Function.comp, pure_is_stretch (noH_str p)]
  have hdt : ∀ (l : Rng), (∀ p ∈ l, OkS p) → (l.map strD).all dS = true := fun l h => List.all_eq_true.mpr fun q hq => by
    obtain ⟨p, hp, ep⟩ := List.mem_map.mp hq
    exact dS_true ⟨p, h p hp, ep.symm⟩
  have et : ∀ l : List D, tupleCD [.lst l] = some (.tup l) := fun _ => rfl
  have nn : isND (verD x) .non = some (.bl false) := rfl
  simp only [mDef_eq, outD_nx, outD_rt, startE, sNil, sSeq, thenS_nx, thenS_rt, thenS_bk, thenS_ct, sAsg, sIf, sRet, sRetN, sDrop, sBrk, sCnt, sFor, sOwn, ownAt, sApp, sExt, sPut, sFrz, sPar, mIxO, mLenO, mTupO, mVar, mC, mU, mB, mNil, mCons, mF, mIsT, mAndT, mOrT, mNotT, mAnd, mOr, mNot, mIf, mChain, mPart, mNoPart, mSl, mCall, mIt, mRng, mComp, mYes, gdName, gdTup, gdCons, gdNil, wipeE, tupItems_tup, lstItems_lst, bl_bl, int_int, mHx_eq, mHlen_eq, mHcell_eq, sHput_eq, isH_hnd, hget1, hget2, hget3, hget4, hset1, hset2, hset3, hset4, eq_int, ne_int, lt_int, gt_int, le_int, ge_int, eq_bl, add_int, add_tup, add_lst, sub_int, neg_int, isN_hi, notN_hi, mul_int, div_int, mod_int, pow_int, abs_int, intC_int, len_tup, len_lst, tup_D, lst_D, rt_D, Bool.not_not, Bool.not_true, Bool.not_false, true_and, and_true, false_and, and_false, or_true, true_or, or_false, false_or, List.length_cons, List.length_nil, List.length_append, List.length_map, List.map_cons, List.map_nil, List.replicate_succ, List.replicate_zero, List.cons_append, List.nil_append, List.append_nil, List.set_cons_zero, List.set_cons_succ, List.getElem?_cons_zero, List.getElem?_cons_succ, Option.bind_some, Option.map_some, Option.bind_none, Option.map_none, OW_some, OW_bind, OW_map, OW_if, Bool.false_eq_true, if_true, if_false, ↓reduceIte, Nat.reduceAdd, Nat.reduceSub, Nat.zero_add, Nat.sub_self, Function.comp, OW_eq (len_str hzw), OW_eq (sl_S hz), rest_is, pure_version_told hx, OW_eq nn, pure_stretches hx, OW_eq (comp_filter hr)]
  have po := part_oks (w := w) hr
  have e1 := hall (partR w x) po
  unfold partR at e1 po ⊢
  rw [OW_eq e1]
  simp only [OW_eq all_map, hdt _ po, mDef_eq, outD_nx, outD_rt, startE, sNil, sSeq, thenS_nx, thenS_rt, thenS_bk, thenS_ct, sAsg, sIf, sRet, sRetN, sDrop, sBrk, sCnt, sFor, sOwn, ownAt, sApp, sExt, sPut, sFrz, sPar, mIxO, mLenO, mTupO, mVar, mC, mU, mB, mNil, mCons, mF, mIsT, mAndT, mOrT, mNotT, mAnd, mOr, mNot, mIf, mChain, mPart, mNoPart, mSl, mCall, mIt, mRng, mComp, mYes, gdName, gdTup, gdCons, gdNil, wipeE, tupItems_tup, lstItems_lst, bl_bl, int_int, mHx_eq, mHlen_eq, mHcell_eq, sHput_eq, isH_hnd, hget1, hget2, hget3, hget4, hset1, hset2, hset3, hset4, eq_int, ne_int, lt_int, gt_int, le_int, ge_int, eq_bl, add_int, add_tup, add_lst, sub_int, neg_int, isN_hi, notN_hi, mul_int, div_int, mod_int, pow_int, abs_int, intC_int, len_tup, len_lst, tup_D, lst_D, rt_D, Bool.not_not, Bool.not_true, Bool.not_false, true_and, and_true, false_and, and_false, or_true, true_or, or_false, false_or, List.length_cons, List.length_nil, List.length_append, List.length_map, List.map_cons, List.map_nil, List.replicate_succ, List.replicate_zero, List.cons_append, List.nil_append, List.append_nil, List.set_cons_zero, List.set_cons_succ, List.getElem?_cons_zero, List.getElem?_cons_succ, Option.bind_some, Option.map_some, Option.bind_none, Option.map_none, OW_some, OW_bind, OW_map, OW_if, Bool.false_eq_true, if_true, if_false, ↓reduceIte, Nat.reduceAdd, Nat.reduceSub, Nat.zero_add, Nat.sub_self, Function.comp, OW_eq (et _)]
  rfl
end K02

set_option Elab.async false
set_option linter.all false
set_option maxRecDepth 100000
set_option maxHeartbeats 4000000
namespace K02
open PySem
open L2
open Dl
open Txt
open TL
def In3 (w a b c : Str) : Bool := (decide (a = w)) || (decide (b = w) || (decide (c = w) || false))
theorem in3 {w a b c : Str} : inD (.str w) (.tup [.str a, .str b, .str c]) = some (.bl (In3 w a b c)) := by
  show (inP false (.str w) (.tuple [.str a, .str b, .str c])).map D.bl = _
  show (if min (PyData.depthAll [.str a, .str b, .str c]) (PyData.str w).depth ≤ 62 then some (false != [PyData.str a, .str b, .str c].any fun y => PyData.eqv y (.str w)) else none).map D.bl = _
  rw [if_pos (Nat.le_trans (Nat.min_le_right _ _) (by show 0 ≤ 62; decide))]
  show some (D.bl (false != ((a == w) || ((b == w) || ((c == w) || false))))) = _
  rw [Bool.false_bne]
  rfl
theorem in2 {w a b : Str} : inD (.str w) (.tup [.str a, .str b]) = some (.bl (decide (a = w) || (decide (b = w) || false))) := by
  show (inP false (.str w) (.tuple [.str a, .str b])).map D.bl = _
  show (if min (PyData.depthAll [.str a, .str b]) (PyData.str w).depth ≤ 62 then some (false != [PyData.str a, .str b].any fun y => PyData.eqv y (.str w)) else none).map D.bl = _
  rw [if_pos (Nat.le_trans (Nat.min_le_right _ _) (by show 0 ≤ 62; decide))]
  show some (D.bl (false != ((a == w) || ((b == w) || false)))) = _
  rw [Bool.false_bne]
  rfl
theorem eq_ver {x y : Int} (hx : OkV x) (hy : OkV y) : relD eqP (verD x) (verD y) = some (.bl (decide (x = y))) := by
  show some (D.bl (((x / 100000000000000) == (y / 100000000000000)) && (((x / 10000000 % 10000000) == (y / 10000000 % 10000000)) && (((x % 10000000) == (y % 10000000)) && true)))) = _
  congr 2
  rw [Bool.eq_iff_iff]
  simp only [Bool.and_eq_true, beq_iff_eq, decide_eq_true_eq, and_true]
  unfold OkV at hx hy
  omega
theorem max3 {a b c : Int} : maxTD [.tup [.int a, .int b, .int c]] = some (.int (max (max a b) c)) := rfl
/-- the law's outside of one stretch -/
theorem law_out_one {x : Int} {s : Hand} (h : Small x) : f__law_outside [rngD [(x, some (x + 1))]] s = some (rngD (outR (some 0) [(x, some (x + 1))]), s) := by
  have hr : OkR [(x, some (x + 1))] := ⟨fun p hp => by
    rw [List.mem_singleton.mp hp]
    exact ⟨h.ok, fun b e => by cases e; exact ⟨h.next, by show x < x + 1; omega⟩⟩, rfl⟩
  obtain ⟨l, m1, m2, m3, m4⟩ := pure_marks (rs := [[(x, some (x + 1))]]) (s := s) (fun y hy => by
    have hy' : y ∈ [x, x + 1] := hy
    rcases List.mem_cons.mp hy' with e | e
    · rw [e]; exact h.ok
    · rw [List.mem_singleton.mp e]; exact h.next) (by show 2 < 63; omega)
  have hb : ([[(x, some (x + 1))]] : List Rng).flatMap bounds = [x, x + 1] := rfl
  rw [hb] at m3 m4
  have hv : ∀ y ∈ 0 :: l, OkV y := fun y hy => by
    rcases List.mem_cons.mp ((m3 y).mp hy) with e | e
    · rw [e]; exact okV0
    · rcases List.mem_cons.mp e with e | e
      · rw [e]; exact h.ok
      · rw [List.mem_singleton.mp e]; exact h.next
  obtain ⟨y1, y2⟩ := made_is (P := fun v => !has [(x, some (x + 1))] v) (y := outR (some 0) [(x, some (x + 1))]) m2 hv (fun a b a0 hab hx => by
    show (!has [(x, some (x + 1))] a) = !has [(x, some (x + 1))] b
    rw [has_const hab (apart (r := [(x, some (x + 1))]) (fun y hy => (m3 y).mpr (List.mem_cons_of_mem _ hy)) a0 hx)]) (out_ok hr okV0) fun v v0 => out_rule hr v0
  have hm := pure_made (s := s) (l := (0 :: l).map fun y => (y, !has [(x, some (x + 1))] y)) (by
    rw [List.length_map]
    have : (0 :: l).length ≤ 1 + 2 := m4
    omega)
  rw [marks_fst, y1] at hm
  refine lo_key m1 (comp_flags (P := fun y => !has [(x, some (x + 1))] y) fun y hy => ⟨_, rfl, ?_⟩) hm
  rw [c__law_outside_0_eq]
  refine eq_of_OW ?_
  simp only [mDef_eq, outD_nx, outD_rt, startE, sNil, sSeq, thenS_nx, thenS_rt, thenS_bk, thenS_ct, sAsg, sIf, sRet, sRetN, sDrop, sBrk, sCnt, sFor, sOwn, ownAt, sApp, sExt, sPut, sFrz, sPar, mIxO, mLenO, mTupO, mVar, mC, mU, mB, mNil, mCons, mF, mIsT, mAndT, mOrT, mNotT, mAnd, mOr, mNot, mIf, mChain, mPart, mNoPart, mSl, mCall, mIt, mRng, mComp, mYes, gdName, gdTup, gdCons, gdNil, wipeE, tupItems_tup, lstItems_lst, bl_bl, int_int, mHx_eq, mHlen_eq, mHcell_eq, sHput_eq, isH_hnd, hget1, hget2, hget3, hget4, hset1, hset2, hset3, hset4, eq_int, ne_int, lt_int, gt_int, le_int, ge_int, eq_bl, add_int, add_tup, add_lst, sub_int, neg_int, isN_hi, notN_hi, mul_int, div_int, mod_int, pow_int, abs_int, intC_int, len_tup, len_lst, tup_D, lst_D, rt_D, Bool.not_not, Bool.not_true, Bool.not_false, true_and, and_true, false_and, and_false, or_true, true_or, or_false, false_or, List.length_cons, List.length_nil, List.length_append, List.length_map, List.map_cons, List.map_nil, List.replicate_succ, List.replicate_zero, List.cons_append, List.nil_append, List.append_nil, List.set_cons_zero, List.set_cons_succ, List.getElem?_cons_zero, List.getElem?_cons_succ, Option.bind_some, Option.map_some, Option.bind_none, Option.map_none, OW_some, OW_bind, OW_map, OW_if, Bool.false_eq_true, if_true, if_false, ↓reduceIte, Nat.reduceAdd, Nat.reduceSub, Nat.zero_add, Nat.sub_self, Function.comp, pure_has (hv y hy) (twos hr.1)]
end K02

set_option Elab.async false
set_option linter.all false
set_option maxRecDepth 100000
set_option maxHeartbeats 4000000
namespace K02
open PySem
open L2
open Dl
open Txt
open TL
theorem str_ext (a b : Str) : (a = b) = (tl a = tl b) := propext ⟨fun h => by rw [h], tl_inj⟩
theorem disp3 {l : ML Hand} {env : DE} {s : Hand} {d1 d2 d3 : D} (h : l env s = some ([d1, d2, d3], s)) : mDisp ["*", ">=", "<"] l env s = some (.dct [.inr "*", .inr ">=", .inr "<"] [d1, d2, d3], s) := by
  unfold mDisp
  rw [h]
  show (if [d1, d2, d3].length = 3 ∧ (List.map (Sum.inr : Str → Key) ["*", ">=", "<"]).Nodup then _ else none) = _
  rw [if_pos ⟨rfl, by decide +kernel⟩]
  rfl
section
variable {T : MT Hand} {A e : ME Hand} {rest : MS Hand} {env : DE} {s : Hand} {Q : OutS Hand → Prop} {i : Nat} {gd : D → DE → Option DE}
theorem if_ret (h : OW (T env s) fun p => if p.1 = true then OW (A env p.2) (fun q => Q (.rt q.1 q.2)) else OW (rest env p.2) Q) : OW (sSeq (sIf T (sRet A) sNil) rest env s) Q := by
  unfold sSeq sIf sRet sNil
  rw [OW_bind, OW_bind]
  refine OW.mono h fun p hp => ?_
  by_cases c : p.1 = true
  · rw [if_pos c] at hp ⊢
    rw [OW_map]
    refine OW.mono hp fun q hq => ?_
    rw [thenS_rt, OW_some]
    exact hq
  · rw [if_neg c] at hp ⊢
    rw [OW_some, thenS_nx]
    exact hp
theorem seq_asg (h : OW (e env s) fun p => OW (gd p.1 env) fun env' => OW (rest env' p.2) Q) : OW (sSeq (sAsg gd e) rest env s) Q := by
  unfold sSeq sAsg
  rw [OW_bind, OW_bind]
  refine OW.mono h fun p hp => ?_
  rw [OW_map]
  refine OW.mono hp fun env' he => ?_
  rw [thenS_nx]
  exact he
theorem seq_name (h : OW (e env s) fun p => OW (rest (env.set i (some (.dat p.1))) p.2) Q) : OW (sSeq (sAsg (gdName i) e) rest env s) Q := by
  refine seq_asg (OW.mono h fun p hp => ?_)
  unfold gdName
  rw [OW_some]
  exact hp
theorem ret_last (h : OW (e env s) fun p => Q (.rt p.1 p.2)) : OW (sRet e env s) Q := by
  unfold sRet
  rw [OW_map]
  exact h
end

theorem max_ver3 {y : Int} (h : OkV y) : ∃ m, maxTD [verD y] = some (.int m) ∧ m ≤ 1000000 := by
  refine ⟨max (max (y / 100000000000000) (y / 10000000 % 10000000)) (y % 10000000), rfl, ?_⟩
  unfold OkV at h
  omega
theorem part_start {w : Str} {x : Int} {s : Hand} {rest : MS Hand} {Q : D × Hand → Prop} (h : OW (rest [some (.dat (.str w)), some (.dat (verD x)), none, none, some (.dat (.int (x / 100000000000000))), some (.dat (.int (x / 10000000 % 10000000))), some (.dat (.int (x % 10000000))), none, none] s) fun o => OW (outD o) Q) :
    OW (mDef 9 (sSeq (sAsg (gdTup 3 (gdCons (gdName 4) (gdCons (gdName 5) (gdCons (gdName 6) gdNil)))) (mVar 1)) rest) [.str w, verD x] s) Q := by
  rw [mDef_eq, OW_bind]
  have en : startE 9 [D.str w, verD x] = [some (.dat (.str w)), some (.dat (verD x)), none, none, none, none, none, none, none] := rfl
  rw [en]
  refine seq_asg ?_
  have e1 : (mVar 1 : ME Hand) [some (.dat (.str w)), some (.dat (verD x)), none, none, none, none, none, none, none] s = some (verD x, s) := rfl
  rw [OW_eq e1]
  have e2 : gdTup 3 (gdCons (gdName 4) (gdCons (gdName 5) (gdCons (gdName 6) gdNil))) (verD x) [some (.dat (.str w)), some (.dat (verD x)), none, none, none, none, none, none, none] = some [some (.dat (.str w)), some (.dat (verD x)), none, none, some (.dat (.int (x / 100000000000000))), some (.dat (.int (x / 10000000 % 10000000))), some (.dat (.int (x % 10000000))), none, none] := rfl
  rw [OW_eq e2]
  exact h
theorem law_part_none {x : Int} {s : Hand} (h : Small x) : f__law_part [.str "", verD x] s = some (rngD [(x, some (x + 1))], s) := by
  have hs1 : ∀ n : Nat, n ≤ 40 → ((n ≤ sizeLine) = True) := fun n h => eq_true (by rw [sizeLine_eq]; omega)
  have hc : decide ((1000000 : Int) ≤ x % 10000000) = false := decide_eq_false (by unfold Small at h; omega)
  have g1 : In3 "" "*" ">=" "<" = false := by decide +kernel
  have g2 : (decide (("^" : Str) = "") || (decide (("~" : Str) = "") || false)) = false := by decide +kernel
  have e0 : decide (("" : Str) = "^") = false := by decide +kernel
  have e1 : decide (("" : Str) = "") = true := by decide +kernel
  have e2 : decide (("" : Str) = "!") = false := by decide +kernel
  have e3 : decide (("" : Str) = "<=") = false := by decide +kernel
  refine eq_of_OW ?_
  unfold f__law_part
  refine part_start ?_
  simp only [mDef_eq, outD_nx, outD_rt, startE, sNil, sSeq, thenS_nx, thenS_rt, thenS_bk, thenS_ct, sAsg, sIf, sRet, sRetN, sDrop, sBrk, sCnt, sFor, sOwn, ownAt, sApp, sExt, sPut, sFrz, sPar, mIxO, mLenO, mTupO, mVar, mC, mU, mB, mNil, mCons, mF, mIsT, mAndT, mOrT, mNotT, mAnd, mOr, mNot, mIf, mChain, mPart, mNoPart, mSl, mCall, mIt, mRng, mComp, mYes, gdName, gdTup, gdCons, gdNil, wipeE, tupItems_tup, lstItems_lst, bl_bl, int_int, mHx_eq, mHlen_eq, mHcell_eq, sHput_eq, isH_hnd, hget1, hget2, hget3, hget4, hset1, hset2, hset3, hset4, eq_int, ne_int, lt_int, gt_int, le_int, ge_int, eq_bl, add_int, add_tup, add_lst, sub_int, neg_int, isN_hi, notN_hi, mul_int, div_int, mod_int, pow_int, abs_int, intC_int, len_tup, len_lst, tup_D, lst_D, rt_D, Bool.not_not, Bool.not_true, Bool.not_false, true_and, and_true, false_and, and_false, or_true, true_or, or_false, false_or, List.length_cons, List.length_nil, List.length_append, List.length_map, List.map_cons, List.map_nil, List.replicate_succ, List.replicate_zero, List.cons_append, List.nil_append, List.append_nil, List.set_cons_zero, List.set_cons_succ, List.getElem?_cons_zero, List.getElem?_cons_succ, Option.bind_some, Option.map_some, Option.bind_none, Option.map_none, OW_some, OW_bind, OW_map, OW_if, Bool.false_eq_true, if_true, if_false, ↓reduceIte, Nat.reduceAdd, Nat.reduceSub, Nat.zero_add, Nat.sub_self, Function.comp, OW_eq (in3 (w := "")), OW_eq (in2 (w := "")), eq_str', g1, g2, e0, e1, e2, e3, hc, pure_law_behind h.ok, hs1 1 (by omega), hs1 2 (by omega), hs1 3 (by omega), ver0, til_D h.ok]
  rfl
theorem law_part_le {x : Int} {s : Hand} (h : Small x) : f__law_part [.str "<=", verD x] s = some (rngD [(0, some (x + 1))], s) := by
  have hs1 : ∀ n : Nat, n ≤ 40 → ((n ≤ sizeLine) = True) := fun n h => eq_true (by rw [sizeLine_eq]; omega)
  have hc : decide ((1000000 : Int) ≤ x % 10000000) = false := decide_eq_false (by unfold Small at h; omega)
  have g1 : In3 "<=" "*" ">=" "<" = false := by decide +kernel
  have g2 : (decide (("^" : Str) = "<=") || (decide (("~" : Str) = "<=") || false)) = false := by decide +kernel
  have e0 : decide (("<=" : Str) = "^") = false := by decide +kernel
  have e1 : decide (("<=" : Str) = "") = false := by decide +kernel
  have e2 : decide (("<=" : Str) = "!") = false := by decide +kernel
  have e3 : decide (("<=" : Str) = "<=") = true := by decide +kernel
  refine eq_of_OW ?_
  unfold f__law_part
  refine part_start ?_
  simp only [mDef_eq, outD_nx, outD_rt, startE, sNil, sSeq, thenS_nx, thenS_rt, thenS_bk, thenS_ct, sAsg, sIf, sRet, sRetN, sDrop, sBrk, sCnt, sFor, sOwn, ownAt, sApp, sExt, sPut, sFrz, sPar, mIxO, mLenO, mTupO, mVar, mC, mU, mB, mNil, mCons, mF, mIsT, mAndT, mOrT, mNotT, mAnd, mOr, mNot, mIf, mChain, mPart, mNoPart, mSl, mCall, mIt, mRng, mComp, mYes, gdName, gdTup, gdCons, gdNil, wipeE, tupItems_tup, lstItems_lst, bl_bl, int_int, mHx_eq, mHlen_eq, mHcell_eq, sHput_eq, isH_hnd, hget1, hget2, hget3, hget4, hset1, hset2, hset3, hset4, eq_int, ne_int, lt_int, gt_int, le_int, ge_int, eq_bl, add_int, add_tup, add_lst, sub_int, neg_int, isN_hi, notN_hi, mul_int, div_int, mod_int, pow_int, abs_int, intC_int, len_tup, len_lst, tup_D, lst_D, rt_D, Bool.not_not, Bool.not_true, Bool.not_false, true_and, and_true, false_and, and_false, or_true, true_or, or_false, false_or, List.length_cons, List.length_nil, List.length_append, List.length_map, List.map_cons, List.map_nil, List.replicate_succ, List.replicate_zero, List.cons_append, List.nil_append, List.append_nil, List.set_cons_zero, List.set_cons_succ, List.getElem?_cons_zero, List.getElem?_cons_succ, Option.bind_some, Option.map_some, Option.bind_none, Option.map_none, OW_some, OW_bind, OW_map, OW_if, Bool.false_eq_true, if_true, if_false, ↓reduceIte, Nat.reduceAdd, Nat.reduceSub, Nat.zero_add, Nat.sub_self, Function.comp, OW_eq (in3 (w := "<=")), OW_eq (in2 (w := "<=")), eq_str', g1, g2, e0, e1, e2, e3, hc, pure_law_behind h.ok, hs1 1 (by omega), hs1 2 (by omega), hs1 3 (by omega), ver0, til_D h.ok]
  rfl
theorem law_part_gt {x : Int} {s : Hand} (h : Small x) : f__law_part [.str ">", verD x] s = some (rngD [(x + 1, none)], s) := by
  have hs1 : ∀ n : Nat, n ≤ 40 → ((n ≤ sizeLine) = True) := fun n h => eq_true (by rw [sizeLine_eq]; omega)
  have hc : decide ((1000000 : Int) ≤ x % 10000000) = false := decide_eq_false (by unfold Small at h; omega)
  have g1 : In3 ">" "*" ">=" "<" = false := by decide +kernel
  have g2 : (decide (("^" : Str) = ">") || (decide (("~" : Str) = ">") || false)) = false := by decide +kernel
  have e0 : decide ((">" : Str) = "^") = false := by decide +kernel
  have e1 : decide ((">" : Str) = "") = false := by decide +kernel
  have e2 : decide ((">" : Str) = "!") = false := by decide +kernel
  have e3 : decide ((">" : Str) = "<=") = false := by decide +kernel
  refine eq_of_OW ?_
  unfold f__law_part
  refine part_start ?_
  simp only [mDef_eq, outD_nx, outD_rt, startE, sNil, sSeq, thenS_nx, thenS_rt, thenS_bk, thenS_ct, sAsg, sIf, sRet, sRetN, sDrop, sBrk, sCnt, sFor, sOwn, ownAt, sApp, sExt, sPut, sFrz, sPar, mIxO, mLenO, mTupO, mVar, mC, mU, mB, mNil, mCons, mF, mIsT, mAndT, mOrT, mNotT, mAnd, mOr, mNot, mIf, mChain, mPart, mNoPart, mSl, mCall, mIt, mRng, mComp, mYes, gdName, gdTup, gdCons, gdNil, wipeE, tupItems_tup, lstItems_lst, bl_bl, int_int, mHx_eq, mHlen_eq, mHcell_eq, sHput_eq, isH_hnd, hget1, hget2, hget3, hget4, hset1, hset2, hset3, hset4, eq_int, ne_int, lt_int, gt_int, le_int, ge_int, eq_bl, add_int, add_tup, add_lst, sub_int, neg_int, isN_hi, notN_hi, mul_int, div_int, mod_int, pow_int, abs_int, intC_int, len_tup, len_lst, tup_D, lst_D, rt_D, Bool.not_not, Bool.not_true, Bool.not_false, true_and, and_true, false_and, and_false, or_true, true_or, or_false, false_or, List.length_cons, List.length_nil, List.length_append, List.length_map, List.map_cons, List.map_nil, List.replicate_succ, List.replicate_zero, List.cons_append, List.nil_append, List.append_nil, List.set_cons_zero, List.set_cons_succ, List.getElem?_cons_zero, List.getElem?_cons_succ, Option.bind_some, Option.map_some, Option.bind_none, Option.map_none, OW_some, OW_bind, OW_map, OW_if, Bool.false_eq_true, if_true, if_false, ↓reduceIte, Nat.reduceAdd, Nat.reduceSub, Nat.zero_add, Nat.sub_self, Function.comp, OW_eq (in3 (w := ">")), OW_eq (in2 (w := ">")), eq_str', g1, g2, e0, e1, e2, e3, hc, pure_law_behind h.ok, hs1 1 (by omega), hs1 2 (by omega), hs1 3 (by omega), ver0, til_D h.ok]
  rfl
theorem law_part_caret {x : Int} {s : Hand} (h : Small x) : f__law_part [.str "^", verD x] s = some (rngD [(x, some (topK x))], s) := by
  have hs1 : ∀ n : Nat, n ≤ 40 → ((n ≤ sizeLine) = True) := fun n h => eq_true (by rw [sizeLine_eq]; omega)
  have hc : decide ((1000000 : Int) ≤ x % 10000000) = false := decide_eq_false (by unfold Small at h; omega)
  have g1 : In3 "^" "*" ">=" "<" = false := by decide +kernel
  have g2 : (decide (("^" : Str) = "^") || (decide (("~" : Str) = "^") || false)) = true := by decide +kernel
  have e0 : decide (("^" : Str) = "^") = true := by decide +kernel
  have e1 : decide (("^" : Str) = "") = false := by decide +kernel
  have e2 : decide (("^" : Str) = "!") = false := by decide +kernel
  have e3 : decide (("^" : Str) = "<=") = false := by decide +kernel
  refine eq_of_OW ?_
  unfold f__law_part
  refine part_start ?_
  simp only [mDef_eq, outD_nx, outD_rt, startE, sNil, sSeq, thenS_nx, thenS_rt, thenS_bk, thenS_ct, sAsg, sIf, sRet, sRetN, sDrop, sBrk, sCnt, sFor, sOwn, ownAt, sApp, sExt, sPut, sFrz, sPar, mIxO, mLenO, mTupO, mVar, mC, mU, mB, mNil, mCons, mF, mIsT, mAndT, mOrT, mNotT, mAnd, mOr, mNot, mIf, mChain, mPart, mNoPart, mSl, mCall, mIt, mRng, mComp, mYes, gdName, gdTup, gdCons, gdNil, wipeE, tupItems_tup, lstItems_lst, bl_bl, int_int, mHx_eq, mHlen_eq, mHcell_eq, sHput_eq, isH_hnd, hget1, hget2, hget3, hget4, hset1, hset2, hset3, hset4, eq_int, ne_int, lt_int, gt_int, le_int, ge_int, eq_bl, add_int, add_tup, add_lst, sub_int, neg_int, isN_hi, notN_hi, mul_int, div_int, mod_int, pow_int, abs_int, intC_int, len_tup, len_lst, tup_D, lst_D, rt_D, Bool.not_not, Bool.not_true, Bool.not_false, true_and, and_true, false_and, and_false, or_true, true_or, or_false, false_or, List.length_cons, List.length_nil, List.length_append, List.length_map, List.map_cons, List.map_nil, List.replicate_succ, List.replicate_zero, List.cons_append, List.nil_append, List.append_nil, List.set_cons_zero, List.set_cons_succ, List.getElem?_cons_zero, List.getElem?_cons_succ, Option.bind_some, Option.map_some, Option.bind_none, Option.map_none, OW_some, OW_bind, OW_map, OW_if, Bool.false_eq_true, if_true, if_false, ↓reduceIte, Nat.reduceAdd, Nat.reduceSub, Nat.zero_add, Nat.sub_self, Function.comp, OW_eq (in3 (w := "^")), OW_eq (in2 (w := "^")), eq_str', g1, g2, e0, e1, e2, e3, hc, pure_law_behind h.ok, hs1 1 (by omega), hs1 2 (by omega), hs1 3 (by omega), ver0, til_D h.ok]
  simp only [decide_true, Bool.true_or, Bool.or_true, if_true]
  obtain ⟨m, em, hm⟩ := max_ver3 h.top.1
  have hm' : decide ((1000000 : Int) < m) = false := decide_eq_false (by omega)
  have fin : ∀ d : D, d = verD (topK x) → OW (maxTD [d]) fun a => OW (relD gtP a (.int 1000000)) fun a => OW (blD a) fun a => if a = true then (D.non, s) = (rngD [(x, some (topK x))], s) else (D.tup [D.tup [verD x, d]], s) = (rngD [(x, some (topK x))], s) := fun d e => by
    subst e
    rw [OW_eq em, OW_eq (gt_int (a := m) (b := 1000000)), hm', OW_eq bl_bl, if_neg Bool.false_ne_true]
    rfl
  by_cases c : 0 < x / 100000000000000
  · rw [if_pos (decide_eq_true c)]
    refine fin _ ?_
    rw [top1_D h.ok]
    unfold topK
    rw [if_pos c]
  · rw [if_neg (by rw [decide_eq_false c]; exact Bool.false_ne_true)]
    by_cases c2 : 0 < x / 10000000 % 10000000
    · rw [if_pos (decide_eq_true c2)]
      refine fin _ ?_
      rw [top2_D (by omega) (by unfold Small at h; omega)]
      unfold topK
      rw [if_neg c, if_pos c2]
    · rw [if_neg (by rw [decide_eq_false c2]; exact Bool.false_ne_true)]
      refine fin _ ?_
      have z := behind_D h.ok
      unfold Small at h
      rw [show x / 100000000000000 = 0 by omega, show x / 10000000 % 10000000 = 0 by omega] at z
      unfold topK
      rw [if_neg c, if_neg c2]
      exact z
theorem law_part_tilde {x : Int} {s : Hand} (h : Small x) : f__law_part [.str "~", verD x] s = some (rngD [(x, some (tilK x))], s) := by
  have hs1 : ∀ n : Nat, n ≤ 40 → ((n ≤ sizeLine) = True) := fun n h => eq_true (by rw [sizeLine_eq]; omega)
  have hc : decide ((1000000 : Int) ≤ x % 10000000) = false := decide_eq_false (by unfold Small at h; omega)
  have g1 : In3 "~" "*" ">=" "<" = false := by decide +kernel
  have g2 : (decide (("^" : Str) = "~") || (decide (("~" : Str) = "~") || false)) = true := by decide +kernel
  have e0 : decide (("~" : Str) = "^") = false := by decide +kernel
  have e1 : decide (("~" : Str) = "") = false := by decide +kernel
  have e2 : decide (("~" : Str) = "!") = false := by decide +kernel
  have e3 : decide (("~" : Str) = "<=") = false := by decide +kernel
  refine eq_of_OW ?_
  unfold f__law_part
  refine part_start ?_
  simp only [mDef_eq, outD_nx, outD_rt, startE, sNil, sSeq, thenS_nx, thenS_rt, thenS_bk, thenS_ct, sAsg, sIf, sRet, sRetN, sDrop, sBrk, sCnt, sFor, sOwn, ownAt, sApp, sExt, sPut, sFrz, sPar, mIxO, mLenO, mTupO, mVar, mC, mU, mB, mNil, mCons, mF, mIsT, mAndT, mOrT, mNotT, mAnd, mOr, mNot, mIf, mChain, mPart, mNoPart, mSl, mCall, mIt, mRng, mComp, mYes, gdName, gdTup, gdCons, gdNil, wipeE, tupItems_tup, lstItems_lst, bl_bl, int_int, mHx_eq, mHlen_eq, mHcell_eq, sHput_eq, isH_hnd, hget1, hget2, hget3, hget4, hset1, hset2, hset3, hset4, eq_int, ne_int, lt_int, gt_int, le_int, ge_int, eq_bl, add_int, add_tup, add_lst, sub_int, neg_int, isN_hi, notN_hi, mul_int, div_int, mod_int, pow_int, abs_int, intC_int, len_tup, len_lst, tup_D, lst_D, rt_D, Bool.not_not, Bool.not_true, Bool.not_false, true_and, and_true, false_and, and_false, or_true, true_or, or_false, false_or, List.length_cons, List.length_nil, List.length_append, List.length_map, List.map_cons, List.map_nil, List.replicate_succ, List.replicate_zero, List.cons_append, List.nil_append, List.append_nil, List.set_cons_zero, List.set_cons_succ, List.getElem?_cons_zero, List.getElem?_cons_succ, Option.bind_some, Option.map_some, Option.bind_none, Option.map_none, OW_some, OW_bind, OW_map, OW_if, Bool.false_eq_true, if_true, if_false, ↓reduceIte, Nat.reduceAdd, Nat.reduceSub, Nat.zero_add, Nat.sub_self, Function.comp, OW_eq (in3 (w := "~")), OW_eq (in2 (w := "~")), eq_str', g1, g2, e0, e1, e2, e3, hc, pure_law_behind h.ok, hs1 1 (by omega), hs1 2 (by omega), hs1 3 (by omega), ver0, til_D h.ok]
  simp only [decide_true, Bool.true_or, Bool.or_true, if_true]
  obtain ⟨m, em, hm⟩ := max_ver3 h.til.1
  have hm' : decide ((1000000 : Int) < m) = false := decide_eq_false (by omega)
  rw [OW_eq em, OW_eq (gt_int (a := m) (b := 1000000)), hm', OW_eq bl_bl, if_neg Bool.false_ne_true]
  rfl
end K02

set_option Elab.async false
set_option linter.all false
set_option maxRecDepth 100000
set_option maxHeartbeats 4000000
namespace K02
open PySem
open L2
open Dl
open Txt
open TL
theorem law_part_not {x : Int} {s : Hand} (h : Small x) : f__law_part [.str "!", verD x] s = some (rngD (outR (some 0) [(x, some (x + 1))]), s) := by
  have hs1 : ∀ n : Nat, n ≤ 40 → ((n ≤ sizeLine) = True) := fun n h => eq_true (by rw [sizeLine_eq]; omega)
  have hc : decide ((1000000 : Int) ≤ x % 10000000) = false := decide_eq_false (by unfold Small at h; omega)
  have g1 : In3 "!" "*" ">=" "<" = false := by decide +kernel
  have g2 : (decide (("^" : Str) = "!") || (decide (("~" : Str) = "!") || false)) = false := by decide +kernel
  have e1 : decide (("!" : Str) = "") = false := by decide +kernel
  have e2 : decide (("!" : Str) = "!") = true := by decide +kernel
  have hlo : f__law_outside [D.tup [D.tup [verD x, verD (x + 1)]]] s = some (rngD (outR (some 0) [(x, some (x + 1))]), s) := law_out_one h
  refine eq_of_OW ?_
  unfold f__law_part
  refine part_start ?_
  simp only [mDef_eq, outD_nx, outD_rt, startE, sNil, sSeq, thenS_nx, thenS_rt, thenS_bk, thenS_ct, sAsg, sIf, sRet, sRetN, sDrop, sBrk, sCnt, sFor, sOwn, ownAt, sApp, sExt, sPut, sFrz, sPar, mIxO, mLenO, mTupO, mVar, mC, mU, mB, mNil, mCons, mF, mIsT, mAndT, mOrT, mNotT, mAnd, mOr, mNot, mIf, mChain, mPart, mNoPart, mSl, mCall, mIt, mRng, mComp, mYes, gdName, gdTup, gdCons, gdNil, wipeE, tupItems_tup, lstItems_lst, bl_bl, int_int, mHx_eq, mHlen_eq, mHcell_eq, sHput_eq, isH_hnd, hget1, hget2, hget3, hget4, hset1, hset2, hset3, hset4, eq_int, ne_int, lt_int, gt_int, le_int, ge_int, eq_bl, add_int, add_tup, add_lst, sub_int, neg_int, isN_hi, notN_hi, mul_int, div_int, mod_int, pow_int, abs_int, intC_int, len_tup, len_lst, tup_D, lst_D, rt_D, Bool.not_not, Bool.not_true, Bool.not_false, true_and, and_true, false_and, and_false, or_true, true_or, or_false, false_or, List.length_cons, List.length_nil, List.length_append, List.length_map, List.map_cons, List.map_nil, List.replicate_succ, List.replicate_zero, List.cons_append, List.nil_append, List.append_nil, List.set_cons_zero, List.set_cons_succ, List.getElem?_cons_zero, List.getElem?_cons_succ, Option.bind_some, Option.map_some, Option.bind_none, Option.map_none, OW_some, OW_bind, OW_map, OW_if, Bool.false_eq_true, if_true, if_false, ↓reduceIte, Nat.reduceAdd, Nat.reduceSub, Nat.zero_add, Nat.sub_self, Function.comp, OW_eq (in3 (w := "!")), OW_eq (in2 (w := "!")), eq_str', g1, g2, e1, e2, hc, pure_law_behind h.ok, hs1 1 (by omega), hs1 2 (by omega), hs1 3 (by omega), ver0, hlo, decide_true]
theorem look_cons (k : Key) (ks : List Key) (d : D) (ds : List D) (x : Key) : lookD (k :: ks) (d :: ds) x = if k = x then some d else lookD ks ds x := rfl
theorem look1 {a b c : D} : dgetD (.dct [.inr "*", .inr ">=", .inr "<"] [a, b, c]) (.str "*") = some a := by
  show lookD [.inr "*", .inr ">=", .inr "<"] [a, b, c] (.inr "*") = _
  rw [look_cons, if_pos rfl]
theorem look2 {a b c : D} : dgetD (.dct [.inr "*", .inr ">=", .inr "<"] [a, b, c]) (.str ">=") = some b := by
  show lookD [.inr "*", .inr ">=", .inr "<"] [a, b, c] (.inr ">=") = _
  rw [look_cons, if_neg (by decide +kernel), look_cons, if_pos rfl]
theorem look3 {a b c : D} : dgetD (.dct [.inr "*", .inr ">=", .inr "<"] [a, b, c]) (.str "<") = some c := by
  show lookD [.inr "*", .inr ">=", .inr "<"] [a, b, c] (.inr "<") = _
  rw [look_cons, if_neg (by decide +kernel), look_cons, if_neg (by decide +kernel), look_cons, if_pos rfl]
def firstR (x : Int) : Rng := if x = 0 then [] else [(0, some x)]
theorem law_part_three {w : Str} {x : Int} {s : Hand} {r : Rng} (h : Small x) (g1 : In3 w "*" ">=" "<" = true) (hl : dgetD (.dct [.inr "*", .inr ">=", .inr "<"] [rngD [(0, none)], rngD [(x, none)], rngD (firstR x)]) (.str w) = some (rngD r)) : f__law_part [.str w, verD x] s = some (rngD r, s) := by
  have hs1 : ∀ n : Nat, n ≤ 40 → ((n ≤ sizeLine) = True) := fun n h => eq_true (by rw [sizeLine_eq]; omega)
  have hs0 : (0 ≤ sizeLine) = True := hs1 0 (by omega)
  refine eq_of_OW ?_
  unfold f__law_part
  refine part_start ?_
  have hd : ∀ (d3 : D) (e3 e8 : Option Slot), mDisp ["*", ">=", "<"] (mCons (mVar 2) (mCons (mF tupD (mCons (mF tupD (mCons (mVar 1) (mCons (mC .non) mNil))) mNil)) (mCons (mVar 7) mNil)))
      [some (.dat (.str w)), some (.dat (verD x)), some (.dat (.tup [.tup [verD 0, .non]])), e3, some (.dat (.int (x / 100000000000000))), some (.dat (.int (x / 10000000 % 10000000))), some (.dat (.int (x % 10000000))), some (.dat d3), e8] s =
      some (.dct [.inr "*", .inr ">=", .inr "<"] [.tup [.tup [verD 0, .non]], .tup [.tup [verD x, .non]], d3], s) := fun d3 e3 e8 => by
    refine disp3 (eq_of_OW ?_)
    simp only [mDef_eq, outD_nx, outD_rt, startE, sNil, sSeq, thenS_nx, thenS_rt, thenS_bk, thenS_ct, sAsg, sIf, sRet, sRetN, sDrop, sBrk, sCnt, sFor, sOwn, ownAt, sApp, sExt, sPut, sFrz, sPar, mIxO, mLenO, mTupO, mVar, mC, mU, mB, mNil, mCons, mF, mIsT, mAndT, mOrT, mNotT, mAnd, mOr, mNot, mIf, mChain, mPart, mNoPart, mSl, mCall, mIt, mRng, mComp, mYes, gdName, gdTup, gdCons, gdNil, wipeE, tupItems_tup, lstItems_lst, bl_bl, int_int, mHx_eq, mHlen_eq, mHcell_eq, sHput_eq, isH_hnd, hget1, hget2, hget3, hget4, hset1, hset2, hset3, hset4, eq_int, ne_int, lt_int, gt_int, le_int, ge_int, eq_bl, add_int, add_tup, add_lst, sub_int, neg_int, isN_hi, notN_hi, mul_int, div_int, mod_int, pow_int, abs_int, intC_int, len_tup, len_lst, tup_D, lst_D, rt_D, Bool.not_not, Bool.not_true, Bool.not_false, true_and, and_true, false_and, and_false, or_true, true_or, or_false, false_or, List.length_cons, List.length_nil, List.length_append, List.length_map, List.map_cons, List.map_nil, List.replicate_succ, List.replicate_zero, List.cons_append, List.nil_append, List.append_nil, List.set_cons_zero, List.set_cons_succ, List.getElem?_cons_zero, List.getElem?_cons_succ, Option.bind_some, Option.map_some, Option.bind_none, Option.map_none, OW_some, OW_bind, OW_map, OW_if, Bool.false_eq_true, if_true, if_false, ↓reduceIte, Nat.reduceAdd, Nat.reduceSub, Nat.zero_add, Nat.sub_self, Function.comp, hs1 1 (by omega), hs1 2 (by omega)]
  have hl' : ∀ d3 : D, d3 = rngD (firstR x) → dgetD (.dct [.inr "*", .inr ">=", .inr "<"] [.tup [.tup [verD 0, .non]], .tup [.tup [verD x, .non]], d3]) (.str w) = some (rngD r) := fun d3 e => by
    rw [e]
    exact hl
  simp only [mDef_eq, outD_nx, outD_rt, startE, sNil, sSeq, thenS_nx, thenS_rt, thenS_bk, thenS_ct, sAsg, sIf, sRet, sRetN, sDrop, sBrk, sCnt, sFor, sOwn, ownAt, sApp, sExt, sPut, sFrz, sPar, mIxO, mLenO, mTupO, mVar, mC, mU, mB, mNil, mCons, mF, mIsT, mAndT, mOrT, mNotT, mAnd, mOr, mNot, mIf, mChain, mPart, mNoPart, mSl, mCall, mIt, mRng, mComp, mYes, gdName, gdTup, gdCons, gdNil, wipeE, tupItems_tup, lstItems_lst, bl_bl, int_int, mHx_eq, mHlen_eq, mHcell_eq, sHput_eq, isH_hnd, hget1, hget2, hget3, hget4, hset1, hset2, hset3, hset4, eq_int, ne_int, lt_int, gt_int, le_int, ge_int, eq_bl, add_int, add_tup, add_lst, sub_int, neg_int, isN_hi, notN_hi, mul_int, div_int, mod_int, pow_int, abs_int, intC_int, len_tup, len_lst, tup_D, lst_D, rt_D, Bool.not_not, Bool.not_true, Bool.not_false, true_and, and_true, false_and, and_false, or_true, true_or, or_false, false_or, List.length_cons, List.length_nil, List.length_append, List.length_map, List.map_cons, List.map_nil, List.replicate_succ, List.replicate_zero, List.cons_append, List.nil_append, List.append_nil, List.set_cons_zero, List.set_cons_succ, List.getElem?_cons_zero, List.getElem?_cons_succ, Option.bind_some, Option.map_some, Option.bind_none, Option.map_none, OW_some, OW_bind, OW_map, OW_if, Bool.false_eq_true, if_true, if_false, ↓reduceIte, Nat.reduceAdd, Nat.reduceSub, Nat.zero_add, Nat.sub_self, Function.comp, OW_eq (in3 (w := w)), g1, OW_eq (eq_ver h.ok okV0), hs0, hs1 1 (by omega), hs1 2 (by omega), hs1 3 (by omega), ver0]
  by_cases c : x = 0
  · rw [if_pos (decide_eq_true c)]
    rw [OW_eq (hd _ _ _), OW_eq (hl' _ (by unfold firstR; rw [if_pos c]; rfl))]
  · rw [if_neg (by rw [decide_eq_false c]; exact Bool.false_ne_true)]
    rw [OW_eq (hd _ _ _), OW_eq (hl' _ (by unfold firstR; rw [if_neg c]; rfl))]
theorem law_part_star {x : Int} {s : Hand} (h : Small x) : f__law_part [.str "*", verD x] s = some (rngD [(0, none)], s) := law_part_three h (by decide +kernel) look1
theorem law_part_ge {x : Int} {s : Hand} (h : Small x) : f__law_part [.str ">=", verD x] s = some (rngD [(x, none)], s) := law_part_three h (by decide +kernel) look2
theorem law_part_lt {x : Int} {s : Hand} (h : Small x) : f__law_part [.str "<", verD x] s = some (rngD (firstR x), s) := law_part_three h (by decide +kernel) look3
/-- program and law tell the same of each form -/
theorem law_part_is {w : Str} {x : Int} {s : Hand} (hw : w ∈ words8) (h : Small x) : f__law_part [.str w, verD x] s = some (rngD (partR w x), s) := by
  have hx0 : 0 ≤ x := h.1
  have ht := h.top.2
  have hl := h.til.2
  have ne : ∀ a b : Str, tl a ≠ tl b → (a = b) = False := fun a b z => eq_false fun e => z (congrArg tl e)
  unfold words8 at hw
  simp only [List.mem_cons, List.not_mem_nil, or_false] at hw
  rcases hw with q | q | q | q | q | q | q | q <;> subst q
  · rw [law_part_none h]
    have e : rawS "" x = [(x, some (x + 1))] := by unfold rawS; rw [if_pos rfl]
    unfold partR
    rw [e, List.filter_cons_of_pos (by simp [below]; omega)]
    rfl
  · rw [law_part_le h]
    have e : rawS "<=" x = [(0, some (x + 1))] := by
      unfold rawS
      rw [if_neg (by decide +kernel), if_neg (by decide +kernel), if_pos rfl]
    unfold partR
    rw [e, List.filter_cons_of_pos (by simp [below]; omega)]
    rfl
  · rw [law_part_ge h]
    have e : rawS ">=" x = [(x, none)] := by
      unfold rawS
      rw [if_neg (by decide +kernel), if_neg (by decide +kernel), if_neg (by decide +kernel), if_neg (by decide +kernel), if_pos rfl]
    unfold partR
    rw [e]
    rfl
  · rw [law_part_lt h]
    have e : rawS "<" x = [(0, some x)] := by
      unfold rawS
      rw [if_neg (by decide +kernel), if_pos rfl]
    unfold partR firstR
    rw [e]
    by_cases c : x = 0
    · rw [if_pos c, List.filter_cons_of_neg (by simp [below]; omega)]
      rfl
    · rw [if_neg c, List.filter_cons_of_pos (by simp [below]; omega)]
      rfl
  · rw [law_part_gt h]
    have e : rawS ">" x = [(x + 1, none)] := by
      unfold rawS
      rw [if_neg (by decide +kernel), if_neg (by decide +kernel), if_neg (by decide +kernel), if_pos rfl]
    unfold partR
    rw [e]
    rfl
  · rw [law_part_not h]
    have e : rawS "!" x = [(0, some x), (x + 1, none)] := by
      unfold rawS
      rw [if_neg (by decide +kernel), if_neg (by decide +kernel), if_neg (by decide +kernel), if_neg (by decide +kernel), if_neg (by decide +kernel), if_neg (by decide +kernel), if_neg (by decide +kernel)]
    have e2 : outR (some 0) [(x, some (x + 1))] = if 0 < x then [(0, some x), (x + 1, none)] else [(x + 1, none)] := rfl
    unfold partR
    rw [e, e2]
    by_cases c : 0 < x
    · rw [if_pos c, List.filter_cons_of_pos (by simp [below]; omega)]
      rfl
    · rw [if_neg c, List.filter_cons_of_neg (by simp [below]; omega)]
      rfl
  · rw [law_part_caret h]
    have e : rawS "^" x = [(x, some (topK x))] := by
      unfold rawS
      rw [if_neg (by decide +kernel), if_neg (by decide +kernel), if_neg (by decide +kernel), if_neg (by decide +kernel), if_neg (by decide +kernel), if_pos rfl]
    unfold partR
    rw [e, List.filter_cons_of_pos (by simp [below]; omega)]
    rfl
  · rw [law_part_tilde h]
    have e : rawS "~" x = [(x, some (tilK x))] := by
      unfold rawS
      rw [if_neg (by decide +kernel), if_neg (by decide +kernel), if_neg (by decide +kernel), if_neg (by decide +kernel), if_neg (by decide +kernel), if_neg (by decide +kernel), if_pos rfl]
    unfold partR
    rw [e, List.filter_cons_of_pos (by simp [below]; omega)]
    rfl
end K02

set_option Elab.async false
set_option linter.all false
set_option maxRecDepth 100000
set_option maxHeartbeats 4000000
namespace K02
open PySem
open L2
open Dl
open Txt
open TL
def isM (d : D) : Prop := ∃ i, d = .int i ∧ 0 ≤ i ∧ i ≤ 999999
theorem ver_ofS {a b c : D} (ha : isM a) (hb : isM b) (hc : isM c) : ∃ x, Small x ∧ D.tup [a, b, c] = verD x := by
  obtain ⟨a, rfl, a0, a1⟩ := ha
  obtain ⟨b, rfl, b0, b1⟩ := hb
  obtain ⟨c, rfl, c0, c1⟩ := hc
  have e1 : (a * 100000000000000 + b * 10000000 + c) / 100000000000000 = a := by omega
  have e2 : (a * 100000000000000 + b * 10000000 + c) / 10000000 % 10000000 = b := by omega
  have e3 : (a * 100000000000000 + b * 10000000 + c) % 10000000 = c := by omega
  refine ⟨a * 100000000000000 + b * 10000000 + c, ⟨by omega, by omega, by omega, by omega⟩, ?_⟩
  rw [verD_eq, e1, e2, e3]
theorem version_small {s : Hand} : OW (f__law_version [.hnd] s) fun p => ∃ x, Small x ∧ p.1 = verD x := by
  unfold f__law_version
  have hs3 : (0 + 1 + 1 + 1 ≤ sizeLine) = True := eq_true (by rw [sizeLine_eq]; omega)
  have hs4 : (0 + 1 + 1 + 1 + 1 ≤ sizeLine) = True := eq_true (by rw [sizeLine_eq]; omega)
  have hs7 : (0 + 1 + 1 + 1 + 1 + 1 + 1 + 1 ≤ sizeLine) = True := eq_true (by rw [sizeLine_eq]; omega)
  have hr3 : rng1D [.int 3] = some (rngOf 0 3) := rng1_nat (n := 3) (by omega)
  simp only [mDef_eq, outD_nx, outD_rt, startE, sNil, sSeq, thenS_nx, thenS_rt, thenS_bk, thenS_ct, sAsg, sIf, sRet, sRetN, sDrop, sBrk, sCnt, sFor, sOwn, ownAt, sApp, sExt, sPut, sFrz, sPar, mIxO, mLenO, mTupO, mVar, mC, mU, mB, mNil, mCons, mF, mIsT, mAndT, mOrT, mNotT, mAnd, mOr, mNot, mIf, mChain, mPart, mNoPart, mSl, mCall, mIt, mRng, mComp, mYes, gdName, gdTup, gdCons, gdNil, wipeE, tupItems_tup, lstItems_lst, bl_bl, int_int, mHx_eq, mHlen_eq, mHcell_eq, sHput_eq, isH_hnd, hget1, hget2, hget3, hget4, hset1, hset2, hset3, hset4, eq_int, ne_int, lt_int, gt_int, le_int, ge_int, eq_bl, add_int, add_tup, add_lst, sub_int, neg_int, isN_hi, notN_hi, mul_int, div_int, mod_int, pow_int, abs_int, intC_int, len_tup, len_lst, tup_D, lst_D, rt_D, Bool.not_not, Bool.not_true, Bool.not_false, true_and, and_true, false_and, and_false, or_true, true_or, or_false, false_or, List.length_cons, List.length_nil, List.length_append, List.length_map, List.map_cons, List.map_nil, List.replicate_succ, List.replicate_zero, List.cons_append, List.nil_append, List.append_nil, List.set_cons_zero, List.set_cons_succ, List.getElem?_cons_zero, List.getElem?_cons_succ, Option.bind_some, Option.map_some, Option.bind_none, Option.map_none, OW_some, OW_bind, OW_map, OW_if, Bool.false_eq_true, if_true, if_false, ↓reduceIte, Nat.reduceAdd, Nat.reduceSub, Nat.zero_add, Nat.sub_self, Function.comp, hs4, hr3]
  refine draw_then (by omega) (by omega) fun n s1 n0 n1 => ?_
  simp only [mDef_eq, outD_nx, outD_rt, startE, sNil, sSeq, thenS_nx, thenS_rt, thenS_bk, thenS_ct, sAsg, sIf, sRet, sRetN, sDrop, sBrk, sCnt, sFor, sOwn, ownAt, sApp, sExt, sPut, sFrz, sPar, mIxO, mLenO, mTupO, mVar, mC, mU, mB, mNil, mCons, mF, mIsT, mAndT, mOrT, mNotT, mAnd, mOr, mNot, mIf, mChain, mPart, mNoPart, mSl, mCall, mIt, mRng, mComp, mYes, gdName, gdTup, gdCons, gdNil, wipeE, tupItems_tup, lstItems_lst, bl_bl, int_int, mHx_eq, mHlen_eq, mHcell_eq, sHput_eq, isH_hnd, hget1, hget2, hget3, hget4, hset1, hset2, hset3, hset4, eq_int, ne_int, lt_int, gt_int, le_int, ge_int, eq_bl, add_int, add_tup, add_lst, sub_int, neg_int, isN_hi, notN_hi, mul_int, div_int, mod_int, pow_int, abs_int, intC_int, len_tup, len_lst, tup_D, lst_D, rt_D, Bool.not_not, Bool.not_true, Bool.not_false, true_and, and_true, false_and, and_false, or_true, true_or, or_false, false_or, List.length_cons, List.length_nil, List.length_append, List.length_map, List.map_cons, List.map_nil, List.replicate_succ, List.replicate_zero, List.cons_append, List.nil_append, List.append_nil, List.set_cons_zero, List.set_cons_succ, List.getElem?_cons_zero, List.getElem?_cons_succ, Option.bind_some, Option.map_some, Option.bind_none, Option.map_none, OW_some, OW_bind, OW_map, OW_if, Bool.false_eq_true, if_true, if_false, ↓reduceIte, Nat.reduceAdd, Nat.reduceSub, Nat.zero_add, Nat.sub_self, Function.comp]
  by_cases c : (n == 0) = true
  · simp only [c, mDef_eq, outD_nx, outD_rt, startE, sNil, sSeq, thenS_nx, thenS_rt, thenS_bk, thenS_ct, sAsg, sIf, sRet, sRetN, sDrop, sBrk, sCnt, sFor, sOwn, ownAt, sApp, sExt, sPut, sFrz, sPar, mIxO, mLenO, mTupO, mVar, mC, mU, mB, mNil, mCons, mF, mIsT, mAndT, mOrT, mNotT, mAnd, mOr, mNot, mIf, mChain, mPart, mNoPart, mSl, mCall, mIt, mRng, mComp, mYes, gdName, gdTup, gdCons, gdNil, wipeE, tupItems_tup, lstItems_lst, bl_bl, int_int, mHx_eq, mHlen_eq, mHcell_eq, sHput_eq, isH_hnd, hget1, hget2, hget3, hget4, hset1, hset2, hset3, hset4, eq_int, ne_int, lt_int, gt_int, le_int, ge_int, eq_bl, add_int, add_tup, add_lst, sub_int, neg_int, isN_hi, notN_hi, mul_int, div_int, mod_int, pow_int, abs_int, intC_int, len_tup, len_lst, tup_D, lst_D, rt_D, Bool.not_not, Bool.not_true, Bool.not_false, true_and, and_true, false_and, and_false, or_true, true_or, or_false, false_or, List.length_cons, List.length_nil, List.length_append, List.length_map, List.map_cons, List.map_nil, List.replicate_succ, List.replicate_zero, List.cons_append, List.nil_append, List.append_nil, List.set_cons_zero, List.set_cons_succ, List.getElem?_cons_zero, List.getElem?_cons_succ, Option.bind_some, Option.map_some, Option.bind_none, Option.map_none, OW_some, OW_bind, OW_map, OW_if, Bool.false_eq_true, if_true, if_false, ↓reduceIte, Nat.reduceAdd, Nat.reduceSub, Nat.zero_add, Nat.sub_self, Function.comp]
    refine OW.mono (comp_then (P := isM) fun x hx => ⟨_, rfl, fun s => ?_⟩) fun p hp => ?_
    · rw [c__law_version_0_eq]
      simp only [mDef_eq, outD_nx, outD_rt, startE, sNil, sSeq, thenS_nx, thenS_rt, thenS_bk, thenS_ct, sAsg, sIf, sRet, sRetN, sDrop, sBrk, sCnt, sFor, sOwn, ownAt, sApp, sExt, sPut, sFrz, sPar, mIxO, mLenO, mTupO, mVar, mC, mU, mB, mNil, mCons, mF, mIsT, mAndT, mOrT, mNotT, mAnd, mOr, mNot, mIf, mChain, mPart, mNoPart, mSl, mCall, mIt, mRng, mComp, mYes, gdName, gdTup, gdCons, gdNil, wipeE, tupItems_tup, lstItems_lst, bl_bl, int_int, mHx_eq, mHlen_eq, mHcell_eq, sHput_eq, isH_hnd, hget1, hget2, hget3, hget4, hset1, hset2, hset3, hset4, eq_int, ne_int, lt_int, gt_int, le_int, ge_int, eq_bl, add_int, add_tup, add_lst, sub_int, neg_int, isN_hi, notN_hi, mul_int, div_int, mod_int, pow_int, abs_int, intC_int, len_tup, len_lst, tup_D, lst_D, rt_D, Bool.not_not, Bool.not_true, Bool.not_false, true_and, and_true, false_and, and_false, or_true, true_or, or_false, false_or, List.length_cons, List.length_nil, List.length_append, List.length_map, List.map_cons, List.map_nil, List.replicate_succ, List.replicate_zero, List.cons_append, List.nil_append, List.append_nil, List.set_cons_zero, List.set_cons_succ, List.getElem?_cons_zero, List.getElem?_cons_succ, Option.bind_some, Option.map_some, Option.bind_none, Option.map_none, OW_some, OW_bind, OW_map, OW_if, Bool.false_eq_true, if_true, if_false, ↓reduceIte, Nat.reduceAdd, Nat.reduceSub, Nat.zero_add, Nat.sub_self, Function.comp, hs7]
      refine draw_then (by omega) (by omega) fun k s2 k0 k1 => ?_
      refine some_then (by simp) (by simp) fun d s3 hd => ?_
      simp only [List.mem_cons, List.not_mem_nil, or_false] at hd
      rcases hd with e | e | e | e | e | e | e <;> exact ⟨_, e, by omega, by omega⟩
    · obtain ⟨ds, s2⟩ := p
      obtain ⟨hl, hP⟩ := hp
      dsimp only at hl hP ⊢
      match ds, hl, hP with
      | [a, b, c'], _, hP =>
        have et : tupleCD [.lst [a, b, c']] = some (.tup [a, b, c']) := rfl
        rw [OW_eq et]
        exact ver_ofS (hP a (by simp)) (hP b (by simp)) (hP c' (by simp))
  · simp only [c, mDef_eq, outD_nx, outD_rt, startE, sNil, sSeq, thenS_nx, thenS_rt, thenS_bk, thenS_ct, sAsg, sIf, sRet, sRetN, sDrop, sBrk, sCnt, sFor, sOwn, ownAt, sApp, sExt, sPut, sFrz, sPar, mIxO, mLenO, mTupO, mVar, mC, mU, mB, mNil, mCons, mF, mIsT, mAndT, mOrT, mNotT, mAnd, mOr, mNot, mIf, mChain, mPart, mNoPart, mSl, mCall, mIt, mRng, mComp, mYes, gdName, gdTup, gdCons, gdNil, wipeE, tupItems_tup, lstItems_lst, bl_bl, int_int, mHx_eq, mHlen_eq, mHcell_eq, sHput_eq, isH_hnd, hget1, hget2, hget3, hget4, hset1, hset2, hset3, hset4, eq_int, ne_int, lt_int, gt_int, le_int, ge_int, eq_bl, add_int, add_tup, add_lst, sub_int, neg_int, isN_hi, notN_hi, mul_int, div_int, mod_int, pow_int, abs_int, intC_int, len_tup, len_lst, tup_D, lst_D, rt_D, Bool.not_not, Bool.not_true, Bool.not_false, true_and, and_true, false_and, and_false, or_true, true_or, or_false, false_or, List.length_cons, List.length_nil, List.length_append, List.length_map, List.map_cons, List.map_nil, List.replicate_succ, List.replicate_zero, List.cons_append, List.nil_append, List.append_nil, List.set_cons_zero, List.set_cons_succ, List.getElem?_cons_zero, List.getElem?_cons_succ, Option.bind_some, Option.map_some, Option.bind_none, Option.map_none, OW_some, OW_bind, OW_map, OW_if, Bool.false_eq_true, if_true, if_false, ↓reduceIte, Nat.reduceAdd, Nat.reduceSub, Nat.zero_add, Nat.sub_self, Function.comp]
    refine some_then (by simp) (by simp) fun d s2 hd => ?_
    have hd' : ∃ m : Int, d = .int m ∧ 0 < m ∧ m < 5 := by
      simp only [List.mem_cons, List.not_mem_nil, or_false] at hd
      rcases hd with e | e | e | e <;> exact ⟨_, e, by omega, by omega⟩
    obtain ⟨m, e, m0, m1⟩ := hd'
    subst e
    simp only [mDef_eq, outD_nx, outD_rt, startE, sNil, sSeq, thenS_nx, thenS_rt, thenS_bk, thenS_ct, sAsg, sIf, sRet, sRetN, sDrop, sBrk, sCnt, sFor, sOwn, ownAt, sApp, sExt, sPut, sFrz, sPar, mIxO, mLenO, mTupO, mVar, mC, mU, mB, mNil, mCons, mF, mIsT, mAndT, mOrT, mNotT, mAnd, mOr, mNot, mIf, mChain, mPart, mNoPart, mSl, mCall, mIt, mRng, mComp, mYes, gdName, gdTup, gdCons, gdNil, wipeE, tupItems_tup, lstItems_lst, bl_bl, int_int, mHx_eq, mHlen_eq, mHcell_eq, sHput_eq, isH_hnd, hget1, hget2, hget3, hget4, hset1, hset2, hset3, hset4, eq_int, ne_int, lt_int, gt_int, le_int, ge_int, eq_bl, add_int, add_tup, add_lst, sub_int, neg_int, isN_hi, notN_hi, mul_int, div_int, mod_int, pow_int, abs_int, intC_int, len_tup, len_lst, tup_D, lst_D, rt_D, Bool.not_not, Bool.not_true, Bool.not_false, true_and, and_true, false_and, and_false, or_true, true_or, or_false, false_or, List.length_cons, List.length_nil, List.length_append, List.length_map, List.map_cons, List.map_nil, List.replicate_succ, List.replicate_zero, List.cons_append, List.nil_append, List.append_nil, List.set_cons_zero, List.set_cons_succ, List.getElem?_cons_zero, List.getElem?_cons_succ, Option.bind_some, Option.map_some, Option.bind_none, Option.map_none, OW_some, OW_bind, OW_map, OW_if, Bool.false_eq_true, if_true, if_false, ↓reduceIte, Nat.reduceAdd, Nat.reduceSub, Nat.zero_add, Nat.sub_self, Function.comp]
    refine draw_then m0 (by omega) fun a s3 a0 a1 => ?_
    refine draw_then m0 (by omega) fun b s4 b0 b1 => ?_
    refine draw_then m0 (by omega) fun c' s5 c0 c1 => ?_
    simp only [hs3, mDef_eq, outD_nx, outD_rt, startE, sNil, sSeq, thenS_nx, thenS_rt, thenS_bk, thenS_ct, sAsg, sIf, sRet, sRetN, sDrop, sBrk, sCnt, sFor, sOwn, ownAt, sApp, sExt, sPut, sFrz, sPar, mIxO, mLenO, mTupO, mVar, mC, mU, mB, mNil, mCons, mF, mIsT, mAndT, mOrT, mNotT, mAnd, mOr, mNot, mIf, mChain, mPart, mNoPart, mSl, mCall, mIt, mRng, mComp, mYes, gdName, gdTup, gdCons, gdNil, wipeE, tupItems_tup, lstItems_lst, bl_bl, int_int, mHx_eq, mHlen_eq, mHcell_eq, sHput_eq, isH_hnd, hget1, hget2, hget3, hget4, hset1, hset2, hset3, hset4, eq_int, ne_int, lt_int, gt_int, le_int, ge_int, eq_bl, add_int, add_tup, add_lst, sub_int, neg_int, isN_hi, notN_hi, mul_int, div_int, mod_int, pow_int, abs_int, intC_int, len_tup, len_lst, tup_D, lst_D, rt_D, Bool.not_not, Bool.not_true, Bool.not_false, true_and, and_true, false_and, and_false, or_true, true_or, or_false, false_or, List.length_cons, List.length_nil, List.length_append, List.length_map, List.map_cons, List.map_nil, List.replicate_succ, List.replicate_zero, List.cons_append, List.nil_append, List.append_nil, List.set_cons_zero, List.set_cons_succ, List.getElem?_cons_zero, List.getElem?_cons_succ, Option.bind_some, Option.map_some, Option.bind_none, Option.map_none, OW_some, OW_bind, OW_map, OW_if, Bool.false_eq_true, if_true, if_false, ↓reduceIte, Nat.reduceAdd, Nat.reduceSub, Nat.zero_add, Nat.sub_self, Function.comp]
    exact ver_ofS ⟨a, rfl, a0, by omega⟩ ⟨b, rfl, b0, by omega⟩ ⟨c', rfl, c0, by omega⟩
theorem pure_law_version_text {x : Int} {s : Hand} (h : OkV x) : f__law_version_text [verD x] s = some (.str (verT x), s) := by
  have hp := parts_le h
  have hs := nums_sum hp
  have ec : compL (gdName 1) mYes c__law_version_text_0 [some (.dat (verD x)), none] ((partsN x).map fun (n : Nat) => D.int ((n : Nat) : Int)) s = some (((partsN x).map num).map D.str, s) := by
    have e : ((partsN x).map num).map D.str = ((partsN x).map fun (n : Nat) => D.int ((n : Nat) : Int)).map fun d => match d with | .int i => .str (num i.toNat) | d => d := by
      rw [List.map_map, List.map_map]
      refine List.map_congr_left fun n _ => ?_
      show D.str (num n) = D.str (num ((n : Int)).toNat)
      rw [Int.toNat_natCast]
    rw [e]
    refine comp_pure fun d hd => ⟨_, rfl, ?_⟩
    obtain ⟨n, hn, ed⟩ := List.mem_map.mp hd
    subst ed
    rw [c__law_version_text_0_eq]
    refine eq_of_OW ?_
    simp only [mDef_eq, outD_nx, outD_rt, startE, sNil, sSeq, thenS_nx, thenS_rt, thenS_bk, thenS_ct, sAsg, sIf, sRet, sRetN, sDrop, sBrk, sCnt, sFor, sOwn, ownAt, sApp, sExt, sPut, sFrz, sPar, mIxO, mLenO, mTupO, mVar, mC, mU, mB, mNil, mCons, mF, mIsT, mAndT, mOrT, mNotT, mAnd, mOr, mNot, mIf, mChain, mPart, mNoPart, mSl, mCall, mIt, mRng, mComp, mYes, gdName, gdTup, gdCons, gdNil, wipeE, tupItems_tup, lstItems_lst, bl_bl, int_int, mHx_eq, mHlen_eq, mHcell_eq, sHput_eq, isH_hnd, hget1, hget2, hget3, hget4, hset1, hset2, hset3, hset4, eq_int, ne_int, lt_int, gt_int, le_int, ge_int, eq_bl, add_int, add_tup, add_lst, sub_int, neg_int, isN_hi, notN_hi, mul_int, div_int, mod_int, pow_int, abs_int, intC_int, len_tup, len_lst, tup_D, lst_D, rt_D, Bool.not_not, Bool.not_true, Bool.not_false, true_and, and_true, false_and, and_false, or_true, true_or, or_false, false_or, List.length_cons, List.length_nil, List.length_append, List.length_map, List.map_cons, List.map_nil, List.replicate_succ, List.replicate_zero, List.cons_append, List.nil_append, List.append_nil, List.set_cons_zero, List.set_cons_succ, List.getElem?_cons_zero, List.getElem?_cons_succ, Option.bind_some, Option.map_some, Option.bind_none, Option.map_none, OW_some, OW_bind, OW_map, OW_if, Bool.false_eq_true, if_true, if_false, ↓reduceIte, Nat.reduceAdd, Nat.reduceSub, Nat.zero_add, Nat.sub_self, Function.comp, OW_eq (str_num (hp n hn)), Int.toNat_natCast]
  have ei : tupItems (verD x) = some ((partsN x).map fun (n : Nat) => D.int ((n : Nat) : Int)) := by rw [verD_N h]; rfl
  have ej := join_D (y := ("." : Str)) (l := (partsN x).map num) (by
    rw [List.length_map, dot_len]
    have : (partsN x).length = 3 := rfl
    omega)
  refine eq_of_OW ?_
  unfold f__law_version_text
  simp only [mDef_eq, outD_nx, outD_rt, startE, sNil, sSeq, thenS_nx, thenS_rt, thenS_bk, thenS_ct, sAsg, sIf, sRet, sRetN, sDrop, sBrk, sCnt, sFor, sOwn, ownAt, sApp, sExt, sPut, sFrz, sPar, mIxO, mLenO, mTupO, mVar, mC, mU, mB, mNil, mCons, mF, mIsT, mAndT, mOrT, mNotT, mAnd, mOr, mNot, mIf, mChain, mPart, mNoPart, mSl, mCall, mIt, mRng, mComp, mYes, gdName, gdTup, gdCons, gdNil, wipeE, tupItems_tup, lstItems_lst, bl_bl, int_int, mHx_eq, mHlen_eq, mHcell_eq, sHput_eq, isH_hnd, hget1, hget2, hget3, hget4, hset1, hset2, hset3, hset4, eq_int, ne_int, lt_int, gt_int, le_int, ge_int, eq_bl, add_int, add_tup, add_lst, sub_int, neg_int, isN_hi, notN_hi, mul_int, div_int, mod_int, pow_int, abs_int, intC_int, len_tup, len_lst, tup_D, lst_D, rt_D, Bool.not_not, Bool.not_true, Bool.not_false, true_and, and_true, false_and, and_false, or_true, true_or, or_false, false_or, List.length_cons, List.length_nil, List.length_append, List.length_map, List.map_cons, List.map_nil, List.replicate_succ, List.replicate_zero, List.cons_append, List.nil_append, List.append_nil, List.set_cons_zero, List.set_cons_succ, List.getElem?_cons_zero, List.getElem?_cons_succ, Option.bind_some, Option.map_some, Option.bind_none, Option.map_none, OW_some, OW_bind, OW_map, OW_if, Bool.false_eq_true, if_true, if_false, ↓reduceIte, Nat.reduceAdd, Nat.reduceSub, Nat.zero_add, Nat.sub_self, Function.comp, OW_eq ei, OW_eq ec, OW_eq ej]
  rfl
theorem add_str {a b : Str} (h : a.length + b.length ≤ sizeLine) : addD (.str a) (.str b) = some (.str (a ++ b)) := by
  show (if a.length + b.length ≤ sizeLine then some (D.str (a ++ b)) else none) = _
  rw [if_pos h]
theorem star_ne {w : Str} (hw : w ∈ words8) : decide (w = ("*" : Str)) = false := by
  unfold words8 at hw
  simp only [List.mem_cons, List.not_mem_nil, or_false] at hw
  rcases hw with q | q | q | q | q | q | q | q <;> subst q <;> decide +kernel
theorem pure_part_text {w : Str} {x : Int} {s : Hand} (hw : w ∈ words8) (h : OkV x) : f__law_part_text [.str w, verD x] s = some (.str (w ++ verT x), s) := by
  have h1 := word_len hw
  have h2 := verT_len h
  refine eq_of_OW ?_
  unfold f__law_part_text
  simp only [mDef_eq, outD_nx, outD_rt, startE, sNil, sSeq, thenS_nx, thenS_rt, thenS_bk, thenS_ct, sAsg, sIf, sRet, sRetN, sDrop, sBrk, sCnt, sFor, sOwn, ownAt, sApp, sExt, sPut, sFrz, sPar, mIxO, mLenO, mTupO, mVar, mC, mU, mB, mNil, mCons, mF, mIsT, mAndT, mOrT, mNotT, mAnd, mOr, mNot, mIf, mChain, mPart, mNoPart, mSl, mCall, mIt, mRng, mComp, mYes, gdName, gdTup, gdCons, gdNil, wipeE, tupItems_tup, lstItems_lst, bl_bl, int_int, mHx_eq, mHlen_eq, mHcell_eq, sHput_eq, isH_hnd, hget1, hget2, hget3, hget4, hset1, hset2, hset3, hset4, eq_int, ne_int, lt_int, gt_int, le_int, ge_int, eq_bl, add_int, add_tup, add_lst, sub_int, neg_int, isN_hi, notN_hi, mul_int, div_int, mod_int, pow_int, abs_int, intC_int, len_tup, len_lst, tup_D, lst_D, rt_D, Bool.not_not, Bool.not_true, Bool.not_false, true_and, and_true, false_and, and_false, or_true, true_or, or_false, false_or, List.length_cons, List.length_nil, List.length_append, List.length_map, List.map_cons, List.map_nil, List.replicate_succ, List.replicate_zero, List.cons_append, List.nil_append, List.append_nil, List.set_cons_zero, List.set_cons_succ, List.getElem?_cons_zero, List.getElem?_cons_succ, Option.bind_some, Option.map_some, Option.bind_none, Option.map_none, OW_some, OW_bind, OW_map, OW_if, Bool.false_eq_true, if_true, if_false, ↓reduceIte, Nat.reduceAdd, Nat.reduceSub, Nat.zero_add, Nat.sub_self, Function.comp, eq_str', star_ne hw, pure_law_version_text h, OW_eq (add_str (a := w) (b := verT x) (by rw [sizeLine_eq]; omega))]
theorem pure_part_star {x : Int} {s : Hand} : f__law_part_text [.str "*", verD x] s = some (.str "*", s) := by
  have e : decide (("*" : Str) = "*") = true := by decide +kernel
  refine eq_of_OW ?_
  unfold f__law_part_text
  simp only [mDef_eq, outD_nx, outD_rt, startE, sNil, sSeq, thenS_nx, thenS_rt, thenS_bk, thenS_ct, sAsg, sIf, sRet, sRetN, sDrop, sBrk, sCnt, sFor, sOwn, ownAt, sApp, sExt, sPut, sFrz, sPar, mIxO, mLenO, mTupO, mVar, mC, mU, mB, mNil, mCons, mF, mIsT, mAndT, mOrT, mNotT, mAnd, mOr, mNot, mIf, mChain, mPart, mNoPart, mSl, mCall, mIt, mRng, mComp, mYes, gdName, gdTup, gdCons, gdNil, wipeE, tupItems_tup, lstItems_lst, bl_bl, int_int, mHx_eq, mHlen_eq, mHcell_eq, sHput_eq, isH_hnd, hget1, hget2, hget3, hget4, hset1, hset2, hset3, hset4, eq_int, ne_int, lt_int, gt_int, le_int, ge_int, eq_bl, add_int, add_tup, add_lst, sub_int, neg_int, isN_hi, notN_hi, mul_int, div_int, mod_int, pow_int, abs_int, intC_int, len_tup, len_lst, tup_D, lst_D, rt_D, Bool.not_not, Bool.not_true, Bool.not_false, true_and, and_true, false_and, and_false, or_true, true_or, or_false, false_or, List.length_cons, List.length_nil, List.length_append, List.length_map, List.map_cons, List.map_nil, List.replicate_succ, List.replicate_zero, List.cons_append, List.nil_append, List.append_nil, List.set_cons_zero, List.set_cons_succ, List.getElem?_cons_zero, List.getElem?_cons_succ, Option.bind_some, Option.map_some, Option.bind_none, Option.map_none, OW_some, OW_bind, OW_map, OW_if, Bool.false_eq_true, if_true, if_false, ↓reduceIte, Nat.reduceAdd, Nat.reduceSub, Nat.zero_add, Nat.sub_self, Function.comp, eq_str', e, decide_true]
theorem words_ok {s : Hand} : OW (f__law_words [.hnd] s) fun p => ∃ w x, (w = ("*" : Str) ∨ w ∈ words8) ∧ Small x ∧ p.1 = .tup [.str w, verD x] := by
  have hs12 : (0 + 1 + 1 + 1 + 1 + 1 + 1 + 1 + 1 + 1 + 1 + 1 + 1 ≤ sizeLine) = True := eq_true (by rw [sizeLine_eq]; omega)
  have hs2 : (0 + 1 + 1 ≤ sizeLine) = True := eq_true (by rw [sizeLine_eq]; omega)
  unfold f__law_words
  simp only [mDef_eq, outD_nx, outD_rt, startE, sNil, sSeq, thenS_nx, thenS_rt, thenS_bk, thenS_ct, sAsg, sIf, sRet, sRetN, sDrop, sBrk, sCnt, sFor, sOwn, ownAt, sApp, sExt, sPut, sFrz, sPar, mIxO, mLenO, mTupO, mVar, mC, mU, mB, mNil, mCons, mF, mIsT, mAndT, mOrT, mNotT, mAnd, mOr, mNot, mIf, mChain, mPart, mNoPart, mSl, mCall, mIt, mRng, mComp, mYes, gdName, gdTup, gdCons, gdNil, wipeE, tupItems_tup, lstItems_lst, bl_bl, int_int, mHx_eq, mHlen_eq, mHcell_eq, sHput_eq, isH_hnd, hget1, hget2, hget3, hget4, hset1, hset2, hset3, hset4, eq_int, ne_int, lt_int, gt_int, le_int, ge_int, eq_bl, add_int, add_tup, add_lst, sub_int, neg_int, isN_hi, notN_hi, mul_int, div_int, mod_int, pow_int, abs_int, intC_int, len_tup, len_lst, tup_D, lst_D, rt_D, Bool.not_not, Bool.not_true, Bool.not_false, true_and, and_true, false_and, and_false, or_true, true_or, or_false, false_or, List.length_cons, List.length_nil, List.length_append, List.length_map, List.map_cons, List.map_nil, List.replicate_succ, List.replicate_zero, List.cons_append, List.nil_append, List.append_nil, List.set_cons_zero, List.set_cons_succ, List.getElem?_cons_zero, List.getElem?_cons_succ, Option.bind_some, Option.map_some, Option.bind_none, Option.map_none, OW_some, OW_bind, OW_map, OW_if, Bool.false_eq_true, if_true, if_false, ↓reduceIte, Nat.reduceAdd, Nat.reduceSub, Nat.zero_add, Nat.sub_self, Function.comp, hs12]
  refine some_then (by simp) (by simp) fun d s1 hd => ?_
  have hw : ∃ w : Str, d = .str w ∧ (w = ("*" : Str) ∨ w ∈ words8) := by
    unfold words8
    simp only [List.mem_cons, List.not_mem_nil, or_false] at hd ⊢
    rcases hd with e | e | e | e | e | e | e | e | e | e | e | e <;> exact ⟨_, e, by simp⟩
  obtain ⟨w, e, hw⟩ := hw
  subst e
  simp only [mDef_eq, outD_nx, outD_rt, startE, sNil, sSeq, thenS_nx, thenS_rt, thenS_bk, thenS_ct, sAsg, sIf, sRet, sRetN, sDrop, sBrk, sCnt, sFor, sOwn, ownAt, sApp, sExt, sPut, sFrz, sPar, mIxO, mLenO, mTupO, mVar, mC, mU, mB, mNil, mCons, mF, mIsT, mAndT, mOrT, mNotT, mAnd, mOr, mNot, mIf, mChain, mPart, mNoPart, mSl, mCall, mIt, mRng, mComp, mYes, gdName, gdTup, gdCons, gdNil, wipeE, tupItems_tup, lstItems_lst, bl_bl, int_int, mHx_eq, mHlen_eq, mHcell_eq, sHput_eq, isH_hnd, hget1, hget2, hget3, hget4, hset1, hset2, hset3, hset4, eq_int, ne_int, lt_int, gt_int, le_int, ge_int, eq_bl, add_int, add_tup, add_lst, sub_int, neg_int, isN_hi, notN_hi, mul_int, div_int, mod_int, pow_int, abs_int, intC_int, len_tup, len_lst, tup_D, lst_D, rt_D, Bool.not_not, Bool.not_true, Bool.not_false, true_and, and_true, false_and, and_false, or_true, true_or, or_false, false_or, List.length_cons, List.length_nil, List.length_append, List.length_map, List.map_cons, List.map_nil, List.replicate_succ, List.replicate_zero, List.cons_append, List.nil_append, List.append_nil, List.set_cons_zero, List.set_cons_succ, List.getElem?_cons_zero, List.getElem?_cons_succ, Option.bind_some, Option.map_some, Option.bind_none, Option.map_none, OW_some, OW_bind, OW_map, OW_if, Bool.false_eq_true, if_true, if_false, ↓reduceIte, Nat.reduceAdd, Nat.reduceSub, Nat.zero_add, Nat.sub_self, Function.comp]
  refine OW.mono version_small fun p ⟨x, hx, e⟩ => ?_
  obtain ⟨d, s2⟩ := p
  dsimp only at e
  subst e
  simp only [hs2, mDef_eq, outD_nx, outD_rt, startE, sNil, sSeq, thenS_nx, thenS_rt, thenS_bk, thenS_ct, sAsg, sIf, sRet, sRetN, sDrop, sBrk, sCnt, sFor, sOwn, ownAt, sApp, sExt, sPut, sFrz, sPar, mIxO, mLenO, mTupO, mVar, mC, mU, mB, mNil, mCons, mF, mIsT, mAndT, mOrT, mNotT, mAnd, mOr, mNot, mIf, mChain, mPart, mNoPart, mSl, mCall, mIt, mRng, mComp, mYes, gdName, gdTup, gdCons, gdNil, wipeE, tupItems_tup, lstItems_lst, bl_bl, int_int, mHx_eq, mHlen_eq, mHcell_eq, sHput_eq, isH_hnd, hget1, hget2, hget3, hget4, hset1, hset2, hset3, hset4, eq_int, ne_int, lt_int, gt_int, le_int, ge_int, eq_bl, add_int, add_tup, add_lst, sub_int, neg_int, isN_hi, notN_hi, mul_int, div_int, mod_int, pow_int, abs_int, intC_int, len_tup, len_lst, tup_D, lst_D, rt_D, Bool.not_not, Bool.not_true, Bool.not_false, true_and, and_true, false_and, and_false, or_true, true_or, or_false, false_or, List.length_cons, List.length_nil, List.length_append, List.length_map, List.map_cons, List.map_nil, List.replicate_succ, List.replicate_zero, List.cons_append, List.nil_append, List.append_nil, List.set_cons_zero, List.set_cons_succ, List.getElem?_cons_zero, List.getElem?_cons_succ, Option.bind_some, Option.map_some, Option.bind_none, Option.map_none, OW_some, OW_bind, OW_map, OW_if, Bool.false_eq_true, if_true, if_false, ↓reduceIte, Nat.reduceAdd, Nat.reduceSub, Nat.zero_add, Nat.sub_self, Function.comp]
  exact ⟨w, x, hw, hx, rfl⟩
end K02

set_option Elab.async false
set_option linter.all false
set_option maxRecDepth 100000
set_option maxHeartbeats 4000000
namespace K02
open PySem
open L2
open Dl
open Txt
open TL
theorem raw_gap (w : Str) (x : Int) : (rawS w x).Pairwise Gap := by
  unfold rawS
  repeat' split
  all_goals first
    | exact List.pairwise_singleton _ _
    | exact List.pairwise_cons.mpr ⟨fun q hq => by rw [List.mem_singleton.mp hq]; exact ⟨x, rfl, by show x < x + 1; omega⟩, List.pairwise_singleton _ _⟩
theorem partR_ok {w : Str} {x : Int} (h : ∀ p ∈ rawS w x, OkV p.1 ∧ OkH p.2) : OkR (partR w x) := okR_iff.mpr ⟨part_oks h, (raw_gap w x).filter _⟩
theorem raw_bounds (w : Str) (x : Int) : ∃ e : Int, ∀ b ∈ bounds (rawS w x), b = 0 ∨ b ∈ [x, e] := by
  unfold rawS
  repeat' split
  · exact ⟨x + 1, fun b hb => .inr hb⟩
  · refine ⟨x, fun b hb => ?_⟩
    rcases List.mem_cons.mp (show b ∈ [0, x] from hb) with e | e
    · exact .inl e
    · exact .inr (List.mem_cons_of_mem _ e)
  · refine ⟨x + 1, fun b hb => ?_⟩
    rcases List.mem_cons.mp (show b ∈ [0, x + 1] from hb) with e | e
    · exact .inl e
    · exact .inr (List.mem_cons_of_mem _ e)
  · exact ⟨x + 1, fun b hb => .inr (List.mem_cons_of_mem _ (show b ∈ [x + 1] from hb))⟩
  · refine ⟨x, fun b hb => .inr (List.mem_cons_of_mem _ (show b ∈ [x] from hb))⟩
  · exact ⟨topK x, fun b hb => .inr hb⟩
  · exact ⟨tilK x, fun b hb => .inr hb⟩
  · refine ⟨x + 1, fun b hb => ?_⟩
    rcases List.mem_cons.mp (show b ∈ [0, x, x + 1] from hb) with e | e
    · exact .inl e
    · exact .inr e
def pT (p : Str × Int) : Str := if p.1 = ("*" : Str) then "*" else p.1 ++ verT p.2
def pX (p : Str × Int) : Rng := if p.1 = ("*" : Str) then [(0, none)] else partR p.1 p.2
def OkW (p : Str × Int) : Prop := (p.1 = ("*" : Str) ∨ p.1 ∈ words8) ∧ Small p.2
def OkU (p : Str × Int) : Prop := (p.1 = ("*" : Str) ∨ p.1 ∈ words8) ∧ OkV p.2 ∧ ∀ q ∈ rawS p.1 p.2, OkV q.1 ∧ OkH q.2
theorem OkW.u {p : Str × Int} (h : OkW p) : OkU p := ⟨h.1, h.2.ok, raw_ok h.2⟩
theorem whole_fits : Fits [] [(0, none)] := ⟨⟨fun p hp => by
  rw [List.mem_singleton.mp hp]
  exact ⟨okV0, fun _ e => by cases e⟩, rfl⟩, fun b hb => .inl (List.mem_singleton.mp (show b ∈ [0] from hb))⟩
theorem pX_fits {p : Str × Int} (h : OkU p) : ∃ L : List Int, L.length ≤ 2 ∧ Fits L (pX p) := by
  unfold pX
  by_cases c : p.1 = ("*" : Str)
  · rw [if_pos c]
    exact ⟨[], by simp, whole_fits⟩
  · rw [if_neg c]
    obtain ⟨e, he⟩ := raw_bounds p.1 p.2
    refine ⟨[p.2, e], Nat.le_refl _, partR_ok h.2.2, fun b hb => he b ?_⟩
    obtain ⟨q, hq, eq⟩ := mem_bounds.mp hb
    unfold partR at hq
    rw [List.mem_filter] at hq
    exact mem_bounds.mpr ⟨q, hq.1, eq⟩
theorem pure_told {p : Str × Int} {s : Hand} (h : OkU p) : f_part_told [.str (pT p)] s = some (rngD (pX p), s) := by
  unfold pT pX
  by_cases c : p.1 = ("*" : Str)
  · rw [if_pos c, if_pos c]
    have e : decide (("*" : Str) = "*") = true := by decide +kernel
    refine eq_of_OW ?_
    unfold f_part_told
    simp only [mDef_eq, outD_nx, outD_rt, startE, sNil, sSeq, thenS_nx, thenS_rt, thenS_bk, thenS_ct, sAsg, sIf, sRet, sRetN, sDrop, sBrk, sCnt, sFor, sOwn, ownAt, sApp, sExt, sPut, sFrz, sPar, mIxO, mLenO, mTupO, mVar, mC, mU, mB, mNil, mCons, mF, mIsT, mAndT, mOrT, mNotT, mAnd, mOr, mNot, mIf, mChain, mPart, mNoPart, mSl, mCall, mIt, mRng, mComp, mYes, gdName, gdTup, gdCons, gdNil, wipeE, tupItems_tup, lstItems_lst, bl_bl, int_int, mHx_eq, mHlen_eq, mHcell_eq, sHput_eq, isH_hnd, hget1, hget2, hget3, hget4, hset1, hset2, hset3, hset4, eq_int, ne_int, lt_int, gt_int, le_int, ge_int, eq_bl, add_int, add_tup, add_lst, sub_int, neg_int, isN_hi, notN_hi, mul_int, div_int, mod_int, pow_int, abs_int, intC_int, len_tup, len_lst, tup_D, lst_D, rt_D, Bool.not_not, Bool.not_true, Bool.not_false, true_and, and_true, false_and, and_false, or_true, true_or, or_false, false_or, List.length_cons, List.length_nil, List.length_append, List.length_map, List.map_cons, List.map_nil, List.replicate_succ, List.replicate_zero, List.cons_append, List.nil_append, List.append_nil, List.set_cons_zero, List.set_cons_succ, List.getElem?_cons_zero, List.getElem?_cons_succ, Option.bind_some, Option.map_some, Option.bind_none, Option.map_none, OW_some, OW_bind, OW_map, OW_if, Bool.false_eq_true, if_true, if_false, ↓reduceIte, Nat.reduceAdd, Nat.reduceSub, Nat.zero_add, Nat.sub_self, Function.comp, eq_str', e, decide_true]
    rfl
  · rw [if_neg c, if_neg c]
    rcases h.1 with z | z
    · exact absurd z c
    · exact pure_part_told z h.2.1 h.2.2
theorem pure_law_part {p : Str × Int} {s : Hand} (h : OkW p) : f__law_part [.str p.1, verD p.2] s = some (rngD (pX p), s) := by
  unfold pX
  by_cases c : p.1 = ("*" : Str)
  · rw [if_pos c, c]
    exact law_part_star h.2
  · rw [if_neg c]
    rcases h.1 with z | z
    · exact absurd z c
    · exact law_part_is z h.2
theorem pure_law_text {p : Str × Int} {s : Hand} (h : OkW p) : f__law_part_text [.str p.1, verD p.2] s = some (.str (pT p), s) := by
  unfold pT
  by_cases c : p.1 = ("*" : Str)
  · rw [if_pos c, c]
    exact pure_part_star
  · rw [if_neg c]
    rcases h.1 with z | z
    · exact absurd z c
    · exact pure_part_text z h.2.ok
end K02

set_option Elab.async false
set_option linter.all false
set_option maxRecDepth 100000
set_option maxHeartbeats 4000000
namespace K02
open PySem
open L2
open Dl
open Txt
open TL
def addK (k : Rng) (p : Str × Int) : Rng := bothR k (pX p)
theorem addK_fits {L : List Int} {k : Rng} {p : Str × Int} (hk : Fits L k) (hp : OkU p) (hz : L.length ≤ 58) : ∃ M : List Int, M.length ≤ L.length + 2 ∧ Fits M (addK k p) := by
  obtain ⟨L2, l2, h2⟩ := pX_fits hp
  refine ⟨L ++ L2, by rw [List.length_append]; omega, ?_⟩
  exact (law_both_is (s := hand0 [] 0) hk h2 (by omega)).2
theorem kept_fits : ∀ (ps : List (Str × Int)) {L : List Int} {k : Rng}, (∀ p ∈ ps, OkU p) → Fits L k → L.length + 2 * ps.length ≤ 58 → ∃ M : List Int, M.length ≤ L.length + 2 * ps.length ∧ Fits M (ps.foldl addK k)
  | [], L, k, _, hk, _ => ⟨L, by simp, hk⟩
  | p :: ps, L, k, hp, hk, hz => by
    rw [List.length_cons] at hz
    obtain ⟨M, m1, m2⟩ := addK_fits hk (hp p (List.mem_cons_self ..)) (by omega)
    obtain ⟨N, n1, n2⟩ := kept_fits ps (fun q hq => hp q (List.mem_cons_of_mem _ hq)) m2 (by omega)
    exact ⟨N, by rw [List.length_cons]; omega, n2⟩
theorem kept_loop {s : Hand} {T F A : Option Slot} : ∀ (ps : List (Str × Int)) {L : List Int} {k : Rng} (n : Int) (e5 e6 : Option Slot), (∀ p ∈ ps, OkU p) → Fits L k → L.length + 2 * ps.length ≤ 58 →
    OW (loopS (gdName 5) b_read_range_1 (ps.map fun p => D.str (pT p)) [T, F, some (.dat (.int n)), A, some (.dat (rngD k)), e5, e6] s)
      (Qn (fun env => ∃ n e5 e6, env = [T, F, some (.dat (.int n)), A, some (.dat (rngD (ps.foldl addK k))), e5, e6]) s)
  | [], L, k, n, e5, e6, _, _, _ => by
    show OW (some _) _
    rw [OW_some]
    exact ⟨⟨n, e5, e6, rfl⟩, rfl⟩
  | p :: ps, L, k, n, e5, e6, hp, hk, hz => by
    rw [List.length_cons] at hz
    have hpw := hp p (List.mem_cons_self ..)
    obtain ⟨M, m1, m2⟩ := addK_fits hk hpw (by omega)
    obtain ⟨L2, l2, h2⟩ := pX_fits hpw
    have hk1 := hk.len
    have hk2 := h2.len
    have hmul : k.length * (pX p).length ≤ 60 * 3 := Nat.mul_le_mul (by omega) (by omega)
    have hb := pure_both (s := s) (twos hk.1.1) (twos h2.1.1) (by omega)
    have nn : isND (rngD (pX p)) .non = some (.bl false) := rfl
    have ia : ∀ z : Int, iaddD (.int z) (.int 1) = some (.int (z + 1)) := fun _ => rfl
    have da : ∀ {a b c d e f : Option Slot} {z : D}, datAt [a, b, some (.dat z), c, d, e, f] 2 = some z := rfl
    rw [List.map_cons]
    unfold loopS
    simp only [mDef_eq, outD_nx, outD_rt, startE, sNil, sSeq, thenS_nx, thenS_rt, thenS_bk, thenS_ct, sAsg, sIf, sRet, sRetN, sDrop, sBrk, sCnt, sFor, sOwn, ownAt, sApp, sExt, sPut, sFrz, sPar, mIxO, mLenO, mTupO, mVar, mC, mU, mB, mNil, mCons, mF, mIsT, mAndT, mOrT, mNotT, mAnd, mOr, mNot, mIf, mChain, mPart, mNoPart, mSl, mCall, mIt, mRng, mComp, mYes, gdName, gdTup, gdCons, gdNil, wipeE, tupItems_tup, lstItems_lst, bl_bl, int_int, mHx_eq, mHlen_eq, mHcell_eq, sHput_eq, isH_hnd, hget1, hget2, hget3, hget4, hset1, hset2, hset3, hset4, eq_int, ne_int, lt_int, gt_int, le_int, ge_int, eq_bl, add_int, add_tup, add_lst, sub_int, neg_int, isN_hi, notN_hi, mul_int, div_int, mod_int, pow_int, abs_int, intC_int, len_tup, len_lst, tup_D, lst_D, rt_D, Bool.not_not, Bool.not_true, Bool.not_false, true_and, and_true, false_and, and_false, or_true, true_or, or_false, false_or, List.length_cons, List.length_nil, List.length_append, List.length_map, List.map_cons, List.map_nil, List.replicate_succ, List.replicate_zero, List.cons_append, List.nil_append, List.append_nil, List.set_cons_zero, List.set_cons_succ, List.getElem?_cons_zero, List.getElem?_cons_succ, Option.bind_some, Option.map_some, Option.bind_none, Option.map_none, OW_some, OW_bind, OW_map, OW_if, Bool.false_eq_true, if_true, if_false, ↓reduceIte, Nat.reduceAdd, Nat.reduceSub, Nat.zero_add, Nat.sub_self, Function.comp, b_read_range_1_eq, pure_told hpw, OW_eq nn, hb, sAug, OW_eq da, OW_eq (ia n)]
    exact kept_loop ps (n + 1) _ _ (fun q hq => hp q (List.mem_cons_of_mem _ hq)) m2 (by omega)
end K02

set_option Elab.async false
set_option linter.all false
set_option maxRecDepth 100000
set_option maxHeartbeats 4000000
namespace K02
open PySem
open L2
open Dl
open Txt
open TL
theorem mem_joinL {S : List Nat} {c : Nat} : ∀ {l : List (List Nat)}, c ∈ joinL S l → c ∈ S ∨ ∃ p ∈ l, c ∈ p
  | [], h => by cases h
  | [p], h => .inr ⟨p, List.mem_cons_self .., h⟩
  | p :: q :: r, h => by
    rcases List.mem_append.mp (show c ∈ p ++ (S ++ joinL S (q :: r)) from h) with z | z
    · exact .inr ⟨p, List.mem_cons_self .., z⟩
    · rcases List.mem_append.mp z with z | z
      · exact .inl z
      · rcases mem_joinL z with z | ⟨x, hx, hc⟩
        · exact .inl z
        · exact .inr ⟨x, List.mem_cons_of_mem _ hx, hc⟩
theorem join_mem {y : Str} {l : List Str} {c : Nat} (h : c ∈ tl (Txt.join y l)) : c ∈ tl y ∨ ∃ p ∈ l, c ∈ tl p := by
  rw [join_eq, tl_join] at h
  rcases mem_joinL h with z | ⟨p, hp, hc⟩
  · exact .inl z
  · obtain ⟨q, hq, e⟩ := List.mem_map.mp hp
    exact .inr ⟨q, hq, e ▸ hc⟩
theorem verT_signs {x : Int} {c : Nat} (h : c ∈ tl (verT x)) : c = 46 ∨ (48 ≤ c ∧ c ≤ 57) := by
  rcases join_mem h with z | ⟨p, hp, hc⟩
  · rw [dot_tl] at z
    exact .inl (List.mem_singleton.mp z)
  · obtain ⟨n, _, e⟩ := List.mem_map.mp hp
    rw [← e] at hc
    exact .inr (num_digits hc)
theorem pT_signs {p : Str × Int} (h : OkU p) {c : Nat} (hc : c ∈ tl (pT p)) : c ≠ 44 ∧ c ≠ 124 := by
  unfold pT at hc
  by_cases e : p.1 = ("*" : Str)
  · rw [if_pos e, show tl ("*" : Str) = [42] by decide +kernel] at hc
    rw [List.mem_singleton.mp hc]
    decide
  · rw [if_neg e, app_tl] at hc
    rcases List.mem_append.mp hc with z | z
    · rcases h.1 with q | q
      · exact absurd q e
      · generalize p.1 = w at q z
        unfold words8 at q
        simp only [List.mem_cons, List.not_mem_nil, or_false] at q
        have t0 : tl ("" : Str) = [] := by decide +kernel
        have t1 : tl ("<=" : Str) = [60, 61] := by decide +kernel
        have t2 : tl (">=" : Str) = [62, 61] := by decide +kernel
        have t3 : tl ("<" : Str) = [60] := by decide +kernel
        have t4 : tl (">" : Str) = [62] := by decide +kernel
        have t5 : tl ("!" : Str) = [33] := by decide +kernel
        have t6 : tl ("^" : Str) = [94] := by decide +kernel
        have t7 : tl ("~" : Str) = [126] := by decide +kernel
        rcases q with q | q | q | q | q | q | q | q <;> subst q
        · rw [t0] at z; cases z
        · rw [t1] at z; simp only [List.mem_cons, List.not_mem_nil, or_false] at z; omega
        · rw [t2] at z; simp only [List.mem_cons, List.not_mem_nil, or_false] at z; omega
        · rw [t3] at z; simp only [List.mem_cons, List.not_mem_nil, or_false] at z; omega
        · rw [t4] at z; simp only [List.mem_cons, List.not_mem_nil, or_false] at z; omega
        · rw [t5] at z; simp only [List.mem_cons, List.not_mem_nil, or_false] at z; omega
        · rw [t6] at z; simp only [List.mem_cons, List.not_mem_nil, or_false] at z; omega
        · rw [t7] at z; simp only [List.mem_cons, List.not_mem_nil, or_false] at z; omega
    · have := verT_signs z
      omega
theorem pT_len {p : Str × Int} (h : OkU p) : (pT p).length ≤ 26 := by
  unfold pT
  by_cases e : p.1 = ("*" : Str)
  · rw [if_pos e]
    exact Nat.le_trans (show ("*" : Str).length ≤ 1 by decide +kernel) (by decide)
  · rw [if_neg e, app_len]
    rcases h.1 with q | q
    · exact absurd q e
    · have := word_len q
      have := verT_len h.2.1
      omega
theorem and_tl : tl (", " : Str) = [44, 32] := by decide +kernel
theorem or_tl : tl (" | " : Str) = [32, 124, 32] := by decide +kernel
/-- one alternative's text -/
def aT (ps : List (Str × Int)) : Str := Txt.join ", " (ps.map pT)
theorem aT_split {ps : List (Str × Int)} (h : ∀ p ∈ ps, OkU p) (h0 : ps ≠ []) : Txt.split (aT ps) ", " = ps.map pT := by
  refine split_join (s := 44) (S := [32]) and_tl (by decide +kernel) (fun z => h0 (List.map_eq_nil_iff.mp z)) fun q hq hc => ?_
  obtain ⟨p, hp, e⟩ := List.mem_map.mp hq
  rw [← e] at hc
  exact (pT_signs (h p hp) hc).1 rfl
theorem aT_signs {ps : List (Str × Int)} (h : ∀ p ∈ ps, OkU p) : 124 ∉ tl (aT ps) := fun hc => by
  rcases join_mem hc with z | ⟨q, hq, hc⟩
  · rw [and_tl] at z
    simp at z
  · obtain ⟨p, hp, e⟩ := List.mem_map.mp hq
    rw [← e] at hc
    exact (pT_signs (h p hp) hc).2 rfl
theorem alts_split {as : List (List (Str × Int))} (h : ∀ ps ∈ as, ∀ p ∈ ps, OkU p) (h0 : as ≠ []) : Txt.split (Txt.join " | " (as.map aT)) " | " = as.map aT := by
  refine split_join2 (s := 32) (t := 124) (S := [32]) (by decide) or_tl (by decide +kernel) (fun z => h0 (List.map_eq_nil_iff.mp z)) fun q hq => ?_
  obtain ⟨ps, hp, e⟩ := List.mem_map.mp hq
  rw [← e]
  exact aT_signs (h ps hp)
end K02

set_option Elab.async false
set_option linter.all false
set_option maxRecDepth 100000
set_option maxHeartbeats 4000000
namespace K02
open PySem
open L2
open Dl
open Txt
open TL
theorem sum_le {l : List Str} {k : Nat} (h : ∀ x ∈ l, x.length ≤ k) : (l.map (·.length)).sum ≤ k * l.length := by
  induction l with
  | nil => exact Nat.le_refl _
  | cons x l ih =>
    have h1 := h x (List.mem_cons_self ..)
    have h2 := ih fun y hy => h y (List.mem_cons_of_mem _ hy)
    rw [List.map_cons, List.sum_cons, List.length_cons, Nat.mul_add, Nat.mul_one]
    omega
theorem aT_len {ps : List (Str × Int)} (h : ∀ p ∈ ps, OkU p) : (aT ps).length ≤ 28 * ps.length := by
  have h1 := join_len (", " : Str) (ps.map pT)
  have h2 := sum_le (l := ps.map pT) (k := 26) fun x hx => by
    obtain ⟨p, hp, e⟩ := List.mem_map.mp hx
    rw [← e]
    exact pT_len (h p hp)
  have h3 : (", " : Str).length = 2 := by decide +kernel
  rw [List.length_map] at h1 h2
  rw [h3] at h1
  unfold aT
  omega
def addF (f : Rng) (ps : List (Str × Int)) : Rng := eitherR f (ps.foldl addK [(0, none)])
theorem addF_fits {L : List Int} {f : Rng} {ps : List (Str × Int)} (hf : Fits L f) (hp : ∀ p ∈ ps, OkU p) (hz : L.length + 2 * ps.length ≤ 58) : ∃ M : List Int, M.length ≤ L.length + 2 * ps.length ∧ Fits M (addF f ps) := by
  obtain ⟨N, n1, n2⟩ := kept_fits ps hp whole_fits (by rw [List.length_nil]; omega)
  rw [List.length_nil, Nat.zero_add] at n1
  refine ⟨L ++ N, by rw [List.length_append]; omega, ?_⟩
  exact (law_either_is (s := hand0 [] 0) hf n2 (by omega)).2
theorem split_D {a b : Str} (h : (b.length == 0) = false ∧ a.length + 2 ≤ sizeLine) : splitD (.str a) (.str b) = some (.lst ((Txt.split a b).map .str)) := by
  show (if (b.length == 0) = false ∧ a.length + 2 ≤ sizeLine then some (D.lst ((Txt.split a b).map .str)) else none) = _
  rw [if_pos h]
theorem found_loop {s : Hand} {T : Option Slot} : ∀ (as : List (List (Str × Int))) {f : Rng} (n : Int) (e3 e4 e5 e6 : Option Slot), (∀ ps ∈ as, ps ≠ [] ∧ ps.length ≤ 4 ∧ ∀ p ∈ ps, OkU p) → OkR f → (∀ k, k ≤ as.length → ((as.take k).foldl addF f).length ≤ 80) →
    OW (loopS (gdName 3) b_read_range_0 (as.map fun ps => D.str (aT ps)) [T, some (.dat (rngD f)), some (.dat (.int n)), e3, e4, e5, e6] s)
      (Qn (fun env => ∃ n e3 e4 e5 e6, env = [T, some (.dat (rngD (as.foldl addF f))), some (.dat (.int n)), e3, e4, e5, e6]) s)
  | [], f, n, e3, e4, e5, e6, _, _, _ => by
    show OW (some _) _
    rw [OW_some]
    exact ⟨⟨n, e3, e4, e5, e6, rfl⟩, rfl⟩
  | ps :: as, f, n, e3, e4, e5, e6, ha, hf, hz => by
    have hz0 : f.length ≤ 80 := hz 0 (Nat.zero_le _)
    obtain ⟨p0, p4, pw⟩ := ha ps (List.mem_cons_self ..)
    obtain ⟨N, n1, n2⟩ := kept_fits ps pw whole_fits (by rw [List.length_nil]; omega)
    rw [List.length_nil, Nat.zero_add] at n1
    have hR : OkR (addF f ps) := either_ok hf n2.1
    have hal := aT_len pw
    have hk2 := n2.len
    have he := prog_either (s := s) hf n2.1 (by omega) (by omega)
    have hsp : splitD (.str (aT ps)) (.str ", ") = some (.lst (ps.map fun p => D.str (pT p))) := by
      rw [split_D ⟨by decide +kernel, by rw [sizeLine_eq]; omega⟩, aT_split pw p0, List.map_map]
      rfl
    rw [List.map_cons]
    unfold loopS
    have ew : D.tup [D.tup [verD 0, D.non]] = rngD [(0, none)] := rfl
    simp only [mDef_eq, outD_nx, outD_rt, startE, sNil, sSeq, thenS_nx, thenS_rt, thenS_bk, thenS_ct, sAsg, sIf, sRet, sRetN, sDrop, sBrk, sCnt, sFor, sOwn, ownAt, sApp, sExt, sPut, sFrz, sPar, mIxO, mLenO, mTupO, mVar, mC, mU, mB, mNil, mCons, mF, mIsT, mAndT, mOrT, mNotT, mAnd, mOr, mNot, mIf, mChain, mPart, mNoPart, mSl, mCall, mIt, mRng, mComp, mYes, gdName, gdTup, gdCons, gdNil, wipeE, tupItems_tup, lstItems_lst, bl_bl, int_int, mHx_eq, mHlen_eq, mHcell_eq, sHput_eq, isH_hnd, hget1, hget2, hget3, hget4, hset1, hset2, hset3, hset4, eq_int, ne_int, lt_int, gt_int, le_int, ge_int, eq_bl, add_int, add_tup, add_lst, sub_int, neg_int, isN_hi, notN_hi, mul_int, div_int, mod_int, pow_int, abs_int, intC_int, len_tup, len_lst, tup_D, lst_D, rt_D, Bool.not_not, Bool.not_true, Bool.not_false, true_and, and_true, false_and, and_false, or_true, true_or, or_false, false_or, List.length_cons, List.length_nil, List.length_append, List.length_map, List.map_cons, List.map_nil, List.replicate_succ, List.replicate_zero, List.cons_append, List.nil_append, List.append_nil, List.set_cons_zero, List.set_cons_succ, List.getElem?_cons_zero, List.getElem?_cons_succ, Option.bind_some, Option.map_some, Option.bind_none, Option.map_none, OW_some, OW_bind, OW_map, OW_if, Bool.false_eq_true, if_true, if_false, ↓reduceIte, Nat.reduceAdd, Nat.reduceSub, Nat.zero_add, Nat.sub_self, Function.comp, b_read_range_0_eq, ver0, ew, OW_eq hsp]
    refine OW.walk (kept_loop (s := s) ps n e5 e6 pw whole_fits (by rw [List.length_nil]; omega)) fun env hv => ?_
    obtain ⟨n', e5', e6', hv⟩ := hv
    subst hv
    simp only [mDef_eq, outD_nx, outD_rt, startE, sNil, sSeq, thenS_nx, thenS_rt, thenS_bk, thenS_ct, sAsg, sIf, sRet, sRetN, sDrop, sBrk, sCnt, sFor, sOwn, ownAt, sApp, sExt, sPut, sFrz, sPar, mIxO, mLenO, mTupO, mVar, mC, mU, mB, mNil, mCons, mF, mIsT, mAndT, mOrT, mNotT, mAnd, mOr, mNot, mIf, mChain, mPart, mNoPart, mSl, mCall, mIt, mRng, mComp, mYes, gdName, gdTup, gdCons, gdNil, wipeE, tupItems_tup, lstItems_lst, bl_bl, int_int, mHx_eq, mHlen_eq, mHcell_eq, sHput_eq, isH_hnd, hget1, hget2, hget3, hget4, hset1, hset2, hset3, hset4, eq_int, ne_int, lt_int, gt_int, le_int, ge_int, eq_bl, add_int, add_tup, add_lst, sub_int, neg_int, isN_hi, notN_hi, mul_int, div_int, mod_int, pow_int, abs_int, intC_int, len_tup, len_lst, tup_D, lst_D, rt_D, Bool.not_not, Bool.not_true, Bool.not_false, true_and, and_true, false_and, and_false, or_true, true_or, or_false, false_or, List.length_cons, List.length_nil, List.length_append, List.length_map, List.map_cons, List.map_nil, List.replicate_succ, List.replicate_zero, List.cons_append, List.nil_append, List.append_nil, List.set_cons_zero, List.set_cons_succ, List.getElem?_cons_zero, List.getElem?_cons_succ, Option.bind_some, Option.map_some, Option.bind_none, Option.map_none, OW_some, OW_bind, OW_map, OW_if, Bool.false_eq_true, if_true, if_false, ↓reduceIte, Nat.reduceAdd, Nat.reduceSub, Nat.zero_add, Nat.sub_self, Function.comp, he]
    exact found_loop as n' _ _ _ _ (fun q hq => ha q (List.mem_cons_of_mem _ hq)) hR (fun k hk => hz (k + 1) (by rw [List.length_cons]; omega))
theorem few_fits : ∀ (as : List (List (Str × Int))) {L : List Int} {f : Rng}, (∀ ps ∈ as, ps ≠ [] ∧ ps.length ≤ 4 ∧ ∀ p ∈ ps, OkU p) → Fits L f → L.length + 8 * as.length ≤ 58 → ∃ M : List Int, M.length ≤ L.length + 8 * as.length ∧ Fits M (as.foldl addF f)
  | [], L, f, _, hf, _ => ⟨L, by simp, hf⟩
  | ps :: as, L, f, ha, hf, hz => by
    rw [List.length_cons] at hz
    obtain ⟨p0, p4, pw⟩ := ha ps (List.mem_cons_self ..)
    obtain ⟨M, m1, m2⟩ := addF_fits hf pw (by omega)
    obtain ⟨N, n1, n2⟩ := few_fits as (fun q hq => ha q (List.mem_cons_of_mem _ hq)) m2 (by omega)
    exact ⟨N, by rw [List.length_cons]; omega, n2⟩
theorem nil_fits : Fits [] [] := ⟨⟨fun _ h => (by cases h), rfl⟩, fun _ h => (by cases h)⟩
theorem few_len {as : List (List (Str × Int))} (hl : as.length ≤ 4) (ha : ∀ ps ∈ as, ps ≠ [] ∧ ps.length ≤ 4 ∧ ∀ p ∈ ps, OkU p) : ∀ k, k ≤ as.length → ((as.take k).foldl addF []).length ≤ 80 := fun k hk => by
  obtain ⟨M, m1, m2⟩ := few_fits (as.take k) (fun ps hp => ha ps (List.mem_of_mem_take hp)) nil_fits (by rw [List.length_nil, List.length_take]; omega)
  have := m2.len
  rw [List.length_nil, List.length_take] at m1
  omega
theorem pure_read {as : List (List (Str × Int))} {s : Hand} (h0 : as ≠ []) (hl : as.length ≤ 80) (ha : ∀ ps ∈ as, ps ≠ [] ∧ ps.length ≤ 4 ∧ ∀ p ∈ ps, OkU p) (hz : ∀ k, k ≤ as.length → ((as.take k).foldl addF []).length ≤ 80) : f_read_range [.str (Txt.join " | " (as.map aT))] s = some (rngD (as.foldl addF []), s) := by
  have h1 := join_len (" | " : Str) (as.map aT)
  have h2 := sum_le (l := as.map aT) (k := 112) fun x hx => by
    obtain ⟨ps, hp, e⟩ := List.mem_map.mp hx
    rw [← e]
    have := aT_len (ha ps hp).2.2
    have := (ha ps hp).2.1
    omega
  have h3 : (" | " : Str).length = 3 := by decide +kernel
  rw [List.length_map] at h1 h2
  rw [h3] at h1
  have hsp : splitD (.str (Txt.join " | " (as.map aT))) (.str " | ") = some (.lst (as.map fun ps => D.str (aT ps))) := by
    rw [split_D ⟨by decide +kernel, by rw [sizeLine_eq]; omega⟩, alts_split (fun ps hp => (ha ps hp).2.2) h0, List.map_map]
    rfl
  have hs0 : (0 ≤ sizeLine) = True := eq_true (Nat.zero_le _)
  have en : D.tup [] = rngD [] := rfl
  have it : isiD .tStr (.str (Txt.join " | " (as.map aT))) = some (.bl true) := rfl
  refine eq_of_OW ?_
  unfold f_read_range
  simp only [mDef_eq, outD_nx, outD_rt, startE, sNil, sSeq, thenS_nx, thenS_rt, thenS_bk, thenS_ct, sAsg, sIf, sRet, sRetN, sDrop, sBrk, sCnt, sFor, sOwn, ownAt, sApp, sExt, sPut, sFrz, sPar, mIxO, mLenO, mTupO, mVar, mC, mU, mB, mNil, mCons, mF, mIsT, mAndT, mOrT, mNotT, mAnd, mOr, mNot, mIf, mChain, mPart, mNoPart, mSl, mCall, mIt, mRng, mComp, mYes, gdName, gdTup, gdCons, gdNil, wipeE, tupItems_tup, lstItems_lst, bl_bl, int_int, mHx_eq, mHlen_eq, mHcell_eq, sHput_eq, isH_hnd, hget1, hget2, hget3, hget4, hset1, hset2, hset3, hset4, eq_int, ne_int, lt_int, gt_int, le_int, ge_int, eq_bl, add_int, add_tup, add_lst, sub_int, neg_int, isN_hi, notN_hi, mul_int, div_int, mod_int, pow_int, abs_int, intC_int, len_tup, len_lst, tup_D, lst_D, rt_D, Bool.not_not, Bool.not_true, Bool.not_false, true_and, and_true, false_and, and_false, or_true, true_or, or_false, false_or, List.length_cons, List.length_nil, List.length_append, List.length_map, List.map_cons, List.map_nil, List.replicate_succ, List.replicate_zero, List.cons_append, List.nil_append, List.append_nil, List.set_cons_zero, List.set_cons_succ, List.getElem?_cons_zero, List.getElem?_cons_succ, Option.bind_some, Option.map_some, Option.bind_none, Option.map_none, OW_some, OW_bind, OW_map, OW_if, Bool.false_eq_true, if_true, if_false, ↓reduceIte, Nat.reduceAdd, Nat.reduceSub, Nat.zero_add, Nat.sub_self, Function.comp, OW_eq it, hs0, en, OW_eq hsp]
  refine OW.walk (found_loop (s := s) as 0 none none none none ha nil_fits.1 hz) fun env hv => ?_
  obtain ⟨n', e3, e4, e5, e6, hv⟩ := hv
  subst hv
  simp only [mDef_eq, outD_nx, outD_rt, startE, sNil, sSeq, thenS_nx, thenS_rt, thenS_bk, thenS_ct, sAsg, sIf, sRet, sRetN, sDrop, sBrk, sCnt, sFor, sOwn, ownAt, sApp, sExt, sPut, sFrz, sPar, mIxO, mLenO, mTupO, mVar, mC, mU, mB, mNil, mCons, mF, mIsT, mAndT, mOrT, mNotT, mAnd, mOr, mNot, mIf, mChain, mPart, mNoPart, mSl, mCall, mIt, mRng, mComp, mYes, gdName, gdTup, gdCons, gdNil, wipeE, tupItems_tup, lstItems_lst, bl_bl, int_int, mHx_eq, mHlen_eq, mHcell_eq, sHput_eq, isH_hnd, hget1, hget2, hget3, hget4, hset1, hset2, hset3, hset4, eq_int, ne_int, lt_int, gt_int, le_int, ge_int, eq_bl, add_int, add_tup, add_lst, sub_int, neg_int, isN_hi, notN_hi, mul_int, div_int, mod_int, pow_int, abs_int, intC_int, len_tup, len_lst, tup_D, lst_D, rt_D, Bool.not_not, Bool.not_true, Bool.not_false, true_and, and_true, false_and, and_false, or_true, true_or, or_false, false_or, List.length_cons, List.length_nil, List.length_append, List.length_map, List.map_cons, List.map_nil, List.replicate_succ, List.replicate_zero, List.cons_append, List.nil_append, List.append_nil, List.set_cons_zero, List.set_cons_succ, List.getElem?_cons_zero, List.getElem?_cons_succ, Option.bind_some, Option.map_some, Option.bind_none, Option.map_none, OW_some, OW_bind, OW_map, OW_if, Bool.false_eq_true, if_true, if_false, ↓reduceIte, Nat.reduceAdd, Nat.reduceSub, Nat.zero_add, Nat.sub_self, Function.comp]
end K02

set_option Elab.async false
set_option linter.all false
set_option maxRecDepth 100000
set_option maxHeartbeats 4000000
namespace K02
open PySem
open L2
open Dl
open Txt
open TL
theorem law_is_str {a b : Str} {n : Nat} {s : Hand} : f__law_is (n + 1) [.str a, .str b] s = some (.bl (a == b), s) := by
  have i1 : ∀ x : Str, isiTD [.tTuple, .tList] (.str x) = some (.bl false) := fun _ => rfl
  have i2 : ∀ x : Str, isiD .tDict (.str x) = some (.bl false) := fun _ => rfl
  have i3 : ∀ x : Str, isiD .tBool (.str x) = some (.bl false) := fun _ => rfl
  refine eq_of_OW ?_
  show OW (g__law_is (f__law_is n) [.str a, .str b] s) _
  unfold g__law_is
  simp only [mDef_eq, outD_nx, outD_rt, startE, sNil, sSeq, thenS_nx, thenS_rt, thenS_bk, thenS_ct, sAsg, sIf, sRet, sRetN, sDrop, sBrk, sCnt, sFor, sOwn, ownAt, sApp, sExt, sPut, sFrz, sPar, mIxO, mLenO, mTupO, mVar, mC, mU, mB, mNil, mCons, mF, mIsT, mAndT, mOrT, mNotT, mAnd, mOr, mNot, mIf, mChain, mPart, mNoPart, mSl, mCall, mIt, mRng, mComp, mYes, gdName, gdTup, gdCons, gdNil, wipeE, tupItems_tup, lstItems_lst, bl_bl, int_int, mHx_eq, mHlen_eq, mHcell_eq, sHput_eq, isH_hnd, hget1, hget2, hget3, hget4, hset1, hset2, hset3, hset4, eq_int, ne_int, lt_int, gt_int, le_int, ge_int, eq_bl, add_int, add_tup, add_lst, sub_int, neg_int, isN_hi, notN_hi, mul_int, div_int, mod_int, pow_int, abs_int, intC_int, len_tup, len_lst, tup_D, lst_D, rt_D, Bool.not_not, Bool.not_true, Bool.not_false, true_and, and_true, false_and, and_false, or_true, true_or, or_false, false_or, List.length_cons, List.length_nil, List.length_append, List.length_map, List.map_cons, List.map_nil, List.replicate_succ, List.replicate_zero, List.cons_append, List.nil_append, List.append_nil, List.set_cons_zero, List.set_cons_succ, List.getElem?_cons_zero, List.getElem?_cons_succ, Option.bind_some, Option.map_some, Option.bind_none, Option.map_none, OW_some, OW_bind, OW_map, OW_if, Bool.false_eq_true, if_true, if_false, ↓reduceIte, Nat.reduceAdd, Nat.reduceSub, Nat.zero_add, Nat.sub_self, Function.comp, OW_eq (i1 b), OW_eq (i2 b), OW_eq (i3 b), OW_eq (i3 a), OW_eq (eq_str (a := a) (b := b)), beq_self_eq_true]
theorem law_is_int {a : Int} {n : Nat} {s : Hand} : f__law_is (n + 1) [.int a, .int a] s = some (.bl true, s) := by
  have i1 : isiTD [.tTuple, .tList] (.int a) = some (.bl false) := rfl
  have i2 : isiD .tDict (.int a) = some (.bl false) := rfl
  have i3 : isiD .tBool (.int a) = some (.bl false) := rfl
  refine eq_of_OW ?_
  show OW (g__law_is (f__law_is n) [.int a, .int a] s) _
  unfold g__law_is
  simp only [mDef_eq, outD_nx, outD_rt, startE, sNil, sSeq, thenS_nx, thenS_rt, thenS_bk, thenS_ct, sAsg, sIf, sRet, sRetN, sDrop, sBrk, sCnt, sFor, sOwn, ownAt, sApp, sExt, sPut, sFrz, sPar, mIxO, mLenO, mTupO, mVar, mC, mU, mB, mNil, mCons, mF, mIsT, mAndT, mOrT, mNotT, mAnd, mOr, mNot, mIf, mChain, mPart, mNoPart, mSl, mCall, mIt, mRng, mComp, mYes, gdName, gdTup, gdCons, gdNil, wipeE, tupItems_tup, lstItems_lst, bl_bl, int_int, mHx_eq, mHlen_eq, mHcell_eq, sHput_eq, isH_hnd, hget1, hget2, hget3, hget4, hset1, hset2, hset3, hset4, eq_int, ne_int, lt_int, gt_int, le_int, ge_int, eq_bl, add_int, add_tup, add_lst, sub_int, neg_int, isN_hi, notN_hi, mul_int, div_int, mod_int, pow_int, abs_int, intC_int, len_tup, len_lst, tup_D, lst_D, rt_D, Bool.not_not, Bool.not_true, Bool.not_false, true_and, and_true, false_and, and_false, or_true, true_or, or_false, false_or, List.length_cons, List.length_nil, List.length_append, List.length_map, List.map_cons, List.map_nil, List.replicate_succ, List.replicate_zero, List.cons_append, List.nil_append, List.append_nil, List.set_cons_zero, List.set_cons_succ, List.getElem?_cons_zero, List.getElem?_cons_succ, Option.bind_some, Option.map_some, Option.bind_none, Option.map_none, OW_some, OW_bind, OW_map, OW_if, Bool.false_eq_true, if_true, if_false, ↓reduceIte, Nat.reduceAdd, Nat.reduceSub, Nat.zero_add, Nat.sub_self, Function.comp, OW_eq i1, OW_eq i2, OW_eq i3, beq_self_eq_true]
theorem law_is_non {n : Nat} {s : Hand} : f__law_is (n + 1) [.non, .non] s = some (.bl true, s) := by
  have i1 : isiTD [.tTuple, .tList] .non = some (.bl false) := rfl
  have i2 : isiD .tDict .non = some (.bl false) := rfl
  have i3 : isiD .tBool .non = some (.bl false) := rfl
  have e : relD eqP .non .non = some (.bl true) := rfl
  refine eq_of_OW ?_
  show OW (g__law_is (f__law_is n) [.non, .non] s) _
  unfold g__law_is
  simp only [mDef_eq, outD_nx, outD_rt, startE, sNil, sSeq, thenS_nx, thenS_rt, thenS_bk, thenS_ct, sAsg, sIf, sRet, sRetN, sDrop, sBrk, sCnt, sFor, sOwn, ownAt, sApp, sExt, sPut, sFrz, sPar, mIxO, mLenO, mTupO, mVar, mC, mU, mB, mNil, mCons, mF, mIsT, mAndT, mOrT, mNotT, mAnd, mOr, mNot, mIf, mChain, mPart, mNoPart, mSl, mCall, mIt, mRng, mComp, mYes, gdName, gdTup, gdCons, gdNil, wipeE, tupItems_tup, lstItems_lst, bl_bl, int_int, mHx_eq, mHlen_eq, mHcell_eq, sHput_eq, isH_hnd, hget1, hget2, hget3, hget4, hset1, hset2, hset3, hset4, eq_int, ne_int, lt_int, gt_int, le_int, ge_int, eq_bl, add_int, add_tup, add_lst, sub_int, neg_int, isN_hi, notN_hi, mul_int, div_int, mod_int, pow_int, abs_int, intC_int, len_tup, len_lst, tup_D, lst_D, rt_D, Bool.not_not, Bool.not_true, Bool.not_false, true_and, and_true, false_and, and_false, or_true, true_or, or_false, false_or, List.length_cons, List.length_nil, List.length_append, List.length_map, List.map_cons, List.map_nil, List.replicate_succ, List.replicate_zero, List.cons_append, List.nil_append, List.append_nil, List.set_cons_zero, List.set_cons_succ, List.getElem?_cons_zero, List.getElem?_cons_succ, Option.bind_some, Option.map_some, Option.bind_none, Option.map_none, OW_some, OW_bind, OW_map, OW_if, Bool.false_eq_true, if_true, if_false, ↓reduceIte, Nat.reduceAdd, Nat.reduceSub, Nat.zero_add, Nat.sub_self, Function.comp, OW_eq i1, OW_eq i2, OW_eq i3, OW_eq e, beq_self_eq_true]
end K02

set_option Elab.async false
set_option linter.all false
set_option maxRecDepth 100000
set_option maxHeartbeats 4000000
namespace K02
open PySem
open L2
open Dl
open Txt
open TL
theorem is_inner (R : List D → Option (List D)) (C : ME Hand) {ds xs bs : List D} {s : Hand} (hR : R [.int ((ds.length : Nat) : Int)] = some xs) (hc : compL (gdName 2) mYes C [some (.dat (.tup ds)), some (.dat (.tup ds)), none, none] xs s = some (bs, s)) (ha : allD [.lst bs] = some (.bl true)) :
    mAnd (mB (relD eqP) (mF lenD (mCons (mVar 0) mNil)) (mF lenD (mCons (mVar 1) mNil))) (mF allD (mCons (mComp (mRng R (mCons (mF lenD (mCons (mVar 1) mNil)) mNil)) (gdName 2) mYes C [2]) mNil)) [some (.dat (.tup ds)), some (.dat (.tup ds)), none, none] s = some (.bl true, s) := by
  refine eq_of_OW ?_
  simp only [mDef_eq, outD_nx, outD_rt, startE, sNil, sSeq, thenS_nx, thenS_rt, thenS_bk, thenS_ct, sAsg, sIf, sRet, sRetN, sDrop, sBrk, sCnt, sFor, sOwn, ownAt, sApp, sExt, sPut, sFrz, sPar, mIxO, mLenO, mTupO, mVar, mC, mU, mB, mNil, mCons, mF, mIsT, mAndT, mOrT, mNotT, mAnd, mOr, mNot, mIf, mChain, mPart, mNoPart, mSl, mCall, mIt, mRng, mComp, mYes, gdName, gdTup, gdCons, gdNil, wipeE, tupItems_tup, lstItems_lst, bl_bl, int_int, mHx_eq, mHlen_eq, mHcell_eq, sHput_eq, isH_hnd, hget1, hget2, hget3, hget4, hset1, hset2, hset3, hset4, eq_int, ne_int, lt_int, gt_int, le_int, ge_int, eq_bl, add_int, add_tup, add_lst, sub_int, neg_int, isN_hi, notN_hi, mul_int, div_int, mod_int, pow_int, abs_int, intC_int, len_tup, len_lst, tup_D, lst_D, rt_D, Bool.not_not, Bool.not_true, Bool.not_false, true_and, and_true, false_and, and_false, or_true, true_or, or_false, false_or, List.length_cons, List.length_nil, List.length_append, List.length_map, List.map_cons, List.map_nil, List.replicate_succ, List.replicate_zero, List.cons_append, List.nil_append, List.append_nil, List.set_cons_zero, List.set_cons_succ, List.getElem?_cons_zero, List.getElem?_cons_succ, Option.bind_some, Option.map_some, Option.bind_none, Option.map_none, OW_some, OW_bind, OW_map, OW_if, Bool.false_eq_true, if_true, if_false, ↓reduceIte, Nat.reduceAdd, Nat.reduceSub, Nat.zero_add, Nat.sub_self, Function.comp, beq_self_eq_true, OW_eq hR, OW_eq hc, OW_eq ha]
theorem is_outer (X : ME Hand) (rest : MS Hand) {ds : List D} {s : Hand} (hX : X [some (.dat (.tup ds)), some (.dat (.tup ds)), none, none] s = some (.bl true, s)) :
    mDef 4 (sSeq (sIf (mIsT (mU (isiTD [.tTuple, .tList]) (mVar 1))) (sSeq (sIf (mOrT (mIsT (mB (relD neP) (mU (isiD .tTuple) (mVar 0)) (mU (isiD .tTuple) (mVar 1)))) (mIsT (mB (relD neP) (mU (isiD .tList) (mVar 0)) (mU (isiD .tList) (mVar 1))))) (sRet (mC (.bl false))) sNil) (sRet X)) sNil) rest) [.tup ds, .tup ds] s = some (.bl true, s) := by
  have i1 : isiTD [.tTuple, .tList] (.tup ds) = some (.bl true) := rfl
  have i2 : isiD .tTuple (.tup ds) = some (.bl true) := rfl
  have i3 : isiD .tList (.tup ds) = some (.bl false) := rfl
  have nt : relD neP (.bl true) (.bl true) = some (.bl false) := rfl
  have nf : relD neP (.bl false) (.bl false) = some (.bl false) := rfl
  refine eq_of_OW ?_
  simp only [mDef_eq, outD_nx, outD_rt, startE, sNil, sSeq, thenS_nx, thenS_rt, thenS_bk, thenS_ct, sAsg, sIf, sRet, sRetN, sDrop, sBrk, sCnt, sFor, sOwn, ownAt, sApp, sExt, sPut, sFrz, sPar, mIxO, mLenO, mTupO, mVar, mC, mU, mB, mNil, mCons, mF, mIsT, mAndT, mOrT, mNotT, mAnd, mOr, mNot, mIf, mChain, mPart, mNoPart, mSl, mCall, mIt, mRng, mComp, mYes, gdName, gdTup, gdCons, gdNil, wipeE, tupItems_tup, lstItems_lst, bl_bl, int_int, mHx_eq, mHlen_eq, mHcell_eq, sHput_eq, isH_hnd, hget1, hget2, hget3, hget4, hset1, hset2, hset3, hset4, eq_int, ne_int, lt_int, gt_int, le_int, ge_int, eq_bl, add_int, add_tup, add_lst, sub_int, neg_int, isN_hi, notN_hi, mul_int, div_int, mod_int, pow_int, abs_int, intC_int, len_tup, len_lst, tup_D, lst_D, rt_D, Bool.not_not, Bool.not_true, Bool.not_false, true_and, and_true, false_and, and_false, or_true, true_or, or_false, false_or, List.length_cons, List.length_nil, List.length_append, List.length_map, List.map_cons, List.map_nil, List.replicate_succ, List.replicate_zero, List.cons_append, List.nil_append, List.append_nil, List.set_cons_zero, List.set_cons_succ, List.getElem?_cons_zero, List.getElem?_cons_succ, Option.bind_some, Option.map_some, Option.bind_none, Option.map_none, OW_some, OW_bind, OW_map, OW_if, Bool.false_eq_true, if_true, if_false, ↓reduceIte, Nat.reduceAdd, Nat.reduceSub, Nat.zero_add, Nat.sub_self, Function.comp, OW_eq i1, OW_eq i2, OW_eq i3, OW_eq nt, OW_eq nf, OW_eq hX]
theorem law_is_tup {ds : List D} {n : Nat} {s : Hand} (hz : ds.length ≤ 1000) (h : ∀ d ∈ ds, f__law_is n [d, d] s = some (.bl true, s)) : f__law_is (n + 1) [.tup ds, .tup ds] s = some (.bl true, s) := by
  have hr : rng1D [.int ((ds.length : Nat) : Int)] = some (rngOf 0 ds.length) := rng1_nat (by omega)
  have ec : compL (gdName 2) mYes (c__law_is_0 (f__law_is n)) [some (.dat (.tup ds)), some (.dat (.tup ds)), none, none] (rngOf 0 ds.length) s = some ((rngOf 0 ds.length).map fun x => .bl ((fun _ => true) x), s) := by
    refine comp_pure fun x hx => ⟨_, rfl, ?_⟩
    unfold rngOf at hx
    obtain ⟨i, hi, e⟩ := List.mem_map.mp hx
    subst e
    have hi' : i < ds.length := by simpa using hi
    have e0 : (0 : Int) + (i : Int) = (i : Int) := by omega
    have ei : ixD (.tup ds) (.int (i : Int)) = some ds[i] := by rw [ix_nat, List.getElem?_eq_getElem hi']
    rw [c__law_is_0_eq]
    refine eq_of_OW ?_
    simp only [mDef_eq, outD_nx, outD_rt, startE, sNil, sSeq, thenS_nx, thenS_rt, thenS_bk, thenS_ct, sAsg, sIf, sRet, sRetN, sDrop, sBrk, sCnt, sFor, sOwn, ownAt, sApp, sExt, sPut, sFrz, sPar, mIxO, mLenO, mTupO, mVar, mC, mU, mB, mNil, mCons, mF, mIsT, mAndT, mOrT, mNotT, mAnd, mOr, mNot, mIf, mChain, mPart, mNoPart, mSl, mCall, mIt, mRng, mComp, mYes, gdName, gdTup, gdCons, gdNil, wipeE, tupItems_tup, lstItems_lst, bl_bl, int_int, mHx_eq, mHlen_eq, mHcell_eq, sHput_eq, isH_hnd, hget1, hget2, hget3, hget4, hset1, hset2, hset3, hset4, eq_int, ne_int, lt_int, gt_int, le_int, ge_int, eq_bl, add_int, add_tup, add_lst, sub_int, neg_int, isN_hi, notN_hi, mul_int, div_int, mod_int, pow_int, abs_int, intC_int, len_tup, len_lst, tup_D, lst_D, rt_D, Bool.not_not, Bool.not_true, Bool.not_false, true_and, and_true, false_and, and_false, or_true, true_or, or_false, false_or, List.length_cons, List.length_nil, List.length_append, List.length_map, List.map_cons, List.map_nil, List.replicate_succ, List.replicate_zero, List.cons_append, List.nil_append, List.append_nil, List.set_cons_zero, List.set_cons_succ, List.getElem?_cons_zero, List.getElem?_cons_succ, Option.bind_some, Option.map_some, Option.bind_none, Option.map_none, OW_some, OW_bind, OW_map, OW_if, Bool.false_eq_true, if_true, if_false, ↓reduceIte, Nat.reduceAdd, Nat.reduceSub, Nat.zero_add, Nat.sub_self, Function.comp, e0, OW_eq ei, h _ (List.getElem_mem hi')]
  have ha : allD [.lst ((rngOf 0 ds.length).map fun x => .bl ((fun _ => true) x))] = some (.bl true) := by
    rw [all_map]
    simp
  show g__law_is (f__law_is n) [.tup ds, .tup ds] s = some (.bl true, s)
  unfold g__law_is
  exact is_outer _ _ (is_inner rng1D _ hr ec ha)
theorem law_is_ver {x : Int} {n : Nat} {s : Hand} : f__law_is (n + 2) [verD x, verD x] s = some (.bl true, s) := by
  refine law_is_tup (by show 3 ≤ 1000; omega) fun d hd => ?_
  obtain ⟨i, _, e⟩ := List.mem_map.mp hd
  subst e
  exact law_is_int
theorem law_is_rng {r : Rng} {n : Nat} {s : Hand} (hz : r.length ≤ 1000) : f__law_is (n + 4) [rngD r, rngD r] s = some (.bl true, s) := by
  refine law_is_tup (by rw [List.length_map]; exact hz) fun d hd => ?_
  obtain ⟨p, _, e⟩ := List.mem_map.mp hd
  subst e
  obtain ⟨lo, hi⟩ := p
  refine law_is_tup (by show 2 ≤ 1000; omega) fun d hd => ?_
  rcases List.mem_cons.mp hd with e | e
  · subst e; exact law_is_ver
  · rw [List.mem_singleton.mp e]
    cases hi with
    | none => exact law_is_non
    | some h => exact law_is_ver
end K02

set_option Elab.async false
set_option linter.all false
set_option maxRecDepth 100000
set_option maxHeartbeats 4000000
namespace K02
open PySem
open L2
open Dl
open Txt
open TL
theorem join_one (y a : Str) : Txt.join y [a] = a := tl_inj (by rw [join_eq, tl_join]; rfl)
theorem join_two (y a b : Str) : Txt.join y [a, b] = a ++ (y ++ b) := tl_inj (by rw [join_eq, tl_join, app_tl, app_tl]; rfl)
theorem raw_no {x : Int} : rawS "" x = [(x, some (x + 1))] := by
  unfold rawS
  rw [if_pos rfl]
theorem raw_lt {x : Int} : rawS "<" x = [(0, some x)] := by
  unfold rawS
  rw [if_neg (by decide +kernel), if_pos rfl]
theorem raw_ge {x : Int} : rawS ">=" x = [(x, none)] := by
  unfold rawS
  rw [if_neg (by decide +kernel), if_neg (by decide +kernel), if_neg (by decide +kernel), if_neg (by decide +kernel), if_pos rfl]
/-- the parts of a stretch's text -/
def sP (p : Int × Option Int) : List (Str × Int) := match p.2 with
  | none => [(">=", p.1)]
  | some h => if h = p.1 + 1 then [("", p.1)] else [(">=", p.1), ("<", h)]
theorem okU_ge {x : Int} (h : OkV x) : OkU (">=", x) := ⟨.inr (.tail _ (.tail _ (.head _))), h, fun q hq => by
  have hq' : q ∈ rawS ">=" x := hq
  rw [raw_ge] at hq'
  rw [List.mem_singleton.mp hq']
  exact ⟨h, fun _ e => by cases e⟩⟩
theorem okU_lt {x : Int} (h : OkV x) : OkU ("<", x) := ⟨.inr (.tail _ (.tail _ (.tail _ (.head _)))), h, fun q hq => by
  have hq' : q ∈ rawS "<" x := hq
  rw [raw_lt] at hq'
  rw [List.mem_singleton.mp hq']
  exact ⟨okV0, fun _ e => by cases e; exact h⟩⟩
theorem okU_no {x : Int} (h : OkV x) (h2 : OkV (x + 1)) : OkU ("", x) := ⟨.inr (.head _), h, fun q hq => by
  have hq' : q ∈ rawS "" x := hq
  rw [raw_no] at hq'
  rw [List.mem_singleton.mp hq']
  exact ⟨h, fun _ e => by cases e; exact h2⟩⟩
theorem sP_ok {p : Int × Option Int} (h : OkS p) : ∀ q ∈ sP p, OkU q := fun q hq => by
  obtain ⟨lo, hi⟩ := p
  cases hi with
  | none =>
    rw [List.mem_singleton.mp (show q ∈ ([(">=", lo)] : List (Str × Int)) from hq)]
    exact okU_ge h.1
  | some b =>
    have hb := (h.2 b rfl).1
    unfold sP at hq
    dsimp only at hq
    split at hq
    · rename_i e
      subst e
      rw [List.mem_singleton.mp hq]
      exact okU_no h.1 hb
    · rcases List.mem_cons.mp hq with e | e
      · rw [e]; exact okU_ge h.1
      · rw [List.mem_singleton.mp e]; exact okU_lt hb
theorem sP_len (p : Int × Option Int) : sP p ≠ [] ∧ (sP p).length ≤ 2 := by
  obtain ⟨lo, hi⟩ := p
  cases hi with
  | none => exact ⟨fun e => (by cases e), (by show 1 ≤ 2; omega)⟩
  | some b =>
    unfold sP
    dsimp only
    split
    · exact ⟨fun e => (by cases e), (by show 1 ≤ 2; omega)⟩
    · exact ⟨fun e => (by cases e), (by show 2 ≤ 2; omega)⟩
theorem pX_ge {x : Int} : pX (">=", x) = [(x, none)] := by
  unfold pX
  rw [if_neg (show ¬ (">=" : Str) = "*" by decide +kernel)]
  unfold partR
  rw [raw_ge]
  rfl
theorem pX_lt {x : Int} (h : 0 < x) : pX ("<", x) = [(0, some x)] := by
  unfold pX
  rw [if_neg (show ¬ ("<" : Str) = "*" by decide +kernel)]
  unfold partR
  rw [raw_lt, List.filter_cons_of_pos (by show decide (0 < x) = true; exact decide_eq_true h)]
  rfl
theorem pX_no {x : Int} : pX ("", x) = [(x, some (x + 1))] := by
  unfold pX
  rw [if_neg (show ¬ ("" : Str) = "*" by decide +kernel)]
  unfold partR
  rw [raw_no, List.filter_cons_of_pos (by show decide (x < x + 1) = true; exact decide_eq_true (by omega))]
  rfl
theorem has_one (p : Int × Option Int) (v : Int) : has [p] v = inS p v := by
  show (inS p v || false) = _
  rw [Bool.or_false]
theorem has_whole {v : Int} (v0 : 0 ≤ v) : has [(0, none)] v = true := by
  rw [has_one]
  show (decide (0 ≤ v) && true) = true
  rw [decide_eq_true v0]
  rfl
theorem sP_has {p : Int × Option Int} (h : OkS p) {v : Int} (v0 : 0 ≤ v) : has ((sP p).foldl addK [(0, none)]) v = inS p v := by
  obtain ⟨lo, hi⟩ := p
  cases hi with
  | none =>
    show has (bothR [(0, none)] (pX (">=", lo))) v = _
    rw [both_has, has_whole v0, pX_ge, has_one, Bool.true_and]
  | some b =>
    have hb : lo < b := (h.2 b rfl).2
    have hl : 0 ≤ lo := h.1.1
    unfold sP
    dsimp only
    split
    · rename_i e
      subst e
      show has (bothR [(0, none)] (pX ("", lo))) v = _
      rw [both_has, has_whole v0, pX_no, has_one, Bool.true_and]
    · show has (bothR (bothR [(0, none)] (pX (">=", lo))) (pX ("<", b))) v = _
      rw [both_has, both_has, has_whole v0, pX_ge, pX_lt (by omega), has_one, has_one, Bool.true_and]
      show ((decide (lo ≤ v) && true) && (decide (0 ≤ v) && decide (v < b))) = (decide (lo ≤ v) && decide (v < b))
      rw [decide_eq_true v0, Bool.and_true, Bool.true_and]
theorem okR_take {r : Rng} (h : OkR r) (k : Nat) : OkR (r.take k) := okR_iff.mpr ⟨fun p hp => h.1 p (List.mem_of_mem_take hp), (okR_iff.mp h).2.sublist (List.take_sublist k r)⟩
theorem has_app (a b : Rng) (v : Int) : has (a ++ b) v = (has a v || has b v) := List.any_append
theorem kept_okR {ps : List (Str × Int)} (h : ∀ p ∈ ps, OkU p) (hl : ps.length ≤ 4) : OkR (ps.foldl addK [(0, none)]) := by
  obtain ⟨N, _, n2⟩ := kept_fits ps h whole_fits (by rw [List.length_nil]; omega)
  exact n2.1
theorem add_sP {a : Rng} {p : Int × Option Int} (hr : OkR (a ++ [p])) (ha : OkR a) : addF a (sP p) = a ++ [p] := by
  have hp : OkS p := hr.1 p (by simp)
  have hk := kept_okR (sP_ok hp) (by have := (sP_len p).2; omega)
  refine okR_uniq (either_ok ha hk) hr fun v v0 => ?_
  unfold addF
  rw [either_has ha hk v0, sP_has hp v0, has_app, has_one]
theorem fold_sP {r : Rng} (h : OkR r) : ∀ k, k ≤ r.length → ((r.take k).map sP).foldl addF [] = r.take k
  | 0, _ => rfl
  | k + 1, hk => by
    have hk' : k < r.length := hk
    have e : r.take (k + 1) = r.take k ++ [r[k]] := by
      rw [List.take_succ, List.getElem?_eq_getElem hk']
      rfl
    have h1 := okR_take h (k + 1)
    rw [e] at h1 ⊢
    rw [List.map_append, List.foldl_append, fold_sP h k (by omega)]
    exact add_sP h1 (okR_take h k)
theorem read_rng {r : Rng} {s : Hand} (h : OkR r) (h0 : r ≠ []) (hl : r.length ≤ 80) : f_read_range [.str (Txt.join " | " ((r.map sP).map aT))] s = some (rngD r, s) := by
  have e := pure_read (s := s) (as := r.map sP) (fun z => h0 (List.map_eq_nil_iff.mp z)) (by rw [List.length_map]; exact hl) (fun ps hps => by
    obtain ⟨p, hp, e⟩ := List.mem_map.mp hps
    subst e
    exact ⟨(sP_len p).1, (by have := (sP_len p).2; omega), sP_ok (h.1 p hp)⟩) (fun k hk => by
    rw [List.length_map] at hk
    rw [← List.map_take, fold_sP h k hk, List.length_take]
    omega)
  have e2 := fold_sP h r.length (Nat.le_refl _)
  rw [List.take_length] at e2
  rw [e2] at e
  exact e
end K02

set_option Elab.async false
set_option linter.all false
set_option maxRecDepth 100000
set_option maxHeartbeats 4000000
namespace K02
open PySem
open L2
open Dl
open Txt
open TL
theorem eq_verA {x y : Int} : relD eqP (verD x) (verD y) = some (.bl (decide (x = y))) := by
  show some (D.bl (((x / 100000000000000) == (y / 100000000000000)) && (((x / 10000000 % 10000000) == (y / 10000000 % 10000000)) && (((x % 10000000) == (y % 10000000)) && true)))) = _
  congr 2
  rw [Bool.eq_iff_iff]
  simp only [Bool.and_eq_true, beq_iff_eq, decide_eq_true_eq, and_true]
  omega
theorem aT_ge (x : Int) : aT [(">=", x)] = ">=" ++ verT x := by
  show Txt.join ", " [pT (">=", x)] = _
  rw [join_one]
  unfold pT
  rw [if_neg (show ¬ (">=" : Str) = "*" by decide +kernel)]
theorem aT_no (x : Int) : aT [("", x)] = verT x := by
  show Txt.join ", " [pT ("", x)] = _
  rw [join_one]
  unfold pT
  rw [if_neg (show ¬ ("" : Str) = "*" by decide +kernel)]
  exact tl_inj (by rw [app_tl]; rfl)
theorem aT_two (x y : Int) : aT [(">=", x), ("<", y)] = (">=" ++ verT x) ++ (", " ++ ("<" ++ verT y)) := by
  show Txt.join ", " [pT (">=", x), pT ("<", y)] = _
  rw [join_two]
  unfold pT
  rw [if_neg (show ¬ (">=" : Str) = "*" by decide +kernel), if_neg (show ¬ ("<" : Str) = "*" by decide +kernel)]
theorem two_a (a b : Str) : (((">=" ++ a) ++ ", ") ++ "<") ++ b = (">=" ++ a) ++ (", " ++ ("<" ++ b)) := tl_inj (by simp only [app_tl, List.append_assoc])
theorem two_b (a b : Str) : ((">=" ++ a) ++ ", <") ++ b = (">=" ++ a) ++ (", " ++ ("<" ++ b)) := tl_inj (by
  have e : tl (", <" : Str) = tl (", " : Str) ++ tl ("<" : Str) := by decide +kernel
  simp only [app_tl, List.append_assoc, e])
theorem l_ge : (">=" : Str).length = 2 := by decide +kernel
theorem l_cm : (", " : Str).length = 2 := by decide +kernel
theorem l_lt : ("<" : Str).length = 1 := by decide +kernel
theorem l_cl : (", <" : Str).length = 3 := by decide +kernel
theorem pure_stretch_text {p : Int × Option Int} {s : Hand} (h : OkS p) : f_stretch_text [strD p] s = some (.str (aT (sP p)), s) := by
  obtain ⟨lo, hi⟩ := p
  have es : strD (lo, hi) = .tup [verD lo, hiD hi] := rfl
  have h1 : (verT lo).length ≤ 24 := verT_len h.1
  have a1 := add_str (a := ">=") (b := verT lo) (by rw [sizeLine_eq, l_ge]; omega)
  refine eq_of_OW ?_
  unfold f_stretch_text
  cases hi with
  | none =>
    simp only [es, mDef_eq, outD_nx, outD_rt, startE, sNil, sSeq, thenS_nx, thenS_rt, thenS_bk, thenS_ct, sAsg, sIf, sRet, sRetN, sDrop, sBrk, sCnt, sFor, sOwn, ownAt, sApp, sExt, sPut, sFrz, sPar, mIxO, mLenO, mTupO, mVar, mC, mU, mB, mNil, mCons, mF, mIsT, mAndT, mOrT, mNotT, mAnd, mOr, mNot, mIf, mChain, mPart, mNoPart, mSl, mCall, mIt, mRng, mComp, mYes, gdName, gdTup, gdCons, gdNil, wipeE, tupItems_tup, lstItems_lst, bl_bl, int_int, mHx_eq, mHlen_eq, mHcell_eq, sHput_eq, isH_hnd, hget1, hget2, hget3, hget4, hset1, hset2, hset3, hset4, eq_int, ne_int, lt_int, gt_int, le_int, ge_int, eq_bl, add_int, add_tup, add_lst, sub_int, neg_int, isN_hi, notN_hi, mul_int, div_int, mod_int, pow_int, abs_int, intC_int, len_tup, len_lst, tup_D, lst_D, rt_D, Bool.not_not, Bool.not_true, Bool.not_false, true_and, and_true, false_and, and_false, or_true, true_or, or_false, false_or, List.length_cons, List.length_nil, List.length_append, List.length_map, List.map_cons, List.map_nil, List.replicate_succ, List.replicate_zero, List.cons_append, List.nil_append, List.append_nil, List.set_cons_zero, List.set_cons_succ, List.getElem?_cons_zero, List.getElem?_cons_succ, Option.bind_some, Option.map_some, Option.bind_none, Option.map_none, OW_some, OW_bind, OW_map, OW_if, Bool.false_eq_true, if_true, if_false, ↓reduceIte, Nat.reduceAdd, Nat.reduceSub, Nat.zero_add, Nat.sub_self, Function.comp, Option.isNone_none, pure_version_text h.1, OW_eq a1]
    rw [show sP (lo, none) = ([(">=", lo)] : List (Str × Int)) from rfl, aT_ge]
  | some b =>
    have hb := (h.2 b rfl).1
    have h2 := verT_len hb
    have eb : hiD (some b) = verD b := rfl
    simp only [es, mDef_eq, outD_nx, outD_rt, startE, sNil, sSeq, thenS_nx, thenS_rt, thenS_bk, thenS_ct, sAsg, sIf, sRet, sRetN, sDrop, sBrk, sCnt, sFor, sOwn, ownAt, sApp, sExt, sPut, sFrz, sPar, mIxO, mLenO, mTupO, mVar, mC, mU, mB, mNil, mCons, mF, mIsT, mAndT, mOrT, mNotT, mAnd, mOr, mNot, mIf, mChain, mPart, mNoPart, mSl, mCall, mIt, mRng, mComp, mYes, gdName, gdTup, gdCons, gdNil, wipeE, tupItems_tup, lstItems_lst, bl_bl, int_int, mHx_eq, mHlen_eq, mHcell_eq, sHput_eq, isH_hnd, hget1, hget2, hget3, hget4, hset1, hset2, hset3, hset4, eq_int, ne_int, lt_int, gt_int, le_int, ge_int, eq_bl, add_int, add_tup, add_lst, sub_int, neg_int, isN_hi, notN_hi, mul_int, div_int, mod_int, pow_int, abs_int, intC_int, len_tup, len_lst, tup_D, lst_D, rt_D, Bool.not_not, Bool.not_true, Bool.not_false, true_and, and_true, false_and, and_false, or_true, true_or, or_false, false_or, List.length_cons, List.length_nil, List.length_append, List.length_map, List.map_cons, List.map_nil, List.replicate_succ, List.replicate_zero, List.cons_append, List.nil_append, List.append_nil, List.set_cons_zero, List.set_cons_succ, List.getElem?_cons_zero, List.getElem?_cons_succ, Option.bind_some, Option.map_some, Option.bind_none, Option.map_none, OW_some, OW_bind, OW_map, OW_if, Bool.false_eq_true, if_true, if_false, ↓reduceIte, Nat.reduceAdd, Nat.reduceSub, Nat.zero_add, Nat.sub_self, Function.comp, Option.isNone_some, pure_behind h.1]
    rw [eb]
    simp only [OW_eq eq_verA, mDef_eq, outD_nx, outD_rt, startE, sNil, sSeq, thenS_nx, thenS_rt, thenS_bk, thenS_ct, sAsg, sIf, sRet, sRetN, sDrop, sBrk, sCnt, sFor, sOwn, ownAt, sApp, sExt, sPut, sFrz, sPar, mIxO, mLenO, mTupO, mVar, mC, mU, mB, mNil, mCons, mF, mIsT, mAndT, mOrT, mNotT, mAnd, mOr, mNot, mIf, mChain, mPart, mNoPart, mSl, mCall, mIt, mRng, mComp, mYes, gdName, gdTup, gdCons, gdNil, wipeE, tupItems_tup, lstItems_lst, bl_bl, int_int, mHx_eq, mHlen_eq, mHcell_eq, sHput_eq, isH_hnd, hget1, hget2, hget3, hget4, hset1, hset2, hset3, hset4, eq_int, ne_int, lt_int, gt_int, le_int, ge_int, eq_bl, add_int, add_tup, add_lst, sub_int, neg_int, isN_hi, notN_hi, mul_int, div_int, mod_int, pow_int, abs_int, intC_int, len_tup, len_lst, tup_D, lst_D, rt_D, Bool.not_not, Bool.not_true, Bool.not_false, true_and, and_true, false_and, and_false, or_true, true_or, or_false, false_or, List.length_cons, List.length_nil, List.length_append, List.length_map, List.map_cons, List.map_nil, List.replicate_succ, List.replicate_zero, List.cons_append, List.nil_append, List.append_nil, List.set_cons_zero, List.set_cons_succ, List.getElem?_cons_zero, List.getElem?_cons_succ, Option.bind_some, Option.map_some, Option.bind_none, Option.map_none, OW_some, OW_bind, OW_map, OW_if, Bool.false_eq_true, if_true, if_false, ↓reduceIte, Nat.reduceAdd, Nat.reduceSub, Nat.zero_add, Nat.sub_self, Function.comp, pure_version_text h.1, pure_version_text hb]
    by_cases c : b = lo + 1
    · have e2 : sP (lo, some b) = ([("", lo)] : List (Str × Int)) := by
        unfold sP
        dsimp only
        rw [if_pos c]
      rw [e2, aT_no, decide_eq_true c, if_pos rfl]
    · have e2 : sP (lo, some b) = ([(">=", lo), ("<", b)] : List (Str × Int)) := by
        unfold sP
        dsimp only
        rw [if_neg c]
      have a2 := add_str (a := ">=" ++ verT lo) (b := ", ") (by rw [sizeLine_eq, app_len, l_ge, l_cm]; omega)
      have a3 := add_str (a := (">=" ++ verT lo) ++ ", ") (b := "<") (by rw [sizeLine_eq, app_len, app_len, l_ge, l_cm, l_lt]; omega)
      have a4 := add_str (a := ((">=" ++ verT lo) ++ ", ") ++ "<") (b := verT b) (by rw [sizeLine_eq, app_len, app_len, app_len, l_ge, l_cm, l_lt]; omega)
      rw [e2, aT_two, decide_eq_false c, if_neg Bool.false_ne_true]
      simp only [OW_eq a1, OW_eq a2, OW_eq a3, OW_eq a4]
      rw [two_a]
/-- a range's text -/
def rT (r : Rng) : Str := if r = [(0, none)] then "*" else if r = [] then "<0.0.0" else Txt.join " | " ((r.map sP).map aT)
theorem noB_ver (x : Int) : noB (verD x) = true := rfl
theorem noB_hi (h : Option Int) : noB (hiD h) = true := by cases h <;> rfl
theorem noB_str (p : Int × Option Int) : noB (strD p) = true := by
  obtain ⟨lo, hi⟩ := p
  show (noB (verD lo) && (noB (hiD hi) && true)) = true
  rw [noB_ver, noB_hi]
  rfl
theorem noB_rng (r : Rng) : noB (rngD r) = true := noBL_map noB_str r
theorem dep_ver (x : Int) : depD (verD x) = 1 := rfl
theorem dep_hi (h : Option Int) : depD (hiD h) ≤ 1 := by
  cases h with
  | none => exact Nat.zero_le _
  | some y => exact Nat.le_of_eq (dep_ver y)
theorem dep_str (p : Int × Option Int) : depD (strD p) ≤ 2 := by
  obtain ⟨lo, hi⟩ := p
  show max (depD (verD lo)) (max (depD (hiD hi)) 0) + 1 ≤ 2
  have := dep_hi hi
  rw [dep_ver]
  omega
theorem dep_rng (r : Rng) : depD (rngD r) ≤ 3 := Nat.succ_le_succ (depDL_map dep_str r)
theorem rng_inj {r q : Rng} (h : rngD r = rngD q) : r = q := rngD_inj (D.tup.inj h)
theorem eq_rng {r q : Rng} : relD eqP (rngD r) (rngD q) = some (.bl (decide (r = q))) := by
  rw [relD_eq (noB_rng r) (noB_rng q) (.inl (by have := dep_rng r; omega))]
  congr 2
  rw [Bool.eq_iff_iff, decide_eq_true_eq, decide_eq_true_eq]
  exact ⟨rng_inj, fun e => by rw [e]⟩
theorem ws_eq : D.tup [D.tup [verD 0, D.non]] = rngD [(0, none)] := rfl
theorem nil_eq : D.tup [] = rngD [] := rfl
theorem sum_texts {r : Rng} (h : ∀ p ∈ r, OkS p) (hl : r.length ≤ 80) : (((r.map sP).map aT).map (·.length)).sum + ((r.map sP).map aT).length * (" | " : Str).length ≤ 16777216 := by
  have h2 := sum_le (l := (r.map sP).map aT) (k := 56) fun x hx => by
    obtain ⟨ps, hps, e⟩ := List.mem_map.mp hx
    obtain ⟨p, hp, e2⟩ := List.mem_map.mp hps
    subst e2
    rw [← e]
    have h1 := aT_len (sP_ok (h p hp))
    have h2 := (sP_len p).2
    omega
  have h3 : (" | " : Str).length = 3 := by decide +kernel
  rw [List.length_map, List.length_map] at h2 ⊢
  rw [h3]
  omega
theorem ver0_text {s : Hand} : f_version_text [verD 0] s = some (.str (verT 0), s) := pure_version_text okV0
theorem low_text : ("<" : Str) ++ verT 0 = "<0.0.0" := by decide +kernel
theorem texts_map (r : Rng) : r.map (fun p => D.str (aT (sP p))) = ((r.map sP).map aT).map D.str := by
  rw [List.map_map, List.map_map]
  rfl
theorem pure_range_text {r : Rng} {s : Hand} (h : OkR r) (hl : r.length ≤ 80) : f_range_text [rngD r] s = some (.str (rT r), s) := by
  have it : tupItems (rngD r) = some (r.map strD) := rfl
  have ec : compL (gdName 1) mYes c_range_text_0 [some (.dat (rngD r)), none] (r.map strD) s = some (r.map fun p => .str (aT (sP p)), s) := comp_map r fun p hp => ⟨_, rfl, by
    rw [c_range_text_0_eq]
    refine eq_of_OW ?_
    simp only [mDef_eq, outD_nx, outD_rt, startE, sNil, sSeq, thenS_nx, thenS_rt, thenS_bk, thenS_ct, sAsg, sIf, sRet, sRetN, sDrop, sBrk, sCnt, sFor, sOwn, ownAt, sApp, sExt, sPut, sFrz, sPar, mIxO, mLenO, mTupO, mVar, mC, mU, mB, mNil, mCons, mF, mIsT, mAndT, mOrT, mNotT, mAnd, mOr, mNot, mIf, mChain, mPart, mNoPart, mSl, mCall, mIt, mRng, mComp, mYes, gdName, gdTup, gdCons, gdNil, wipeE, tupItems_tup, lstItems_lst, bl_bl, int_int, mHx_eq, mHlen_eq, mHcell_eq, sHput_eq, isH_hnd, hget1, hget2, hget3, hget4, hset1, hset2, hset3, hset4, eq_int, ne_int, lt_int, gt_int, le_int, ge_int, eq_bl, add_int, add_tup, add_lst, sub_int, neg_int, isN_hi, notN_hi, mul_int, div_int, mod_int, pow_int, abs_int, intC_int, len_tup, len_lst, tup_D, lst_D, rt_D, Bool.not_not, Bool.not_true, Bool.not_false, true_and, and_true, false_and, and_false, or_true, true_or, or_false, false_or, List.length_cons, List.length_nil, List.length_append, List.length_map, List.map_cons, List.map_nil, List.replicate_succ, List.replicate_zero, List.cons_append, List.nil_append, List.append_nil, List.set_cons_zero, List.set_cons_succ, List.getElem?_cons_zero, List.getElem?_cons_succ, Option.bind_some, Option.map_some, Option.bind_none, Option.map_none, OW_some, OW_bind, OW_map, OW_if, Bool.false_eq_true, if_true, if_false, ↓reduceIte, Nat.reduceAdd, Nat.reduceSub, Nat.zero_add, Nat.sub_self, Function.comp, pure_stretch_text (h.1 p hp)]⟩
  have ej := join_D (y := " | ") (l := (r.map sP).map aT) (sum_texts h.1 hl)
  have a1 := add_str (a := "<") (b := verT 0) (by
    rw [sizeLine_eq, l_lt]
    have := verT_len okV0
    omega)
  have hs0 : (0 ≤ sizeLine) = True := eq_true (Nat.zero_le _)
  rw [texts_map] at ec
  refine eq_of_OW ?_
  unfold f_range_text rT
  simp only [mDef_eq, outD_nx, outD_rt, startE, sNil, sSeq, thenS_nx, thenS_rt, thenS_bk, thenS_ct, sAsg, sIf, sRet, sRetN, sDrop, sBrk, sCnt, sFor, sOwn, ownAt, sApp, sExt, sPut, sFrz, sPar, mIxO, mLenO, mTupO, mVar, mC, mU, mB, mNil, mCons, mF, mIsT, mAndT, mOrT, mNotT, mAnd, mOr, mNot, mIf, mChain, mPart, mNoPart, mSl, mCall, mIt, mRng, mComp, mYes, gdName, gdTup, gdCons, gdNil, wipeE, tupItems_tup, lstItems_lst, bl_bl, int_int, mHx_eq, mHlen_eq, mHcell_eq, sHput_eq, isH_hnd, hget1, hget2, hget3, hget4, hset1, hset2, hset3, hset4, eq_int, ne_int, lt_int, gt_int, le_int, ge_int, eq_bl, add_int, add_tup, add_lst, sub_int, neg_int, isN_hi, notN_hi, mul_int, div_int, mod_int, pow_int, abs_int, intC_int, len_tup, len_lst, tup_D, lst_D, rt_D, Bool.not_not, Bool.not_true, Bool.not_false, true_and, and_true, false_and, and_false, or_true, true_or, or_false, false_or, List.length_cons, List.length_nil, List.length_append, List.length_map, List.map_cons, List.map_nil, List.replicate_succ, List.replicate_zero, List.cons_append, List.nil_append, List.append_nil, List.set_cons_zero, List.set_cons_succ, List.getElem?_cons_zero, List.getElem?_cons_succ, Option.bind_some, Option.map_some, Option.bind_none, Option.map_none, OW_some, OW_bind, OW_map, OW_if, Bool.false_eq_true, if_true, if_false, ↓reduceIte, Nat.reduceAdd, Nat.reduceSub, Nat.zero_add, Nat.sub_self, Function.comp, ver0, ws_eq, nil_eq, hs0, OW_eq eq_rng, OW_eq it, OW_eq ec, OW_eq ej, ver0_text, OW_eq a1, low_text, decide_eq_true_eq]
  by_cases c : r = [(0, none)]
  · rw [if_pos c, if_pos c]
  · rw [if_neg c, if_neg c]
    by_cases c2 : r = []
    · rw [if_pos c2, if_pos c2]
    · rw [if_neg c2, if_neg c2]
theorem text_loop {s : Hand} {R : Option Slot} : ∀ (r : Rng) (acc : List Str) (e2 e3 : Option Slot), (∀ p ∈ r, OkS p) → acc.length + r.length ≤ 1000 →
    OW (loopS (gdTup 2 (gdCons (gdName 2) (gdCons (gdName 3) gdNil))) b__law_range_text_0 (r.map strD) [R, some (.own (acc.map D.str)), e2, e3] s)
      (Qn (fun env => ∃ e2 e3, env = [R, some (.own ((acc ++ (r.map sP).map aT).map D.str)), e2, e3]) s)
  | [], acc, e2, e3, _, _ => by
    show OW (some _) _
    rw [OW_some]
    exact ⟨⟨e2, e3, by rw [List.map_nil, List.map_nil, List.append_nil]⟩, rfl⟩
  | (lo, hi) :: r, acc, e2, e3, h, hz => by
    rw [List.length_cons] at hz
    have hp : OkS (lo, hi) := h _ (List.mem_cons_self ..)
    have es : strD (lo, hi) = .tup [verD lo, hiD hi] := rfl
    have h1 : (verT lo).length ≤ 24 := verT_len hp.1
    have a1 := add_str (a := ">=") (b := verT lo) (by rw [sizeLine_eq, l_ge]; omega)
    have hsz : (acc.length < sizeLine) = True := eq_true (by rw [sizeLine_eq]; omega)
    have key : (acc ++ (((lo, hi) :: r).map sP).map aT) = (acc ++ [aT (sP (lo, hi))]) ++ (r.map sP).map aT := by
      rw [List.map_cons, List.map_cons, List.append_assoc]
      rfl
    rw [key]
    have ih := fun e2 e3 => text_loop (s := s) (R := R) r (acc ++ [aT (sP (lo, hi))]) e2 e3 (fun q hq => h q (List.mem_cons_of_mem _ hq)) (by rw [List.length_append, List.length_singleton]; omega)
    have ea : (acc ++ [aT (sP (lo, hi))]).map D.str = acc.map D.str ++ [D.str (aT (sP (lo, hi)))] := by rw [List.map_append]; rfl
    rw [ea] at ih
    rw [List.map_cons]
    unfold loopS
    cases hi with
    | none =>
      have ih' := ih (some (.dat (verD lo))) (some (.dat (hiD none)))
      rw [show sP (lo, none) = ([(">=", lo)] : List (Str × Int)) from rfl, aT_ge] at ih' ⊢
      simp only [es, mDef_eq, outD_nx, outD_rt, startE, sNil, sSeq, thenS_nx, thenS_rt, thenS_bk, thenS_ct, sAsg, sIf, sRet, sRetN, sDrop, sBrk, sCnt, sFor, sOwn, ownAt, sApp, sExt, sPut, sFrz, sPar, mIxO, mLenO, mTupO, mVar, mC, mU, mB, mNil, mCons, mF, mIsT, mAndT, mOrT, mNotT, mAnd, mOr, mNot, mIf, mChain, mPart, mNoPart, mSl, mCall, mIt, mRng, mComp, mYes, gdName, gdTup, gdCons, gdNil, wipeE, tupItems_tup, lstItems_lst, bl_bl, int_int, mHx_eq, mHlen_eq, mHcell_eq, sHput_eq, isH_hnd, hget1, hget2, hget3, hget4, hset1, hset2, hset3, hset4, eq_int, ne_int, lt_int, gt_int, le_int, ge_int, eq_bl, add_int, add_tup, add_lst, sub_int, neg_int, isN_hi, notN_hi, mul_int, div_int, mod_int, pow_int, abs_int, intC_int, len_tup, len_lst, tup_D, lst_D, rt_D, Bool.not_not, Bool.not_true, Bool.not_false, true_and, and_true, false_and, and_false, or_true, true_or, or_false, false_or, List.length_cons, List.length_nil, List.length_append, List.length_map, List.map_cons, List.map_nil, List.replicate_succ, List.replicate_zero, List.cons_append, List.nil_append, List.append_nil, List.set_cons_zero, List.set_cons_succ, List.getElem?_cons_zero, List.getElem?_cons_succ, Option.bind_some, Option.map_some, Option.bind_none, Option.map_none, OW_some, OW_bind, OW_map, OW_if, Bool.false_eq_true, if_true, if_false, ↓reduceIte, Nat.reduceAdd, Nat.reduceSub, Nat.zero_add, Nat.sub_self, Function.comp, b__law_range_text_0_eq, Option.isNone_none, pure_law_version_text hp.1, OW_eq a1, hsz]
      exact ih'
    | some b =>
      have hb := (hp.2 b rfl).1
      have h2 := verT_len hb
      have eb : hiD (some b) = verD b := rfl
      have ih' := ih (some (.dat (verD lo))) (some (.dat (hiD (some b))))
      simp only [es, mDef_eq, outD_nx, outD_rt, startE, sNil, sSeq, thenS_nx, thenS_rt, thenS_bk, thenS_ct, sAsg, sIf, sRet, sRetN, sDrop, sBrk, sCnt, sFor, sOwn, ownAt, sApp, sExt, sPut, sFrz, sPar, mIxO, mLenO, mTupO, mVar, mC, mU, mB, mNil, mCons, mF, mIsT, mAndT, mOrT, mNotT, mAnd, mOr, mNot, mIf, mChain, mPart, mNoPart, mSl, mCall, mIt, mRng, mComp, mYes, gdName, gdTup, gdCons, gdNil, wipeE, tupItems_tup, lstItems_lst, bl_bl, int_int, mHx_eq, mHlen_eq, mHcell_eq, sHput_eq, isH_hnd, hget1, hget2, hget3, hget4, hset1, hset2, hset3, hset4, eq_int, ne_int, lt_int, gt_int, le_int, ge_int, eq_bl, add_int, add_tup, add_lst, sub_int, neg_int, isN_hi, notN_hi, mul_int, div_int, mod_int, pow_int, abs_int, intC_int, len_tup, len_lst, tup_D, lst_D, rt_D, Bool.not_not, Bool.not_true, Bool.not_false, true_and, and_true, false_and, and_false, or_true, true_or, or_false, false_or, List.length_cons, List.length_nil, List.length_append, List.length_map, List.map_cons, List.map_nil, List.replicate_succ, List.replicate_zero, List.cons_append, List.nil_append, List.append_nil, List.set_cons_zero, List.set_cons_succ, List.getElem?_cons_zero, List.getElem?_cons_succ, Option.bind_some, Option.map_some, Option.bind_none, Option.map_none, OW_some, OW_bind, OW_map, OW_if, Bool.false_eq_true, if_true, if_false, ↓reduceIte, Nat.reduceAdd, Nat.reduceSub, Nat.zero_add, Nat.sub_self, Function.comp, b__law_range_text_0_eq, Option.isNone_some, pure_law_behind hp.1]
      rw [eb] at ih' ⊢
      simp only [OW_eq eq_verA, mDef_eq, outD_nx, outD_rt, startE, sNil, sSeq, thenS_nx, thenS_rt, thenS_bk, thenS_ct, sAsg, sIf, sRet, sRetN, sDrop, sBrk, sCnt, sFor, sOwn, ownAt, sApp, sExt, sPut, sFrz, sPar, mIxO, mLenO, mTupO, mVar, mC, mU, mB, mNil, mCons, mF, mIsT, mAndT, mOrT, mNotT, mAnd, mOr, mNot, mIf, mChain, mPart, mNoPart, mSl, mCall, mIt, mRng, mComp, mYes, gdName, gdTup, gdCons, gdNil, wipeE, tupItems_tup, lstItems_lst, bl_bl, int_int, mHx_eq, mHlen_eq, mHcell_eq, sHput_eq, isH_hnd, hget1, hget2, hget3, hget4, hset1, hset2, hset3, hset4, eq_int, ne_int, lt_int, gt_int, le_int, ge_int, eq_bl, add_int, add_tup, add_lst, sub_int, neg_int, isN_hi, notN_hi, mul_int, div_int, mod_int, pow_int, abs_int, intC_int, len_tup, len_lst, tup_D, lst_D, rt_D, Bool.not_not, Bool.not_true, Bool.not_false, true_and, and_true, false_and, and_false, or_true, true_or, or_false, false_or, List.length_cons, List.length_nil, List.length_append, List.length_map, List.map_cons, List.map_nil, List.replicate_succ, List.replicate_zero, List.cons_append, List.nil_append, List.append_nil, List.set_cons_zero, List.set_cons_succ, List.getElem?_cons_zero, List.getElem?_cons_succ, Option.bind_some, Option.map_some, Option.bind_none, Option.map_none, OW_some, OW_bind, OW_map, OW_if, Bool.false_eq_true, if_true, if_false, ↓reduceIte, Nat.reduceAdd, Nat.reduceSub, Nat.zero_add, Nat.sub_self, Function.comp, pure_law_version_text hp.1, pure_law_version_text hb]
      by_cases c : b = lo + 1
      · have e2 : sP (lo, some b) = ([("", lo)] : List (Str × Int)) := by
          unfold sP
          dsimp only
          rw [if_pos c]
        rw [e2, aT_no] at ih' ⊢
        rw [decide_eq_true c, if_pos rfl]
        simp only [hsz, mDef_eq, outD_nx, outD_rt, startE, sNil, sSeq, thenS_nx, thenS_rt, thenS_bk, thenS_ct, sAsg, sIf, sRet, sRetN, sDrop, sBrk, sCnt, sFor, sOwn, ownAt, sApp, sExt, sPut, sFrz, sPar, mIxO, mLenO, mTupO, mVar, mC, mU, mB, mNil, mCons, mF, mIsT, mAndT, mOrT, mNotT, mAnd, mOr, mNot, mIf, mChain, mPart, mNoPart, mSl, mCall, mIt, mRng, mComp, mYes, gdName, gdTup, gdCons, gdNil, wipeE, tupItems_tup, lstItems_lst, bl_bl, int_int, mHx_eq, mHlen_eq, mHcell_eq, sHput_eq, isH_hnd, hget1, hget2, hget3, hget4, hset1, hset2, hset3, hset4, eq_int, ne_int, lt_int, gt_int, le_int, ge_int, eq_bl, add_int, add_tup, add_lst, sub_int, neg_int, isN_hi, notN_hi, mul_int, div_int, mod_int, pow_int, abs_int, intC_int, len_tup, len_lst, tup_D, lst_D, rt_D, Bool.not_not, Bool.not_true, Bool.not_false, true_and, and_true, false_and, and_false, or_true, true_or, or_false, false_or, List.length_cons, List.length_nil, List.length_append, List.length_map, List.map_cons, List.map_nil, List.replicate_succ, List.replicate_zero, List.cons_append, List.nil_append, List.append_nil, List.set_cons_zero, List.set_cons_succ, List.getElem?_cons_zero, List.getElem?_cons_succ, Option.bind_some, Option.map_some, Option.bind_none, Option.map_none, OW_some, OW_bind, OW_map, OW_if, Bool.false_eq_true, if_true, if_false, ↓reduceIte, Nat.reduceAdd, Nat.reduceSub, Nat.zero_add, Nat.sub_self, Function.comp]
        exact ih'
      · have e2 : sP (lo, some b) = ([(">=", lo), ("<", b)] : List (Str × Int)) := by
          unfold sP
          dsimp only
          rw [if_neg c]
        have a2 := add_str (a := ">=" ++ verT lo) (b := ", <") (by rw [sizeLine_eq, app_len, l_ge, l_cl]; omega)
        have a3 := add_str (a := (">=" ++ verT lo) ++ ", <") (b := verT b) (by rw [sizeLine_eq, app_len, app_len, l_ge, l_cl]; omega)
        rw [e2, aT_two] at ih' ⊢
        rw [decide_eq_false c, if_neg Bool.false_ne_true]
        simp only [OW_eq a1, OW_eq a2, OW_eq a3, hsz, mDef_eq, outD_nx, outD_rt, startE, sNil, sSeq, thenS_nx, thenS_rt, thenS_bk, thenS_ct, sAsg, sIf, sRet, sRetN, sDrop, sBrk, sCnt, sFor, sOwn, ownAt, sApp, sExt, sPut, sFrz, sPar, mIxO, mLenO, mTupO, mVar, mC, mU, mB, mNil, mCons, mF, mIsT, mAndT, mOrT, mNotT, mAnd, mOr, mNot, mIf, mChain, mPart, mNoPart, mSl, mCall, mIt, mRng, mComp, mYes, gdName, gdTup, gdCons, gdNil, wipeE, tupItems_tup, lstItems_lst, bl_bl, int_int, mHx_eq, mHlen_eq, mHcell_eq, sHput_eq, isH_hnd, hget1, hget2, hget3, hget4, hset1, hset2, hset3, hset4, eq_int, ne_int, lt_int, gt_int, le_int, ge_int, eq_bl, add_int, add_tup, add_lst, sub_int, neg_int, isN_hi, notN_hi, mul_int, div_int, mod_int, pow_int, abs_int, intC_int, len_tup, len_lst, tup_D, lst_D, rt_D, Bool.not_not, Bool.not_true, Bool.not_false, true_and, and_true, false_and, and_false, or_true, true_or, or_false, false_or, List.length_cons, List.length_nil, List.length_append, List.length_map, List.map_cons, List.map_nil, List.replicate_succ, List.replicate_zero, List.cons_append, List.nil_append, List.append_nil, List.set_cons_zero, List.set_cons_succ, List.getElem?_cons_zero, List.getElem?_cons_succ, Option.bind_some, Option.map_some, Option.bind_none, Option.map_none, OW_some, OW_bind, OW_map, OW_if, Bool.false_eq_true, if_true, if_false, ↓reduceIte, Nat.reduceAdd, Nat.reduceSub, Nat.zero_add, Nat.sub_self, Function.comp]
        rw [two_b]
        exact ih'
theorem pure_law_range_text {r : Rng} {s : Hand} (h : OkR r) (hl : r.length ≤ 80) : f__law_range_text [rngD r] s = some (.str (rT r), s) := by
  have it : tupItems (rngD r) = some (r.map strD) := rfl
  have ej := join_D (y := " | ") (l := (r.map sP).map aT) (sum_texts h.1 hl)
  have hs0 : (0 ≤ sizeLine) = True := eq_true (Nat.zero_le _)
  have hs1 : (0 + 1 ≤ sizeLine) = True := eq_true (by rw [sizeLine_eq]; omega)
  have hs2 : (0 + 1 + 1 ≤ sizeLine) = True := eq_true (by rw [sizeLine_eq]; omega)
  have hs3 : (0 + 1 + 1 + 1 ≤ sizeLine) = True := eq_true (by rw [sizeLine_eq]; omega)
  have hl' : lenD [rngD r] = some (.int (r.length : Nat)) := by
    show some (D.int ((r.map strD).length : Nat)) = _
    rw [List.length_map]
  refine eq_of_OW ?_
  unfold f__law_range_text rT
  by_cases c : r = [(0, none)]
  · have c0 : ((r.length : Int) == 0) = false := by rw [c]; rfl
    simp only [mDef_eq, outD_nx, outD_rt, startE, sNil, sSeq, thenS_nx, thenS_rt, thenS_bk, thenS_ct, sAsg, sIf, sRet, sRetN, sDrop, sBrk, sCnt, sFor, sOwn, ownAt, sApp, sExt, sPut, sFrz, sPar, mIxO, mLenO, mTupO, mVar, mC, mU, mB, mNil, mCons, mF, mIsT, mAndT, mOrT, mNotT, mAnd, mOr, mNot, mIf, mChain, mPart, mNoPart, mSl, mCall, mIt, mRng, mComp, mYes, gdName, gdTup, gdCons, gdNil, wipeE, tupItems_tup, lstItems_lst, bl_bl, int_int, mHx_eq, mHlen_eq, mHcell_eq, sHput_eq, isH_hnd, hget1, hget2, hget3, hget4, hset1, hset2, hset3, hset4, eq_int, ne_int, lt_int, gt_int, le_int, ge_int, eq_bl, add_int, add_tup, add_lst, sub_int, neg_int, isN_hi, notN_hi, mul_int, div_int, mod_int, pow_int, abs_int, intC_int, len_tup, len_lst, tup_D, lst_D, rt_D, Bool.not_not, Bool.not_true, Bool.not_false, true_and, and_true, false_and, and_false, or_true, true_or, or_false, false_or, List.length_cons, List.length_nil, List.length_append, List.length_map, List.map_cons, List.map_nil, List.replicate_succ, List.replicate_zero, List.cons_append, List.nil_append, List.append_nil, List.set_cons_zero, List.set_cons_succ, List.getElem?_cons_zero, List.getElem?_cons_succ, Option.bind_some, Option.map_some, Option.bind_none, Option.map_none, OW_some, OW_bind, OW_map, OW_if, Bool.false_eq_true, if_true, if_false, ↓reduceIte, Nat.reduceAdd, Nat.reduceSub, Nat.zero_add, Nat.sub_self, Function.comp, ver0, ws_eq, hs0, hs1, hs2, hs3, OW_eq hl', c0, OW_eq eq_rng, decide_eq_true c, if_pos c]
  · by_cases c2 : r = []
    · have c0 : ((r.length : Int) == 0) = true := by rw [c2]; rfl
      simp only [mDef_eq, outD_nx, outD_rt, startE, sNil, sSeq, thenS_nx, thenS_rt, thenS_bk, thenS_ct, sAsg, sIf, sRet, sRetN, sDrop, sBrk, sCnt, sFor, sOwn, ownAt, sApp, sExt, sPut, sFrz, sPar, mIxO, mLenO, mTupO, mVar, mC, mU, mB, mNil, mCons, mF, mIsT, mAndT, mOrT, mNotT, mAnd, mOr, mNot, mIf, mChain, mPart, mNoPart, mSl, mCall, mIt, mRng, mComp, mYes, gdName, gdTup, gdCons, gdNil, wipeE, tupItems_tup, lstItems_lst, bl_bl, int_int, mHx_eq, mHlen_eq, mHcell_eq, sHput_eq, isH_hnd, hget1, hget2, hget3, hget4, hset1, hset2, hset3, hset4, eq_int, ne_int, lt_int, gt_int, le_int, ge_int, eq_bl, add_int, add_tup, add_lst, sub_int, neg_int, isN_hi, notN_hi, mul_int, div_int, mod_int, pow_int, abs_int, intC_int, len_tup, len_lst, tup_D, lst_D, rt_D, Bool.not_not, Bool.not_true, Bool.not_false, true_and, and_true, false_and, and_false, or_true, true_or, or_false, false_or, List.length_cons, List.length_nil, List.length_append, List.length_map, List.map_cons, List.map_nil, List.replicate_succ, List.replicate_zero, List.cons_append, List.nil_append, List.append_nil, List.set_cons_zero, List.set_cons_succ, List.getElem?_cons_zero, List.getElem?_cons_succ, Option.bind_some, Option.map_some, Option.bind_none, Option.map_none, OW_some, OW_bind, OW_map, OW_if, Bool.false_eq_true, if_true, if_false, ↓reduceIte, Nat.reduceAdd, Nat.reduceSub, Nat.zero_add, Nat.sub_self, Function.comp, OW_eq hl', c0, if_neg c, if_pos c2]
    · have c0 : ((r.length : Int) == 0) = false := by
        rw [beq_eq_false_iff_ne]
        exact fun z => c2 (List.eq_nil_of_length_eq_zero (by omega))
      simp only [mDef_eq, outD_nx, outD_rt, startE, sNil, sSeq, thenS_nx, thenS_rt, thenS_bk, thenS_ct, sAsg, sIf, sRet, sRetN, sDrop, sBrk, sCnt, sFor, sOwn, ownAt, sApp, sExt, sPut, sFrz, sPar, mIxO, mLenO, mTupO, mVar, mC, mU, mB, mNil, mCons, mF, mIsT, mAndT, mOrT, mNotT, mAnd, mOr, mNot, mIf, mChain, mPart, mNoPart, mSl, mCall, mIt, mRng, mComp, mYes, gdName, gdTup, gdCons, gdNil, wipeE, tupItems_tup, lstItems_lst, bl_bl, int_int, mHx_eq, mHlen_eq, mHcell_eq, sHput_eq, isH_hnd, hget1, hget2, hget3, hget4, hset1, hset2, hset3, hset4, eq_int, ne_int, lt_int, gt_int, le_int, ge_int, eq_bl, add_int, add_tup, add_lst, sub_int, neg_int, isN_hi, notN_hi, mul_int, div_int, mod_int, pow_int, abs_int, intC_int, len_tup, len_lst, tup_D, lst_D, rt_D, Bool.not_not, Bool.not_true, Bool.not_false, true_and, and_true, false_and, and_false, or_true, true_or, or_false, false_or, List.length_cons, List.length_nil, List.length_append, List.length_map, List.map_cons, List.map_nil, List.replicate_succ, List.replicate_zero, List.cons_append, List.nil_append, List.append_nil, List.set_cons_zero, List.set_cons_succ, List.getElem?_cons_zero, List.getElem?_cons_succ, Option.bind_some, Option.map_some, Option.bind_none, Option.map_none, OW_some, OW_bind, OW_map, OW_if, Bool.false_eq_true, if_true, if_false, ↓reduceIte, Nat.reduceAdd, Nat.reduceSub, Nat.zero_add, Nat.sub_self, Function.comp, ver0, ws_eq, hs0, hs1, hs2, hs3, OW_eq hl', c0, OW_eq eq_rng, decide_eq_false c, if_neg c, if_neg c2, OW_eq it]
      refine OW.walk (text_loop (s := s) (R := some (.dat (rngD r))) r [] none none h.1 (by rw [List.length_nil]; omega)) fun env he => ?_
      obtain ⟨e2, e3, he⟩ := he
      subst he
      simp only [mDef_eq, outD_nx, outD_rt, startE, sNil, sSeq, thenS_nx, thenS_rt, thenS_bk, thenS_ct, sAsg, sIf, sRet, sRetN, sDrop, sBrk, sCnt, sFor, sOwn, ownAt, sApp, sExt, sPut, sFrz, sPar, mIxO, mLenO, mTupO, mVar, mC, mU, mB, mNil, mCons, mF, mIsT, mAndT, mOrT, mNotT, mAnd, mOr, mNot, mIf, mChain, mPart, mNoPart, mSl, mCall, mIt, mRng, mComp, mYes, gdName, gdTup, gdCons, gdNil, wipeE, tupItems_tup, lstItems_lst, bl_bl, int_int, mHx_eq, mHlen_eq, mHcell_eq, sHput_eq, isH_hnd, hget1, hget2, hget3, hget4, hset1, hset2, hset3, hset4, eq_int, ne_int, lt_int, gt_int, le_int, ge_int, eq_bl, add_int, add_tup, add_lst, sub_int, neg_int, isN_hi, notN_hi, mul_int, div_int, mod_int, pow_int, abs_int, intC_int, len_tup, len_lst, tup_D, lst_D, rt_D, Bool.not_not, Bool.not_true, Bool.not_false, true_and, and_true, false_and, and_false, or_true, true_or, or_false, false_or, List.length_cons, List.length_nil, List.length_append, List.length_map, List.map_cons, List.map_nil, List.replicate_succ, List.replicate_zero, List.cons_append, List.nil_append, List.append_nil, List.set_cons_zero, List.set_cons_succ, List.getElem?_cons_zero, List.getElem?_cons_succ, Option.bind_some, Option.map_some, Option.bind_none, Option.map_none, OW_some, OW_bind, OW_map, OW_if, Bool.false_eq_true, if_true, if_false, ↓reduceIte, Nat.reduceAdd, Nat.reduceSub, Nat.zero_add, Nat.sub_self, Function.comp, OW_eq ej]
end K02

set_option Elab.async false
set_option linter.all false
set_option maxRecDepth 100000
set_option maxHeartbeats 4000000
namespace K02
open PySem
open L2
open Dl
open Txt
open TL
theorem part_fits {ps : List (Str × Int)} (h : ∀ p ∈ ps, OkW p) (hl : ps.length ≤ 4) : ∃ N : List Int, N.length ≤ 2 * ps.length ∧ Fits N (ps.foldl addK [(0, none)]) := by
  obtain ⟨N, n1, n2⟩ := kept_fits ps (fun p hp => (h p hp).u) whole_fits (by rw [List.length_nil]; omega)
  exact ⟨N, by rw [List.length_nil] at n1; omega, n2⟩
theorem parts_loop {e2 e3 e4 e6 e7 : Option Slot} : ∀ (xs : List D) (ps : List (Str × Int)) (e5 e8 e11 : Option Slot) (s : Hand), (∀ p ∈ ps, OkW p) → ps.length + xs.length ≤ 4 →
    OW (loopS (gdName 8) b_law_2 xs [none, some (.dat .hnd), e2, e3, e4, e5, e6, e7, e8, some (.dat (rngD (ps.foldl addK [(0, none)]))), some (.own ((ps.map pT).map D.str)), e11] s)
      fun o => ∃ (qs : List (Str × Int)) (e5 e8 e11 : Option Slot) (s' : Hand), (∀ p ∈ qs, OkW p) ∧ qs.length = ps.length + xs.length ∧ o = .nx [none, some (.dat .hnd), e2, e3, e4, e5, e6, e7, e8, some (.dat (rngD (qs.foldl addK [(0, none)]))), some (.own ((qs.map pT).map D.str)), e11] s'
  | [], ps, e5, e8, e11, s, h, _ => by
    show OW (some _) _
    rw [OW_some]
    exact ⟨ps, e5, e8, e11, s, h, rfl, rfl⟩
  | y :: xs, ps, e5, e8, e11, s, h, hz => by
    rw [List.length_cons] at hz
    unfold loopS
    simp only [mDef_eq, outD_nx, outD_rt, startE, sNil, sSeq, thenS_nx, thenS_rt, thenS_bk, thenS_ct, sAsg, sIf, sRet, sRetN, sDrop, sBrk, sCnt, sFor, sOwn, ownAt, sApp, sExt, sPut, sFrz, sPar, mIxO, mLenO, mTupO, mVar, mC, mU, mB, mNil, mCons, mF, mIsT, mAndT, mOrT, mNotT, mAnd, mOr, mNot, mIf, mChain, mPart, mNoPart, mSl, mCall, mIt, mRng, mComp, mYes, gdName, gdTup, gdCons, gdNil, wipeE, tupItems_tup, lstItems_lst, bl_bl, int_int, mHx_eq, mHlen_eq, mHcell_eq, sHput_eq, isH_hnd, hget1, hget2, hget3, hget4, hset1, hset2, hset3, hset4, eq_int, ne_int, lt_int, gt_int, le_int, ge_int, eq_bl, add_int, add_tup, add_lst, sub_int, neg_int, isN_hi, notN_hi, mul_int, div_int, mod_int, pow_int, abs_int, intC_int, len_tup, len_lst, tup_D, lst_D, rt_D, Bool.not_not, Bool.not_true, Bool.not_false, true_and, and_true, false_and, and_false, or_true, true_or, or_false, false_or, List.length_cons, List.length_nil, List.length_append, List.length_map, List.map_cons, List.map_nil, List.replicate_succ, List.replicate_zero, List.cons_append, List.nil_append, List.append_nil, List.set_cons_zero, List.set_cons_succ, List.getElem?_cons_zero, List.getElem?_cons_succ, Option.bind_some, Option.map_some, Option.bind_none, Option.map_none, OW_some, OW_bind, OW_map, OW_if, Bool.false_eq_true, if_true, if_false, ↓reduceIte, Nat.reduceAdd, Nat.reduceSub, Nat.zero_add, Nat.sub_self, Function.comp, b_law_2_eq]
    refine OW.mono words_ok fun p ⟨w, x, hw, hx, e⟩ => ?_
    obtain ⟨d, s1⟩ := p
    dsimp only at e
    subst e
    have hpw : OkW (w, x) := ⟨hw, hx⟩
    obtain ⟨N, n1, n2⟩ := part_fits h (by omega)
    obtain ⟨M, m1, m2⟩ := pX_fits hpw.u
    have hb := (law_both_is (s := s1) n2 m2 (by omega)).1
    have g1 := pure_law_part (s := s1) hpw
    have g2 := pure_law_text (s := s1) hpw
    dsimp only at g1 g2
    have hsz : (ps.length < sizeLine) = True := eq_true (by rw [sizeLine_eq]; omega)
    simp only [mDef_eq, outD_nx, outD_rt, startE, sNil, sSeq, thenS_nx, thenS_rt, thenS_bk, thenS_ct, sAsg, sIf, sRet, sRetN, sDrop, sBrk, sCnt, sFor, sOwn, ownAt, sApp, sExt, sPut, sFrz, sPar, mIxO, mLenO, mTupO, mVar, mC, mU, mB, mNil, mCons, mF, mIsT, mAndT, mOrT, mNotT, mAnd, mOr, mNot, mIf, mChain, mPart, mNoPart, mSl, mCall, mIt, mRng, mComp, mYes, gdName, gdTup, gdCons, gdNil, wipeE, tupItems_tup, lstItems_lst, bl_bl, int_int, mHx_eq, mHlen_eq, mHcell_eq, sHput_eq, isH_hnd, hget1, hget2, hget3, hget4, hset1, hset2, hset3, hset4, eq_int, ne_int, lt_int, gt_int, le_int, ge_int, eq_bl, add_int, add_tup, add_lst, sub_int, neg_int, isN_hi, notN_hi, mul_int, div_int, mod_int, pow_int, abs_int, intC_int, len_tup, len_lst, tup_D, lst_D, rt_D, Bool.not_not, Bool.not_true, Bool.not_false, true_and, and_true, false_and, and_false, or_true, true_or, or_false, false_or, List.length_cons, List.length_nil, List.length_append, List.length_map, List.map_cons, List.map_nil, List.replicate_succ, List.replicate_zero, List.cons_append, List.nil_append, List.append_nil, List.set_cons_zero, List.set_cons_succ, List.getElem?_cons_zero, List.getElem?_cons_succ, Option.bind_some, Option.map_some, Option.bind_none, Option.map_none, OW_some, OW_bind, OW_map, OW_if, Bool.false_eq_true, if_true, if_false, ↓reduceIte, Nat.reduceAdd, Nat.reduceSub, Nat.zero_add, Nat.sub_self, Function.comp, g1, hb, g2, hsz]
    have ih := parts_loop (e2 := e2) (e3 := e3) (e4 := e4) (e6 := e6) (e7 := e7) xs (ps ++ [(w, x)]) (some (.dat (verD x))) (some (.dat y)) (some (.dat (.str w))) s1 (fun p hp => by
      rcases List.mem_append.mp hp with z | z
      · exact h p z
      · rw [List.mem_singleton.mp z]; exact hpw) (by rw [List.length_append, List.length_singleton]; omega)
    rw [List.foldl_append, List.map_append, List.map_append] at ih
    refine OW.mono ih fun o ⟨qs, a5, a8, a11, s', q1, q2, q3⟩ => ⟨qs, a5, a8, a11, s', q1, ?_, q3⟩
    rw [q2, List.length_append, List.length_singleton]
    first | omega | (rw [List.length_cons]; omega)
def OkA (ps : List (Str × Int)) : Prop := ps ≠ [] ∧ ps.length ≤ 4 ∧ ∀ p ∈ ps, OkW p
theorem OkA.u {ps : List (Str × Int)} (h : OkA ps) : ps ≠ [] ∧ ps.length ≤ 4 ∧ ∀ p ∈ ps, OkU p := ⟨h.1, h.2.1, fun p hp => (h.2.2 p hp).u⟩
theorem alts_fits {as : List (List (Str × Int))} (h : ∀ ps ∈ as, OkA ps) (hl : as.length ≤ 4) : ∃ N : List Int, N.length ≤ 8 * as.length ∧ Fits N (as.foldl addF []) := by
  obtain ⟨N, n1, n2⟩ := few_fits as (fun ps hp => (h ps hp).u) nil_fits (by rw [List.length_nil]; omega)
  exact ⟨N, by rw [List.length_nil] at n1; omega, n2⟩
theorem whole_tup : D.tup [D.tup [verD 0, D.non]] = rngD (([] : List (Str × Int)).foldl addK [(0, none)]) := rfl
theorem no_parts : ([] : List D) = ((([] : List (Str × Int)).map pT).map D.str) := rfl
theorem three {n : Int} (h0 : 0 ≤ n) (h : n < 3) : ∃ k : Nat, 1 ≤ k ∧ k ≤ 3 ∧ rng1D [.int (1 + n)] = some (rngOf 0 k) := ⟨(1 + n).toNat, by omega, by omega, by
  rw [show 1 + n = (((1 + n).toNat : Nat) : Int) by omega]
  exact rng1_nat (by omega)⟩
theorem alts_loop {e2 e4 : Option Slot} : ∀ (xs : List D) (as : List (List (Str × Int))) (e3 e5 e8 e9 e10 e11 : Option Slot) (s : Hand), (∀ ps ∈ as, OkA ps) → as.length + xs.length ≤ 4 →
    OW (loopS (gdName 3) b_law_1 xs [none, some (.dat .hnd), e2, e3, e4, e5, some (.dat (rngD (as.foldl addF []))), some (.own ((as.map aT).map D.str)), e8, e9, e10, e11] s)
      fun o => ∃ (bs : List (List (Str × Int))) (e3 e5 e8 e9 e10 e11 : Option Slot) (s' : Hand), (∀ ps ∈ bs, OkA ps) ∧ bs.length = as.length + xs.length ∧ o = .nx [none, some (.dat .hnd), e2, e3, e4, e5, some (.dat (rngD (bs.foldl addF []))), some (.own ((bs.map aT).map D.str)), e8, e9, e10, e11] s'
  | [], as, e3, e5, e8, e9, e10, e11, s, h, _ => by
    show OW (some _) _
    rw [OW_some]
    exact ⟨as, e3, e5, e8, e9, e10, e11, s, h, rfl, rfl⟩
  | y :: xs, as, e3, e5, e8, e9, e10, e11, s, h, hz => by
    rw [List.length_cons] at hz
    have hs0 : (0 ≤ sizeLine) = True := eq_true (Nat.zero_le _)
    have hs1 : (0 + 1 ≤ sizeLine) = True := eq_true (by rw [sizeLine_eq]; omega)
    have hs2 : (0 + 1 + 1 ≤ sizeLine) = True := eq_true (by rw [sizeLine_eq]; omega)
    have hs3 : (0 + 1 + 1 + 1 ≤ sizeLine) = True := eq_true (by rw [sizeLine_eq]; omega)
    unfold loopS
    simp only [mDef_eq, outD_nx, outD_rt, startE, sNil, sSeq, thenS_nx, thenS_rt, thenS_bk, thenS_ct, sAsg, sIf, sRet, sRetN, sDrop, sBrk, sCnt, sFor, sOwn, ownAt, sApp, sExt, sPut, sFrz, sPar, mIxO, mLenO, mTupO, mVar, mC, mU, mB, mNil, mCons, mF, mIsT, mAndT, mOrT, mNotT, mAnd, mOr, mNot, mIf, mChain, mPart, mNoPart, mSl, mCall, mIt, mRng, mComp, mYes, gdName, gdTup, gdCons, gdNil, wipeE, tupItems_tup, lstItems_lst, bl_bl, int_int, mHx_eq, mHlen_eq, mHcell_eq, sHput_eq, isH_hnd, hget1, hget2, hget3, hget4, hset1, hset2, hset3, hset4, eq_int, ne_int, lt_int, gt_int, le_int, ge_int, eq_bl, add_int, add_tup, add_lst, sub_int, neg_int, isN_hi, notN_hi, mul_int, div_int, mod_int, pow_int, abs_int, intC_int, len_tup, len_lst, tup_D, lst_D, rt_D, Bool.not_not, Bool.not_true, Bool.not_false, true_and, and_true, false_and, and_false, or_true, true_or, or_false, false_or, List.length_cons, List.length_nil, List.length_append, List.length_map, List.map_cons, List.map_nil, List.replicate_succ, List.replicate_zero, List.cons_append, List.nil_append, List.append_nil, List.set_cons_zero, List.set_cons_succ, List.getElem?_cons_zero, List.getElem?_cons_succ, Option.bind_some, Option.map_some, Option.bind_none, Option.map_none, OW_some, OW_bind, OW_map, OW_if, Bool.false_eq_true, if_true, if_false, ↓reduceIte, Nat.reduceAdd, Nat.reduceSub, Nat.zero_add, Nat.sub_self, Function.comp, b_law_1_eq, sParO, hs0, hs1, hs2, hs3, ver0]
    refine draw_then (by omega) (by omega) fun n s1 n0 n1 => ?_
    obtain ⟨k, k1, k3, hr⟩ := three n0 n1
    simp only [mDef_eq, outD_nx, outD_rt, startE, sNil, sSeq, thenS_nx, thenS_rt, thenS_bk, thenS_ct, sAsg, sIf, sRet, sRetN, sDrop, sBrk, sCnt, sFor, sOwn, ownAt, sApp, sExt, sPut, sFrz, sPar, mIxO, mLenO, mTupO, mVar, mC, mU, mB, mNil, mCons, mF, mIsT, mAndT, mOrT, mNotT, mAnd, mOr, mNot, mIf, mChain, mPart, mNoPart, mSl, mCall, mIt, mRng, mComp, mYes, gdName, gdTup, gdCons, gdNil, wipeE, tupItems_tup, lstItems_lst, bl_bl, int_int, mHx_eq, mHlen_eq, mHcell_eq, sHput_eq, isH_hnd, hget1, hget2, hget3, hget4, hset1, hset2, hset3, hset4, eq_int, ne_int, lt_int, gt_int, le_int, ge_int, eq_bl, add_int, add_tup, add_lst, sub_int, neg_int, isN_hi, notN_hi, mul_int, div_int, mod_int, pow_int, abs_int, intC_int, len_tup, len_lst, tup_D, lst_D, rt_D, Bool.not_not, Bool.not_true, Bool.not_false, true_and, and_true, false_and, and_false, or_true, true_or, or_false, false_or, List.length_cons, List.length_nil, List.length_append, List.length_map, List.map_cons, List.map_nil, List.replicate_succ, List.replicate_zero, List.cons_append, List.nil_append, List.append_nil, List.set_cons_zero, List.set_cons_succ, List.getElem?_cons_zero, List.getElem?_cons_succ, Option.bind_some, Option.map_some, Option.bind_none, Option.map_none, OW_some, OW_bind, OW_map, OW_if, Bool.false_eq_true, if_true, if_false, ↓reduceIte, Nat.reduceAdd, Nat.reduceSub, Nat.zero_add, Nat.sub_self, Function.comp, OW_eq hr]
    have hl := parts_loop (e2 := e2) (e3 := some (.dat y)) (e4 := e4) (e6 := some (.dat (rngD (as.foldl addF [])))) (e7 := some (.own ((as.map aT).map D.str))) (rngOf 0 k) [] e5 e8 e11 s1 (fun _ h => by cases h) (by rw [rng_len, List.length_nil]; omega)
    refine OW.mono hl fun o ⟨qs, a5, a8, a11, s', q1, q2, q3⟩ => ?_
    subst q3
    rw [rng_len, List.length_nil] at q2
    obtain ⟨N, n1, n2⟩ := alts_fits h (by omega)
    obtain ⟨M, m1, m2⟩ := part_fits q1 (by omega)
    have he := (law_either_is (s := s') n2 m2 (by omega)).1
    have hln : ((qs.map pT).map (·.length)).sum + (qs.map pT).length * (", " : Str).length ≤ 16777216 := by
      have h2 := sum_le (l := qs.map pT) (k := 26) fun x hx => by
        obtain ⟨p, hp, e⟩ := List.mem_map.mp hx
        rw [← e]
        exact pT_len (q1 p hp).u
      rw [List.length_map] at h2 ⊢
      rw [l_cm]
      omega
    have hj := join_D (y := ", ") (l := qs.map pT) hln
    have hsz : (as.length < sizeLine) = True := eq_true (by rw [sizeLine_eq]; omega)
    simp only [mDef_eq, outD_nx, outD_rt, startE, sNil, sSeq, thenS_nx, thenS_rt, thenS_bk, thenS_ct, sAsg, sIf, sRet, sRetN, sDrop, sBrk, sCnt, sFor, sOwn, ownAt, sApp, sExt, sPut, sFrz, sPar, mIxO, mLenO, mTupO, mVar, mC, mU, mB, mNil, mCons, mF, mIsT, mAndT, mOrT, mNotT, mAnd, mOr, mNot, mIf, mChain, mPart, mNoPart, mSl, mCall, mIt, mRng, mComp, mYes, gdName, gdTup, gdCons, gdNil, wipeE, tupItems_tup, lstItems_lst, bl_bl, int_int, mHx_eq, mHlen_eq, mHcell_eq, sHput_eq, isH_hnd, hget1, hget2, hget3, hget4, hset1, hset2, hset3, hset4, eq_int, ne_int, lt_int, gt_int, le_int, ge_int, eq_bl, add_int, add_tup, add_lst, sub_int, neg_int, isN_hi, notN_hi, mul_int, div_int, mod_int, pow_int, abs_int, intC_int, len_tup, len_lst, tup_D, lst_D, rt_D, Bool.not_not, Bool.not_true, Bool.not_false, true_and, and_true, false_and, and_false, or_true, true_or, or_false, false_or, List.length_cons, List.length_nil, List.length_append, List.length_map, List.map_cons, List.map_nil, List.replicate_succ, List.replicate_zero, List.cons_append, List.nil_append, List.append_nil, List.set_cons_zero, List.set_cons_succ, List.getElem?_cons_zero, List.getElem?_cons_succ, Option.bind_some, Option.map_some, Option.bind_none, Option.map_none, OW_some, OW_bind, OW_map, OW_if, Bool.false_eq_true, if_true, if_false, ↓reduceIte, Nat.reduceAdd, Nat.reduceSub, Nat.zero_add, Nat.sub_self, Function.comp, he, OW_eq hj, hsz]
    have hq : OkA qs := ⟨fun z => by rw [z] at q2; simp at q2; omega, by omega, q1⟩
    have ih := alts_loop (e2 := e2) (e4 := e4) xs (as ++ [qs]) (some (.dat y)) a5 a8 (some (.dat (rngD (qs.foldl addK [(0, none)])))) (some (.dat (.lst ((qs.map pT).map D.str)))) a11 s' (fun p hp => by
      rcases List.mem_append.mp hp with z | z
      · exact h p z
      · rw [List.mem_singleton.mp z]; exact hq) (by rw [List.length_append, List.length_singleton]; omega)
    rw [List.foldl_append, List.map_append, List.map_append] at ih
    refine OW.mono ih fun o ⟨bs, b3, b5, b8, b9, b10, b11, s2, q4, q5, q6⟩ => ⟨bs, b3, b5, b8, b9, b10, b11, s2, q4, ?_, q6⟩
    rw [q5, List.length_append, List.length_singleton]
    first | omega | (rw [List.length_cons]; omega)
theorem is_rng5 {r : Rng} {s : Hand} (hl : r.length ≤ 80) : f__law_is 5 [rngD r, rngD r] s = some (.bl true, s) := law_is_rng (n := 1) (by omega)
theorem is_str5 {a : Str} {s : Hand} : f__law_is 5 [.str a, .str a] s = some (.bl true, s) := by
  have h : f__law_is 5 [.str a, .str a] s = some (.bl (a == a), s) := law_is_str (n := 4)
  rw [h, beq_self_eq_true]
theorem read_back {r : Rng} {s : Hand} (h : OkR r) (hl : r.length ≤ 80) : f_read_range [.str (rT r)] s = some (rngD r, s) := by
  unfold rT
  by_cases c : r = [(0, none)]
  · rw [if_pos c, c]
    have e := pure_read (s := s) (as := [[("*", 0)]]) (fun z => by cases z) (by show 1 ≤ 80; omega) (fun ps hp => by
      rw [List.mem_singleton.mp hp]
      refine ⟨fun z => (by cases z), by show 1 ≤ 4; omega, fun p hp => ?_⟩
      rw [List.mem_singleton.mp hp]
      exact OkW.u ⟨.inl rfl, by unfold Small; omega⟩) (few_len (by show 1 ≤ 4; omega) (fun ps hp => by
      rw [List.mem_singleton.mp hp]
      refine ⟨fun z => (by cases z), by show 1 ≤ 4; omega, fun p hp => ?_⟩
      rw [List.mem_singleton.mp hp]
      exact OkW.u ⟨.inl rfl, by unfold Small; omega⟩))
    have t : Txt.join " | " ([[(("*" : Str), (0 : Int))]].map aT) = "*" := by
      show Txt.join " | " [Txt.join ", " [pT ("*", 0)]] = _
      rw [join_one, join_one]
      unfold pT
      rw [if_pos rfl]
    rw [t] at e
    rw [e]
    have f : [[(("*" : Str), (0 : Int))]].foldl addF [] = [(0, none)] := by decide +kernel
    rw [f]
  · rw [if_neg c]
    by_cases c2 : r = []
    · rw [if_pos c2, c2]
      have ok : ∀ ps ∈ [[(("<" : Str), (0 : Int))]], ps ≠ [] ∧ ps.length ≤ 4 ∧ ∀ p ∈ ps, OkU p := fun ps hp => by
        rw [List.mem_singleton.mp hp]
        refine ⟨fun z => (by cases z), by show 1 ≤ 4; omega, fun p hp => ?_⟩
        rw [List.mem_singleton.mp hp]
        exact okU_lt okV0
      have e := pure_read (s := s) (as := [[("<", 0)]]) (fun z => by cases z) (by show 1 ≤ 80; omega) ok (few_len (by show 1 ≤ 4; omega) ok)
      have t : Txt.join " | " ([[(("<" : Str), (0 : Int))]].map aT) = "<0.0.0" := by
        show Txt.join " | " [Txt.join ", " [pT ("<", 0)]] = _
        rw [join_one, join_one]
        unfold pT
        rw [if_neg (show ¬ ("<" : Str) = "*" by decide +kernel)]
        exact low_text
      rw [t] at e
      rw [e]
      have f : [[(("<" : Str), (0 : Int))]].foldl addF [] = [] := by decide +kernel
      rw [f]
    · rw [if_neg c2]
      exact read_rng h c2 hl
theorem rng_right {r : Rng} {a0 a1 a2 a3 a5 a6 a7 a8 a9 a10 a11 : Option Slot} {s : Hand} {Q : OutS Hand → Prop} (h : OkR r) (hl : r.length ≤ 80) (hq : Q (.nx [a0, a1, a2, a3, some (.dat (rngD r)), a5, a6, a7, a8, a9, a10, a11] s)) :
    OW (b_law_3 [a0, a1, a2, a3, some (.dat (rngD r)), a5, a6, a7, a8, a9, a10, a11] s) Q := by
  simp only [mDef_eq, outD_nx, outD_rt, startE, sNil, sSeq, thenS_nx, thenS_rt, thenS_bk, thenS_ct, sAsg, sIf, sRet, sRetN, sDrop, sBrk, sCnt, sFor, sOwn, ownAt, sApp, sExt, sPut, sFrz, sPar, mIxO, mLenO, mTupO, mVar, mC, mU, mB, mNil, mCons, mF, mIsT, mAndT, mOrT, mNotT, mAnd, mOr, mNot, mIf, mChain, mPart, mNoPart, mSl, mCall, mIt, mRng, mComp, mYes, gdName, gdTup, gdCons, gdNil, wipeE, tupItems_tup, lstItems_lst, bl_bl, int_int, mHx_eq, mHlen_eq, mHcell_eq, sHput_eq, isH_hnd, hget1, hget2, hget3, hget4, hset1, hset2, hset3, hset4, eq_int, ne_int, lt_int, gt_int, le_int, ge_int, eq_bl, add_int, add_tup, add_lst, sub_int, neg_int, isN_hi, notN_hi, mul_int, div_int, mod_int, pow_int, abs_int, intC_int, len_tup, len_lst, tup_D, lst_D, rt_D, Bool.not_not, Bool.not_true, Bool.not_false, true_and, and_true, false_and, and_false, or_true, true_or, or_false, false_or, List.length_cons, List.length_nil, List.length_append, List.length_map, List.map_cons, List.map_nil, List.replicate_succ, List.replicate_zero, List.cons_append, List.nil_append, List.append_nil, List.set_cons_zero, List.set_cons_succ, List.getElem?_cons_zero, List.getElem?_cons_succ, Option.bind_some, Option.map_some, Option.bind_none, Option.map_none, OW_some, OW_bind, OW_map, OW_if, Bool.false_eq_true, if_true, if_false, ↓reduceIte, Nat.reduceAdd, Nat.reduceSub, Nat.zero_add, Nat.sub_self, Function.comp, b_law_3_eq, pure_range_text h hl, pure_law_range_text h hl, is_str5, read_back h hl, is_rng5 hl]
  exact hq
end K02

set_option Elab.async false
set_option linter.all false
set_option maxRecDepth 100000
set_option maxHeartbeats 4000000
namespace K02
open PySem
open L2
open Dl
open Txt
open TL
def LQ (o : OutS Hand) : Prop := ∃ e2 e3 e4 e5 e6 e7 e8 e9 e10 e11 s, o = .nx [none, some (.dat .hnd), e2, e3, e4, e5, e6, e7, e8, e9, e10, e11] s
theorem law_body {e2 e3 e4 e5 e6 e7 e8 e9 e10 e11 : Option Slot} {s : Hand} : OW (b_law_0 [none, some (.dat .hnd), e2, e3, e4, e5, e6, e7, e8, e9, e10, e11] s) LQ := by
  have hs0 : (0 ≤ sizeLine) = True := eq_true (Nat.zero_le _)
  have hs2 : (0 + 1 + 1 ≤ sizeLine) = True := eq_true (by rw [sizeLine_eq]; omega)
  simp only [mDef_eq, outD_nx, outD_rt, startE, sNil, sSeq, thenS_nx, thenS_rt, thenS_bk, thenS_ct, sAsg, sIf, sRet, sRetN, sDrop, sBrk, sCnt, sFor, sOwn, ownAt, sApp, sExt, sPut, sFrz, sPar, mIxO, mLenO, mTupO, mVar, mC, mU, mB, mNil, mCons, mF, mIsT, mAndT, mOrT, mNotT, mAnd, mOr, mNot, mIf, mChain, mPart, mNoPart, mSl, mCall, mIt, mRng, mComp, mYes, gdName, gdTup, gdCons, gdNil, wipeE, tupItems_tup, lstItems_lst, bl_bl, int_int, mHx_eq, mHlen_eq, mHcell_eq, sHput_eq, isH_hnd, hget1, hget2, hget3, hget4, hset1, hset2, hset3, hset4, eq_int, ne_int, lt_int, gt_int, le_int, ge_int, eq_bl, add_int, add_tup, add_lst, sub_int, neg_int, isN_hi, notN_hi, mul_int, div_int, mod_int, pow_int, abs_int, intC_int, len_tup, len_lst, tup_D, lst_D, rt_D, Bool.not_not, Bool.not_true, Bool.not_false, true_and, and_true, false_and, and_false, or_true, true_or, or_false, false_or, List.length_cons, List.length_nil, List.length_append, List.length_map, List.map_cons, List.map_nil, List.replicate_succ, List.replicate_zero, List.cons_append, List.nil_append, List.append_nil, List.set_cons_zero, List.set_cons_succ, List.getElem?_cons_zero, List.getElem?_cons_succ, Option.bind_some, Option.map_some, Option.bind_none, Option.map_none, OW_some, OW_bind, OW_map, OW_if, Bool.false_eq_true, if_true, if_false, ↓reduceIte, Nat.reduceAdd, Nat.reduceSub, Nat.zero_add, Nat.sub_self, Function.comp, b_law_0_eq, sParO, hs0]
  refine draw_then (by omega) (by omega) fun n s1 n0 n1 => ?_
  obtain ⟨k, k1, k3, hr⟩ := three n0 n1
  simp only [mDef_eq, outD_nx, outD_rt, startE, sNil, sSeq, thenS_nx, thenS_rt, thenS_bk, thenS_ct, sAsg, sIf, sRet, sRetN, sDrop, sBrk, sCnt, sFor, sOwn, ownAt, sApp, sExt, sPut, sFrz, sPar, mIxO, mLenO, mTupO, mVar, mC, mU, mB, mNil, mCons, mF, mIsT, mAndT, mOrT, mNotT, mAnd, mOr, mNot, mIf, mChain, mPart, mNoPart, mSl, mCall, mIt, mRng, mComp, mYes, gdName, gdTup, gdCons, gdNil, wipeE, tupItems_tup, lstItems_lst, bl_bl, int_int, mHx_eq, mHlen_eq, mHcell_eq, sHput_eq, isH_hnd, hget1, hget2, hget3, hget4, hset1, hset2, hset3, hset4, eq_int, ne_int, lt_int, gt_int, le_int, ge_int, eq_bl, add_int, add_tup, add_lst, sub_int, neg_int, isN_hi, notN_hi, mul_int, div_int, mod_int, pow_int, abs_int, intC_int, len_tup, len_lst, tup_D, lst_D, rt_D, Bool.not_not, Bool.not_true, Bool.not_false, true_and, and_true, false_and, and_false, or_true, true_or, or_false, false_or, List.length_cons, List.length_nil, List.length_append, List.length_map, List.map_cons, List.map_nil, List.replicate_succ, List.replicate_zero, List.cons_append, List.nil_append, List.append_nil, List.set_cons_zero, List.set_cons_succ, List.getElem?_cons_zero, List.getElem?_cons_succ, Option.bind_some, Option.map_some, Option.bind_none, Option.map_none, OW_some, OW_bind, OW_map, OW_if, Bool.false_eq_true, if_true, if_false, ↓reduceIte, Nat.reduceAdd, Nat.reduceSub, Nat.zero_add, Nat.sub_self, Function.comp, OW_eq hr]
  have hl := alts_loop (e2 := e2) (e4 := e4) (rngOf 0 k) [] e3 e5 e8 e9 e10 e11 s1 (fun _ h => by cases h) (by rw [rng_len, List.length_nil]; omega)
  refine OW.mono hl fun o ⟨as, a3, a5, a8, a9, a10, a11, s2, q1, q2, q3⟩ => ?_
  subst q3
  rw [rng_len, List.length_nil] at q2
  obtain ⟨N, n1, n2⟩ := alts_fits q1 (by omega)
  have hdl := n2.len
  have hln : ((as.map aT).map (·.length)).sum + (as.map aT).length * (" | " : Str).length ≤ 16777216 := by
    have h2 := sum_le (l := as.map aT) (k := 112) fun x hx => by
      obtain ⟨ps, hp, e⟩ := List.mem_map.mp hx
      rw [← e]
      have := aT_len (q1 ps hp).u.2.2
      have := (q1 ps hp).2.1
      omega
    have h3 : (" | " : Str).length = 3 := by decide +kernel
    rw [List.length_map] at h2 ⊢
    rw [h3]
    omega
  have hj := join_D (y := " | ") (l := as.map aT) hln
  have hrd := pure_read (s := s2) (as := as) (fun z => by rw [z] at q2; simp at q2; omega) (by omega) (fun ps hp => (q1 ps hp).u) (few_len (by omega) fun ps hp => (q1 ps hp).u)
  simp only [mDef_eq, outD_nx, outD_rt, startE, sNil, sSeq, thenS_nx, thenS_rt, thenS_bk, thenS_ct, sAsg, sIf, sRet, sRetN, sDrop, sBrk, sCnt, sFor, sOwn, ownAt, sApp, sExt, sPut, sFrz, sPar, mIxO, mLenO, mTupO, mVar, mC, mU, mB, mNil, mCons, mF, mIsT, mAndT, mOrT, mNotT, mAnd, mOr, mNot, mIf, mChain, mPart, mNoPart, mSl, mCall, mIt, mRng, mComp, mYes, gdName, gdTup, gdCons, gdNil, wipeE, tupItems_tup, lstItems_lst, bl_bl, int_int, mHx_eq, mHlen_eq, mHcell_eq, sHput_eq, isH_hnd, hget1, hget2, hget3, hget4, hset1, hset2, hset3, hset4, eq_int, ne_int, lt_int, gt_int, le_int, ge_int, eq_bl, add_int, add_tup, add_lst, sub_int, neg_int, isN_hi, notN_hi, mul_int, div_int, mod_int, pow_int, abs_int, intC_int, len_tup, len_lst, tup_D, lst_D, rt_D, Bool.not_not, Bool.not_true, Bool.not_false, true_and, and_true, false_and, and_false, or_true, true_or, or_false, false_or, List.length_cons, List.length_nil, List.length_append, List.length_map, List.map_cons, List.map_nil, List.replicate_succ, List.replicate_zero, List.cons_append, List.nil_append, List.append_nil, List.set_cons_zero, List.set_cons_succ, List.getElem?_cons_zero, List.getElem?_cons_succ, Option.bind_some, Option.map_some, Option.bind_none, Option.map_none, OW_some, OW_bind, OW_map, OW_if, Bool.false_eq_true, if_true, if_false, ↓reduceIte, Nat.reduceAdd, Nat.reduceSub, Nat.zero_add, Nat.sub_self, Function.comp, OW_eq hj, hrd, is_rng5 (r := as.foldl addF []) (by omega)]
  refine OW.mono range_ok fun p ⟨r, hr, hrl, e⟩ => ?_
  obtain ⟨d, s3⟩ := p
  dsimp only at e
  subst e
  simp only [hs2, mDef_eq, outD_nx, outD_rt, startE, sNil, sSeq, thenS_nx, thenS_rt, thenS_bk, thenS_ct, sAsg, sIf, sRet, sRetN, sDrop, sBrk, sCnt, sFor, sOwn, ownAt, sApp, sExt, sPut, sFrz, sPar, mIxO, mLenO, mTupO, mVar, mC, mU, mB, mNil, mCons, mF, mIsT, mAndT, mOrT, mNotT, mAnd, mOr, mNot, mIf, mChain, mPart, mNoPart, mSl, mCall, mIt, mRng, mComp, mYes, gdName, gdTup, gdCons, gdNil, wipeE, tupItems_tup, lstItems_lst, bl_bl, int_int, mHx_eq, mHlen_eq, mHcell_eq, sHput_eq, isH_hnd, hget1, hget2, hget3, hget4, hset1, hset2, hset3, hset4, eq_int, ne_int, lt_int, gt_int, le_int, ge_int, eq_bl, add_int, add_tup, add_lst, sub_int, neg_int, isN_hi, notN_hi, mul_int, div_int, mod_int, pow_int, abs_int, intC_int, len_tup, len_lst, tup_D, lst_D, rt_D, Bool.not_not, Bool.not_true, Bool.not_false, true_and, and_true, false_and, and_false, or_true, true_or, or_false, false_or, List.length_cons, List.length_nil, List.length_append, List.length_map, List.map_cons, List.map_nil, List.replicate_succ, List.replicate_zero, List.cons_append, List.nil_append, List.append_nil, List.set_cons_zero, List.set_cons_succ, List.getElem?_cons_zero, List.getElem?_cons_succ, Option.bind_some, Option.map_some, Option.bind_none, Option.map_none, OW_some, OW_bind, OW_map, OW_if, Bool.false_eq_true, if_true, if_false, ↓reduceIte, Nat.reduceAdd, Nat.reduceSub, Nat.zero_add, Nat.sub_self, Function.comp]
  unfold loopS
  simp only [mDef_eq, outD_nx, outD_rt, startE, sNil, sSeq, thenS_nx, thenS_rt, thenS_bk, thenS_ct, sAsg, sIf, sRet, sRetN, sDrop, sBrk, sCnt, sFor, sOwn, ownAt, sApp, sExt, sPut, sFrz, sPar, mIxO, mLenO, mTupO, mVar, mC, mU, mB, mNil, mCons, mF, mIsT, mAndT, mOrT, mNotT, mAnd, mOr, mNot, mIf, mChain, mPart, mNoPart, mSl, mCall, mIt, mRng, mComp, mYes, gdName, gdTup, gdCons, gdNil, wipeE, tupItems_tup, lstItems_lst, bl_bl, int_int, mHx_eq, mHlen_eq, mHcell_eq, sHput_eq, isH_hnd, hget1, hget2, hget3, hget4, hset1, hset2, hset3, hset4, eq_int, ne_int, lt_int, gt_int, le_int, ge_int, eq_bl, add_int, add_tup, add_lst, sub_int, neg_int, isN_hi, notN_hi, mul_int, div_int, mod_int, pow_int, abs_int, intC_int, len_tup, len_lst, tup_D, lst_D, rt_D, Bool.not_not, Bool.not_true, Bool.not_false, true_and, and_true, false_and, and_false, or_true, true_or, or_false, false_or, List.length_cons, List.length_nil, List.length_append, List.length_map, List.map_cons, List.map_nil, List.replicate_succ, List.replicate_zero, List.cons_append, List.nil_append, List.append_nil, List.set_cons_zero, List.set_cons_succ, List.getElem?_cons_zero, List.getElem?_cons_succ, Option.bind_some, Option.map_some, Option.bind_none, Option.map_none, OW_some, OW_bind, OW_map, OW_if, Bool.false_eq_true, if_true, if_false, ↓reduceIte, Nat.reduceAdd, Nat.reduceSub, Nat.zero_add, Nat.sub_self, Function.comp]
  refine rng_right n2.1 (by omega) ?_
  simp only [mDef_eq, outD_nx, outD_rt, startE, sNil, sSeq, thenS_nx, thenS_rt, thenS_bk, thenS_ct, sAsg, sIf, sRet, sRetN, sDrop, sBrk, sCnt, sFor, sOwn, ownAt, sApp, sExt, sPut, sFrz, sPar, mIxO, mLenO, mTupO, mVar, mC, mU, mB, mNil, mCons, mF, mIsT, mAndT, mOrT, mNotT, mAnd, mOr, mNot, mIf, mChain, mPart, mNoPart, mSl, mCall, mIt, mRng, mComp, mYes, gdName, gdTup, gdCons, gdNil, wipeE, tupItems_tup, lstItems_lst, bl_bl, int_int, mHx_eq, mHlen_eq, mHcell_eq, sHput_eq, isH_hnd, hget1, hget2, hget3, hget4, hset1, hset2, hset3, hset4, eq_int, ne_int, lt_int, gt_int, le_int, ge_int, eq_bl, add_int, add_tup, add_lst, sub_int, neg_int, isN_hi, notN_hi, mul_int, div_int, mod_int, pow_int, abs_int, intC_int, len_tup, len_lst, tup_D, lst_D, rt_D, Bool.not_not, Bool.not_true, Bool.not_false, true_and, and_true, false_and, and_false, or_true, true_or, or_false, false_or, List.length_cons, List.length_nil, List.length_append, List.length_map, List.map_cons, List.map_nil, List.replicate_succ, List.replicate_zero, List.cons_append, List.nil_append, List.append_nil, List.set_cons_zero, List.set_cons_succ, List.getElem?_cons_zero, List.getElem?_cons_succ, Option.bind_some, Option.map_some, Option.bind_none, Option.map_none, OW_some, OW_bind, OW_map, OW_if, Bool.false_eq_true, if_true, if_false, ↓reduceIte, Nat.reduceAdd, Nat.reduceSub, Nat.zero_add, Nat.sub_self, Function.comp]
  unfold loopS
  simp only [mDef_eq, outD_nx, outD_rt, startE, sNil, sSeq, thenS_nx, thenS_rt, thenS_bk, thenS_ct, sAsg, sIf, sRet, sRetN, sDrop, sBrk, sCnt, sFor, sOwn, ownAt, sApp, sExt, sPut, sFrz, sPar, mIxO, mLenO, mTupO, mVar, mC, mU, mB, mNil, mCons, mF, mIsT, mAndT, mOrT, mNotT, mAnd, mOr, mNot, mIf, mChain, mPart, mNoPart, mSl, mCall, mIt, mRng, mComp, mYes, gdName, gdTup, gdCons, gdNil, wipeE, tupItems_tup, lstItems_lst, bl_bl, int_int, mHx_eq, mHlen_eq, mHcell_eq, sHput_eq, isH_hnd, hget1, hget2, hget3, hget4, hset1, hset2, hset3, hset4, eq_int, ne_int, lt_int, gt_int, le_int, ge_int, eq_bl, add_int, add_tup, add_lst, sub_int, neg_int, isN_hi, notN_hi, mul_int, div_int, mod_int, pow_int, abs_int, intC_int, len_tup, len_lst, tup_D, lst_D, rt_D, Bool.not_not, Bool.not_true, Bool.not_false, true_and, and_true, false_and, and_false, or_true, true_or, or_false, false_or, List.length_cons, List.length_nil, List.length_append, List.length_map, List.map_cons, List.map_nil, List.replicate_succ, List.replicate_zero, List.cons_append, List.nil_append, List.append_nil, List.set_cons_zero, List.set_cons_succ, List.getElem?_cons_zero, List.getElem?_cons_succ, Option.bind_some, Option.map_some, Option.bind_none, Option.map_none, OW_some, OW_bind, OW_map, OW_if, Bool.false_eq_true, if_true, if_false, ↓reduceIte, Nat.reduceAdd, Nat.reduceSub, Nat.zero_add, Nat.sub_self, Function.comp]
  refine rng_right hr (by omega) ?_
  simp only [mDef_eq, outD_nx, outD_rt, startE, sNil, sSeq, thenS_nx, thenS_rt, thenS_bk, thenS_ct, sAsg, sIf, sRet, sRetN, sDrop, sBrk, sCnt, sFor, sOwn, ownAt, sApp, sExt, sPut, sFrz, sPar, mIxO, mLenO, mTupO, mVar, mC, mU, mB, mNil, mCons, mF, mIsT, mAndT, mOrT, mNotT, mAnd, mOr, mNot, mIf, mChain, mPart, mNoPart, mSl, mCall, mIt, mRng, mComp, mYes, gdName, gdTup, gdCons, gdNil, wipeE, tupItems_tup, lstItems_lst, bl_bl, int_int, mHx_eq, mHlen_eq, mHcell_eq, sHput_eq, isH_hnd, hget1, hget2, hget3, hget4, hset1, hset2, hset3, hset4, eq_int, ne_int, lt_int, gt_int, le_int, ge_int, eq_bl, add_int, add_tup, add_lst, sub_int, neg_int, isN_hi, notN_hi, mul_int, div_int, mod_int, pow_int, abs_int, intC_int, len_tup, len_lst, tup_D, lst_D, rt_D, Bool.not_not, Bool.not_true, Bool.not_false, true_and, and_true, false_and, and_false, or_true, true_or, or_false, false_or, List.length_cons, List.length_nil, List.length_append, List.length_map, List.map_cons, List.map_nil, List.replicate_succ, List.replicate_zero, List.cons_append, List.nil_append, List.append_nil, List.set_cons_zero, List.set_cons_succ, List.getElem?_cons_zero, List.getElem?_cons_succ, Option.bind_some, Option.map_some, Option.bind_none, Option.map_none, OW_some, OW_bind, OW_map, OW_if, Bool.false_eq_true, if_true, if_false, ↓reduceIte, Nat.reduceAdd, Nat.reduceSub, Nat.zero_add, Nat.sub_self, Function.comp]
  unfold loopS
  simp only [mDef_eq, outD_nx, outD_rt, startE, sNil, sSeq, thenS_nx, thenS_rt, thenS_bk, thenS_ct, sAsg, sIf, sRet, sRetN, sDrop, sBrk, sCnt, sFor, sOwn, ownAt, sApp, sExt, sPut, sFrz, sPar, mIxO, mLenO, mTupO, mVar, mC, mU, mB, mNil, mCons, mF, mIsT, mAndT, mOrT, mNotT, mAnd, mOr, mNot, mIf, mChain, mPart, mNoPart, mSl, mCall, mIt, mRng, mComp, mYes, gdName, gdTup, gdCons, gdNil, wipeE, tupItems_tup, lstItems_lst, bl_bl, int_int, mHx_eq, mHlen_eq, mHcell_eq, sHput_eq, isH_hnd, hget1, hget2, hget3, hget4, hset1, hset2, hset3, hset4, eq_int, ne_int, lt_int, gt_int, le_int, ge_int, eq_bl, add_int, add_tup, add_lst, sub_int, neg_int, isN_hi, notN_hi, mul_int, div_int, mod_int, pow_int, abs_int, intC_int, len_tup, len_lst, tup_D, lst_D, rt_D, Bool.not_not, Bool.not_true, Bool.not_false, true_and, and_true, false_and, and_false, or_true, true_or, or_false, false_or, List.length_cons, List.length_nil, List.length_append, List.length_map, List.map_cons, List.map_nil, List.replicate_succ, List.replicate_zero, List.cons_append, List.nil_append, List.append_nil, List.set_cons_zero, List.set_cons_succ, List.getElem?_cons_zero, List.getElem?_cons_succ, Option.bind_some, Option.map_some, Option.bind_none, Option.map_none, OW_some, OW_bind, OW_map, OW_if, Bool.false_eq_true, if_true, if_false, ↓reduceIte, Nat.reduceAdd, Nat.reduceSub, Nat.zero_add, Nat.sub_self, Function.comp]
  refine OW.mono version_small fun p ⟨x, hx, e⟩ => ?_
  obtain ⟨d, s4⟩ := p
  dsimp only at e
  subst e
  simp only [mDef_eq, outD_nx, outD_rt, startE, sNil, sSeq, thenS_nx, thenS_rt, thenS_bk, thenS_ct, sAsg, sIf, sRet, sRetN, sDrop, sBrk, sCnt, sFor, sOwn, ownAt, sApp, sExt, sPut, sFrz, sPar, mIxO, mLenO, mTupO, mVar, mC, mU, mB, mNil, mCons, mF, mIsT, mAndT, mOrT, mNotT, mAnd, mOr, mNot, mIf, mChain, mPart, mNoPart, mSl, mCall, mIt, mRng, mComp, mYes, gdName, gdTup, gdCons, gdNil, wipeE, tupItems_tup, lstItems_lst, bl_bl, int_int, mHx_eq, mHlen_eq, mHcell_eq, sHput_eq, isH_hnd, hget1, hget2, hget3, hget4, hset1, hset2, hset3, hset4, eq_int, ne_int, lt_int, gt_int, le_int, ge_int, eq_bl, add_int, add_tup, add_lst, sub_int, neg_int, isN_hi, notN_hi, mul_int, div_int, mod_int, pow_int, abs_int, intC_int, len_tup, len_lst, tup_D, lst_D, rt_D, Bool.not_not, Bool.not_true, Bool.not_false, true_and, and_true, false_and, and_false, or_true, true_or, or_false, false_or, List.length_cons, List.length_nil, List.length_append, List.length_map, List.map_cons, List.map_nil, List.replicate_succ, List.replicate_zero, List.cons_append, List.nil_append, List.append_nil, List.set_cons_zero, List.set_cons_succ, List.getElem?_cons_zero, List.getElem?_cons_succ, Option.bind_some, Option.map_some, Option.bind_none, Option.map_none, OW_some, OW_bind, OW_map, OW_if, Bool.false_eq_true, if_true, if_false, ↓reduceIte, Nat.reduceAdd, Nat.reduceSub, Nat.zero_add, Nat.sub_self, Function.comp, pure_version_text hx.ok, pure_law_version_text hx.ok, is_str5]
  exact ⟨_, _, _, _, _, _, _, _, _, _, _, rfl⟩
theorem law_loop : ∀ (xs : List D) (e2 e3 e4 e5 e6 e7 e8 e9 e10 e11 : Option Slot) (s : Hand), OW (loopS (gdName 2) b_law_0 xs [none, some (.dat .hnd), e2, e3, e4, e5, e6, e7, e8, e9, e10, e11] s) LQ
  | [], e2, e3, e4, e5, e6, e7, e8, e9, e10, e11, s => by
    show OW (some _) _
    rw [OW_some]
    exact ⟨_, _, _, _, _, _, _, _, _, _, _, rfl⟩
  | x :: xs, e2, e3, e4, e5, e6, e7, e8, e9, e10, e11, s => by
    unfold loopS
    rw [OW_bind]
    unfold gdName
    rw [OW_some, OW_bind]
    simp only [List.set_cons_zero, List.set_cons_succ]
    refine OW.mono law_body fun o ⟨a2, a3, a4, a5, a6, a7, a8, a9, a10, a11, s', e⟩ => ?_
    subst e
    exact law_loop xs a2 a3 a4 a5 a6 a7 a8 a9 a10 a11 s'
theorem cut_len {ds : List D} {k : Nat} : (cutD ds none (some (k : Int))).length ≤ ds.length := by
  unfold cutD
  rw [List.length_take, List.length_drop]
  omega
theorem allInt : ∀ {ds : List D}, (∀ d ∈ ds, ∃ i, d = .int i) → ∃ is : List Int, ds = is.map .int
  | [], _ => ⟨[], rfl⟩
  | d :: ds, h => by
    obtain ⟨i, e⟩ := h d (List.mem_cons_self ..)
    obtain ⟨l, e2⟩ := allInt fun x hx => h x (List.mem_cons_of_mem _ hx)
    exact ⟨i :: l, by rw [e, e2]; rfl⟩
def absK : D → D
  | .int i => .int (if i < 0 then -i else i)
  | d => d
theorem hand_made {ns : List Int} (hz : ns.length ≤ 63) : ∃ cells k, f__law_hand [.hnd] ns = some (handD cells k, ns) := by
  have hl : (cutD (ns.map D.int) none (some 63)).length ≤ 63 := Nat.le_trans cut_len (by rw [List.length_map]; exact hz)
  obtain ⟨is, hi⟩ := allInt (ds := cutD (ns.map D.int) none (some 63)) fun d hd => by
    obtain ⟨i, _, e⟩ := List.mem_map.mp (List.mem_of_mem_drop (List.mem_of_mem_take hd))
    exact ⟨i, e.symm⟩
  refine ⟨is.map fun i => if i < 0 then -i else i, 1 + ((is.length : Nat) : Int), eq_of_OW ?_⟩
  unfold f__law_hand
  have e : compL (gdName 2) mYes c__law_hand_0 [some (.dat .hnd), none, none] (is.map D.int) ns = some ((is.map D.int).map absK, ns) := by
    refine comp_pure fun x hx => ⟨_, rfl, ?_⟩
    obtain ⟨i, _, ei⟩ := List.mem_map.mp hx
    subst ei
    rw [c__law_hand_0_eq]
    refine eq_of_OW ?_
    simp only [mDef_eq, outD_nx, outD_rt, startE, sNil, sSeq, thenS_nx, thenS_rt, thenS_bk, thenS_ct, sAsg, sIf, sRet, sRetN, sDrop, sBrk, sCnt, sFor, sOwn, ownAt, sApp, sExt, sPut, sFrz, sPar, mIxO, mLenO, mTupO, mVar, mC, mU, mB, mNil, mCons, mF, mIsT, mAndT, mOrT, mNotT, mAnd, mOr, mNot, mIf, mChain, mPart, mNoPart, mSl, mCall, mIt, mRng, mComp, mYes, gdName, gdTup, gdCons, gdNil, wipeE, tupItems_tup, lstItems_lst, bl_bl, int_int, mHx_eq, mHlen_eq, mHcell_eq, sHput_eq, isH_hnd, hget1, hget2, hget3, hget4, hset1, hset2, hset3, hset4, eq_int, ne_int, lt_int, gt_int, le_int, ge_int, eq_bl, add_int, add_tup, add_lst, sub_int, neg_int, isN_hi, notN_hi, mul_int, div_int, mod_int, pow_int, abs_int, intC_int, len_tup, len_lst, tup_D, lst_D, rt_D, Bool.not_not, Bool.not_true, Bool.not_false, true_and, and_true, false_and, and_false, or_true, true_or, or_false, false_or, List.length_cons, List.length_nil, List.length_append, List.length_map, List.map_cons, List.map_nil, List.replicate_succ, List.replicate_zero, List.cons_append, List.nil_append, List.append_nil, List.set_cons_zero, List.set_cons_succ, List.getElem?_cons_zero, List.getElem?_cons_succ, Option.bind_some, Option.map_some, Option.bind_none, Option.map_none, OW_some, OW_bind, OW_map, OW_if, Bool.false_eq_true, if_true, if_false, ↓reduceIte, Nat.reduceAdd, Nat.reduceSub, Nat.zero_add, Nat.sub_self, Function.comp]
    rfl
  have hs1 : ∀ n : Nat, n ≤ 40 → ((n ≤ sizeLine) = True) := fun n h => eq_true (by rw [sizeLine_eq]; omega)
  have e2 : mScr 0 63 [some (.dat .hnd), none, none] ns = some (.lst (is.map D.int), ns) := by
    unfold mScr
    rw [isH_hnd, if_pos rfl, ← hi]
    rfl
  have e3 : (is.map D.int).map absK = (is.map fun i => if i < 0 then -i else i).map D.int := by
    rw [List.map_map, List.map_map]
    rfl
  rw [e3] at e
  generalize hC : (is.map fun i => if i < 0 then -i else i) = C at *
  have hcl : C.length = is.length := by rw [← hC, List.length_map]
  rw [← hcl]
  simp only [mDef_eq, outD_nx, outD_rt, startE, sNil, sSeq, thenS_nx, thenS_rt, thenS_bk, thenS_ct, sAsg, sIf, sRet, sRetN, sDrop, sBrk, sCnt, sFor, sOwn, ownAt, sApp, sExt, sPut, sFrz, sPar, mIxO, mLenO, mTupO, mVar, mC, mU, mB, mNil, mCons, mF, mIsT, mAndT, mOrT, mNotT, mAnd, mOr, mNot, mIf, mChain, mPart, mNoPart, mSl, mCall, mIt, mRng, mComp, mYes, gdName, gdTup, gdCons, gdNil, wipeE, tupItems_tup, lstItems_lst, bl_bl, int_int, mHx_eq, mHlen_eq, mHcell_eq, sHput_eq, isH_hnd, hget1, hget2, hget3, hget4, hset1, hset2, hset3, hset4, eq_int, ne_int, lt_int, gt_int, le_int, ge_int, eq_bl, add_int, add_tup, add_lst, sub_int, neg_int, isN_hi, notN_hi, mul_int, div_int, mod_int, pow_int, abs_int, intC_int, len_tup, len_lst, tup_D, lst_D, rt_D, Bool.not_not, Bool.not_true, Bool.not_false, true_and, and_true, false_and, and_false, or_true, true_or, or_false, false_or, List.length_cons, List.length_nil, List.length_append, List.length_map, List.map_cons, List.map_nil, List.replicate_succ, List.replicate_zero, List.cons_append, List.nil_append, List.append_nil, List.set_cons_zero, List.set_cons_succ, List.getElem?_cons_zero, List.getElem?_cons_succ, Option.bind_some, Option.map_some, Option.bind_none, Option.map_none, OW_some, OW_bind, OW_map, OW_if, Bool.false_eq_true, if_true, if_false, ↓reduceIte, Nat.reduceAdd, Nat.reduceSub, Nat.zero_add, Nat.sub_self, Function.comp, e2, OW_eq e, hs1 5 (by omega)]
  rfl
theorem law_ok : LawOk 12 1 m_law f__law_hand := fun ns hz => by
  obtain ⟨cells, k, e1⟩ := hand_made hz
  have hr : rng1D [.int 6] = some (rngOf 0 6) := rng1_nat (n := 6) (by omega)
  have h : OW (m_law (startH 12 1) (hand0 cells k)) fun o => ∃ s', o = .rt (.bl true) s' := by
    unfold m_law
    have en : startH 12 1 = [none, some (.dat .hnd), none, none, none, none, none, none, none, none, none, none] := rfl
    rw [en]
    unfold sSeq sFor
    simp only [mRng, mCons, mC, mNil, OW_bind, OW_map, OW_some, OW_eq hr]
    refine OW.mono (law_loop _ _ _ _ _ _ _ _ _ _ _ _) fun o ⟨a2, a3, a4, a5, a6, a7, a8, a9, a10, a11, s', e⟩ => ?_
    subst e
    rw [thenS_nx]
    unfold sRet mC
    rw [OW_map, OW_some]
    exact ⟨_, rfl⟩
  obtain ⟨o, eo, s', e⟩ := h.get
  subst e
  exact ⟨cells, k, s', e1, eo⟩
end K02

set_option Elab.async false
set_option linter.all false
set_option maxRecDepth 100000
set_option maxHeartbeats 0
namespace K02
open PySem PySem.Spec PyProof.Rows L2 Dl
abbrev R : PySem.W.OpenRow := PySem.W.OpenLaw.row PySem.Challenge.rw_lockwright_k02_whole_texts_of_ranges
def fa : List He.Fa := faOf gs fr is ss ts
abbrev hk : PySem.W.Hook := hookY 4 fa fns ts
def ob (s : PySem.W.SharedT) : He.AlD × Bool := obsY 4 fa fns ts (HandSHeadRun.getT s)
theorem ob_eq (s : PySem.W.SharedT) : ob s = hk.obs s.abs := obsY_eq (HandSHeadRun.getT_eq s)
def loose : List Str := ("LockError" : Str) :: ("BadText" : Str) :: ("FIGURES" : Str) :: ("MOST_SIGNS" : Str) :: ("is_integer" : Str) :: ("is_within" : Str) :: ("number_told" : Str) :: ("GREATEST" : Str) :: ("LEAST" : Str) :: ("WHOLE" : Str) :: ("OR" : Str) :: ("AND" : Str) :: ("is_version" : Str) :: ("is_stretch" : Str) :: ("is_below" : Str) :: ("lesser_high" : Str) :: ("both" : Str) :: ("outside" : Str) :: ("either" : Str) :: ("version_text" : Str) :: ("version_told" : Str) :: ("behind" : Str) :: ("top_of_kin" : Str) :: ("stretches_told" : Str) :: ("part_told" : Str) :: ("read_range" : Str) :: ("stretch_text" : Str) :: ("range_text" : Str) :: ("_law_hand" : Str) :: ("_law_draw" : Str) :: ("_law_some" : Str) :: ("_law_is" : Str) :: ("_law_version" : Str) :: ("_law_behind" : Str) :: ("_law_has" : Str) :: ("_law_marks" : Str) :: ("_law_made" : Str) :: ("_law_both" : Str) :: ("_law_either" : Str) :: ("_law_outside" : Str) :: ("_law_range" : Str) :: ("_law_version_text" : Str) :: ("_law_part_text" : Str) :: ("_law_part" : Str) :: ("_law_words" : Str) :: ("_law_range_text" : Str) :: []
theorem run (w : World) : HandSHeadRun.RunEq R (PySem.W.view R.prog [50]) hk ob 4000 loose w := by
  intro os
  kernel_rfl
end K02
open PySem PySem.W PySem.Calls PyProof.Rows
theorem PySem.Challenge.cw_lockwright_k02_whole_texts_of_ranges_holds : PySem.Challenge.rw_lockwright_k02_whole_texts_of_ranges.Holds := by
  w_on; o_law
  refine HandSHeadRun.head_any (r := OpenLaw.row PySem.Challenge.rw_lockwright_k02_whole_texts_of_ranges) (q := view (OpenLaw.row PySem.Challenge.rw_lockwright_k02_whole_texts_of_ranges).prog [50]) (H := K02.hk) (ob := K02.ob) (M := 4000) (loose := K02.loose) (d := HandSHeadRun.topDef (OpenLaw.row PySem.Challenge.rw_lockwright_k02_whole_texts_of_ranges).prog 50) (kwd := []) K02.ob_eq
    (by kernel_rfl) (fun s => by kernel_rfl) K02.run (by kernel_rfl) (by kernel_rfl) (by kernel_rfl) (by rfl) (by first | assumption | decide +kernel) (by decide +kernel) ⟨rfl, rfl, rfl, rfl, rfl, by decide +kernel⟩ ?hw ?hc
  case hw => w_witness2
  case hc =>
    refine L2.walk_ofE (l := PySem.Challenge.rw_lockwright_k02_whole_texts_of_ranges) (n := 63) (k := 7) (x := "_law_script") (CX := L2.CX0) rfl (by decide) (by kernel_rfl) ⟨rfl, by decide, by decide⟩ ?F (fun _ _ _ _ z => z)
    intro w mg fa h Y G hmg0
    obtain ⟨K, KX, c⟩ := Y
    have T : K02.Txt K mg := Dl.tx_of KX G c
    have hmg : mg ("law" : PySem.Str) = some (.ref fa) := by
      have e : (HandSHeadRun.topDef (OpenLaw.row PySem.Challenge.rw_lockwright_k02_whole_texts_of_ranges).prog 50).name = ("law" : PySem.Str) := by kernel_rfl
      rw [← e]
      exact hmg0
    obtain ⟨fd, hb, hF⟩ := K02.ok_law T K02.law_ok
    have hfa : fa = He.fAd K ("law", none) := by
      have e := T.glo "law" (by decide +kernel)
      rw [hmg] at e
      cases e
      rfl
    subst hfa
    exact ⟨K, fd, Dl.spLaw K, KX, hb, fun H a ns hl _ hS => ⟨a, ns, rfl, hS, hl, fun _ => rfl⟩, fun base _ _ => hF _ _ _⟩

