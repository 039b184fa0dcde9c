import PyProof.Rows.All
import Wide.All
import OpenK.AllK
import Wide.FinOn
import HandS.ForMost
import HandS.IsInst
import HandS.Wide
import HandS.HeadHook2
import HandS.TupAny
import KE.DataCmp
import KE.DataEq
import HandS.Defaults
import HandS.HeadHook1
import KE.KRevSl
import KE.GoesMore
import PyProof.Draws
import PyProof.EnumMake
import KE.DataMinMax
import HandS.TupSets
import HandS.Text
import HandS.Dict
import HandS.ExcSuper
import HandS.ExcInit
import HandS.ExcCtx
import HandS.ExcOwn
import KE.KExcSuper
import HandS.ExcIs
import HandS.ExcField
import HandS.WordsExc
import HandS.Small
import HandS.Set
import HandS.SetFor
import HandS.SetTxt0
import HandS.Strs
import HandS.More
import HandS.Iter
import PyProof.Rows.StrRev
import PyProof.Rows.StrStep
import HandS.Zip0
import KE.GoesEnum
import HandS.RaiseMore
import PySem.Challenge.RW_lockwright_k41_whole_locks_there_and_bac
import PyProof.Rows.StrMeet
import KE.KStateDown
import Lean
import HandS.HeadEnd
import HandS.Head2
set_option Elab.async false
set_option linter.all false
set_option maxRecDepth 100000
set_option maxHeartbeats 4000000
/-! D1: data, how the heap bears it, what a step leaves as it was. -/
namespace Dl
open PySem
open L2

/-- what a program of ours computes with: immutable things by value, lists and dicts as they stand -/
inductive D where
  | non | bl (b : Bool) | int (i : Int) | str (x : Str)
  | tup (xs : List D) | lst (xs : List D) | dct (ks : List Key) (xs : List D) | hnd
  | exn (c f : Str) (xs : List D) | ins (c : Str) (ks : List Str) (xs : List D)

/-- the one thing that changes under everybody's hands -/
structure Amb (S : Type) where
  at' : S → Hp → Prop
  own : Addr → Prop
  hA : Addr
  there : ∀ s H p, at' s H → own p → H p ≠ none
  stay : ∀ s H H', at' s H → (∀ p o, own p → H p = some o → H' p = some o) → at' s H'
  /-- the error that an except suite holds: where it stands, its class, its dict -/
  ex : Option (Addr × Value × Option Addr) := none

mutual
/-- the value v is the data d, as the still heap F bears it -/
def Dv (K : PySem.W.Frag) {S : Type} (B : Amb S) (F : Hp) : D → V → Prop
  | .non, v => v = .non
  | .bl b, v => v = .bl b
  | .int i, v => v = .int i
  | .str x, v => v = .str x
  | .tup ds, v => ∃ a vs, v = .ref a ∧ SqT K F a vs ∧ DvL K B F ds vs
  | .lst ds, v => ∃ a vs, v = .ref a ∧ F a = some (.lst vs) ∧ DvL K B F ds vs
  | .dct ks ds, v => ∃ a kvs, v = .ref a ∧ F a = some (.dK kvs) ∧ kvs.map (·.1) = ks ∧ DvL K B F ds (kvs.map (·.2))
  | .hnd, v => v = .ref B.hA
  | .exn c f ds, v => ∃ a d ws, B.ex = some (a, .ref (He.ga K c), d) ∧ v = .ref a ∧ ((d = none ∧ ws = []) ∨ ∃ dd w, d = some dd ∧ F dd = some (.xd [(f, w)]) ∧ ws = [w]) ∧ DvL K B F ds ws
  | .ins c ks ds, v => ∃ a dx fs, v = .ref a ∧ F a = some (.ins (He.ga K c) dx fs) ∧ F dx = some (.own a) ∧ fs.map (·.1) = ks ∧ DvL K B F ds (fs.map (·.2))
def DvL (K : PySem.W.Frag) {S : Type} (B : Amb S) (F : Hp) : List D → List V → Prop
  | [], vs => vs = []
  | d :: ds, vs => ∃ v r, vs = v :: r ∧ Dv K B F d v ∧ DvL K B F ds r
end

theorem rd_ext {F F' : Hp} {a : Addr} {u : HO} (e : Same F F') (h : Rd F a u) : Rd F' a u := by
  rcases h with h | ⟨o, h⟩
  · exact .inl (e a _ h)
  · exact .inr ⟨o, e a _ h⟩
theorem sqT_ext {K : PySem.W.Frag} {F F' : Hp} {a : Addr} {vs : List V} (e : Same F F') (h : SqT K F a vs) : SqT K F' a vs := by
  rcases h with h | h
  · exact .inl (rd_ext e h)
  · exact .inr h

section
variable {K : PySem.W.Frag} {S : Type} {B : Amb S} {F F' : Hp}
mutual
theorem Dv.ext (e : Same F F') : ∀ {d : D} {v : V}, Dv K B F d v → Dv K B F' d v
  | .non, _, h => h
  | .bl _, _, h => h
  | .int _, _, h => h
  | .str _, _, h => h
  | .hnd, _, h => h
  | .tup _, _, ⟨a, vs, h1, h2, h3⟩ => ⟨a, vs, h1, sqT_ext e h2, DvL.ext e h3⟩
  | .lst _, _, ⟨a, vs, h1, h2, h3⟩ => ⟨a, vs, h1, e a _ h2, DvL.ext e h3⟩
  | .dct _ _, _, ⟨a, kvs, h1, h2, h3, h4⟩ => ⟨a, kvs, h1, e a _ h2, h3, DvL.ext e h4⟩
  | .exn _ _ _, _, ⟨a, d, ws, h1, h2, h3, h4⟩ => ⟨a, d, ws, h1, h2, h3.imp id fun ⟨dd, w, k1, k2, k3⟩ => ⟨dd, w, k1, e dd _ k2, k3⟩, DvL.ext e h4⟩
  | .ins _ _ _, _, ⟨a, dx, fs, h1, h2, h3, h4, h5⟩ => ⟨a, dx, fs, h1, e a _ h2, e dx _ h3, h4, DvL.ext e h5⟩
theorem DvL.ext (e : Same F F') : ∀ {ds : List D} {vs : List V}, DvL K B F ds vs → DvL K B F' ds vs
  | [], _, h => h
  | _ :: _, _, ⟨v, r, h1, h2, h3⟩ => ⟨v, r, h1, Dv.ext e h2, DvL.ext e h3⟩
end
theorem DvL.len : ∀ {ds : List D} {vs : List V}, DvL K B F ds vs → vs.length = ds.length
  | [], _, h => by
    cases h
    rfl
  | _ :: _, _, ⟨v, r, h1, _, h3⟩ => by
    subst h1
    rw [List.length_cons, List.length_cons, DvL.len h3]
theorem DvL.get : ∀ {ds : List D} {vs : List V} {i : Nat} {d : D}, DvL K B F ds vs → ds[i]? = some d → ∃ v, vs[i]? = some v ∧ Dv K B F d v
  | [], _, _, _, _, e => by simp at e
  | d0 :: ds, _, 0, d, ⟨v, r, h1, h2, h3⟩, e => by
    subst h1
    simp at e
    subst e
    exact ⟨v, by simp, h2⟩
  | d0 :: ds, _, i + 1, d, ⟨v, r, h1, h2, h3⟩, e => by
    subst h1
    obtain ⟨w, e1, e2⟩ := DvL.get (i := i) (d := d) h3 (by simpa using e)
    exact ⟨w, by simpa using e1, e2⟩
theorem DvL.getV : ∀ {ds : List D} {vs : List V} {i : Nat} {v : V}, DvL K B F ds vs → vs[i]? = some v → ∃ d, ds[i]? = some d ∧ Dv K B F d v
  | [], _, i, _, h, e => by
    cases h
    simp at e
  | d0 :: ds, _, 0, v, ⟨v', r, h1, h2, h3⟩, e => by
    subst h1
    simp at e
    subst e
    exact ⟨d0, by simp, h2⟩
  | d0 :: ds, _, i + 1, v, ⟨v', r, h1, h2, h3⟩, e => by
    subst h1
    obtain ⟨w, e1, e2⟩ := DvL.getV (i := i) (v := v) h3 (by simpa using e)
    exact ⟨w, by simpa using e1, e2⟩
theorem DvL.app : ∀ {ds es : List D} {vs us : List V}, DvL K B F ds vs → DvL K B F es us → DvL K B F (ds ++ es) (vs ++ us)
  | [], _, _, _, h, k => by
    cases h
    exact k
  | _ :: _, _, _, _, ⟨v, r, h1, h2, h3⟩, k => by
    subst h1
    exact ⟨v, _, rfl, h2, DvL.app h3 k⟩
theorem DvL.one {d : D} {v : V} (h : Dv K B F d v) : DvL K B F [d] [v] := ⟨v, [], rfl, h, rfl⟩
theorem DvL.take : ∀ {ds : List D} {vs : List V} (n : Nat), DvL K B F ds vs → DvL K B F (ds.take n) (vs.take n)
  | _, _, 0, _ => by
    rw [List.take_zero, List.take_zero]
    exact rfl
  | [], _, n + 1, h => by
    cases h
    exact rfl
  | _ :: _, _, n + 1, ⟨v, r, h1, h2, h3⟩ => by
    subst h1
    exact ⟨v, _, rfl, h2, DvL.take n h3⟩
theorem DvL.drop : ∀ {ds : List D} {vs : List V} (n : Nat), DvL K B F ds vs → DvL K B F (ds.drop n) (vs.drop n)
  | _, _, 0, h => h
  | [], _, n + 1, h => by
    cases h
    exact rfl
  | _ :: _, _, n + 1, ⟨v, r, h1, h2, h3⟩ => by
    subst h1
    exact DvL.drop n h3
theorem DvL.set : ∀ {ds : List D} {vs : List V} {d : D} {v : V} (n : Nat), DvL K B F ds vs → Dv K B F d v → DvL K B F (ds.set n d) (vs.set n v)
  | [], _, _, _, n, h, _ => by
    cases h
    exact rfl
  | _ :: _, _, d, v, 0, ⟨v', r, h1, h2, h3⟩, k => by
    subst h1
    exact ⟨v, _, rfl, k, h3⟩
  | _ :: _, _, d, v, n + 1, ⟨v', r, h1, h2, h3⟩, k => by
    subst h1
    exact ⟨v', _, rfl, h2, DvL.set n h3 k⟩
theorem DvL.rev : ∀ {ds : List D} {vs : List V}, DvL K B F ds vs → DvL K B F ds.reverse vs.reverse
  | [], _, h => by
    cases h
    exact rfl
  | _ :: _, _, ⟨v, r, h1, h2, h3⟩ => by
    subst h1
    rw [List.reverse_cons, List.reverse_cons]
    exact DvL.app (DvL.rev h3) (DvL.one h2)
theorem DvL.ints : ∀ {ns : List Int} {vs : List V}, DvL K B F (ns.map D.int) vs → vs = ns.map V.int
  | [], _, h => h
  | n :: ns, _, ⟨v, r, h1, h2, h3⟩ => by
    subst h1
    rw [List.map_cons, DvL.ints h3]
    have e : v = V.int n := h2
    rw [e]
theorem DvL.bls : ∀ {ns : List Bool} {vs : List V}, DvL K B F (ns.map D.bl) vs → vs = ns.map V.bl
  | [], _, h => h
  | n :: ns, _, ⟨v, r, h1, h2, h3⟩ => by
    subst h1
    rw [List.map_cons, DvL.bls h3]
    have e : v = V.bl n := h2
    rw [e]
theorem DvL.strs : ∀ {ns : List Str} {vs : List V}, DvL K B F (ns.map D.str) vs → vs = ns.map V.str
  | [], _, h => h
  | n :: ns, _, ⟨v, r, h1, h2, h3⟩ => by
    subst h1
    rw [List.map_cons, DvL.strs h3]
    have e : v = V.str n := h2
    rw [e]
theorem DvL.of_ints : ∀ {ns : List Int}, DvL K B F (ns.map D.int) (ns.map V.int)
  | [] => rfl
  | n :: ns => ⟨_, _, rfl, rfl, DvL.of_ints⟩
end

/-! ### states -/
structure Ok {S : Type} (B : Amb S) (F H : Hp) (s : S) : Prop where
  sub : Same F H
  ap : ∀ p, B.own p → F p = none
  am : B.at' s H
structure Ev {S : Type} (B : Amb S) (F H : Hp) (F' H' : Hp) (s' : S) : Prop where
  fs : ∀ p, H p ≠ none → F' p = F p
  hs : ∀ p o, H p = some o → ¬ B.own p → H' p = some o
  ok : Ok B F' H' s'
section
variable {S : Type} {B : Amb S} {F H F1 H1 F2 H2 : Hp} {s s1 s2 : S}
theorem Ok.refl (o : Ok B F H s) : Ev B F H F H s := ⟨fun _ _ => rfl, fun _ _ h _ => h, o⟩
theorem Ev.sameF (o : Ok B F H s) (e : Ev B F H F1 H1 s1) : Same F F1 := fun p u h => by
  rw [e.fs p (by rw [o.sub p u h]; exact fun z => nomatch z)]
  exact h
theorem Ev.dom (e : Ev B F H F1 H1 s1) {p : Addr} (h : H p ≠ none) : H1 p ≠ none := by
  by_cases hp : B.own p
  · exact B.there s1 H1 p e.ok.am hp
  · cases q : H p with
    | none => exact absurd q h
    | some o =>
      rw [e.hs p o q hp]
      exact fun z => nomatch z
theorem Ev.free (e : Ev B F H F1 H1 s1) {p : Addr} (h : H1 p = none) : H p = none := by
  cases q : H p with
  | none => rfl
  | some o => exact absurd h (e.dom (by rw [q]; exact fun z => nomatch z))
theorem Ev.trans (e1 : Ev B F H F1 H1 s1) (e2 : Ev B F1 H1 F2 H2 s2) : Ev B F H F2 H2 s2 :=
  ⟨fun p h => (e2.fs p (e1.dom h)).trans (e1.fs p h), fun p o h hp => e2.hs p o (e1.hs p o h hp) hp, e2.ok⟩
theorem ne_own (o : Ok B F H s) {p : Addr} (h : H p = none) : ¬ B.own p := fun z => B.there s H p o.am z h
/-- a new thing that stays as it is -/
theorem Ev.new (o : Ok B F H s) {p : Addr} (u : HO) (h : H p = none) : Ev B F H (upd F p u) (upd H p u) s := by
  have hf : F p = none := by
    cases q : F p with
    | none => rfl
    | some x =>
      rw [o.sub p x q] at h
      cases h
  refine ⟨fun q hq => upd_ne fun z => hq (z ▸ h), fun q x hx _ => ?_, ⟨fun q x hx => ?_, fun q hq => ?_, B.stay s H _ o.am fun q x _ hx => ?_⟩⟩
  · rw [upd_ne (ne_of_none hx h)]
    exact hx
  · by_cases hb : q = p
    · subst hb
      rw [upd_same] at hx ⊢
      exact hx
    · rw [upd_ne hb] at hx ⊢
      exact o.sub q x hx
  · have z : q ≠ p := fun z => ne_own o h (z ▸ hq)
    rw [upd_ne z]
    exact o.ap q hq
  · rw [upd_ne (ne_of_none hx h)]
    exact hx
/-- a new thing of one's own: it may change -/
theorem Ev.newO (o : Ok B F H s) {p : Addr} (u : HO) (h : H p = none) : Ev B F H F (upd H p u) s := by
  refine ⟨fun _ _ => rfl, fun q x hx _ => ?_, ⟨fun q x hx => ?_, o.ap, B.stay s H _ o.am fun q x _ hx => ?_⟩⟩
  · rw [upd_ne (ne_of_none hx h)]
    exact hx
  · have e := o.sub q x hx
    rw [upd_ne (ne_of_none e h)]
    exact e
  · rw [upd_ne (ne_of_none hx h)]
    exact hx
end
end Dl

set_option Elab.async false
set_option linter.all false
set_option maxRecDepth 100000
set_option maxHeartbeats 4000000
/-! D2: a frame's names, expressions. -/
namespace Dl
open PySem
open L2

inductive Slot where
  | dat (d : D) | own (xs : List D)
abbrev DE := List (Option Slot)

structure EnvOk (K : PySem.W.Frag) {S : Type} (B : Amb S) (F H : Hp) (σ : L2.St) (env : DE) : Prop where
  len : σ.length = env.length
  dat : ∀ (i : Nat) (d : D), env[i]? = some (some (.dat d)) → ∃ v, σ[i]? = some (some v) ∧ Dv K B F d v
  own : ∀ (i : Nat) (xs : List D), env[i]? = some (some (.own xs)) → ∃ a vs, σ[i]? = some (some (.ref a)) ∧ F a = none ∧ ¬ B.own a ∧ H a = some (.lst vs) ∧ DvL K B F xs vs
  inj : ∀ (i j : Nat) (xs ys : List D) (a : Addr), env[i]? = some (some (.own xs)) → env[j]? = some (some (.own ys)) → σ[i]? = some (some (.ref a)) → σ[j]? = some (some (.ref a)) → i = j
section
variable {K : PySem.W.Frag} {S : Type} {B : Amb S} {F H F1 H1 : Hp} {s s1 : S} {σ : L2.St} {env : DE}
theorem EnvOk.step (E : EnvOk K B F H σ env) (o : Ok B F H s) (e : Ev B F H F1 H1 s1) : EnvOk K B F1 H1 σ env := by
  refine ⟨E.len, fun i d h => ?_, fun i xs h => ?_, E.inj⟩
  · obtain ⟨v, h1, h2⟩ := E.dat i d h
    exact ⟨v, h1, h2.ext (e.sameF o)⟩
  · obtain ⟨a, vs, h1, h2, h3, h4, h5⟩ := E.own i xs h
    exact ⟨a, vs, h1, (e.fs a (by rw [h4]; exact fun z => nomatch z)).trans h2, h3, e.hs a _ h4 h3, h5.ext (e.sameF o)⟩
end

abbrev ME (S : Type) := DE → S → Option (D × S)
abbrev MT (S : Type) := DE → S → Option (Bool × S)
abbrev ML (S : Type) := DE → S → Option (List D × S)
abbrev MO (S : Type) := DE → S → Option (Option Int × S)
def tD (K : PySem.W.Frag) {S : Type} (B : Amb S) (m : ME S) : TE := fun σ H Q => ∃ env F s d s', EnvOk K B F H σ env ∧ Ok B F H s ∧ m env s = some (d, s') ∧ ∀ v F' H', Ev B F H F' H' s' → Dv K B F' d v → Q v H'
def tT (K : PySem.W.Frag) {S : Type} (B : Amb S) (m : MT S) : TT := fun σ H Q => ∃ env F s b s', EnvOk K B F H σ env ∧ Ok B F H s ∧ m env s = some (b, s') ∧ ∀ F' H', Ev B F H F' H' s' → Q b H'
def tL (K : PySem.W.Frag) {S : Type} (B : Amb S) (m : ML S) : TA := fun σ H Q => ∃ env F s ds s', EnvOk K B F H σ env ∧ Ok B F H s ∧ m env s = some (ds, s') ∧ ∀ vs F' H', Ev B F H F' H' s' → DvL K B F' ds vs → Q vs H'
def tO (K : PySem.W.Frag) {S : Type} (B : Amb S) (m : MO S) : TO := fun σ H Q => ∃ env F s o s', EnvOk K B F H σ env ∧ Ok B F H s ∧ m env s = some (o, s') ∧ ∀ F' H', Ev B F H F' H' s' → Q o H'

section
variable {X : Cx} {e : Expr}
theorem pe_w {t t' : TE} (h : PE X e t) (hi : ∀ σ H Q, t' σ H Q → t σ H Q) : PE X e t' := ⟨fun pins s σ H Q I hw => h.run pins s σ H Q I (hi σ H Q hw)⟩
theorem pt_w {t t' : TT} (h : PT X e t) (hi : ∀ σ H Q, t' σ H Q → t σ H Q) : PT X e t' := ⟨fun pins s σ H Q I hw => h.run pins s σ H Q I (hi σ H Q hw)⟩
theorem pw_w {t t' : TT} (h : PW X e t) (hi : ∀ σ H Q, t' σ H Q → t σ H Q) : PW X e t' := ⟨fun wh pins s σ H Q I hw => h.run wh pins s σ H Q I (hi σ H Q hw)⟩
theorem pa_w {es : List Expr} {t t' : TA} (h : PA X es t) (hi : ∀ σ H Q, t' σ H Q → t σ H Q) : PA X es t' := ⟨fun pos pins s σ H Q I hw => h.run pos pins s σ H Q I (hi σ H Q hw)⟩
theorem po_w {e : Option Expr} {t t' : TO} (h : PO X e t) (hi : ∀ σ H Q, t' σ H Q → t σ H Q) : PO X e t' := ⟨fun pins s σ H Q I hw => h.run pins s σ H Q I (hi σ H Q hw)⟩
end

/-! ### the words of a mirror -/
section
variable {S : Type} {B : Amb S}
def mVar (i : Nat) : ME S := fun env s => match env[i]? with
  | some (some (.dat d)) => some (d, s)
  | _ => none
def mC (d : D) : ME S := fun _ s => some (d, s)
def mU (f : D → Option D) (a : ME S) : ME S := fun env s => (a env s).bind fun p => (f p.1).map fun z => (z, p.2)
def mB (f : D → D → Option D) (a b : ME S) : ME S := fun env s => (a env s).bind fun p => (b env p.2).bind fun q => (f p.1 q.1).map fun z => (z, q.2)
def mNil : ML S := fun _ s => some ([], s)
def mCons (a : ME S) (l : ML S) : ML S := fun env s => (a env s).bind fun p => (l env p.2).map fun q => (p.1 :: q.1, q.2)
def mF (f : List D → Option D) (l : ML S) : ME S := fun env s => (l env s).bind fun p => (f p.1).map fun z => (z, p.2)
def blD : D → Option Bool
  | .bl b => some b
  | _ => none
def mIsT (a : ME S) : MT S := fun env s => (a env s).bind fun p => (blD p.1).map fun b => (b, p.2)
def mAndT (a b : MT S) : MT S := fun env s => (a env s).bind fun p => if p.1 = true then b env p.2 else some (false, p.2)
def mOrT (a b : MT S) : MT S := fun env s => (a env s).bind fun p => if p.1 = true then some (true, p.2) else b env p.2
def mNotT (a : MT S) : MT S := fun env s => (a env s).map fun p => (!p.1, p.2)
def mAnd (a b : ME S) : ME S := fun env s => (a env s).bind fun p => (blD p.1).bind fun c => if c = true then b env p.2 else some (.bl false, p.2)
def mOr (a b : ME S) : ME S := fun env s => (a env s).bind fun p => (blD p.1).bind fun c => if c = true then some (.bl true, p.2) else b env p.2
def mNot (a : ME S) : ME S := fun env s => (a env s).bind fun p => (blD p.1).map fun c => (.bl (!c), p.2)
def mIf (t : MT S) (a b : ME S) : ME S := fun env s => (t env s).bind fun p => if p.1 = true then a env p.2 else b env p.2
/-- two comparisons in a row -/
def mChain (f g : D → D → Option D) (a b c : ME S) : ME S := fun env s => (a env s).bind fun p => (b env p.2).bind fun q => (f p.1 q.1).bind fun z => (blD z).bind fun k =>
  if k = true then (c env q.2).bind fun r => (g q.1 r.1).map fun z => (z, r.2) else some (.bl false, q.2)
def mPart (a : ME S) : MO S := fun env s => (a env s).bind fun p => match p.1 with
  | .int i => some (some i, p.2)
  | _ => none
def mNoPart : MO S := fun _ s => some (none, s)
def mSl (f : D → Option Int → Option Int → Option D) (a : ME S) (l u : MO S) : ME S := fun env s => (a env s).bind fun p => (l env p.2).bind fun q => (u env q.2).bind fun r => (f p.1 q.1 r.1).map fun z => (z, r.2)
end

/-! ### what a rule by values is worth over data -/
def OpD (K : PySem.W.Frag) {S : Type} (B : Amb S) (r : R2) (f : D → D → Option D) : Prop := ∀ (F H : Hp) (s : S) (dx dy dz : D) (x y : V) (Q : VK), Ok B F H s → Dv K B F dx x → Dv K B F dy y → f dx dy = some dz →
  (∀ v F' H', Ev B F H F' H' s → Dv K B F' dz v → Q v H') → r x y H Q
def UnD (K : PySem.W.Frag) {S : Type} (B : Amb S) (r : V → Hp → VK → Prop) (f : D → Option D) : Prop := ∀ (F H : Hp) (s : S) (dx dz : D) (x : V) (Q : VK), Ok B F H s → Dv K B F dx x → f dx = some dz →
  (∀ v F' H', Ev B F H F' H' s → Dv K B F' dz v → Q v H') → r x H Q
def CallD (K : PySem.W.Frag) {S : Type} (B : Amb S) (r : List V → Hp → VK → Prop) (f : List D → Option D) : Prop := ∀ (F H : Hp) (s : S) (ds : List D) (dz : D) (vs : List V) (Q : VK), Ok B F H s → DvL K B F ds vs → f ds = some dz →
  (∀ v F' H', Ev B F H F' H' s → Dv K B F' dz v → Q v H') → r vs H Q

section
variable {X : Cx} {S : Type} {B : Amb S} {a b c : Expr} {es : List Expr} {pos : Pos} {ma mb mc : ME S} {ml : ML S}
theorem d_var {i : Nat} (h : PE X a (tVar i)) : PE X a (tD X.K B (mVar i)) := pe_w h fun σ H Q ⟨env, F, s, d, s', E, o, hm, hq⟩ => by
  unfold mVar at hm
  split at hm
  · rename_i d' hd
    cases hm
    obtain ⟨v, h1, h2⟩ := E.dat i d hd
    exact ⟨v, h1, hq v F H o.refl h2⟩
  · cases hm
theorem d_c {v : V} {d : D} (h : PE X a (tC v)) (hd : ∀ F, Dv X.K B F d v) : PE X a (tD X.K B (mC d)) := pe_w h fun σ H Q ⟨env, F, s, d', s', E, o, hm, hq⟩ => by
  have e : (d, s) = (d', s') := Option.some.inj hm
  cases e
  exact hq v F H o.refl (hd F)
theorem bin_un {f : D → D → Option D} {env : DE} {s s' : S} {d : D} (h : mB f ma mb env s = some (d, s')) : ∃ x s1 y, ma env s = some (x, s1) ∧ mb env s1 = some (y, s') ∧ f x y = some d := by
  unfold mB at h
  cases e1 : ma env s with
  | none => simp [e1] at h
  | some p =>
    cases e2 : mb env p.2 with
    | none => simp [e1, e2] at h
    | some q =>
      cases e3 : f p.1 q.1 with
      | none => simp [e1, e2, e3] at h
      | some z =>
        simp [e1, e2, e3] at h
        obtain ⟨h1, h2⟩ := h
        subst h1 h2
        exact ⟨p.1, p.2, q.1, rfl, e2, e3⟩
theorem un_un {f : D → Option D} {env : DE} {s s' : S} {d : D} (h : mU f ma env s = some (d, s')) : ∃ x, ma env s = some (x, s') ∧ f x = some d := by
  unfold mU at h
  cases e1 : ma env s with
  | none => simp [e1] at h
  | some p =>
    cases e3 : f p.1 with
    | none => simp [e1, e3] at h
    | some z =>
      simp [e1, e3] at h
      obtain ⟨h1, h2⟩ := h
      subst h1 h2
      exact ⟨p.1, rfl, e3⟩
theorem f_un {f : List D → Option D} {env : DE} {s s' : S} {d : D} (h : mF f ml env s = some (d, s')) : ∃ x, ml env s = some (x, s') ∧ f x = some d := by
  unfold mF at h
  cases e1 : ml env s with
  | none => simp [e1] at h
  | some p =>
    cases e3 : f p.1 with
    | none => simp [e1, e3] at h
    | some z =>
      simp [e1, e3] at h
      obtain ⟨h1, h2⟩ := h
      subst h1 h2
      exact ⟨p.1, rfl, e3⟩
/-- two parts, one behind the other, then a rule by values -/
theorem two_D {r : R2} {f : D → D → Option D} (hd : OpD X.K B r f) {σ : L2.St} {H : Hp} {Q : VK} (h : tD X.K B (mB f ma mb) σ H Q) : tOp r (tD X.K B ma) (tD X.K B mb) σ H Q := by
  obtain ⟨env, F, s, d, s', E, o, hm, hq⟩ := h
  obtain ⟨x, s1, y, e1, e2, e3⟩ := bin_un hm
  refine ⟨env, F, s, x, s1, E, o, e1, fun v F1 H1 v1 hx => ?_⟩
  refine ⟨env, F1, s1, y, s', E.step o v1, v1.ok, e2, fun u F2 H2 v2 hy => ?_⟩
  exact hd F2 H2 s' x y d v u Q v2.ok (hx.ext (v2.sameF v1.ok)) hy e3 fun z F3 H3 v3 hz => hq z F3 H3 ((v1.trans v2).trans v3) hz
theorem d_op {op : Operator} {r : R2} {f : D → D → Option D} (ho : OpR X (binaryOp op) r) (hd : OpD X.K B r f) (ha : PE X a (tD X.K B ma)) (hb : PE X b (tD X.K B mb)) : PE X (.BinOp a op b pos) (tD X.K B (mB f ma mb)) :=
  pe_w (pe_op ho ha hb) fun _ _ _ h => two_D hd h
theorem d_cmp {op : CmpOp} {r : R2} {f : D → D → Option D} (ho : OpR X (compareOp op) r) (hd : OpD X.K B r f) (ha : PE X a (tD X.K B ma)) (hb : PE X b (tD X.K B mb)) (hm : behindInMarks op b = false := by first | exact nomark _ | rfl) :
    PE X (.Compare a [op] [b] pos) (tD X.K B (mB f ma mb)) := pe_w (pe_cmpR ho ha hb hm) fun _ _ _ h => two_D hd h
theorem d_ix {r : R2} {f : D → D → Option D} (ho : IxR X r) (hd : OpD X.K B r f) (ha : PE X a (tD X.K B ma)) (hb : PE X b (tD X.K B mb)) (hs : PlainIx b := by exact fun _ _ => rfl) : PE X (.Subscript a b pos) (tD X.K B (mB f ma mb)) :=
  pe_w (pe_ix ho ha hb hs) fun _ _ _ h => two_D hd h
theorem d_un {op : UnaryOp} {r : V → Hp → VK → Prop} {f : D → Option D} (ho : UnR X (unaryOp op) r) (hd : UnD X.K B r f) (ha : PE X a (tD X.K B ma)) : PE X (.UnaryOp op a pos) (tD X.K B (mU f ma)) :=
  pe_w (pe_un ho ha) fun σ H Q ⟨env, F, s, d, s', E, o, hm, hq⟩ => by
    obtain ⟨x, e1, e3⟩ := un_un hm
    exact ⟨env, F, s, x, s', E, o, e1, fun v F1 H1 v1 hx => hd F1 H1 s' x d v Q v1.ok hx e3 fun z F3 H3 v3 hz => hq z F3 H3 (v1.trans v3) hz⟩

/-! argument lists, displays -/
theorem l_nil : PA X [] (tL X.K B mNil) := pa_w pa_nil fun σ H Q ⟨env, F, s, d, s', E, o, hm, hq⟩ => by
  have e : ([], s) = (d, s') := Option.some.inj hm
  cases e
  exact hq [] F H o.refl rfl
theorem l_cons (ha : PE X a (tD X.K B ma)) (hl : PA X es (tL X.K B ml)) (hs : starEach (a :: es) X.env = (false, eval a X.env) :: starEach es X.env := by rfl) : PA X (a :: es) (tL X.K B (mCons ma ml)) :=
  pa_w (pa_cons ha hl hs) fun σ H Q ⟨env, F, s, d, s', E, o, hm, hq⟩ => by
    unfold mCons at hm
    cases e1 : ma env s with
    | none => simp [e1] at hm
    | some p =>
      cases e2 : ml env p.2 with
      | none => simp [e1, e2] at hm
      | some q =>
        simp [e1, e2] at hm
        obtain ⟨h1, h2⟩ := hm
        subst h1 h2
        exact ⟨env, F, s, p.1, p.2, E, o, e1, fun v F1 H1 v1 hx => ⟨env, F1, p.2, q.1, q.2, E.step o v1, v1.ok, e2, fun vs F2 H2 v2 hy =>
          hq _ F2 H2 (v1.trans v2) ⟨v, vs, rfl, hx.ext (v2.sameF v1.ok), hy⟩⟩⟩
def tupD : List D → Option D := fun ds => if ds.length ≤ sizeLine then some (.tup ds) else none
def lstD : List D → Option D := fun ds => if ds.length ≤ sizeLine then some (.lst ds) else none
theorem new_tup {K : PySem.W.Frag} {F H : Hp} {s : S} {ds : List D} {vs : List V} {p : Addr} (o : Ok B F H s) (hp : H p = none) (h : DvL K B F ds vs) : Dv K B (upd F p (.tup vs)) (.tup ds) (.ref p) :=
  ⟨p, vs, rfl, SqT.of upd_same, h.ext ((Ev.new o (.tup vs) hp).sameF o)⟩
theorem new_lst {K : PySem.W.Frag} {F H : Hp} {s : S} {ds : List D} {vs : List V} {p : Addr} (o : Ok B F H s) (hp : H p = none) (h : DvL K B F ds vs) : Dv K B (upd F p (.lst vs)) (.lst ds) (.ref p) :=
  ⟨p, vs, rfl, upd_same, h.ext ((Ev.new o (.lst vs) hp).sameF o)⟩
theorem d_tup {x1} (hl : PA X es (tL X.K B ml)) : PE X (.Tuple es x1 pos) (tD X.K B (mF tupD ml)) := pe_w (pe_tup hl) fun σ H Q ⟨env, F, s, d, s', E, o, hm, hq⟩ => by
  obtain ⟨ds, e1, e2⟩ := f_un hm
  unfold tupD at e2
  split at e2
  · rename_i hz
    cases e2
    refine ⟨env, F, s, ds, s', E, o, e1, fun vs F1 H1 v1 hv => ⟨by rw [hv.len]; exact hz, fun p hp => ?_⟩⟩
    exact hq _ _ _ (v1.trans (Ev.new v1.ok _ hp)) (new_tup v1.ok hp hv)
  · cases e2
theorem d_lst (hl : PA X es (tL X.K B ml)) : PE X (.List es pos) (tD X.K B (mF lstD ml)) := pe_w (pe_lst hl) fun σ H Q ⟨env, F, s, d, s', E, o, hm, hq⟩ => by
  obtain ⟨ds, e1, e2⟩ := f_un hm
  unfold lstD at e2
  split at e2
  · rename_i hz
    cases e2
    refine ⟨env, F, s, ds, s', E, o, e1, fun vs F1 H1 v1 hv => ⟨by rw [hv.len]; exact hz, fun p hp => ?_⟩⟩
    exact hq _ _ _ (v1.trans (Ev.new v1.ok _ hp)) (new_lst v1.ok hp hv)
  · cases e2
/-- a built-in function, a built-in class, by their rules -/
theorem call_D {r : List V → Hp → VK → Prop} {f : List D → Option D} (hd : CallD X.K B r f) {σ : L2.St} {H : Hp} {Q : VK} (h : tD X.K B (mF f ml) σ H Q) : tCB r (tL X.K B ml) σ H Q := by
  obtain ⟨env, F, s, d, s', E, o, hm, hq⟩ := h
  obtain ⟨ds, e1, e2⟩ := f_un hm
  exact ⟨env, F, s, ds, s', E, o, e1, fun vs F1 H1 v1 hv => hd F1 H1 s' ds d vs Q v1.ok hv e2 fun z F3 H3 v3 hz => hq z F3 H3 (v1.trans v3) hz⟩
theorem d_callB {x : Str} {p : Pos} {id : String} {r : List V → Hp → VK → Prop} {f : List D → Option D} (hc : CallR X (.builtin id) r) (hd : CallD X.K B r f) (hm : X.mg x = none) (hv : bootBuiltins x = some (.builtin id)) (ha : PA X (a :: es) (tL X.K B ml))
    (hg : Gl X x := by rfl) (hn : x ≠ "__name__" := by decide) (hdb : (x == ("__debug__" : Str)) = false := by decide)
    (he : starEach (a :: es) X.env = (false, eval a X.env) :: starEach es X.env := by rfl) (hpl : (backTo pos (starEach es X.env)).any (·.1) = false := by rfl) : PE X (.Call (.Name x p) (a :: es) [] pos) (tD X.K B (mF f ml)) :=
  pe_w (pe_callB hc hg hm hv ha hn hdb he hpl) fun _ _ _ h => call_D hd h
theorem d_callTy {x : Str} {p : Pos} {T : String} {r : List V → Hp → VK → Prop} {f : List D → Option D} (hc : CallR X (.type T) r) (hd : CallD X.K B r f) (hm : X.mg x = none) (hv : bootBuiltins x = some (.type T)) (ha : PA X (a :: es) (tL X.K B ml))
    (hg : Gl X x := by rfl) (hn : x ≠ "__name__" := by decide) (hdb : (x == ("__debug__" : Str)) = false := by decide)
    (he : starEach (a :: es) X.env = (false, eval a X.env) :: starEach es X.env := by rfl) (hpl : (backTo pos (starEach es X.env)).any (·.1) = false := by rfl) : PE X (.Call (.Name x p) (a :: es) [] pos) (tD X.K B (mF f ml)) :=
  pe_w (pe_callTy hc hg hm hv ha hn hdb he hpl) fun _ _ _ h => call_D hd h

/-! tests -/
theorem dt_val (h : PE X a (tD X.K B ma)) (he : ∀ whole, isTrue a X.env whole = (do let v ← whole; standAt a.pos; holding [v] (truthy v)) := by intro _; rfl) : PT X a (tT X.K B (mIsT ma)) := pt_w (pt_val h he) fun σ H Q ⟨env, F, s, d, s', E, o, hm, hq⟩ => by
  unfold mIsT at hm
  cases e1 : ma env s with
  | none => simp [e1] at hm
  | some p =>
    cases e2 : blD p.1 with
    | none => simp [e1, e2] at hm
    | some k =>
      simp [e1, e2] at hm
      obtain ⟨h1, h2⟩ := hm
      subst h1 h2
      obtain ⟨d, s1⟩ := p
      cases d with
      | bl c =>
        cases e2
        exact ⟨env, F, s, .bl k, s1, E, o, e1, fun v F1 H1 v1 hx => ⟨k, hx, hq F1 H1 v1⟩⟩
      | _ => cases e2
theorem dt_cmp {op : CmpOp} {r : R2} {f : D → D → Option D} (ho : OpR X (compareOp op) r) (hd : OpD X.K B r f) (ha : PE X a (tD X.K B ma)) (hb : PE X b (tD X.K B mb)) (hm : behindInMarks op b = false := by first | exact nomark _ | rfl) :
    PT X (.Compare a [op] [b] pos) (tT X.K B (mIsT (mB f ma mb))) := pt_w (pt_cmpR ho ha hb hm) fun σ H Q ⟨env, F, s, d, s', E, o, hm, hq⟩ => by
  unfold mIsT at hm
  cases e1 : mB f ma mb env s with
  | none => simp [e1] at hm
  | some p =>
    cases e2 : blD p.1 with
    | none => simp [e1, e2] at hm
    | some k =>
      simp [e1, e2] at hm
      obtain ⟨h1, h2⟩ := hm
      subst h1 h2
      obtain ⟨d, s1⟩ := p
      cases d with
      | bl c =>
        cases e2
        exact two_D hd ⟨env, F, s, .bl k, s1, E, o, e1, fun v F1 H1 v1 hx => ⟨k, hx, hq F1 H1 v1⟩⟩
      | _ => cases e2
variable {ta tb : MT S} {rest : List Expr}
theorem dw_and1 (h : PT X a (tT X.K B ta)) : PW X (.BoolOp .And [a] pos) (tT X.K B ta) := pw_and1 h
theorem dw_or1 (h : PT X a (tT X.K B ta)) : PW X (.BoolOp .Or [a] pos) (tT X.K B ta) := pw_or1 h
theorem dw_and (ha : PT X a (tT X.K B ta)) (hb : PW X (.BoolOp .And (b :: rest) pos) (tT X.K B tb)) : PW X (.BoolOp .And (a :: b :: rest) pos) (tT X.K B (mAndT ta tb)) := pw_w (pw_and ha hb) fun σ H Q ⟨env, F, s, d, s', E, o, hm, hq⟩ => by
  unfold mAndT at hm
  cases e1 : ta env s with
  | none => simp [e1] at hm
  | some p =>
    obtain ⟨k, s1⟩ := p
    simp only [e1, Option.bind_some] at hm
    refine ⟨env, F, s, k, s1, E, o, e1, fun F1 H1 v1 => ?_⟩
    cases k with
    | true => exact ⟨env, F1, s1, d, s', E.step o v1, v1.ok, hm, fun F2 H2 v2 => hq F2 H2 (v1.trans v2)⟩
    | false =>
      cases hm
      exact hq F1 H1 v1
theorem dw_or (ha : PT X a (tT X.K B ta)) (hb : PW X (.BoolOp .Or (b :: rest) pos) (tT X.K B tb)) : PW X (.BoolOp .Or (a :: b :: rest) pos) (tT X.K B (mOrT ta tb)) := pw_w (pw_or ha hb) fun σ H Q ⟨env, F, s, d, s', E, o, hm, hq⟩ => by
  unfold mOrT at hm
  cases e1 : ta env s with
  | none => simp [e1] at hm
  | some p =>
    obtain ⟨k, s1⟩ := p
    simp only [e1, Option.bind_some] at hm
    refine ⟨env, F, s, k, s1, E, o, e1, fun F1 H1 v1 => ?_⟩
    cases k with
    | false => exact ⟨env, F1, s1, d, s', E.step o v1, v1.ok, hm, fun F2 H2 v2 => hq F2 H2 (v1.trans v2)⟩
    | true =>
      cases hm
      exact hq F1 H1 v1
theorem dt_w (h : PW X a (tT X.K B ta)) : PT X a (tT X.K B ta) := h.pt
theorem dt_not (h : PT X a (tT X.K B ta)) : PT X (.UnaryOp .Not a pos) (tT X.K B (mNotT ta)) := pt_w (pt_not h) fun σ H Q ⟨env, F, s, d, s', E, o, hm, hq⟩ => by
  unfold mNotT at hm
  cases e1 : ta env s with
  | none => simp [e1] at hm
  | some p =>
    obtain ⟨k, s1⟩ := p
    simp only [e1, Option.map_some, Option.some.injEq, Prod.mk.injEq] at hm
    obtain ⟨rfl, rfl⟩ := hm
    exact ⟨env, F, s, k, s1, E, o, e1, fun F1 H1 v1 => hq F1 H1 v1⟩
/-! and, or, not, if as values -/
theorem d_one {op} (h : PE X a (tD X.K B ma)) : PE X (.BoolOp op [a] pos) (tD X.K B ma) := pe_one h
theorem d_and (ha : PE X a (tD X.K B ma)) (hb : PE X (.BoolOp .And (b :: rest) pos) (tD X.K B mb)) : PE X (.BoolOp .And (a :: b :: rest) pos) (tD X.K B (mAnd ma mb)) := pe_w (pe_and ha hb) fun σ H Q ⟨env, F, s, d, s', E, o, hm, hq⟩ => by
  unfold mAnd at hm
  cases e1 : ma env s with
  | none => simp [e1] at hm
  | some p =>
    obtain ⟨dk, s1⟩ := p
    cases dk with
    | bl k =>
      simp only [e1, Option.bind_some, blD] at hm
      refine ⟨env, F, s, .bl k, s1, E, o, e1, fun v F1 H1 v1 hx => ⟨k, hx, ?_⟩⟩
      cases k with
      | true => exact ⟨env, F1, s1, d, s', E.step o v1, v1.ok, hm, fun v F2 H2 v2 hz => hq v F2 H2 (v1.trans v2) hz⟩
      | false =>
        cases hm
        exact hq _ F1 H1 v1 rfl
    | _ => simp [e1, blD] at hm
theorem d_or (ha : PE X a (tD X.K B ma)) (hb : PE X (.BoolOp .Or (b :: rest) pos) (tD X.K B mb)) : PE X (.BoolOp .Or (a :: b :: rest) pos) (tD X.K B (mOr ma mb)) := pe_w (pe_or ha hb) fun σ H Q ⟨env, F, s, d, s', E, o, hm, hq⟩ => by
  unfold mOr at hm
  cases e1 : ma env s with
  | none => simp [e1] at hm
  | some p =>
    obtain ⟨dk, s1⟩ := p
    cases dk with
    | bl k =>
      simp only [e1, Option.bind_some, blD] at hm
      refine ⟨env, F, s, .bl k, s1, E, o, e1, fun v F1 H1 v1 hx => ⟨k, hx, ?_⟩⟩
      cases k with
      | false => exact ⟨env, F1, s1, d, s', E.step o v1, v1.ok, hm, fun v F2 H2 v2 hz => hq v F2 H2 (v1.trans v2) hz⟩
      | true =>
        cases hm
        exact hq _ F1 H1 v1 rfl
    | _ => simp [e1, blD] at hm
theorem d_not (ha : PE X a (tD X.K B ma)) : PE X (.UnaryOp .Not a pos) (tD X.K B (mNot ma)) := pe_w (pe_not ha) fun σ H Q ⟨env, F, s, d, s', E, o, hm, hq⟩ => by
  unfold mNot at hm
  cases e1 : ma env s with
  | none => simp [e1] at hm
  | some p =>
    obtain ⟨dk, s1⟩ := p
    cases dk with
    | bl k =>
      simp [e1, blD] at hm
      obtain ⟨h1, h2⟩ := hm
      subst h1 h2
      exact ⟨env, F, s, .bl k, s1, E, o, e1, fun v F1 H1 v1 hx => ⟨k, hx, hq _ F1 H1 v1 rfl⟩⟩
    | _ => simp [e1, blD] at hm
theorem d_if {t : MT S} (hc : PT X c (tT X.K B t)) (ha : PE X a (tD X.K B ma)) (hb : PE X b (tD X.K B mb)) : PE X (.IfExp c a b pos) (tD X.K B (mIf t ma mb)) := pe_w (pe_ifExp hc ha hb) fun σ H Q ⟨env, F, s, d, s', E, o, hm, hq⟩ => by
  unfold mIf at hm
  cases e1 : t env s with
  | none => simp [e1] at hm
  | some p =>
    obtain ⟨k, s1⟩ := p
    simp only [e1, Option.bind_some] at hm
    refine ⟨env, F, s, k, s1, E, o, e1, fun F1 H1 v1 => ?_⟩
    cases k with
    | true => exact ⟨env, F1, s1, d, s', E.step o v1, v1.ok, hm, fun v F2 H2 v2 hz => hq v F2 H2 (v1.trans v2) hz⟩
    | false => exact ⟨env, F1, s1, d, s', E.step o v1, v1.ok, hm, fun v F2 H2 v2 hz => hq v F2 H2 (v1.trans v2) hz⟩
theorem chain_D {r r' : R2} {f g : D → D → Option D} (hd : OpD X.K B r f) (hd' : OpD X.K B r' g) {σ : L2.St} {H : Hp} {Q : VK} (h : tD X.K B (mChain f g ma mb mc) σ H Q) : tChain r r' (tD X.K B ma) (tD X.K B mb) (tD X.K B mc) σ H Q := by
  obtain ⟨env, F, s, d, s', E, o, hm, hq⟩ := h
  unfold mChain at hm
  cases e1 : ma env s with
  | none => simp [e1] at hm
  | some p =>
    obtain ⟨x, s1⟩ := p
    simp only [e1, Option.bind_some] at hm
    cases e2 : mb env s1 with
    | none => simp [e2] at hm
    | some q =>
      obtain ⟨y, s2⟩ := q
      simp only [e2, Option.bind_some] at hm
      cases e3 : f x y with
      | none => simp [e3] at hm
      | some z =>
        simp only [e3, Option.bind_some] at hm
        cases z with
        | bl k =>
          simp only [blD, Option.bind_some] at hm
          refine ⟨env, F, s, x, s1, E, o, e1, fun vx F1 H1 v1 hx => ⟨env, F1, s1, y, s2, E.step o v1, v1.ok, e2, fun vy F2 H2 v2 hy => ?_⟩⟩
          refine hd F2 H2 s2 x y (.bl k) vx vy _ v2.ok (hx.ext (v2.sameF v1.ok)) hy e3 fun vz F3 H3 v3 hz => ⟨k, hz, ?_⟩
          have o3 : Ev B F H F3 H3 s2 := (v1.trans v2).trans v3
          cases k with
          | true =>
            rw [if_pos rfl] at hm ⊢
            cases e4 : mc env s2 with
            | none => simp [e4] at hm
            | some t =>
              obtain ⟨w, s4⟩ := t
              simp only [e4, Option.bind_some] at hm
              cases e5 : g y w with
              | none => simp [e5] at hm
              | some u =>
                simp only [e5, Option.map_some, Option.some.injEq, Prod.mk.injEq] at hm
                obtain ⟨rfl, rfl⟩ := hm
                refine ⟨env, F3, s2, w, s4, E.step o o3, o3.ok, e4, fun vw F4 H4 v4 hw => ?_⟩
                exact hd' F4 H4 s4 y w u vy vw Q v4.ok (hy.ext ((v3.sameF v2.ok).trans (v4.sameF v3.ok))) hw e5 fun v F5 H5 v5 h5 => hq v F5 H5 ((o3.trans v4).trans v5) h5
          | false =>
            rw [if_neg Bool.false_ne_true] at hm ⊢
            cases hm
            exact hq _ F3 H3 o3 rfl
        | _ => simp [blD] at hm
theorem d_chain {op op' : CmpOp} {r r' : R2} {f g : D → D → Option D} (ho : OpR X (compareOp op) r) (hd : OpD X.K B r f) (ho' : OpR X (compareOp op') r') (hd' : OpD X.K B r' g) (ha : PE X a (tD X.K B ma)) (hb : PE X b (tD X.K B mb)) (hc : PE X c (tD X.K B mc))
    (hm : lastMarks [op, op'] [b, c] = false := by with_unfolding_all rfl) : PE X (.Compare a [op, op'] [b, c] pos) (tD X.K B (mChain f g ma mb mc)) := pe_w (pe_chain ho ho' ha hb hc hm) fun _ _ _ h => chain_D hd hd' h
theorem dt_chain {op op' : CmpOp} {r r' : R2} {f g : D → D → Option D} (ho : OpR X (compareOp op) r) (hd : OpD X.K B r f) (ho' : OpR X (compareOp op') r') (hd' : OpD X.K B r' g) (ha : PE X a (tD X.K B ma)) (hb : PE X b (tD X.K B mb)) (hc : PE X c (tD X.K B mc))
    (hm : lastMarks [op, op'] [b, c] = false := by with_unfolding_all rfl) : PT X (.Compare a [op, op'] [b, c] pos) (tT X.K B (mIsT (mChain f g ma mb mc))) := pt_w (pt_chain ho ho' ha hb hc hm) fun σ H Q ⟨env, F, s, d, s', E, o, hm, hq⟩ => by
  unfold mIsT at hm
  cases e1 : mChain f g ma mb mc env s with
  | none => simp [e1] at hm
  | some p =>
    obtain ⟨dk, s1⟩ := p
    cases dk with
    | bl k =>
      simp only [e1, Option.bind_some, blD, Option.map_some, Option.some.injEq, Prod.mk.injEq] at hm
      obtain ⟨rfl, rfl⟩ := hm
      exact chain_D hd hd' ⟨env, F, s, .bl k, s1, E, o, e1, fun v F1 H1 v1 hx => ⟨k, hx, hq F1 H1 v1⟩⟩
    | _ => simp [e1, blD] at hm
/-! parts of a slice -/
theorem do_none : PO X none (tO X.K B mNoPart) := po_w po_none fun σ H Q ⟨env, F, s, d, s', E, o, hm, hq⟩ => by
  have e : (none, s) = (d, s') := Option.some.inj hm
  cases e
  exact hq F H o.refl
theorem do_some (h : PE X a (tD X.K B ma)) : PO X (some a) (tO X.K B (mPart ma)) := po_w (po_some h) fun σ H Q ⟨env, F, s, d, s', E, o, hm, hq⟩ => by
  unfold mPart at hm
  cases e1 : ma env s with
  | none => simp [e1] at hm
  | some p =>
    obtain ⟨dk, s1⟩ := p
    cases dk with
    | int i =>
      simp only [e1, Option.bind_some, Option.some.injEq, Prod.mk.injEq] at hm
      obtain ⟨rfl, rfl⟩ := hm
      exact ⟨env, F, s, .int i, s1, E, o, e1, fun v F1 H1 v1 hx => ⟨i, hx, hq F1 H1 v1⟩⟩
    | _ => simp [e1] at hm
def SlD (K : PySem.W.Frag) {S : Type} (B : Amb S) (r : V → Option Int → Option Int → Hp → VK → Prop) (f : D → Option Int → Option Int → Option D) : Prop := ∀ (F H : Hp) (s : S) (dx dz : D) (lo hi : Option Int) (x : V) (Q : VK), Ok B F H s → Dv K B F dx x → f dx lo hi = some dz →
  (∀ v F' H', Ev B F H F' H' s → Dv K B F' dz v → Q v H') → r x lo hi H Q
theorem d_sl {lo hi : Option Expr} {p2 : Pos} {ml mh : MO S} {r : V → Option Int → Option Int → Hp → VK → Prop} {f : D → Option Int → Option Int → Option D} (hr : SlR X r) (hd : SlD X.K B r f) (ha : PE X a (tD X.K B ma)) (hl : PO X lo (tO X.K B ml)) (hu : PO X hi (tO X.K B mh)) :
    PE X (.Subscript a (.Slice lo hi none p2) pos) (tD X.K B (mSl f ma ml mh)) := pe_w (pe_slice hr ha hl hu) fun σ H Q ⟨env, F, s, d, s', E, o, hm, hq⟩ => by
  unfold mSl at hm
  cases e1 : ma env s with
  | none => simp [e1] at hm
  | some p =>
    obtain ⟨x, s1⟩ := p
    simp only [e1, Option.bind_some] at hm
    cases e2 : ml env s1 with
    | none => simp [e2] at hm
    | some q =>
      obtain ⟨l, s2⟩ := q
      simp only [e2, Option.bind_some] at hm
      cases e3 : mh env s2 with
      | none => simp [e3] at hm
      | some r' =>
        obtain ⟨u, s3⟩ := r'
        simp only [e3, Option.bind_some] at hm
        cases e4 : f x l u with
        | none => simp [e4] at hm
        | some z =>
          simp only [e4, Option.map_some, Option.some.injEq, Prod.mk.injEq] at hm
          obtain ⟨rfl, rfl⟩ := hm
          refine ⟨env, F, s, x, s1, E, o, e1, fun vx F1 H1 v1 hx => ⟨env, F1, s1, l, s2, E.step o v1, v1.ok, e2, fun F2 H2 v2 => ⟨env, F2, s2, u, s3, E.step o (v1.trans v2), v2.ok, e3, fun F3 H3 v3 => ?_⟩⟩⟩
          exact hd F3 H3 s3 x z l u vx Q v3.ok (hx.ext ((v2.sameF v1.ok).trans (v3.sameF v2.ok))) e4 fun v F4 H4 v4 h4 => hq v F4 H4 (((v1.trans v2).trans v3).trans v4) h4
end
end Dl

set_option Elab.async false
set_option linter.all false
set_option maxRecDepth 100000
set_option maxHeartbeats 4000000
/-! D3: operators over data. -/
namespace Dl
open PySem
open L2
open PySem.W (alike dataLt)

mutual
def toPy : D → Option PyData
  | .non => some .none
  | .bl b => some (.bool b)
  | .int i => some (.int i)
  | .str x => some (.str x)
  | .tup ds => (toPyL ds).map .tuple
  | .lst ds => (toPyL ds).map .list
  | .dct _ _ => none
  | .hnd => none
  | .exn _ _ _ => none
  | .ins _ _ _ => none
def toPyL : List D → Option (List PyData)
  | [] => some []
  | d :: ds => match toPy d, toPyL ds with
    | some p, some ps => some (p :: ps)
    | _, _ => none
end

section
variable {K : PySem.W.Frag} {S : Type} {B : Amb S} {F H : Hp}
mutual
theorem dp_of (e : Same F H) : ∀ {d : D} {v : V} {p : PyData}, toPy d = some p → Dv K B F d v → Dp K H v p
  | .non, _, _, h, k => by
    cases h
    cases (show _ = V.non from k)
    exact .non
  | .bl b, _, _, h, k => by
    cases h
    cases (show _ = V.bl b from k)
    exact .bl b
  | .int i, _, _, h, k => by
    cases h
    cases (show _ = V.int i from k)
    exact .int i
  | .str x, _, _, h, k => by
    cases h
    cases (show _ = V.str x from k)
    exact .str x
  | .tup ds, _, p, h, ⟨a, vs, h1, h2, h3⟩ => by
    subst h1
    unfold toPy at h
    cases q : toPyL ds with
    | none => simp [q] at h
    | some ps =>
      simp [q] at h
      subst h
      exact .tup (sqT_ext e h2) (dpL_of e q h3)
  | .lst ds, _, p, h, ⟨a, vs, h1, h2, h3⟩ => by
    subst h1
    unfold toPy at h
    cases q : toPyL ds with
    | none => simp [q] at h
    | some ps =>
      simp [q] at h
      subst h
      exact .lst (SqL.of (e a _ h2)) (dpL_of e q h3)
  | .dct _ _, _, _, h, _ => by cases h
  | .hnd, _, _, h, _ => by cases h
  | .exn _ _ _, _, _, h, _ => by cases h
  | .ins _ _ _, _, _, h, _ => by cases h
theorem dpL_of (e : Same F H) : ∀ {ds : List D} {vs : List V} {ps : List PyData}, toPyL ds = some ps → DvL K B F ds vs → DpAll K H vs ps
  | [], _, _, h, k => by
    cases h
    cases (show _ = [] from k)
    exact .nil
  | d :: ds, _, _, h, ⟨v, r, h1, h2, h3⟩ => by
    subst h1
    unfold toPyL at h
    cases q1 : toPy d with
    | none => simp [q1] at h
    | some p1 =>
      cases q2 : toPyL ds with
      | none => simp [q1, q2] at h
      | some ps =>
        simp [q1, q2] at h
        subst h
        exact .cons (dp_of e q1 h2) (dpL_of e q2 h3)
end
end

/-! ### relations -/
def rRel (K : PySem.W.Frag) (f : PyData → PyData → Option Bool) : R2 := fun x y H Q => ∃ d e b, Dp K H x d ∧ Dp K H y e ∧ f d e = some b ∧ Q (.bl b) H
def relD (f : PyData → PyData → Option Bool) (x y : D) : Option D := match toPy x, toPy y with
  | some a, some b => (f a b).map D.bl
  | _, _ => none
theorem relD_ok {K : PySem.W.Frag} {S : Type} {B : Amb S} (f : PyData → PyData → Option Bool) : OpD K B (rRel K f) (relD f) := fun F H s dx dy dz x y Q o hx hy hf hq => by
  unfold relD at hf
  cases e1 : toPy dx with
  | none => simp [e1] at hf
  | some a =>
    cases e2 : toPy dy with
    | none => simp [e1, e2] at hf
    | some b =>
      cases e3 : f a b with
      | none => simp [e1, e2, e3] at hf
      | some k =>
        simp [e1, e2, e3] at hf
        subst hf
        exact ⟨a, b, k, dp_of o.sub e1 hx, dp_of o.sub e2 hy, e3, hq _ F H o.refl rfl⟩
def isNone : PyData → Bool
  | .none => true
  | _ => false
def eqP (d e : PyData) : Option Bool := if d.plain = true ∧ e.plain = true ∧ min d.depth e.depth ≤ 64 then some (PyData.eqv d e) else none
def neP (d e : PyData) : Option Bool := if d.plain = true ∧ e.plain = true ∧ min d.depth e.depth ≤ 64 then some (!PyData.eqv d e) else none
def ltP (d e : PyData) : Option Bool := if alike d e = true ∧ isNone d = false ∧ min d.depth e.depth ≤ 64 then some (dataLt d e) else none
def gtP (d e : PyData) : Option Bool := if alike d e = true ∧ isNone d = false ∧ min d.depth e.depth ≤ 64 then some (dataLt e d) else none
def leP (d e : PyData) : Option Bool := if alike d e = true ∧ isNone d = false ∧ min d.depth e.depth ≤ 64 then some (!dataLt e d) else none
def geP (d e : PyData) : Option Bool := if alike d e = true ∧ isNone d = false ∧ min d.depth e.depth ≤ 64 then some (!dataLt d e) else none
theorem notNone {d : PyData} (h : isNone d = false) : d ≠ .none := fun e => by
  subst e
  cases h
section
variable {X : Cx}
theorem op_eqP (hu : X.A.units + 64 < cLine) : OpR X (compareOp .Eq) (rRel X.K eqP) := by
  intro pins s σ H x y v u Q I rx ry h
  obtain ⟨d, e, b, hd, he, hf, q⟩ := h
  unfold eqP at hf
  split at hf
  · rename_i c
    cases hf
    obtain ⟨as, r1⟩ := Dp.reads I d x v hd rx
    obtain ⟨bs, r2⟩ := Dp.reads I e y u he ry
    exact PySem.SeqAt.eq_plain r1 r2 c.1 c.2.1 (by have := c.2.2; omega) ⟨.bl _, H, I, rfl, q⟩
  · cases hf
theorem op_neP (hu : X.A.units + 64 < cLine) : OpR X (compareOp .NotEq) (rRel X.K neP) := by
  intro pins s σ H x y v u Q I rx ry h
  obtain ⟨d, e, b, hd, he, hf, q⟩ := h
  unfold neP at hf
  split at hf
  · rename_i c
    cases hf
    obtain ⟨as, r1⟩ := Dp.reads I d x v hd rx
    obtain ⟨bs, r2⟩ := Dp.reads I e y u he ry
    exact PySem.SeqAt.ne_plain r1 r2 c.1 c.2.1 (by have := c.2.2; omega) ⟨.bl _, H, I, rfl, q⟩
  · cases hf
theorem op_ltP (hu : X.A.units + 64 < cLine) : OpR X (compareOp .Lt) (rRel X.K ltP) := by
  intro pins s σ H x y v u Q I rx ry h
  obtain ⟨d, e, b, hd, he, hf, q⟩ := h
  unfold ltP at hf
  split at hf
  · rename_i c
    cases hf
    obtain ⟨as, r1⟩ := Dp.reads I d x v hd rx
    obtain ⟨bs, r2⟩ := Dp.reads I e y u he ry
    exact PySem.W.lt_data r1 r2 c.1 (notNone c.2.1) (by have := c.2.2; omega) ⟨.bl _, H, I, rfl, q⟩
  · cases hf
theorem op_gtP (hu : X.A.units + 64 < cLine) : OpR X (compareOp .Gt) (rRel X.K gtP) := by
  intro pins s σ H x y v u Q I rx ry h
  obtain ⟨d, e, b, hd, he, hf, q⟩ := h
  unfold gtP at hf
  split at hf
  · rename_i c
    cases hf
    obtain ⟨as, r1⟩ := Dp.reads I d x v hd rx
    obtain ⟨bs, r2⟩ := Dp.reads I e y u he ry
    exact PySem.W.gt_data r1 r2 c.1 (notNone c.2.1) (by have := c.2.2; omega) ⟨.bl _, H, I, rfl, q⟩
  · cases hf
theorem op_leP (hu : X.A.units + 64 < cLine) : OpR X (compareOp .LtE) (rRel X.K leP) := by
  intro pins s σ H x y v u Q I rx ry h
  obtain ⟨d, e, b, hd, he, hf, q⟩ := h
  unfold leP at hf
  split at hf
  · rename_i c
    cases hf
    obtain ⟨as, r1⟩ := Dp.reads I d x v hd rx
    obtain ⟨bs, r2⟩ := Dp.reads I e y u he ry
    exact PySem.W.le_data r1 r2 c.1 (notNone c.2.1) (by have := c.2.2; omega) ⟨.bl _, H, I, rfl, q⟩
  · cases hf
theorem op_geP (hu : X.A.units + 64 < cLine) : OpR X (compareOp .GtE) (rRel X.K geP) := by
  intro pins s σ H x y v u Q I rx ry h
  obtain ⟨d, e, b, hd, he, hf, q⟩ := h
  unfold geP at hf
  split at hf
  · rename_i c
    cases hf
    obtain ⟨as, r1⟩ := Dp.reads I d x v hd rx
    obtain ⟨bs, r2⟩ := Dp.reads I e y u he ry
    exact PySem.W.ge_data r1 r2 c.1 (notNone c.2.1) (by have := c.2.2; omega) ⟨.bl _, H, I, rfl, q⟩
  · cases hf
end

/-! ### +, -, *, //, % -/
section
variable {K : PySem.W.Frag} {S : Type} {B : Amb S}
def addD : D → D → Option D
  | .int i, .int j => some (.int (i + j))
  | .str x, .str y => if x.length + y.length ≤ sizeLine then some (.str (x ++ y)) else none
  | .tup xs, .tup ys => if xs.length + ys.length ≤ sizeLine then some (.tup (xs ++ ys)) else none
  | .lst xs, .lst ys => if xs.length + ys.length ≤ sizeLine then some (.lst (xs ++ ys)) else none
  | _, _ => none
def rAddA (K : PySem.W.Frag) : R2 := fun x y H Q => rI0 (fun i j => .int (i + j)) x y H Q ∨ (∃ i j, x = .str i ∧ y = .str j ∧ i.length + j.length ≤ sizeLine ∧ Q (.str (i ++ j)) H) ∨ rCatA K x y H Q ∨ rCat x y H Q
theorem op_addA {X : Cx} : OpR X (binaryOp .Add) (rAddA X.K) := op_add.or (op_add_str.or (op_catA.or op_cat))
theorem addD_ok : OpD K B (rAddA K) addD := fun F H s dx dy dz x y Q o hx hy hf hq => by
  unfold addD at hf
  split at hf
  · rename_i i j
    cases hf
    exact .inl ⟨i, j, hx, hy, hq _ F H o.refl rfl⟩
  · rename_i i j
    split at hf
    · rename_i c
      cases hf
      exact .inr (.inl ⟨i, j, hx, hy, c, hq _ F H o.refl rfl⟩)
    · cases hf
  · rename_i ds es
    split at hf
    · rename_i c
      cases hf
      obtain ⟨a, vs, ea, h2, h3⟩ := hx
      obtain ⟨b, us, eb, k2, k3⟩ := hy
      refine .inr (.inr (.inl ⟨a, b, vs, us, ea, eb, sqT_ext o.sub h2, sqT_ext o.sub k2, by rw [h3.len, k3.len]; exact c, fun e => ?_, fun _ e => ?_, fun _ _ p hp => ?_⟩))
      · subst e
        have l0 := h3.len
        have e0 : ds = [] := List.eq_nil_of_length_eq_zero l0.symm
        subst e0
        exact hq _ F H o.refl ⟨b, us, rfl, k2, k3⟩
      · subst e
        have l0 := k3.len
        have e0 : es = [] := List.eq_nil_of_length_eq_zero l0.symm
        subst e0
        refine hq _ F H o.refl ⟨a, vs, rfl, h2, ?_⟩
        rw [List.append_nil]
        exact h3
      · exact hq _ _ _ (Ev.new o _ hp) (new_tup o hp (h3.app k3))
    · cases hf
  · rename_i ds es
    split at hf
    · rename_i c
      cases hf
      obtain ⟨a, vs, ea, h2, h3⟩ := hx
      obtain ⟨b, us, eb, k2, k3⟩ := hy
      exact .inr (.inr (.inr ⟨a, b, vs, us, ea, eb, o.sub a _ h2, o.sub b _ k2, by rw [h3.len, k3.len]; exact c, fun p hp => hq _ _ _ (Ev.new o _ hp) (new_lst o hp (h3.app k3))⟩))
    · cases hf
  · cases hf
def intD (f : Int → Int → Option Int) : D → D → Option D
  | .int i, .int j => (f i j).map D.int
  | _, _ => none
theorem intD_ok {C : Int → Int → Prop} {g : Int → Int → Int} {f : Int → Int → Option Int} (h : ∀ i j k, f i j = some k → C i j ∧ k = g i j) : OpD K B (rI C fun i j => .int (g i j)) (intD f) := fun F H s dx dy dz x y Q o hx hy hf hq => by
  unfold intD at hf
  split at hf
  · rename_i i j
    cases e : f i j with
    | none => simp [e] at hf
    | some k =>
      simp [e] at hf
      subst hf
      obtain ⟨c, e2⟩ := h i j k e
      subst e2
      exact ⟨i, j, hx, hy, c, hq _ F H o.refl rfl⟩
  · cases hf
def subD : D → D → Option D := intD fun i j => some (i - j)
theorem op_subA {X : Cx} : OpR X (binaryOp .Sub) (rI (fun _ _ => True) fun i j => .int (i - j)) := fun pins s σ H x y v u Q I rx ry ⟨i, j, e1, e2, _, q⟩ => op_sub pins s σ H x y v u Q I rx ry ⟨i, j, e1, e2, q⟩
theorem subD_ok : OpD K B (rI (fun _ _ => True) fun i j => .int (i - j)) subD := intD_ok fun _ _ _ e => ⟨trivial, (Option.some.inj e).symm⟩
def CMulA (i j : Int) : Prop := CMulW i j ∨ CMul i j
theorem op_mulA {X : Cx} : OpR X (binaryOp .Mult) (rI CMulA fun i j => .int (i * j)) := fun pins s σ H x y v u Q I rx ry ⟨i, j, e1, e2, c, q⟩ => by
  rcases c with c | c
  · exact op_mulW pins s σ H x y v u Q I rx ry ⟨i, j, e1, e2, c, q⟩
  · exact op_mul pins s σ H x y v u Q I rx ry ⟨i, j, e1, e2, c, q⟩
def mulI (i j : Int) : Option Int := if i.natAbs.log2 + j.natAbs.log2 < 1000000 ∨ (-(2 ^ 64) < i ∧ i < 2 ^ 64) ∨ (-(2 ^ 64) < j ∧ j < 2 ^ 64) then some (i * j) else none
def mulD : D → D → Option D := intD mulI
theorem mulD_ok : OpD K B (rI CMulA fun i j => .int (i * j)) mulD := intD_ok fun i j k e => by
  unfold mulI at e
  split at e
  · rename_i c
    cases e
    exact ⟨c, rfl⟩
  · cases e
def divI (i j : Int) : Option Int := if 0 < j ∧ j.natAbs.log2 < 9000 then some (i / j) else none
def divD : D → D → Option D := intD divI
theorem divD_ok : OpD K B (rI CDivW fun i j => .int (i / j)) divD := intD_ok fun i j k e => by
  unfold divI at e
  split at e
  · rename_i c
    cases e
    exact ⟨c, rfl⟩
  · cases e
def modI (i j : Int) : Option Int := if 0 < j then some (i % j) else none
def modD : D → D → Option D := intD modI
theorem modD_ok : OpD K B (rI (fun _ j => 0 < j) fun i j => .int (i % j)) modD := intD_ok fun i j k e => by
  unfold modI at e
  split at e
  · rename_i c
    cases e
    exact ⟨c, rfl⟩
  · cases e
def powI (i j : Int) : Option Int := if 0 ≤ j ∧ j ≤ 1000000 ∧ i.natAbs < 2 ^ 64 then some (i ^ j.toNat) else none
def powD : D → D → Option D := intD powI
theorem powD_ok : OpD K B (rI CPow fun i j => .int (i ^ j.toNat)) powD := intD_ok fun i j k e => by
  unfold powI at e
  split at e
  · rename_i c
    cases e
    exact ⟨c, rfl⟩
  · cases e
def negD : D → Option D
  | .int i => some (.int (-i))
  | _ => none
theorem negD_ok : UnD K B (rU fun i => .int (-i)) negD := fun F H s dx dz x Q o hx hf hq => by
  unfold negD at hf
  split at hf
  · rename_i i
    cases hf
    exact ⟨i, hx, hq _ F H o.refl rfl⟩
  · cases hf

/-! is None -/
def isNonD : D → Bool
  | .non => true
  | _ => false
theorem isNon_of {F : Hp} {d : D} {v : V} (h : Dv K B F d v) : decide (v = .non) = isNonD d := by
  cases d with
  | non => rw [show v = V.non from h]; rfl
  | bl b => rw [show v = V.bl b from h]; rfl
  | int i => rw [show v = V.int i from h]; rfl
  | str x => rw [show v = V.str x from h]; rfl
  | hnd => rw [show v = V.ref B.hA from h]; rfl
  | tup ds => obtain ⟨a, vs, e, _⟩ := h; rw [e]; rfl
  | lst ds => obtain ⟨a, vs, e, _⟩ := h; rw [e]; rfl
  | dct ks ds => obtain ⟨a, vs, e, _⟩ := h; rw [e]; rfl
  | exn c f ds => obtain ⟨a, d, ws, _, e, _⟩ := h; rw [e]; rfl
  | ins c ks ds => obtain ⟨a, dx, fs, e, _⟩ := h; rw [e]; rfl
def isND : D → D → Option D
  | x, .non => some (.bl (isNonD x))
  | _, _ => none
def notND : D → D → Option D
  | x, .non => some (.bl (!isNonD x))
  | _, _ => none
theorem isND_ok : OpD K B (fun x y H Q => y = .non ∧ Q (.bl (decide (x = .non))) H) isND := fun F H s dx dy dz x y Q o hx hy hf hq => by
  unfold isND at hf
  split at hf
  · cases hf
    refine ⟨hy, ?_⟩
    rw [isNon_of hx]
    exact hq _ F H o.refl rfl
  · cases hf
theorem notND_ok : OpD K B (fun x y H Q => y = .non ∧ Q (.bl (!decide (x = .non))) H) notND := fun F H s dx dy dz x y Q o hx hy hf hq => by
  unfold notND at hf
  split at hf
  · cases hf
    refine ⟨hy, ?_⟩
    rw [isNon_of hx]
    exact hq _ F H o.refl rfl
  · cases hf

/-! ### items, slices, lengths -/
def ixD : D → D → Option D
  | .tup ds, .int i => atI ds i
  | .lst ds, .int i => atI ds i
  | .str x, .int i => if x.length ≤ sizeLine then (atI x.cps.toList i).map fun c => .str ⟨#[c]⟩ else none
  | _, _ => none
theorem atI_dv {F : Hp} {ds : List D} {vs : List V} {i : Int} {d : D} (h : DvL K B F ds vs) (e : atI ds i = some d) : ∃ v, atI vs i = some v ∧ Dv K B F d v := by
  unfold atI at e ⊢
  rw [h.len]
  cases q : ixN ds.length i with
  | none => rw [q] at e; cases e
  | some j =>
    rw [q] at e
    exact h.get e
theorem ixD_ok : OpD K B (rIx K) ixD := fun F H s dx dy dz x y Q o hx hy hf hq => by
  unfold ixD at hf
  split at hf
  · rename_i ds i
    obtain ⟨a, vs, ea, h2, h3⟩ := hx
    obtain ⟨v, e1, e2⟩ := atI_dv h3 hf
    exact .inr (.inl ⟨a, vs, i, v, ea, hy, sqT_ext o.sub h2, e1, hq _ F H o.refl e2⟩)
  · rename_i ds i
    obtain ⟨a, vs, ea, h2, h3⟩ := hx
    obtain ⟨v, e1, e2⟩ := atI_dv h3 hf
    exact .inl ⟨a, vs, i, v, ea, hy, SqL.of (o.sub a _ h2), e1, hq _ F H o.refl e2⟩
  · rename_i z i
    split at hf
    · rename_i c
      cases e : atI z.cps.toList i with
      | none => simp [e] at hf
      | some k =>
        simp [e] at hf
        subst hf
        exact .inr (.inr ⟨z, i, k, hx, hy, c, e, hq _ F H o.refl rfl⟩)
    · cases hf
  · cases hf
def cutD (ds : List D) (lo hi : Option Int) : List D := (ds.drop (HT.sIx ds.length 0 lo)).take (HT.sIx ds.length ds.length hi - HT.sIx ds.length 0 lo)
theorem cut_dv {F : Hp} {ds : List D} {vs : List V} (h : DvL K B F ds vs) (lo hi : Option Int) : DvL K B F (cutD ds lo hi) (cutV vs lo hi) := by
  unfold cutD cutV
  rw [h.len]
  exact (h.drop _).take _
def slT : D → Option Int → Option Int → Option D
  | .tup ds, lo, hi => some (.tup (cutD ds lo hi))
  | _, _, _ => none
theorem slT_ok : SlD K B (rSlA K) slT := fun F H s dx dz lo hi x Q o hx hf hq => by
  cases dx with
  | tup ds =>
    cases (show some (D.tup (cutD ds lo hi)) = some dz from hf)
    obtain ⟨a, vs, ea, h2, h3⟩ := hx
    refine ⟨a, vs, ea, sqT_ext o.sub h2, fun c => ?_, fun _ p hp => hq _ _ _ (Ev.new o _ hp) (new_tup o hp (cut_dv h3 lo hi))⟩
    refine hq _ F H o.refl ⟨a, vs, rfl, h2, ?_⟩
    unfold cutD
    rw [h3.len] at c
    rw [c.1, c.2, Nat.sub_zero, List.drop_zero, List.take_length]
    exact h3
  | _ => cases hf
def slL : D → Option Int → Option Int → Option D
  | .lst ds, lo, hi => some (.lst (cutD ds lo hi))
  | _, _, _ => none
theorem slL_ok : SlD K B (rSlL K) slL := fun F H s dx dz lo hi x Q o hx hf hq => by
  cases dx with
  | lst ds =>
    cases (show some (D.lst (cutD ds lo hi)) = some dz from hf)
    obtain ⟨a, vs, ea, h2, h3⟩ := hx
    exact ⟨a, vs, ea, SqL.of (o.sub a _ h2), fun p hp => hq _ _ _ (Ev.new o _ hp) (new_lst o hp (cut_dv h3 lo hi))⟩
  | _ => cases hf
def lenD : List D → Option D
  | [.tup ds] => some (.int ds.length)
  | [.lst ds] => some (.int ds.length)
  | [.str x] => if x.length ≤ sizeLine then some (.int x.length) else none
  | _ => none
theorem lenD_ok : CallD K B (fun xs H Q => ∃ x n, xs = [x] ∧ LenV K x H n ∧ Q (.int n) H) lenD := fun F H s ds dz vs Q o hv hf hq => by
  unfold lenD at hf
  split at hf
  · rename_i ds
    cases hf
    obtain ⟨v, r, e, hx, hr⟩ := hv
    have hr' : r = [] := hr
    subst e hr'
    obtain ⟨a, us, ea, h2, h3⟩ := hx
    refine ⟨v, us.length, rfl, ?_, ?_⟩
    · rw [ea]
      exact .inr ⟨us, sqT_ext o.sub h2, rfl⟩
    · rw [h3.len]
      exact hq _ F H o.refl rfl
  · rename_i ds
    cases hf
    obtain ⟨v, r, e, hx, hr⟩ := hv
    have hr' : r = [] := hr
    subst e hr'
    obtain ⟨a, us, ea, h2, h3⟩ := hx
    refine ⟨v, us.length, rfl, ?_, ?_⟩
    · rw [ea]
      exact .inl ⟨us, SqL.of (o.sub a _ h2), rfl⟩
    · rw [h3.len]
      exact hq _ F H o.refl rfl
  · rename_i x
    split at hf
    · rename_i c
      cases hf
      obtain ⟨v, r, e, hx, hr⟩ := hv
      have hr' : r = [] := hr
      subst e hr'
      have ea : v = V.str x := hx
      refine ⟨v, x.length, rfl, ?_, hq _ F H o.refl rfl⟩
      rw [ea]
      exact ⟨c, rfl⟩
    · cases hf
  · cases hf
theorem one_of {F : Hp} {d : D} {vs : List V} (h : DvL K B F [d] vs) : ∃ v, vs = [v] ∧ Dv K B F d v := by
  obtain ⟨v, r, e, hx, hr⟩ := h
  have hr' : r = [] := hr
  subst hr'
  exact ⟨v, e, hx⟩
theorem two_of {F : Hp} {d e : D} {vs : List V} (h : DvL K B F [d, e] vs) : ∃ v u, vs = [v, u] ∧ Dv K B F d v ∧ Dv K B F e u := by
  obtain ⟨v, r, e1, hx, hr⟩ := h
  obtain ⟨u, e2, hy⟩ := one_of hr
  subst e2
  exact ⟨v, u, e1, hx, hy⟩
def absD : List D → Option D
  | [.int i] => some (.int (if i < 0 then -i else i))
  | _ => none
theorem absD_ok : CallD K B (fun xs H Q => ∃ i, xs = [.int i] ∧ Q (.int (if i < 0 then -i else i)) H) absD := fun F H s ds dz vs Q o hv hf hq => by
  unfold absD at hf
  split at hf
  · rename_i i
    cases hf
    obtain ⟨v, e, hx⟩ := one_of hv
    have ev : v = V.int i := hx
    subst e ev
    exact ⟨i, rfl, hq _ F H o.refl rfl⟩
  · cases hf
def intCD : List D → Option D
  | [.int i] => some (.int i)
  | [.bl k] => some (.int (if k then 1 else 0))
  | _ => none
theorem intCD_ok : CallD K B (fun xs H Q => (∃ i, xs = [.int i] ∧ Q (.int i) H) ∨ ∃ k, xs = [.bl k] ∧ Q (.int (if k then 1 else 0)) H) intCD := fun F H s ds dz vs Q o hv hf hq => by
  unfold intCD at hf
  split at hf
  · rename_i i
    cases hf
    obtain ⟨v, e, hx⟩ := one_of hv
    have ev : v = V.int i := hx
    subst e ev
    exact .inl ⟨i, rfl, hq _ F H o.refl rfl⟩
  · rename_i k
    cases hf
    obtain ⟨v, e, hx⟩ := one_of hv
    have ev : v = V.bl k := hx
    subst e ev
    exact .inr ⟨k, rfl, hq _ F H o.refl rfl⟩
  · cases hf
def tupleCD : List D → Option D
  | [.tup ds] => some (.tup ds)
  | [.lst ds] => some (.tup ds)
  | _ => none
theorem tupleCD_ok : CallD K B (fun xs H Q => ∃ p ys, xs = [.ref p] ∧ ((SqL K H p ys ∧ ∀ l, H l = none → Q (.ref l) (upd H l (.tup ys))) ∨ (SqT K H p ys ∧ Q (.ref p) H))) tupleCD := fun F H s ds dz vs Q o hv hf hq => by
  unfold tupleCD at hf
  split at hf
  · rename_i ds
    cases hf
    obtain ⟨v, e, hx⟩ := one_of hv
    obtain ⟨a, us, ea, h2, h3⟩ := id hx
    subst e
    refine ⟨a, us, by rw [ea], .inr ⟨sqT_ext o.sub h2, ?_⟩⟩
    rw [← ea]
    exact hq _ F H o.refl hx
  · rename_i ds
    cases hf
    obtain ⟨v, e, hx⟩ := one_of hv
    obtain ⟨a, us, ea, h2, h3⟩ := hx
    subst e
    exact ⟨a, us, by rw [ea], .inl ⟨SqL.of (o.sub a _ h2), fun p hp => hq _ _ _ (Ev.new o _ hp) (new_tup o hp h3)⟩⟩
  · cases hf
def listCD : List D → Option D
  | [.tup ds] => some (.lst ds)
  | [.lst ds] => some (.lst ds)
  | _ => none
theorem listCD_ok : CallD K B (fun xs H Q => ∃ p ys, xs = [.ref p] ∧ (SqL K H p ys ∨ SqT K H p ys) ∧ ∀ l, H l = none → Q (.ref l) (upd H l (.lst ys))) listCD := fun F H s ds dz vs Q o hv hf hq => by
  unfold listCD at hf
  split at hf
  · rename_i ds
    cases hf
    obtain ⟨v, e, hx⟩ := one_of hv
    obtain ⟨a, us, ea, h2, h3⟩ := hx
    subst e
    exact ⟨a, us, by rw [ea], .inr (sqT_ext o.sub h2), fun p hp => hq _ _ _ (Ev.new o _ hp) (new_lst o hp h3)⟩
  · rename_i ds
    cases hf
    obtain ⟨v, e, hx⟩ := one_of hv
    obtain ⟨a, us, ea, h2, h3⟩ := hx
    subst e
    exact ⟨a, us, by rw [ea], .inl (SqL.of (o.sub a _ h2)), fun p hp => hq _ _ _ (Ev.new o _ hp) (new_lst o hp h3)⟩
  · cases hf
def blsD : List D → Option (List Bool)
  | [] => some []
  | .bl b :: ds => (blsD ds).map fun bs => b :: bs
  | _ => none
theorem blsD_eq : ∀ {ds : List D} {bs : List Bool}, blsD ds = some bs → ds = bs.map D.bl
  | [], _, h => by
    cases h
    rfl
  | d :: ds, bs, h => by
    cases d with
    | bl b =>
      unfold blsD at h
      cases q : blsD ds with
      | none => simp [q] at h
      | some cs =>
        simp [q] at h
        subst h
        rw [blsD_eq q]
        rfl
    | _ => simp [blsD] at h
def allD : List D → Option D
  | [.lst ds] => (blsD ds).map fun bs => .bl (bs.all id)
  | _ => none
theorem allD_ok : CallD K B (rAll K) allD := fun F H s ds dz vs Q o hv hf hq => by
  unfold allD at hf
  split at hf
  · rename_i ds
    cases q : blsD ds with
    | none => simp [q] at hf
    | some bs =>
      simp [q] at hf
      subst hf
      obtain ⟨v, e, hx⟩ := one_of hv
      obtain ⟨a, us, ea, h2, h3⟩ := hx
      subst e
      have eq := blsD_eq q
      subst eq
      have eu := h3.bls
      subst eu
      exact ⟨a, bs, by rw [ea], SqL.of (o.sub a _ h2), hq _ F H o.refl rfl⟩
  · cases hf
def anyD : List D → Option D
  | [.lst ds] => (blsD ds).map fun bs => .bl (bs.any id)
  | _ => none
theorem anyD_ok : CallD K B (rAny K) anyD := fun F H s ds dz vs Q o hv hf hq => by
  unfold anyD at hf
  split at hf
  · rename_i ds
    cases q : blsD ds with
    | none => simp [q] at hf
    | some bs =>
      simp [q] at hf
      subst hf
      obtain ⟨v, e, hx⟩ := one_of hv
      obtain ⟨a, us, ea, h2, h3⟩ := hx
      subst e
      have eq := blsD_eq q
      subst eq
      have eu := h3.bls
      subst eu
      exact ⟨a, bs, by rw [ea], SqL.of (o.sub a _ h2), hq _ F H o.refl rfl⟩
  · cases hf
end
end Dl

set_option Elab.async false
set_option linter.all false
set_option maxRecDepth 100000
set_option maxHeartbeats 4000000
/-! D4: isinstance, what a loop walks, comprehensions, calls. -/
namespace Dl
open PySem
open L2

/-! ### isinstance -/
inductive Ty where
  | tInt | tBool | tStr | tTuple | tList | tDict | tBytes
def tyN : Ty → String
  | .tInt => "int" | .tBool => "bool" | .tStr => "str" | .tTuple => "tuple" | .tList => "list" | .tDict => "dict" | .tBytes => "bytes"
/-- the class of a thing -/
def nmD : D → Option String
  | .non => some "NoneType" | .bl _ => some "bool" | .int _ => some "int" | .str _ => some "str" | .tup _ => some "tuple" | .lst _ => some "list" | .dct _ _ => some "dict" | .hnd => none | .exn _ _ _ => none | .ins _ _ _ => none
def isI : Ty → D → Bool
  | .tInt, .int _ => true | .tInt, .bl _ => true | .tBool, .bl _ => true | .tStr, .str _ => true | .tTuple, .tup _ => true | .tList, .lst _ => true | .tDict, .dct _ _ => true | _, _ => false
def isiD (T : Ty) : D → Option D
  | .hnd => none
  | .exn _ _ _ => none
  | .ins _ _ _ => none
  | d => some (.bl (isI T d))
def isiTD (Ts : List Ty) : D → Option D
  | .hnd => none
  | .exn _ _ _ => none
  | .ins _ _ _ => none
  | d => some (.bl (Ts.any fun T => isI T d))
theorem kit_table : ∀ (T : Ty) (d : D) (n : String), nmD d = some n → kitB n (tyN T) = some (isI T d) := by
  intro T d n h
  cases T <;> cases d <;> first | cases h | skip
  all_goals first
    | (show _ = some true; decide +kernel)
    | (show _ = some false; decide +kernel)
section
variable {K : PySem.W.Frag} {S : Type} {B : Amb S} {F H : Hp}
theorem tyX_of (e : Same F H) {d : D} {v : V} {n : String} (hn : nmD d = some n) (h : Dv K B F d v) : TyX K H v (.type n) := by
  cases d with
  | non => cases hn; rw [show v = V.non from h]; exact .base .non
  | bl b => cases hn; rw [show v = V.bl b from h]; exact .base (.bl b)
  | int i => cases hn; rw [show v = V.int i from h]; exact .base (.int i)
  | str x => cases hn; rw [show v = V.str x from h]; exact .base (.str x)
  | hnd => cases hn
  | exn _ _ _ => cases hn
  | ins _ _ _ => cases hn
  | tup ds =>
    cases hn
    obtain ⟨a, vs, ea, h2, _⟩ := h
    rw [ea]
    rcases h2 with (h2 | ⟨o, h2⟩) | ⟨o, its, m, hk, hc, _⟩
    · exact .base (.tup (e a _ h2))
    · exact .fTuple (e a _ h2)
    · exact .kTuple hk hc
  | lst ds =>
    cases hn
    obtain ⟨a, vs, ea, h2, _⟩ := h
    rw [ea]
    exact .base (.lst (e a _ h2))
  | dct ks ds =>
    cases hn
    obtain ⟨a, vs, ea, h2, _⟩ := h
    rw [ea]
    exact .base (.dK (e a _ h2))
theorem isiD_nm {T : Ty} {d z : D} (h : isiD T d = some z) : (∃ n, nmD d = some n) ∧ z = .bl (isI T d) := by
  cases d with
  | hnd => cases h
  | exn _ _ _ => cases h
  | ins _ _ _ => cases h
  | _ => cases h; exact ⟨⟨_, rfl⟩, rfl⟩
theorem isiTD_nm {Ts : List Ty} {d z : D} (h : isiTD Ts d = some z) : (∃ n, nmD d = some n) ∧ z = .bl (Ts.any fun T => isI T d) := by
  cases d with
  | hnd => cases h
  | exn _ _ _ => cases h
  | ins _ _ _ => cases h
  | _ => cases h; exact ⟨⟨_, rfl⟩, rfl⟩
theorem any_table {d : D} {n : String} (hn : nmD d = some n) : ∀ Ts : List Ty, PySem.W.kitAny K (.type n) (Ts.map fun T => Value.type (tyN T)) = some (Ts.any fun T => isI T d)
  | [] => rfl
  | T :: Ts => by
    rw [List.map_cons, List.any_cons]
    have h1 : PySem.W.kitOne K (.type n) (.type (tyN T)) = some (isI T d) := kit_ty (kit_table T d n hn)
    cases q : isI T d with
    | true =>
      rw [q] at h1
      exact kitAny_cons h1 (fun z => nomatch z) fun _ => rfl
    | false =>
      rw [q] at h1
      exact kitAny_cons h1 (fun _ => any_table hn Ts) fun z => nomatch z
/-- a row of class names -/
def tTys (Ts : List Ty) : TA := fun _ H Q => Q (Ts.map fun T => V.ty (tyN T)) H
end
section
variable {X : Cx} {S : Type} {B : Amb S} {a b : Expr} {es : List Expr} {pos : Pos} {ma : ME S}
theorem pe_ty {x : Str} {p : Pos} (T : Ty) (hm : X.mg x = none) (hv : bootBuiltins x = some (.type (tyN T))) (hg : Gl X x := by rfl) (hn : x ≠ "__name__" := by decide) (hd : (x == ("__debug__" : Str)) = false := by decide) :
    PE X (.Name x p) (tC (.ty (tyN T))) := pe_bltn hg hm hv rfl hn hd
theorem tys_nil : PA X [] (tTys []) := pa_w pa_nil fun _ _ _ h => h
theorem tys_cons {T : Ty} {Ts : List Ty} (hb : PE X b (tC (.ty (tyN T)))) (hl : PA X es (tTys Ts)) (hs : starEach (b :: es) X.env = (false, eval b X.env) :: starEach es X.env := by rfl) : PA X (b :: es) (tTys (T :: Ts)) :=
  pa_w (pa_cons hb hl hs) fun _ _ _ h => h
theorem d_isi {p : Pos} {T : Ty} (hm : X.mg "isinstance" = none) (ha : PE X a (tD X.K B ma)) (hb : PE X b (tC (.ty (tyN T)))) (hv : bootBuiltins "isinstance" = some (.builtin "isinstance") := by decide +kernel) (hg : Gl X "isinstance" := by rfl)
    (hs1 : starEach [b] X.env = (false, eval b X.env) :: starEach [] X.env := by rfl)
    (he : starEach (a :: [b]) X.env = (false, eval a X.env) :: starEach [b] X.env := by rfl) (hpl : (backTo pos (starEach [b] X.env)).any (·.1) = false := by rfl) :
    PE X (.Call (.Name "isinstance" p) [a, b] [] pos) (tD X.K B (mU (isiD T) ma)) :=
  pe_w (pe_callB call_isi hg hm hv (pa_cons ha (pa_cons hb pa_nil hs1) he) (by decide) (by decide) he hpl) fun σ H Q ⟨env, F, s, d, s', E, o, hm, hq⟩ => by
    obtain ⟨x, e1, e2⟩ := un_un hm
    obtain ⟨⟨n, hn⟩, ez⟩ := isiD_nm e2
    subst ez
    exact ⟨env, F, s, x, s', E, o, e1, fun v F1 H1 v1 hx => ⟨v, .ty (tyN T), .type n, .type (tyN T), _, rfl, .ty _, tyX_of v1.ok.sub hn hx, kit_ty (kit_table T x n hn), hq _ F1 H1 v1 rfl⟩⟩
theorem paired_ty : ∀ Ts : List Ty, Paired ClsV (Ts.map fun T => V.ty (tyN T)) (Ts.map fun T => Value.type (tyN T))
  | [] => .nil
  | T :: Ts => .cons (.ty _) (paired_ty Ts)
theorem d_isiT {p p2 : Pos} {x1} {Ts : List Ty} (hm : X.mg "isinstance" = none) (ha : PE X a (tD X.K B ma)) (hb : PA X es (tTys Ts)) (hv : bootBuiltins "isinstance" = some (.builtin "isinstance") := by decide +kernel) (hg : Gl X "isinstance" := by rfl)
    (hz : Ts.length ≤ sizeLine := by decide)
    (hs1 : starEach [Expr.Tuple es x1 p2] X.env = (false, eval (Expr.Tuple es x1 p2) X.env) :: starEach [] X.env := by rfl)
    (he : starEach (a :: [Expr.Tuple es x1 p2]) X.env = (false, eval a X.env) :: starEach [Expr.Tuple es x1 p2] X.env := by rfl) (hpl : (backTo pos (starEach [Expr.Tuple es x1 p2] X.env)).any (·.1) = false := by rfl) :
    PE X (.Call (.Name "isinstance" p) [a, Expr.Tuple es x1 p2] [] pos) (tD X.K B (mU (isiTD Ts) ma)) :=
  pe_w (pe_callB call_isiT hg hm hv (pa_cons ha (pa_cons (pe_tup hb) pa_nil hs1) he) (by decide) (by decide) he hpl) fun σ H Q ⟨env, F, s, d, s', E, o, hm, hq⟩ => by
    obtain ⟨x, e1, e2⟩ := un_un hm
    obtain ⟨⟨n, hn⟩, ez⟩ := isiTD_nm e2
    subst ez
    refine ⟨env, F, s, x, s', E, o, e1, fun v F1 H1 v1 hx => ⟨by rw [List.length_map]; exact hz, fun p hp => ?_⟩⟩
    have v2 := v1.trans (Ev.new v1.ok (.tup (Ts.map fun T => V.ty (tyN T))) hp)
    exact ⟨v, p, _, .type n, _, _, rfl, upd_same, paired_ty Ts, tyX_of v2.ok.sub hn (hx.ext ((Ev.new v1.ok (.tup (Ts.map fun T => V.ty (tyN T))) hp).sameF v1.ok)), any_table hn Ts, hq _ _ _ v2 rfl⟩
end

/-! ### calls of the program's own defs -/
/-- a def's promise: over data it is f -/
def spD (K : PySem.W.Frag) {S : Type} (B : Amb S) (n : Nat) (f : List D → S → Option (D × S)) : Sp := fun vs H Q _ => vs.length = n ∧ ∃ F s ds d s', DvL K B F ds vs ∧ Ok B F H s ∧ f ds s = some (d, s') ∧ ∀ v F' H', Ev B F H F' H' s' → Dv K B F' d v → Q v H'
def mCall {S : Type} (f : List D → S → Option (D × S)) (l : ML S) : ME S := fun env s => (l env s).bind fun p => f p.1 p.2
section
variable {X : Cx} {S : Type} {B : Amb S} {a b e : Expr} {es : List Expr} {pos p : Pos} {ma : ME S} {ml : ML S} {k : Nat} {f : Addr} {fd : FuncData} {ps : List Str} {x : Str} {g : List D → S → Option (D × S)}
theorem d_call {CX : CXT} {E : XK} (G : FnOk X.prog X.w X.K X.mg X.base CX k f fd ps (spD X.K B ps.length g)) (hr : Room k X.A) (hm : X.mg x = some (.ref f)) (hk : PySem.W.keepIn X.K (.ref f) = true) (hb : Binds X.K fd ps []) (hx : Passes CX X E) (ha : PA X (e :: es) (tL X.K B ml))
    (hl : ∀ env s ds s', ml env s = some (ds, s') → ds.length = ps.length)
    (hg : Gl X x := by rfl) (hdb : (x == ("__debug__" : Str)) = false := by decide) (he : starEach (e :: es) X.env = (false, eval e X.env) :: starEach es X.env := by rfl) (hpl : (backTo pos (starEach es X.env)).any (·.1) = false := by rfl) :
    PE X (.Call (.Name x p) (e :: es) [] pos) (tD X.K B (mCall g ml)) :=
  pe_w (pe_call G hr hg hm hk hb .nil hx ha hdb he hpl) fun σ H Q ⟨env, F, s, d, s', E, o, hm, hq⟩ => by
    unfold mCall at hm
    cases e1 : ml env s with
    | none => simp [e1] at hm
    | some q =>
      obtain ⟨ds, s1⟩ := q
      simp only [e1, Option.bind_some] at hm
      refine ⟨env, F, s, ds, s1, E, o, e1, fun vs F1 H1 v1 hv => ?_⟩
      show spD X.K B ps.length g (vs ++ []) H1 Q _
      rw [List.append_nil]
      exact ⟨by rw [hv.len]; exact hl _ _ _ _ e1, F1, s1, ds, d, s', hv, v1.ok, hm, fun v F2 H2 v2 hz => hq v F2 H2 (v1.trans v2) hz⟩
end
theorem len_nil {S : Type} : ∀ env s ds s', (mNil : ML S) env s = some (ds, s') → ds.length = 0 := fun env s ds s' h => by
  cases h
  rfl
theorem len_cons {S : Type} {ma : ME S} {ml : ML S} {n : Nat} (h : ∀ env s ds s', ml env s = some (ds, s') → ds.length = n) : ∀ env s ds s', mCons ma ml env s = some (ds, s') → ds.length = n + 1 := fun env s ds s' hm => by
  unfold mCons at hm
  cases e1 : ma env s with
  | none => simp [e1] at hm
  | some p =>
    cases e2 : ml env p.2 with
    | none => simp [e1, e2] at hm
    | some q =>
      simp [e1, e2] at hm
      obtain ⟨h1, h2⟩ := hm
      subst h1 h2
      rw [List.length_cons, h env p.2 q.1 q.2 e2]
end Dl

set_option Elab.async false
set_option linter.all false
set_option maxRecDepth 100000
set_option maxHeartbeats 4000000
/-! D5: targets, what is walked, comprehensions. -/
namespace Dl
open PySem
open L2

/-- p is a list of this frame's own -/
def Own (σ : L2.St) (env : DE) (p : Addr) : Prop := ∃ (i : Nat) (xs : List D), env[i]? = some (some (.own xs)) ∧ σ[i]? = some (some (.ref p))

section
variable {K : PySem.W.Frag} {S : Type} {B : Amb S} {F H F1 H1 : Hp} {s : S}
theorem Ok.mut (o : Ok B F H s) {p : Addr} {u : HO} (hf : F p = none) (hn : ¬ B.own p) : Ok B F (upd H p u) s := by
  refine ⟨fun q x hq => ?_, o.ap, B.stay s H _ o.am fun q x ho hq => ?_⟩
  · have z : q ≠ p := ne_of_none hq hf
    rw [upd_ne z]
    exact o.sub q x hq
  · have z : q ≠ p := fun e => hn (e ▸ ho)
    rw [upd_ne z]
    exact hq
theorem Ok.frz (o : Ok B F H s) {p : Addr} {u : HO} (hp : H p = some u) (hn : ¬ B.own p) : Ok B (upd F p u) H s := by
  refine ⟨fun q x hq => ?_, fun q ho => ?_, o.am⟩
  · by_cases z : q = p
    · subst z
      rw [upd_same] at hq
      cases hq
      exact hp
    · rw [upd_ne z] at hq
      exact o.sub q x hq
  · have z : q ≠ p := fun e => hn (e ▸ ho)
    rw [upd_ne z]
    exact o.ap q ho
end

/-! ### targets -/
theorem wipe_set {σ : L2.St} {x : Option V} : ∀ {vs : List Nat} {i : Nat}, i ∈ vs → wipe (σ.set i x) vs = wipe σ vs
  | [], i, h => by cases h
  | v :: vs, i, h => by
    show (wipe (σ.set i x) vs).set v none = (wipe σ vs).set v none
    by_cases hi : i ∈ vs
    · rw [wipe_set hi]
    · have e : i = v := by
        rcases List.mem_cons.mp h with z | z
        · exact z
        · exact absurd z hi
      subst e
      have e2 : ∀ ws : List Nat, i ∉ ws → wipe (σ.set i x) ws = (wipe σ ws).set i x := by
        intro ws
        induction ws with
        | nil => intro _; rfl
        | cons w ws ih =>
          intro hw
          have hw1 : i ≠ w := fun z => hw (by rw [z]; exact List.mem_cons_self)
          have hw2 : i ∉ ws := fun z => hw (List.mem_cons_of_mem _ z)
          show (wipe (σ.set i x) ws).set w none = ((wipe σ ws).set w none).set i x
          rw [ih hw2, List.set_comm _ _ hw1]
      rw [e2 vs hi, List.set_set]
def wipeE (env : DE) : List Nat → DE
  | [] => env
  | v :: vs => (wipeE env vs).set v none
def GD (K : PySem.W.Frag) {S : Type} (B : Amb S) (is : List Nat) (g : TG) (gd : D → DE → Option DE) : Prop := ∀ (d : D) (v : V) (F H : Hp) (s : S) (σ : L2.St) (env env' : DE) (Q : L2.St → Hp → Prop), EnvOk K B F H σ env → Ok B F H s → Dv K B F d v → gd d env = some env' →
  (∀ σ', EnvOk K B F H σ' env' → (∀ p, Own σ' env' p → Own σ env p) → (∀ vs : List Nat, (∀ i ∈ is, i ∈ vs) → wipe σ' vs = wipe σ vs) → Q σ' H) → g v σ H Q
def GDs (K : PySem.W.Frag) {S : Type} (B : Amb S) (is : List Nat) (g : TGs) (gd : List D → DE → Option DE) : Prop := ∀ (ds : List D) (vs : List V) (F H : Hp) (s : S) (σ : L2.St) (env env' : DE) (Q : L2.St → Hp → Prop), EnvOk K B F H σ env → Ok B F H s → DvL K B F ds vs → gd ds env = some env' →
  (∀ σ', EnvOk K B F H σ' env' → (∀ p, Own σ' env' p → Own σ env p) → (∀ ws : List Nat, (∀ i ∈ is, i ∈ ws) → wipe σ' ws = wipe σ ws) → Q σ' H) → g vs σ H Q
def gdName (i : Nat) : D → DE → Option DE := fun d env => some (env.set i (some (.dat d)))
def gdNil : List D → DE → Option DE
  | [], env => some env
  | _ :: _, _ => none
def gdCons (g : D → DE → Option DE) (gs : List D → DE → Option DE) : List D → DE → Option DE
  | [], _ => none
  | d :: ds, env => (g d env).bind fun e => gs ds e
def gdTup (n : Nat) (gs : List D → DE → Option DE) : D → DE → Option DE
  | .tup ds, env => if ds.length = n then gs ds env else none
  | _, _ => none
section
variable {K : PySem.W.Frag} {S : Type} {B : Amb S} {F H : Hp} {σ : L2.St} {env : DE}
theorem set_get {α : Type} {l : List α} {i j : Nat} {x y : α} (h : (l.set i x)[j]? = some y) : (j = i ∧ x = y ∧ i < l.length) ∨ (j ≠ i ∧ l[j]? = some y) := by
  by_cases e : i = j
  · subst e
    by_cases hl : i < l.length
    · rw [List.getElem?_set_self hl] at h
      exact .inl ⟨rfl, Option.some.inj h, hl⟩
    · rw [List.getElem?_eq_none (by simpa using hl)] at h
      cases h
  · rw [List.getElem?_set_ne e] at h
    exact .inr ⟨fun z => e z.symm, h⟩
/-- a name is given data -/
theorem EnvOk.put (E : EnvOk K B F H σ env) {i : Nat} {d : D} {v : V} (h : Dv K B F d v) : EnvOk K B F H (σ.set i (some v)) (env.set i (some (.dat d))) ∧ ∀ p, Own (σ.set i (some v)) (env.set i (some (.dat d))) p → Own σ env p := by
  have other : ∀ {j : Nat} {xs : List D}, (env.set i (some (.dat d)))[j]? = some (some (.own xs)) → j ≠ i ∧ env[j]? = some (some (.own xs)) := fun {j xs} q => by
    rcases set_get q with ⟨_, z, _⟩ | z
    · cases z
    · exact z
  have back : ∀ {j : Nat} {x : Option V}, j ≠ i → (σ.set i (some v))[j]? = some x → σ[j]? = some x := fun {j x} hj q => by
    rcases set_get q with ⟨z, _⟩ | z
    · exact absurd z hj
    · exact z.2
  refine ⟨⟨by rw [List.length_set, List.length_set]; exact E.len, fun j e q => ?_, fun j xs q => ?_, fun j k xs ys a q1 q2 r1 r2 => ?_⟩, fun p ⟨j, xs, q, r⟩ => ?_⟩
  · rcases set_get q with ⟨z, z2, z3⟩ | ⟨z, z2⟩
    · subst z
      cases z2
      exact ⟨v, List.getElem?_set_self (by rw [E.len]; exact z3), h⟩
    · obtain ⟨u, h1, h2⟩ := E.dat j e z2
      exact ⟨u, by rw [List.getElem?_set_ne (Ne.symm z)]; exact h1, h2⟩
  · obtain ⟨hj, q'⟩ := other q
    obtain ⟨a, vs, h1, h2⟩ := E.own j xs q'
    exact ⟨a, vs, by rw [List.getElem?_set_ne (Ne.symm hj)]; exact h1, h2⟩
  · obtain ⟨hj, q1'⟩ := other q1
    obtain ⟨hk, q2'⟩ := other q2
    exact E.inj j k xs ys a q1' q2' (back hj r1) (back hk r2)
  · obtain ⟨hj, q'⟩ := other q
    exact ⟨j, xs, q', back hj r⟩
/-- names forgotten -/
theorem EnvOk.wipe (E : EnvOk K B F H σ env) : ∀ vs : List Nat, EnvOk K B F H (wipe σ vs) (wipeE env vs)
  | [] => E
  | v :: vs => by
    have E1 := EnvOk.wipe E vs
    show EnvOk K B F H ((L2.wipe σ vs).set v none) ((wipeE env vs).set v none)
    have back : ∀ {j : Nat} {x : V}, ((L2.wipe σ vs).set v none)[j]? = some (some x) → j ≠ v ∧ (L2.wipe σ vs)[j]? = some (some x) := fun {j x} q => by
      rcases set_get q with ⟨_, z, _⟩ | z
      · cases z
      · exact z
    have bak2 : ∀ {j : Nat} {x : Slot}, ((wipeE env vs).set v none)[j]? = some (some x) → j ≠ v ∧ (wipeE env vs)[j]? = some (some x) := fun {j x} q => by
      rcases set_get q with ⟨_, z, _⟩ | z
      · cases z
      · exact z
    refine ⟨by rw [List.length_set, List.length_set]; exact E1.len, fun j e q => ?_, fun j xs q => ?_, fun j k xs ys a q1 q2 r1 r2 => E1.inj j k xs ys a (bak2 q1).2 (bak2 q2).2 (back r1).2 (back r2).2⟩
    · obtain ⟨hj, q'⟩ := bak2 q
      obtain ⟨u, h1, h2⟩ := E1.dat j e q'
      exact ⟨u, by rw [List.getElem?_set_ne (Ne.symm hj)]; exact h1, h2⟩
    · obtain ⟨hj, q'⟩ := bak2 q
      obtain ⟨a, us, h1, h2⟩ := E1.own j xs q'
      exact ⟨a, us, by rw [List.getElem?_set_ne (Ne.symm hj)]; exact h1, h2⟩
theorem g_name (i : Nat) : GD K B [i] (gName i) (gdName i) := fun d v F H s σ env env' Q E o h hg hq => by
  cases hg
  obtain ⟨E1, ho⟩ := E.put (i := i) h
  exact hq _ E1 ho fun vs hv => wipe_set (hv i List.mem_cons_self)
theorem g_nil : GDs K B [] gNil gdNil := fun ds vs F H s σ env env' Q E o h hg hq => by
  cases ds with
  | nil =>
    cases hg
    exact ⟨h, hq σ E (fun p z => z) fun _ _ => rfl⟩
  | cons d ds => cases hg
theorem g_cons {is js : List Nat} {g : TG} {gs : TGs} {gd : D → DE → Option DE} {gds : List D → DE → Option DE} (h1 : GD K B is g gd) (h2 : GDs K B js gs gds) : GDs K B (is ++ js) (gCons g gs) (gdCons gd gds) := fun ds vs F H s σ env env' Q E o h hg hq => by
  cases ds with
  | nil => cases hg
  | cons d ds =>
    obtain ⟨v, r, e, hd, hr⟩ := h
    cases q : gd d env with
    | none => simp [gdCons, q] at hg
    | some e1 =>
      simp only [gdCons, q, Option.bind_some] at hg
      refine ⟨v, r, e, h1 d v F H s σ env e1 _ E o hd q fun σ1 E1 o1 w1 => ?_⟩
      refine h2 ds r F H s σ1 e1 env' _ E1 o hr hg fun σ2 E2 o2 w2 => hq σ2 E2 (fun p z => o1 p (o2 p z)) fun ws hw => ?_
      rw [w2 ws fun i hi => hw i (List.mem_append_right _ hi), w1 ws fun i hi => hw i (List.mem_append_left _ hi)]
theorem g_tup {is : List Nat} {n : Nat} {gs : TGs} {gds : List D → DE → Option DE} (h : GDs K B is gs gds) : GD K B is (gTup K n gs) (gdTup n gds) := fun d v F H s σ env env' Q E o hd hg hq => by
  cases d with
  | tup ds =>
    obtain ⟨a, vs, ea, h2, h3⟩ := hd
    have hg' : (if ds.length = n then gds ds env else none) = some env' := hg
    by_cases c : ds.length = n
    · rw [if_pos c] at hg'
      exact ⟨a, vs, ea, sqT_ext o.sub h2, by rw [h3.len]; exact c, h ds vs F H s σ env env' Q E o h3 hg' hq⟩
    · rw [if_neg c] at hg'
      cases hg'
  | _ => cases hg
end

/-! ### what is walked -/
structure JD (K : PySem.W.Frag) {S : Type} (B : Amb S) (J : It) (xs : List D) (F1 : Hp) : Prop where
  go : ∀ (i : Nat) (F H : Hp) (s : S), Same F1 F → Ok B F H s → i < xs.length → J.go i H
  yld : ∀ (i : Nat) (F H : Hp) (s : S) (x : V) (H' : Hp) (d : D), Same F1 F → Ok B F H s → J.yld i H x H' → xs[i]? = some d → ∃ F', Ev B F H F' H' s ∧ Dv K B F' d x
  stop : ∀ (i : Nat) (F H : Hp) (s : S), Same F1 F → Ok B F H s → xs.length ≤ i → J.stop i H
def tI (K : PySem.W.Frag) {S : Type} (B : Amb S) (m : ML S) : TI := fun σ H R => ∃ env F s xs s', EnvOk K B F H σ env ∧ Ok B F H s ∧ m env s = some (xs, s') ∧ ∀ J F1 H1, Ev B F H F1 H1 s' → JD K B J xs F1 → xs.length ≤ sizeLine → R J H1
section
variable {X : Cx} {S : Type} {B : Amb S} {tg a b : Expr} {es : List Expr} {pos p : Pos} {ma : ME S} {ml : ML S}
theorem pi_w {it : Expr} {wi wi' : TI} (h : PI X tg it wi) (hi : ∀ σ H R, wi' σ H R → wi σ H R) : PI X tg it wi' := ⟨fun pins s σ H R I hw => h.run pins s σ H R I (hi σ H R hw)⟩
theorem pi_bd {it : Expr} {wi : TI} (h : PI X tg it wi) : PI X tg it (fun σ H R => wi σ H fun J H1 => (∀ a vs, SqT X.K H1 a vs → vs.length ≤ sizeLine) → (∀ a vs, SqL X.K H1 a vs → vs.length ≤ sizeLine) → R J H1) :=
  ⟨fun pins s σ H R I h' => thn (h.run pins s σ H _ I h') fun v s1 h1 => thn h1 fun itv s2 ⟨it, fp, tn, J, H', e, I2, T, t0, f, r⟩ => ⟨it, fp, tn, J, H', e, I2, T, t0, f, r (fun a vs q => by
    obtain ⟨_, _, _, z⟩ := I2.tuple q
    exact z) (fun a vs q => by
    obtain ⟨_, _, _, z⟩ := I2.list q
    exact z)⟩⟩
def tupItems : D → Option (List D)
  | .tup ds => some ds
  | _ => none
def lstItems : D → Option (List D)
  | .lst ds => some ds
  | _ => none
def mIt (f : D → Option (List D)) (a : ME S) : ML S := fun env s => (a env s).bind fun p => (f p.1).map fun xs => (xs, p.2)
theorem it_un {f : D → Option (List D)} {env : DE} {s s' : S} {xs : List D} (h : mIt f ma env s = some (xs, s')) : ∃ x, ma env s = some (x, s') ∧ f x = some xs := by
  unfold mIt at h
  cases e1 : ma env s with
  | none => simp [e1] at h
  | some p =>
    cases e3 : f p.1 with
    | none => simp [e1, e3] at h
    | some z =>
      simp [e1, e3] at h
      obtain ⟨h1, h2⟩ := h
      subst h1 h2
      exact ⟨p.1, rfl, e3⟩
theorem i_tup (ha : PE X a (tD X.K B ma)) : PI X tg a (tI X.K B (mIt tupItems ma)) := pi_w (pi_bd (pi_tup ha)) fun σ H R ⟨env, F, s, xs, s', E, o, hm, hq⟩ => by
  obtain ⟨x, e1, e2⟩ := it_un hm
  cases x with
  | tup ds =>
    cases e2
    refine ⟨env, F, s, .tup xs, s', E, o, e1, fun v F1 H1 v1 hx => ?_⟩
    obtain ⟨a, vs, ea, h2, h3⟩ := hx
    refine ⟨a, ea, ⟨vs, sqT_ext v1.ok.sub h2⟩, fun b1 b2 => hq _ F1 H1 v1 ⟨fun i F2 H2 s2 h4 o2 hi => ?_, fun i F2 H2 s2 y H3 d h4 o2 hy hd => ?_, fun i F2 H2 s2 h4 o2 hi => ?_⟩ (by rw [← h3.len]; exact b1 a vs (sqT_ext v1.ok.sub h2))⟩
    · have hi' : i < vs.length := by rw [h3.len]; exact hi
      exact ⟨vs, vs[i], sqT_ext (h4.trans o2.sub) h2, by simp [hi']⟩
    · obtain ⟨e, q⟩ := hy
      subst e
      have q' := q vs (sqT_ext (h4.trans o2.sub) h2)
      obtain ⟨d', hd', hv⟩ := h3.getV q'
      rw [hd] at hd'
      cases hd'
      exact ⟨F2, o2.refl, hv.ext h4⟩
    · exact ⟨vs, sqT_ext (h4.trans o2.sub) h2, by rw [h3.len]; exact hi⟩
  | _ => cases e2
theorem i_lst (ha : PE X a (tD X.K B ma)) : PI X tg a (tI X.K B (mIt lstItems ma)) := pi_w (pi_bd (pi_list ha)) fun σ H R ⟨env, F, s, xs, s', E, o, hm, hq⟩ => by
  obtain ⟨x, e1, e2⟩ := it_un hm
  cases x with
  | lst ds =>
    cases e2
    refine ⟨env, F, s, .lst xs, s', E, o, e1, fun v F1 H1 v1 hx => ?_⟩
    obtain ⟨a, vs, ea, h2, h3⟩ := hx
    refine ⟨a, ea, ⟨vs, SqL.of (v1.ok.sub a _ h2)⟩, fun b1 b2 => hq _ F1 H1 v1 ⟨fun i F2 H2 s2 h4 o2 hi => ?_, fun i F2 H2 s2 y H3 d h4 o2 hy hd => ?_, fun i F2 H2 s2 h4 o2 hi => ?_⟩ (by rw [← h3.len]; exact b2 a vs (SqL.of (v1.ok.sub a _ h2)))⟩
    · have hi' : i < vs.length := by rw [h3.len]; exact hi
      exact ⟨vs, vs[i], SqL.of (o2.sub a _ (h4 a _ h2)), by simp [hi']⟩
    · obtain ⟨e, q⟩ := hy
      subst e
      have q' := q vs (SqL.of (o2.sub a _ (h4 a _ h2)))
      obtain ⟨d', hd', hv⟩ := h3.getV q'
      rw [hd] at hd'
      cases hd'
      exact ⟨F2, o2.refl, hv.ext h4⟩
    · exact ⟨vs, SqL.of (o2.sub a _ (h4 a _ h2)), by rw [h3.len]; exact hi⟩
  | _ => cases e2
/-- range(n), range(a, b) -/
def rngOf (lo : Int) (n : Nat) : List D := (List.range n).map fun (i : Nat) => .int (lo + i)
theorem jd_rng {K : PySem.W.Frag} {lo : Int} {n : Nat} {F1 : Hp} : JD K B (Itr lo n) (rngOf lo n) F1 := by
  refine ⟨fun i F H s _ _ hi => ?_, fun i F H s x H' d _ o hy hd => ?_, fun i F H s _ _ hi => ?_⟩
  · show i < n
    simpa [rngOf] using hi
  · obtain ⟨e1, e2⟩ := hy
    subst e1 e2
    have e : (.int (lo + i) : D) = d := by
      unfold rngOf at hd
      rw [List.getElem?_map] at hd
      cases q : (List.range n)[i]? with
      | none => simp [q] at hd
      | some j =>
        rw [q] at hd
        have hj : i = j := by
          have z := (List.getElem?_eq_some_iff.mp q).2
          rw [List.getElem_range] at z
          exact z
        subst hj
        exact Option.some.inj hd
    subst e
    exact ⟨F, o.refl, rfl⟩
  · show n ≤ i
    simpa [rngOf] using hi
def rng1D : List D → Option (List D)
  | [.int n] => if -(2 ^ 62) ≤ n ∧ n < 2 ^ 62 ∧ n.toNat ≤ sizeLine then some (rngOf 0 n.toNat) else none
  | _ => none
def rng2D : List D → Option (List D)
  | [.int a, .int b] => if -(2 ^ 62) ≤ a ∧ a < 2 ^ 62 ∧ -(2 ^ 62) ≤ b ∧ b < 2 ^ 62 ∧ (b - a).toNat ≤ sizeLine then some (rngOf a (b - a).toNat) else none
  | _ => none
def mRng (f : List D → Option (List D)) (l : ML S) : ML S := fun env s => (l env s).bind fun p => (f p.1).map fun xs => (xs, p.2)
theorem rng_un {f : List D → Option (List D)} {env : DE} {s s' : S} {xs : List D} (h : mRng f ml env s = some (xs, s')) : ∃ x, ml env s = some (x, s') ∧ f x = some xs := by
  unfold mRng at h
  cases e1 : ml env s with
  | none => simp [e1] at h
  | some p =>
    cases e3 : f p.1 with
    | none => simp [e1, e3] at h
    | some z =>
      simp [e1, e3] at h
      obtain ⟨h1, h2⟩ := h
      subst h1 h2
      exact ⟨p.1, rfl, e3⟩
theorem rng_len {lo : Int} {n : Nat} : (rngOf lo n).length = n := by simp [rngOf]
theorem i_rng1 (hm : X.mg "range" = none) (ha : PA X [a] (tL X.K B ml)) (hg : Gl X "range" := by rfl) (hs : starEach [a] X.env = [(false, eval a X.env)] := by rfl) : PI X tg (.Call (.Name "range" p) [a] [] pos) (tI X.K B (mRng rng1D ml)) :=
  pi_w (pi_range1 hg hm ha hs) fun σ H R ⟨env, F, s, xs, s', E, o, hm, hq⟩ => by
    obtain ⟨x, e1, e2⟩ := rng_un hm
    unfold rng1D at e2
    split at e2
    · rename_i n
      split at e2
      · rename_i c
        cases e2
        refine ⟨env, F, s, _, s', E, o, e1, fun vs F1 H1 v1 hv => ?_⟩
        obtain ⟨v, ev, hx⟩ := one_of hv
        have ei : v = V.int n := hx
        subst ev ei
        exact ⟨n, rfl, c.1, c.2.1, hq _ F1 H1 v1 jd_rng (by rw [rng_len]; exact c.2.2)⟩
      · cases e2
    · cases e2
theorem i_rng2 (hm : X.mg "range" = none) (ha : PA X [a, b] (tL X.K B ml)) (hg : Gl X "range" := by rfl) (hs : starEach [a, b] X.env = [(false, eval a X.env), (false, eval b X.env)] := by rfl) (hs2 : starEach [b] X.env = [(false, eval b X.env)] := by rfl) :
    PI X tg (.Call (.Name "range" p) [a, b] [] pos) (tI X.K B (mRng rng2D ml)) :=
  pi_w (pi_range2 hg hm ha hs hs2) fun σ H R ⟨env, F, s, xs, s', E, o, hm, hq⟩ => by
    obtain ⟨x, e1, e2⟩ := rng_un hm
    unfold rng2D at e2
    split at e2
    · rename_i i j
      split at e2
      · rename_i c
        cases e2
        refine ⟨env, F, s, _, s', E, o, e1, fun vs F1 H1 v1 hv => ?_⟩
        obtain ⟨v, u, ev, hx, hy⟩ := two_of hv
        have ei : v = V.int i := hx
        have ej : u = V.int j := hy
        subst ev ei ej
        exact ⟨i, j, rfl, ⟨c.1, c.2.1, c.2.2.1, c.2.2.2.1⟩, hq _ F1 H1 v1 jd_rng (by rw [rng_len]; exact c.2.2.2.2)⟩
      · cases e2
    · cases e2
end

/-! ### comprehensions -/
def compL {S : Type} (g : D → DE → Option DE) (c : MT S) (e : ME S) (env : DE) : List D → S → Option (List D × S)
  | [], s => some ([], s)
  | x :: xs, s => (g x env).bind fun env1 => (c env1 s).bind fun p => if p.1 = true then (e env1 p.2).bind fun q => (compL g c e env xs q.2).map fun r => (q.1 :: r.1, r.2) else compL g c e env xs p.2
def mComp {S : Type} (src : ML S) (g : D → DE → Option DE) (c : MT S) (e : ME S) (vs : List Nat) : ME S := fun env s => (src env s).bind fun p => (compL g c e (wipeE env vs) p.1 p.2).map fun r => (.lst r.1, r.2)
def mYes {S : Type} : MT S := fun _ s => some (true, s)
section
variable {X : Cx} {S : Type} {B : Amb S}
theorem pts_w {ifs : List Expr} {t t' : TT} (h : PTs X ifs t) (hi : ∀ σ H Q, t' σ H Q → t σ H Q) : PTs X ifs t' := ⟨fun pins s σ H Q I hw => h.run pins s σ H Q I (hi σ H Q hw)⟩
theorem dts_nil : PTs X [] (tT X.K B mYes) := pts_w pts_nil fun σ H Q ⟨env, F, s, b, s', E, o, hm, hq⟩ => by
  cases hm
  exact hq F H o.refl
theorem dts_one {c : Expr} {t : MT S} (h : PT X c (tT X.K B t)) : PTs X [c] (tT X.K B t) := pts_one h
theorem comp_D {K : PySem.W.Frag} {src : ML S} {g : TG} {gd : D → DE → Option DE} {is vs : List Nat} {c : MT S} {e : ME S} (hg : GD K B is g gd) (his : ∀ i ∈ is, i ∈ vs) {σ : L2.St} {H : Hp} {Q : VK} (h : tD K B (mComp src gd c e vs) σ H Q) :
    tLc (tI K B src) g (tT K B c) (tD K B e) vs σ H Q := by
  obtain ⟨env, F, s, d, s', E, o, hm, hq⟩ := h
  unfold mComp at hm
  cases e1 : src env s with
  | none => simp [e1] at hm
  | some p =>
    obtain ⟨xs, s1⟩ := p
    simp only [e1, Option.bind_some] at hm
    cases e2 : compL gd c e (wipeE env vs) xs s1 with
    | none => simp [e2] at hm
    | some r =>
      obtain ⟨rs, s2⟩ := r
      simp only [e2, Option.map_some, Option.some.injEq, Prod.mk.injEq] at hm
      obtain ⟨rfl, rfl⟩ := hm
      refine ⟨env, F, s, xs, s1, E, o, e1, fun J F1 H1 v1 jd hz L hL => ?_⟩
      have nL : ¬ B.own L := ne_own v1.ok hL
      refine ⟨fun i m H2 => m = xs.length - i ∧ i ≤ xs.length ∧ ∃ F2 t2 acc accv ys, Ev B F1 H1 F2 H2 t2 ∧ F2 L = none ∧ H2 L = some (.lst accv) ∧ DvL K B F2 acc accv ∧ acc.length ≤ i ∧ compL gd c e (wipeE env vs) (xs.drop i) t2 = some (ys, s2) ∧ acc ++ ys = rs,
        ⟨xs.length, by simp, Nat.zero_le _, F1, s1, [], [], rs, ?_, ?_, upd_same, rfl, Nat.le_refl _, e2, rfl⟩, ?_⟩
      · exact Ev.newO v1.ok _ hL
      · cases q : F1 L with
        | none => rfl
        | some u => rw [v1.ok.sub L u q] at hL; cases hL
      · rintro i m H2 ⟨rfl, hi, F2, t2, acc, accv, ys, v2, hF, hH, hv, hl, hc, he⟩
        have E2 : EnvOk K B F2 H2 (L2.wipe σ vs) (wipeE env vs) := (E.step o (v1.trans v2)).wipe vs
        by_cases hlt : i < xs.length
        · refine .inr ⟨jd.go i F2 H2 t2 (v2.sameF v1.ok) v2.ok hlt, fun H' => i + 1 ≤ xs.length ∧ ∃ F2 t2 acc accv ys, Ev B F1 H1 F2 H' t2 ∧ F2 L = none ∧ H' L = some (.lst accv) ∧ DvL K B F2 acc accv ∧ acc.length ≤ i + 1 ∧ compL gd c e (wipeE env vs) (xs.drop (i + 1)) t2 = some (ys, s2) ∧ acc ++ ys = rs,
            fun H' p' => ⟨xs.length - (i + 1), by omega, rfl, p'⟩, fun x H3 hy => ?_⟩
          obtain ⟨F3, v3, hx⟩ := jd.yld i F2 H2 t2 x H3 xs[i] (v2.sameF v1.ok) v2.ok hy (by simp [hlt])
          rw [List.drop_eq_getElem_cons hlt] at hc
          unfold compL at hc
          cases q1 : gd xs[i] (wipeE env vs) with
          | none => simp [q1] at hc
          | some env1 =>
            simp only [q1, Option.bind_some] at hc
            cases q2 : c env1 t2 with
            | none => simp [q2] at hc
            | some w =>
              obtain ⟨k, t3⟩ := w
              simp only [q2, Option.bind_some] at hc
              have hF3 : F3 L = none := (v3.fs L (by rw [hH]; exact fun z => nomatch z)).trans hF
              refine hg xs[i] x F3 H3 t2 (L2.wipe σ vs) (wipeE env vs) env1 _ (E2.step v2.ok v3) v3.ok hx q1 fun σ2 E3 _ w3 => ⟨?_, ?_⟩
              · rw [w3 vs his]
                have ww : ∀ (ws us : List Nat), (∀ i ∈ us, i ∈ ws) → L2.wipe (L2.wipe σ ws) us = L2.wipe σ ws := by
                  intro ws us
                  induction us with
                  | nil => intro _; rfl
                  | cons u us ih =>
                    intro hu
                    show (L2.wipe (L2.wipe σ ws) us).set u none = L2.wipe σ ws
                    rw [ih fun i hi => hu i (List.mem_cons_of_mem _ hi)]
                    have hm : u ∈ ws := hu u List.mem_cons_self
                    apply List.ext_getElem?
                    intro j
                    by_cases hj : u = j
                    · subst hj
                      by_cases hl2 : u < (L2.wipe σ ws).length
                      · rw [List.getElem?_set_self hl2]
                        cases qq : (L2.wipe σ ws)[u]? with
                        | none => exact absurd (List.getElem?_eq_none_iff.mp qq) (by omega)
                        | some y =>
                          cases y with
                          | none => rfl
                          | some y => exact absurd hm (wipe_some qq).2
                      · rw [List.getElem?_eq_none (by simpa using hl2), List.getElem?_eq_none (by simpa using hl2)]
                    · rw [List.getElem?_set_ne hj]
                exact ww vs vs fun i hi => hi
              · refine ⟨env1, F3, t2, k, t3, E3, v3.ok, q2, fun F4 H4 v4 => ?_⟩
                have hF4 : F4 L = none := (v4.fs L (v3.dom (by rw [hH]; exact fun z => nomatch z))).trans hF3
                have hH3 : H3 L = some (.lst accv) := v3.hs L _ hH nL
                have hH4 : H4 L = some (.lst accv) := v4.hs L _ hH3 nL
                have v14 := (v2.trans v3).trans v4
                have hv4 := hv.ext ((v3.sameF v2.ok).trans (v4.sameF v3.ok))
                cases k with
                | false =>
                  dsimp only at hc ⊢
                  rw [if_neg Bool.false_ne_true] at hc ⊢
                  exact ⟨hlt, F4, t3, acc, accv, ys, v14, hF4, hH4, hv4, Nat.le_succ_of_le hl, hc, he⟩
                | true =>
                  dsimp only at hc ⊢
                  rw [if_pos rfl] at hc ⊢
                  cases q3 : e env1 t3 with
                  | none => simp [q3] at hc
                  | some w =>
                    obtain ⟨y, t4⟩ := w
                    simp only [q3, Option.bind_some] at hc
                    cases q4 : compL gd c e (wipeE env vs) (xs.drop (i + 1)) t4 with
                    | none => simp [q4] at hc
                    | some w =>
                      obtain ⟨zs, t5⟩ := w
                      simp only [q4, Option.map_some, Option.some.injEq, Prod.mk.injEq] at hc
                      obtain ⟨rfl, rfl⟩ := hc
                      refine ⟨env1, F4, t3, y, t4, E3.step v3.ok v4, v4.ok, q3, fun v F5 H5 v5 hyv => ?_⟩
                      have hF5 : F5 L = none := (v5.fs L (by rw [hH4]; exact fun z => nomatch z)).trans hF4
                      have hH5 : H5 L = some (.lst accv) := v5.hs L _ hH4 nL
                      have v15 := v14.trans v5
                      refine ⟨accv, hH5, by rw [hv.len]; omega, hlt, F5, t4, acc ++ [y], accv ++ [v], zs, ⟨v15.fs, fun p u hp hn => ?_, v15.ok.mut hF5 nL⟩, hF5, upd_same, (hv4.ext (v5.sameF v4.ok)).app (DvL.one hyv), by rw [List.length_append]; simp; exact hl, q4, by rw [← he]; simp⟩
                      have z : p ≠ L := ne_of_none hp hL
                      rw [upd_ne z]
                      exact v15.hs p u hp hn
        · have hi2 : xs.length ≤ i := Nat.le_of_not_lt hlt
          refine .inl ⟨jd.stop i F2 H2 t2 (v2.sameF v1.ok) v2.ok hi2, ?_⟩
          rw [List.drop_of_length_le hi2] at hc
          cases hc
          rw [List.append_nil] at he
          subst he
          have vv := v1.trans v2
          refine hq _ (upd F2 L (.lst accv)) H2 ⟨fun p hp => ?_, vv.hs, v2.ok.frz hH nL⟩ ⟨L, accv, rfl, upd_same, hv.ext fun p u hp => ?_⟩
          · have z : p ≠ L := fun e => hp (by rw [e]; exact v1.free hL)
            rw [upd_ne z]
            exact vv.fs p hp
          · have z : p ≠ L := ne_of_none hp hF
            rw [upd_ne z]
            exact hp
theorem d_lc {elt tg iter : Expr} {ifs : List Expr} {scope : Scope} {own : List (Str × Nat)} {pos : Pos} {src : ML S} {g : TG} {gd : D → DE → Option DE} {is : List Nat} {c : MT S} {e : ME S} (hc : X.calm = true) (hN : X.N.Nodup) (hi : PI X tg iter (tI X.K B src)) (ok : BlkOk X.N X.env.scope scope own)
    (hg : ∀ (s : Shared) (H : Hp) (C : Addr) (cl : List (Str × Addr)) (fp : List Addr), PG (X.blk s H scope (compEnvC scope cl C X.env) fp) tg g) (hgd : GD X.K B is g gd)
    (ht : ∀ (s : Shared) (H : Hp) (C : Addr) (cl : List (Str × Addr)) (fp : List Addr), PTs (X.blk s H scope (compEnvC scope cl C X.env) fp) ifs (tT X.K B c))
    (he : ∀ (s : Shared) (H : Hp) (C : Addr) (cl : List (Str × Addr)) (fp : List Addr), PE (X.blk s H scope (compEnvC scope cl C X.env) fp) elt (tD X.K B e))
    (his : ∀ i ∈ is, i ∈ own.map (·.2) := by decide) (hs : ∀ x, foldedSetIterable iter X.env x = pure x := by intro _; rfl) :
    PE X (.ListComp elt [⟨tg, iter, ifs, 0⟩] scope pos) (tD X.K B (mComp src gd c e (own.map (·.2)))) := pe_w (pe_lc hc hN hi ok hg ht he hs) fun _ _ _ h => comp_D hgd his h
end
end Dl

set_option Elab.async false
set_option linter.all false
set_option maxRecDepth 100000
set_option maxHeartbeats 4000000
/-! D6: statements, defs. -/
namespace Dl
open PySem
open L2

inductive OutS (S : Type) where
  | nx (env : DE) (s : S) | rt (d : D) (s : S) | bk (env : DE) (s : S) | ct (env : DE) (s : S)
abbrev MS (S : Type) := DE → S → Option (OutS S)
structure Sv {S : Type} (B : Amb S) (F H : Hp) (own : Addr → Prop) (F' H' : Hp) (own' : Addr → Prop) (s' : S) : Prop where
  fs : ∀ p, H p ≠ none → ¬ own p → F' p = F p
  hs : ∀ p o, H p = some o → ¬ B.own p → ¬ own p → H' p = some o
  os : ∀ p, own' p → own p ∨ H p = none
  th : ∀ p, own p → H' p ≠ none
  ok : Ok B F' H' s'
section
variable {K : PySem.W.Frag} {S : Type} {B : Amb S} {F H F1 H1 F2 H2 : Hp} {o o1 o2 : Addr → Prop} {s s1 s2 : S} {σ : L2.St} {env : DE}
theorem Own.at (E : EnvOk K B F H σ env) {p : Addr} (h : Own σ env p) : F p = none ∧ ¬ B.own p ∧ ∃ (i : Nat) (xs : List D) (vs : List V), env[i]? = some (some (.own xs)) ∧ σ[i]? = some (some (.ref p)) ∧ H p = some (.lst vs) ∧ DvL K B F xs vs := by
  obtain ⟨i, xs, h1, h2⟩ := h
  obtain ⟨a, vs, e1, e2, e3, e4, e5⟩ := E.own i xs h1
  rw [h2] at e1
  cases e1
  exact ⟨e2, e3, i, xs, vs, h1, h2, e4, e5⟩
theorem Sv.dom (e : Sv B F H o F1 H1 o1 s1) {p : Addr} (h : H p ≠ none) : H1 p ≠ none := by
  by_cases hp : B.own p
  · exact B.there s1 H1 p e.ok.am hp
  · by_cases ho : o p
    · exact e.th p ho
    · cases q : H p with
      | none => exact absurd q h
      | some u =>
        rw [e.hs p u q hp ho]
        exact fun z => nomatch z
theorem Sv.trans (a : Sv B F H o F1 H1 o1 s1) (b : Sv B F1 H1 o1 F2 H2 o2 s2) : Sv B F H o F2 H2 o2 s2 := by
  have no : ∀ p, H p ≠ none → ¬ o p → ¬ o1 p := fun p h n z => by
    rcases a.os p z with q | q
    · exact n q
    · exact h q
  refine ⟨fun p h n => (b.fs p (a.dom h) (no p h n)).trans (a.fs p h n), fun p u h hb n => ?_, fun p h => ?_, fun p h => ?_, b.ok⟩
  · exact b.hs p u (a.hs p u h hb n) hb (no p (by rw [h]; exact fun z => nomatch z) n)
  · rcases b.os p h with q | q
    · exact a.os p q
    · cases r : H p with
      | none => exact .inr rfl
      | some u => exact absurd q (a.dom (by rw [r]; exact fun z => nomatch z))
  · exact b.dom (a.th p h)
theorem Sv.of (E : EnvOk K B F H σ env) (e : Ev B F H F1 H1 s1) : Sv B F H (Own σ env) F1 H1 (Own σ env) s1 :=
  ⟨fun p h _ => e.fs p h, fun p u h hb _ => e.hs p u h hb, fun p h => .inl h, fun p h => by
    obtain ⟨_, _, i, xs, vs, _, _, e4, _⟩ := Own.at E h
    exact e.dom (by rw [e4]; exact fun z => nomatch z), e.ok⟩
theorem Sv.refl (E : EnvOk K B F H σ env) (k : Ok B F H s) : Sv B F H (Own σ env) F H (Own σ env) s := Sv.of E k.refl
theorem Sv.less (e : Sv B F H o F1 H1 o1 s1) (h : ∀ p, o2 p → o1 p) : Sv B F H o F1 H1 o2 s1 := ⟨e.fs, e.hs, fun p q => e.os p (h p q), e.th, e.ok⟩
theorem Sv.sameF (E : EnvOk K B F H σ env) (k : Ok B F H s) (e : Sv B F H (Own σ env) F1 H1 o1 s1) : Same F F1 := fun p u h => by
  have hh := k.sub p u h
  have n : ¬ Own σ env p := fun z => by
    have q := (Own.at E z).1
    rw [h] at q
    cases q
  rw [e.fs p (by rw [hh]; exact fun z => nomatch z) n]
  exact h
/-- from a def's own start -/
theorem Sv.ev (e : Sv B F H o F1 H1 o1 s1) (h : ∀ p, ¬ o p) : Ev B F H F1 H1 s1 := ⟨fun p q => e.fs p q (h p), fun p u q hb => e.hs p u q hb (h p), e.ok⟩
end
def OutOk (K : PySem.W.Frag) {S : Type} (B : Amb S) (F H : Hp) (own : Addr → Prop) (Dn : Ends) : OutS S → Prop
  | .nx env' s' => ∀ σ' F' H', EnvOk K B F' H' σ' env' → Sv B F H own F' H' (Own σ' env') s' → Dn.nx σ' H'
  | .rt d s' => ∀ v F' H' own', Sv B F H own F' H' own' s' → Dv K B F' d v → Dn.rt v H'
  | .bk env' s' => ∀ σ' F' H', EnvOk K B F' H' σ' env' → Sv B F H own F' H' (Own σ' env') s' → Dn.bk σ' H'
  | .ct env' s' => ∀ σ' F' H', EnvOk K B F' H' σ' env' → Sv B F H own F' H' (Own σ' env') s' → Dn.ct σ' H'
theorem OutOk.back {K : PySem.W.Frag} {S : Type} {B : Amb S} {F H F1 H1 : Hp} {o o1 : Addr → Prop} {s1 : S} {Dn : Ends} (e : Sv B F H o F1 H1 o1 s1) : ∀ {out : OutS S}, OutOk K B F H o Dn out → OutOk K B F1 H1 o1 Dn out
  | .nx _ _, h => fun σ' F' H' E v => h σ' F' H' E (e.trans v)
  | .rt _ _, h => fun v F' H' own' w d => h v F' H' own' (e.trans w) d
  | .bk _ _, h => fun σ' F' H' E v => h σ' F' H' E (e.trans v)
  | .ct _ _, h => fun σ' F' H' E v => h σ' F' H' E (e.trans v)
def tS (K : PySem.W.Frag) {S : Type} (B : Amb S) (m : MS S) : TS := fun Dn σ H => ∃ env F s out, EnvOk K B F H σ env ∧ Ok B F H s ∧ m env s = some out ∧ OutOk K B F H (Own σ env) Dn out

section
variable {S : Type} {B : Amb S}
def sNil : MS S := fun env s => some (.nx env s)
def thenS (o : OutS S) (b : MS S) : Option (OutS S) := match o with
  | .nx env s => b env s
  | o => some o
def sSeq (a b : MS S) : MS S := fun env s => (a env s).bind fun o => thenS o b
def sAsg (gd : D → DE → Option DE) (e : ME S) : MS S := fun env s => (e env s).bind fun p => (gd p.1 env).map fun env' => .nx env' p.2
def sIf (t : MT S) (a b : MS S) : MS S := fun env s => (t env s).bind fun p => if p.1 = true then a env p.2 else b env p.2
def sRet (e : ME S) : MS S := fun env s => (e env s).map fun p => .rt p.1 p.2
def sRetN : MS S := fun _ s => some (.rt .non s)
def sDrop (e : ME S) : MS S := fun env s => (e env s).map fun p => .nx env p.2
def sBrk : MS S := fun env s => some (.bk env s)
def sCnt : MS S := fun env s => some (.ct env s)
def loopS (gd : D → DE → Option DE) (body : MS S) : List D → DE → S → Option (OutS S)
  | [], env, s => some (.nx env s)
  | x :: xs, env, s => (gd x env).bind fun env1 => (body env1 s).bind fun o => match o with
    | .nx e2 s2 => loopS gd body xs e2 s2
    | .ct e2 s2 => loopS gd body xs e2 s2
    | .bk e2 s2 => some (.nx e2 s2)
    | .rt d s2 => some (.rt d s2)
def sFor (src : ML S) (gd : D → DE → Option DE) (body : MS S) : MS S := fun env s => (src env s).bind fun p => loopS gd body p.1 env p.2
/-- a list of this frame's own, as it is made -/
def sOwn (i : Nat) (l : ML S) : MS S := fun env s => (l env s).bind fun p => if p.1.length ≤ sizeLine then some (.nx (env.set i (some (.own p.1))) p.2) else none
def ownAt (env : DE) (i : Nat) : Option (List D) := match env[i]? with
  | some (some (.own xs)) => some xs
  | _ => none
def intOf : D → Option Int
  | .int z => some z
  | _ => none
def sApp (i : Nat) (e : ME S) : MS S := fun env s => (e env s).bind fun p => (ownAt env i).bind fun xs => if xs.length < sizeLine then some (.nx (env.set i (some (.own (xs ++ [p.1])))) p.2) else none
def sExt (i : Nat) (e : ME S) : MS S := fun env s => (e env s).bind fun p => (ownAt env i).bind fun xs => (lstItems p.1).bind fun ys => if xs.length + ys.length ≤ sizeLine then some (.nx (env.set i (some (.own (xs ++ ys)))) p.2) else none
/-- xs[k] = v: v first, then k -/
def sPut (i : Nat) (k v : ME S) : MS S := fun env s => (v env s).bind fun p => (k env p.2).bind fun q => (ownAt env i).bind fun xs => (intOf q.1).bind fun z => (ixN xs.length z).map fun j => .nx (env.set i (some (.own (xs.set j p.1)))) q.2
/-- from here on it stays as it is -/
def sFrz (i : Nat) (m : MS S) : MS S := fun env s => (ownAt env i).bind fun xs => m (env.set i (some (.dat (.lst xs)))) s
def sPar (i j : Nat) (a b : ME S) : MS S := fun env s => (a env s).bind fun p => (b env p.2).map fun q => .nx ((env.set i (some (.dat p.1))).set j (some (.dat q.1))) q.2
/-! reading one's own list -/
def mIxO (i : Nat) (k : ME S) : ME S := fun env s => (ownAt env i).bind fun xs => (k env s).bind fun p => (intOf p.1).bind fun z => (atI xs z).map fun d => (d, p.2)
def mLenO (i : Nat) : ME S := fun env s => (ownAt env i).map fun xs => (.int xs.length, s)
def mTupO (i : Nat) : ME S := fun env s => (ownAt env i).map fun xs => (.tup xs, s)
theorem ownAt_eq {env : DE} {i : Nat} {xs : List D} (h : ownAt env i = some xs) : env[i]? = some (some (.own xs)) := by
  unfold ownAt at h
  split at h
  · rename_i q
    cases h
    exact q
  · cases h
theorem intOf_eq {d : D} {z : Int} (h : intOf d = some z) : d = .int z := by
  cases d <;> first | cases h | skip
  rfl
theorem lstItems_eq {d : D} {xs : List D} (h : lstItems d = some xs) : d = .lst xs := by
  cases d <;> first | cases h | skip
  rfl
end

section
variable {X : Cx} {S : Type} {B : Amb S} {a b c : Expr} {es : List Expr} {st : Stmt} {sts : List Stmt} {pos p : Pos} {ma mb mc : ME S} {ml : ML S} {m m' : MS S}
theorem ps_w {t t' : TS} (h : PS X st t) (hi : ∀ Dn σ H, t' Dn σ H → t Dn σ H) : PS X st t' := ⟨fun pins s σ H Dn I hw => h.run pins s σ H Dn I (hi Dn σ H hw)⟩
theorem pss_w {t t' : TS} (h : PSs X sts t) (hi : ∀ Dn σ H, t' Dn σ H → t Dn σ H) : PSs X sts t' := ⟨fun pins s σ H Dn I hw => h.run pins s σ H Dn I (hi Dn σ H hw)⟩
theorem s_nil : PSs X [] (tS X.K B sNil) := pss_w pss_nil fun Dn σ H ⟨env, F, s, out, E, o, hm, hq⟩ => by
  cases hm
  exact hq σ F H E (Sv.refl E o)
theorem seq_D {K : PySem.W.Frag} {Dn : Ends} {σ : L2.St} {H : Hp} (h : tS K B (sSeq m m') Dn σ H) : tSeq (tS K B m) (tS K B m') Dn σ H := by
  obtain ⟨env, F, s, out, E, o, hm, hq⟩ := h
  unfold sSeq at hm
  cases e1 : m env s with
  | none => simp [e1] at hm
  | some o1 =>
    simp only [e1, Option.bind_some] at hm
    refine ⟨env, F, s, o1, E, o, e1, ?_⟩
    cases o1 with
    | nx env' s' => exact fun σ' F' H' E' v => ⟨env', F', s', out, E', v.ok, hm, hq.back v⟩
    | rt d s' => cases hm; exact hq
    | bk env' s' => cases hm; exact hq
    | ct env' s' => cases hm; exact hq
theorem s_cons (h1 : PS X st (tS X.K B m)) (h2 : PSs X sts (tS X.K B m')) : PSs X (st :: sts) (tS X.K B (sSeq m m')) := pss_w (pss_cons h1 h2) fun _ _ _ h => seq_D h
theorem s_one (h1 : PS X st (tS X.K B m)) : PSs X [st] (tS X.K B m) := pss_one h1
theorem asg_D {K : PySem.W.Frag} {is : List Nat} {g : TG} {gd : D → DE → Option DE} (hg : GD K B is g gd) {Dn : Ends} {σ : L2.St} {H : Hp} (h : tS K B (sAsg gd ma) Dn σ H) : tAsg (tD K B ma) g Dn σ H := by
  obtain ⟨env, F, s, out, E, o, hm, hq⟩ := h
  unfold sAsg at hm
  cases e1 : ma env s with
  | none => simp [e1] at hm
  | some w =>
    obtain ⟨d, s1⟩ := w
    simp only [e1, Option.bind_some] at hm
    cases e2 : gd d env with
    | none => simp [e2] at hm
    | some env' =>
      simp only [e2, Option.map_some, Option.some.injEq] at hm
      subst hm
      refine ⟨env, F, s, d, s1, E, o, e1, fun v F1 H1 v1 hx => ?_⟩
      refine hg d v F1 H1 s1 σ env env' _ (E.step o v1) v1.ok hx e2 fun σ' E' ho _ => ?_
      exact hq σ' F1 H1 E' ((Sv.of E v1).less ho)
theorem s_set {i : Nat} {x : Str} {p' : Pos} (hN : X.N.Nodup) (he : PE X a (tD X.K B ma)) (hi : X.N[i]? = some x := by rfl) (hx : Loc X.env.scope x := by first | exact Or.inl rfl | exact Or.inr rfl) (hs : swapsWith a (some (.Name x p')) pos.line X.env = pure false := by rfl)
    (hf : X.fn x = true ∨ X.env.scope.names.lookup x = some .local := by first | exact .inl rfl | exact .inr rfl) : PS X (.Assign [.Name x p'] a pos) (tS X.K B (sAsg (gdName i) ma)) :=
  ps_w (ps_set (i := i) hN hi hx he hs hf) fun _ _ _ h => asg_D (g_name i) h
theorem s_asg {tg : Expr} {is : List Nat} {g : TG} {gd : D → DE → Option DE} (hg : GD X.K B is g gd) (he : PE X a (tD X.K B ma)) (ht : PG X tg g) (hs : swapsWithSole [tg] a pos.line X.env = pure false := by rfl) (hw : swappedStores [tg] a X.env = pure none := by rfl)
    (h1 : (assignEach [tg] X.env).map (·.2) = [assign tg X.env] := by rfl) : PS X (.Assign [tg] a pos) (tS X.K B (sAsg gd ma)) := ps_w (ps_asg he ht hs hw h1) fun _ _ _ h => asg_D hg h
theorem s_if {t : MT S} {stt sff : List Stmt} (hc : PT X c (tT X.K B t)) (ha : PSs X stt (tS X.K B m)) (hb : PSs X sff (tS X.K B m')) : PS X (.If c stt sff pos) (tS X.K B (sIf t m m')) := ps_w (ps_if hc ha hb) fun Dn σ H ⟨env, F, s, out, E, o, hm, hq⟩ => by
  unfold sIf at hm
  cases e1 : t env s with
  | none => simp [e1] at hm
  | some w =>
    obtain ⟨k, s1⟩ := w
    simp only [e1, Option.bind_some] at hm
    refine ⟨env, F, s, k, s1, E, o, e1, fun F1 H1 v1 => ?_⟩
    cases k with
    | true => exact ⟨env, F1, s1, out, E.step o v1, v1.ok, hm, hq.back (Sv.of E v1)⟩
    | false => exact ⟨env, F1, s1, out, E.step o v1, v1.ok, hm, hq.back (Sv.of E v1)⟩
theorem s_ret (he : PE X a (tD X.K B ma)) : PS X (.Return (some a) pos) (tS X.K B (sRet ma)) := ps_w (ps_ret he) fun Dn σ H ⟨env, F, s, out, E, o, hm, hq⟩ => by
  unfold sRet at hm
  cases e1 : ma env s with
  | none => simp [e1] at hm
  | some w =>
    obtain ⟨d, s1⟩ := w
    simp only [e1, Option.map_some, Option.some.injEq] at hm
    subst hm
    exact ⟨env, F, s, d, s1, E, o, e1, fun v F1 H1 v1 hx => hq v F1 H1 _ (Sv.of E v1) hx⟩
theorem s_retN : PS X (.Return none pos) (tS X.K B sRetN) := ps_w ps_retN fun Dn σ H ⟨env, F, s, out, E, o, hm, hq⟩ => by
  cases hm
  exact hq _ F H _ (Sv.refl E o) rfl
theorem s_drop (he : PE X a (tD X.K B ma)) (hs : swapsWith a none pos.line X.env = pure false := by rfl) : PS X (.Expr a pos) (tS X.K B (sDrop ma)) := ps_w (ps_expr he hs) fun Dn σ H ⟨env, F, s, out, E, o, hm, hq⟩ => by
  unfold sDrop at hm
  cases e1 : ma env s with
  | none => simp [e1] at hm
  | some w =>
    obtain ⟨d, s1⟩ := w
    simp only [e1, Option.map_some, Option.some.injEq] at hm
    subst hm
    exact ⟨env, F, s, d, s1, E, o, e1, fun v F1 H1 v1 hx => hq σ F1 H1 (E.step o v1) (Sv.of E v1)⟩
theorem s_brk : PS X (.Break pos) (tS X.K B sBrk) := ps_w ps_break fun Dn σ H ⟨env, F, s, out, E, o, hm, hq⟩ => by
  cases hm
  exact hq σ F H E (Sv.refl E o)
theorem s_cnt : PS X (.Continue pos) (tS X.K B sCnt) := ps_w ps_continue fun Dn σ H ⟨env, F, s, out, E, o, hm, hq⟩ => by
  cases hm
  exact hq σ F H E (Sv.refl E o)
theorem s_pass : PS X (.Pass pos) (tS X.K B sNil) := ps_w ps_pass fun Dn σ H ⟨env, F, s, out, E, o, hm, hq⟩ => by
  cases hm
  exact hq σ F H E (Sv.refl E o)
theorem for_D {K : PySem.W.Frag} {src : ML S} {is : List Nat} {g : TG} {gd : D → DE → Option DE} (hg : GD K B is g gd) {Dn : Ends} {σ : L2.St} {H : Hp} (h : tS K B (sFor src gd m) Dn σ H) : tFor (tI K B src) g (tS K B m) Dn σ H := by
  obtain ⟨env, F, s, out, E, o, hm, hq⟩ := h
  unfold sFor at hm
  cases e1 : src env s with
  | none => simp [e1] at hm
  | some w =>
    obtain ⟨xs, s1⟩ := w
    simp only [e1, Option.bind_some] at hm
    refine ⟨env, F, s, xs, s1, E, o, e1, fun J F1 H1 v1 jd hz => ?_⟩
    have E1 : EnvOk K B F1 H1 σ env := E.step o v1
    have hq1 : OutOk K B F1 H1 (Own σ env) Dn out := hq.back (Sv.of E v1)
    refine ⟨fun i n σ2 H2 => n = xs.length - i ∧ i ≤ xs.length ∧ ∃ env2 F2 s2, EnvOk K B F2 H2 σ2 env2 ∧ Sv B F1 H1 (Own σ env) F2 H2 (Own σ2 env2) s2 ∧ loopS gd m (xs.drop i) env2 s2 = some out,
      ⟨xs.length, by simp, Nat.zero_le _, env, F1, s1, E1, Sv.refl E1 v1.ok, hm⟩, ?_⟩
    rintro i n σ2 H2 ⟨rfl, hi, env2, F2, s2, E2, v2, hl⟩
    have sF := v2.sameF E1 v1.ok
    by_cases hlt : i < xs.length
    · refine .inr ⟨jd.go i F2 H2 s2 sF v2.ok hlt, fun σ' H' => i + 1 ≤ xs.length ∧ ∃ env2 F2 s2, EnvOk K B F2 H' σ' env2 ∧ Sv B F1 H1 (Own σ env) F2 H' (Own σ' env2) s2 ∧ loopS gd m (xs.drop (i + 1)) env2 s2 = some out,
        fun σ' H' p' => ⟨xs.length - (i + 1), by omega, rfl, p'⟩, fun x H3 hy => ?_⟩
      obtain ⟨F3, v3, hx⟩ := jd.yld i F2 H2 s2 x H3 xs[i] sF v2.ok hy (by simp [hlt])
      rw [List.drop_eq_getElem_cons hlt] at hl
      unfold loopS at hl
      cases q1 : gd xs[i] env2 with
      | none => simp [q1] at hl
      | some env3 =>
        simp only [q1, Option.bind_some] at hl
        cases q2 : m env3 s2 with
        | none => simp [q2] at hl
        | some ob =>
          simp only [q2, Option.bind_some] at hl
          refine hg xs[i] x F3 H3 s2 σ2 env2 env3 _ (E2.step v2.ok v3) v3.ok hx q1 fun σ3 E3 ho _ => ?_
          have v23 : Sv B F1 H1 (Own σ env) F3 H3 (Own σ3 env3) s2 := v2.trans ((Sv.of E2 v3).less ho)
          refine ⟨env3, F3, s2, ob, E3, v3.ok, q2, ?_⟩
          have hq3 := hq1.back v23
          cases ob with
          | nx e4 s4 => exact fun σ4 F4 H4 E4 v4 => ⟨hlt, e4, F4, s4, E4, v23.trans v4, hl⟩
          | ct e4 s4 => exact fun σ4 F4 H4 E4 v4 => ⟨hlt, e4, F4, s4, E4, v23.trans v4, hl⟩
          | bk e4 s4 =>
            cases hl
            exact hq3
          | rt d s4 =>
            cases hl
            exact hq3
    · have hi2 : xs.length ≤ i := Nat.le_of_not_lt hlt
      refine .inl ⟨jd.stop i F2 H2 s2 sF v2.ok hi2, ?_⟩
      rw [List.drop_of_length_le hi2] at hl
      cases hl
      exact hq1 σ2 F2 H2 E2 v2
theorem s_for {tg iter : Expr} {body : List Stmt} {src : ML S} {is : List Nat} {g : TG} {gd : D → DE → Option DE} (hp : PassesOwn (model X.prog X.w) X.A X.env X.xe) (hc : X.calm = true) (hi : PI X tg iter (tI X.K B src)) (hg : PG X tg g) (hgd : GD X.K B is g gd) (hb : PSs X body (tS X.K B m))
    (hs : ∀ x, foldedSetIterable iter X.env x = pure x := by intro _; rfl) : PS X (.For tg iter body [] pos) (tS X.K B (sFor src gd m)) := ps_w (ps_for hp hc hi hg hb hs) fun _ _ _ h => for_D hgd h

/-! ### a list of one's own -/
theorem EnvOk.putO {K : PySem.W.Frag} {F H : Hp} {σ : L2.St} {env : DE} (E : EnvOk K B F H σ env) {i : Nat} {xs : List D} {vs : List V} {q : Addr} (hF : F q = none) (hB : ¬ B.own q) (hH : H q = some (.lst vs)) (hv : DvL K B F xs vs) (hn : ∀ j ys, j ≠ i → env[j]? = some (some (.own ys)) → σ[j]? ≠ some (some (.ref q))) :
    EnvOk K B F H (σ.set i (some (.ref q))) (env.set i (some (.own xs))) ∧ ∀ p, Own (σ.set i (some (.ref q))) (env.set i (some (.own xs))) p → p = q ∨ Own σ env p := by
  have back : ∀ {j : Nat} {x : Option V}, j ≠ i → (σ.set i (some (.ref q)))[j]? = some x → σ[j]? = some x := fun {j x} hj e => by
    rcases set_get e with ⟨z, _⟩ | z
    · exact absurd z hj
    · exact z.2
  refine ⟨⟨by rw [List.length_set, List.length_set]; exact E.len, fun j d e => ?_, fun j ys e => ?_, fun j k ys zs a q1 q2 r1 r2 => ?_⟩, fun p ⟨j, ys, e, r⟩ => ?_⟩
  · rcases set_get e with ⟨_, z, _⟩ | ⟨z, z2⟩
    · cases z
    · obtain ⟨u, h1, h2⟩ := E.dat j d z2
      exact ⟨u, by rw [List.getElem?_set_ne (Ne.symm z)]; exact h1, h2⟩
  · rcases set_get e with ⟨z, z2, z3⟩ | ⟨z, z2⟩
    · subst z
      cases z2
      exact ⟨q, vs, List.getElem?_set_self (by rw [E.len]; exact z3), hF, hB, hH, hv⟩
    · obtain ⟨a, us, h1, h2⟩ := E.own j ys z2
      exact ⟨a, us, by rw [List.getElem?_set_ne (Ne.symm z)]; exact h1, h2⟩
  · by_cases hj : j = i
    · by_cases hk : k = i
      · rw [hj, hk]
      · subst hj
        have ea : a = q := by
          rcases set_get r1 with ⟨_, z, _⟩ | z
          · cases z
            rfl
          · exact absurd rfl z.1
        subst ea
        rcases set_get q2 with ⟨z, _⟩ | z
        · exact absurd z hk
        · exact absurd (back hk r2) (hn k zs hk z.2)
    · rcases set_get q1 with ⟨z, _⟩ | z1
      · exact absurd z hj
      · by_cases hk : k = i
        · subst hk
          have ea : a = q := by
            rcases set_get r2 with ⟨_, z, _⟩ | z
            · cases z
              rfl
            · exact absurd rfl z.1
          subst ea
          exact absurd (back hj r1) (hn j ys hj z1.2)
        · rcases set_get q2 with ⟨z, _⟩ | z2
          · exact absurd z hk
          · exact E.inj j k ys zs a z1.2 z2.2 (back hj r1) (back hk r2)
  · rcases set_get e with ⟨z, _, z3⟩ | ⟨z, z2⟩
    · subst z
      rw [List.getElem?_set_self (by rw [E.len]; exact z3)] at r
      cases r
      exact .inl rfl
    · exact .inr ⟨j, ys, z2, back z r⟩
theorem s_own {i : Nat} {x : Str} {p' p2 : Pos} (hN : X.N.Nodup) (hl : PA X es (tL X.K B ml)) (hi : X.N[i]? = some x := by rfl) (hx : Loc X.env.scope x := by first | exact Or.inl rfl | exact Or.inr rfl) (hs : swapsWith (.List es p2) (some (.Name x p')) pos.line X.env = pure false := by rfl)
    (hf : X.fn x = true ∨ X.env.scope.names.lookup x = some .local := by first | exact .inl rfl | exact .inr rfl) : PS X (.Assign [.Name x p'] (.List es p2) pos) (tS X.K B (sOwn i ml)) :=
  ps_w (ps_set (i := i) hN hi hx (pe_lst hl) hs hf) fun Dn σ H ⟨env, F, s, out, E, o, hm, hq⟩ => by
    unfold sOwn at hm
    cases e1 : ml env s with
    | none => simp [e1] at hm
    | some w =>
      obtain ⟨ds, s1⟩ := w
      simp only [e1, Option.bind_some] at hm
      split at hm
      · rename_i c
        cases hm
        refine ⟨env, F, s, ds, s1, E, o, e1, fun vs F1 H1 v1 hv => ⟨by rw [hv.len]; exact c, fun q hq' => ?_⟩⟩
        have v2 : Ev B F1 H1 F1 (upd H1 q (.lst vs)) s1 := Ev.newO v1.ok _ hq'
        have E2 := E.step o (v1.trans v2)
        have hF1 : F1 q = none := by
          cases r : F1 q with
          | none => rfl
          | some u => rw [v1.ok.sub q u r] at hq'; cases hq'
        obtain ⟨E3, ho⟩ := E2.putO (i := i) (xs := ds) hF1 (ne_own v1.ok hq') upd_same hv fun j ys hj q1 q2 => by
          obtain ⟨a, us, h1, _, _, h4, _⟩ := (E.step o v1).own j ys q1
          rw [q2] at h1
          cases h1
          rw [hq'] at h4
          cases h4
        refine hq _ F1 _ E3 ?_
        have w := Sv.of E (v1.trans v2)
        exact ⟨w.fs, w.hs, fun p hp => by
          rcases ho p hp with z | z
          · exact .inr (by rw [z]; exact v1.free hq')
          · exact .inl z, w.th, w.ok⟩
      · cases hm
end
end Dl

set_option Elab.async false
set_option linter.all false
set_option maxRecDepth 100000
set_option maxHeartbeats 4000000
/-! D7: lists of a frame's own, defs. -/
namespace Dl
open PySem
open L2

section
variable {K : PySem.W.Frag} {S : Type} {B : Amb S} {F H : Hp} {σ : L2.St} {env : DE} {s : S}
/-- one's own list changes -/
theorem EnvOk.mut (E : EnvOk K B F H σ env) (o : Ok B F H s) {i : Nat} {xs ys : List D} {us : List V} {a : Addr} (he : env[i]? = some (some (.own xs))) (hσ : σ[i]? = some (some (.ref a))) (hv : DvL K B F ys us) :
    EnvOk K B F (upd H a (.lst us)) σ (env.set i (some (.own ys))) ∧ Sv B F H (Own σ env) F (upd H a (.lst us)) (Own σ (env.set i (some (.own ys)))) s := by
  obtain ⟨a', vs, h1, h2, h3, h4, h5⟩ := E.own i xs he
  rw [hσ] at h1
  cases h1
  have hil : i < env.length := (List.getElem?_eq_some_iff.mp he).1
  have ow : ∀ p, Own σ (env.set i (some (.own ys))) p → Own σ env p := fun p ⟨j, zs, q, r⟩ => by
    rcases set_get q with ⟨z, _, _⟩ | ⟨z, z2⟩
    · exact ⟨i, xs, he, z ▸ r⟩
    · exact ⟨j, zs, z2, r⟩
  refine ⟨⟨by rw [List.length_set]; exact E.len, fun j d q => ?_, fun j zs q => ?_, fun j k y1 y2 b q1 q2 r1 r2 => ?_⟩, ⟨fun _ _ _ => rfl, fun p u hp hb hn => ?_, fun p hp => .inl (ow p hp), fun p hp => ?_, o.mut h2 h3⟩⟩
  · rcases set_get q with ⟨_, z, _⟩ | ⟨z, z2⟩
    · cases z
    · exact E.dat j d z2
  · rcases set_get q with ⟨z, z2, _⟩ | ⟨z, z2⟩
    · subst z
      cases z2
      exact ⟨a, us, hσ, h2, h3, upd_same, hv⟩
    · obtain ⟨b, ws, k1, k2, k3, k4, k5⟩ := E.own j zs z2
      have hb : b ≠ a := fun e => z (E.inj j i zs xs a z2 he (e ▸ k1) hσ)
      exact ⟨b, ws, k1, k2, k3, by rw [upd_ne hb]; exact k4, k5⟩
  · have g : ∀ {j : Nat} {y : List D}, (env.set i (some (.own ys)))[j]? = some (some (.own y)) → ∃ y', env[j]? = some (some (.own y')) := fun {j y} q => by
      rcases set_get q with ⟨z, _, _⟩ | ⟨z, z2⟩
      · exact ⟨xs, by rw [z]; exact he⟩
      · exact ⟨y, z2⟩
    obtain ⟨z1, g1⟩ := g q1
    obtain ⟨z2, g2⟩ := g q2
    exact E.inj j k z1 z2 b g1 g2 r1 r2
  · have z : p ≠ a := fun e => hn ⟨i, xs, he, e ▸ hσ⟩
    rw [upd_ne z]
    exact hp
  · by_cases z : p = a
    · rw [z, upd_same]
      exact fun q => nomatch q
    · rw [upd_ne z]
      obtain ⟨_, _, _, _, ws, _, _, k4, _⟩ := Own.at E hp
      rw [k4]
      exact fun q => nomatch q
/-- it is to stay -/
theorem EnvOk.frz (E : EnvOk K B F H σ env) (o : Ok B F H s) {i : Nat} {xs : List D} {a : Addr} {vs : List V} (he : env[i]? = some (some (.own xs))) (hσ : σ[i]? = some (some (.ref a))) (h4 : H a = some (.lst vs)) (h2 : F a = none) (h3 : ¬ B.own a) (hv : DvL K B F xs vs) :
    EnvOk K B (upd F a (.lst vs)) H σ (env.set i (some (.dat (.lst xs)))) ∧ Sv B F H (Own σ env) (upd F a (.lst vs)) H (Own σ (env.set i (some (.dat (.lst xs))))) s := by
  have hil : i < env.length := (List.getElem?_eq_some_iff.mp he).1
  have sF : Same F (upd F a (.lst vs)) := fun p u hp => by
    have z : p ≠ a := ne_of_none hp h2
    rw [upd_ne z]
    exact hp
  have bk : ∀ {j : Nat} {y : List D}, (env.set i (some (.dat (.lst xs))))[j]? = some (some (.own y)) → j ≠ i ∧ env[j]? = some (some (.own y)) := fun {j y} q => by
    rcases set_get q with ⟨_, z, _⟩ | z
    · cases z
    · exact z
  refine ⟨⟨by rw [List.length_set]; exact E.len, fun j d q => ?_, fun j zs q => ?_, fun j k y1 y2 b q1 q2 r1 r2 => E.inj j k y1 y2 b (bk q1).2 (bk q2).2 r1 r2⟩, ⟨fun p hp hn => ?_, fun p u hp _ _ => hp, fun p ⟨j, y, q, r⟩ => .inl ⟨j, y, (bk q).2, r⟩, fun p hp => ?_, o.frz h4 h3⟩⟩
  · rcases set_get q with ⟨z, z2, _⟩ | ⟨z, z2⟩
    · subst z
      cases z2
      exact ⟨.ref a, hσ, a, vs, rfl, upd_same, hv.ext sF⟩
    · obtain ⟨u, k1, k2⟩ := E.dat j d z2
      exact ⟨u, k1, k2.ext sF⟩
  · obtain ⟨hj, q'⟩ := bk q
    obtain ⟨b, ws, k1, k2, k3, k4, k5⟩ := E.own j zs q'
    have hb : b ≠ a := fun e => hj (E.inj j i zs xs a q' he (e ▸ k1) hσ)
    exact ⟨b, ws, k1, by rw [upd_ne hb]; exact k2, k3, k4, k5.ext sF⟩
  · have z : p ≠ a := fun e => hn ⟨i, xs, he, e ▸ hσ⟩
    exact upd_ne z
  · obtain ⟨_, _, _, _, ws, _, _, k4, _⟩ := Own.at E hp
    rw [k4]
    exact fun q => nomatch q
end

section
variable {X : Cx} {S : Type} {B : Amb S} {a b c e : Expr} {es : List Expr} {st : Stmt} {sts : List Stmt} {pos p : Pos} {ma mb mc : ME S} {ml : ML S} {m m' : MS S}
theorem s_app {i : Nat} {o : Expr} {apos cpos : Pos} (ho : PE X o (tVar i)) (he : PE X e (tD X.K B ma)) (hs1 : starEach (e :: []) X.env = (false, eval e X.env) :: starEach [] X.env := by rfl)
    (hbase : attributeBase o "append" X.env (eval o X.env) = eval o X.env := by rfl)
    (hfew : ((backTo cpos (starEach (e :: []) X.env)).all (fun x => !x.1) && (backToKw cpos (keywordEach [] X.env)).all (fun x => x.1.isSome)
      && decide ((e :: []).length + ([] : List Keyword).length + (if ([] : List Keyword).isEmpty then 0 else 1) < 30)) = true := by rfl)
    (hline : (apos.endLine == cpos.line) = true := by rfl) (hplain : (backTo cpos (starEach [] X.env)).any (·.1) = false := by rfl)
    (hs : swapsWith (.Call (.Attribute o "append" apos) [e] [] cpos) none pos.line X.env = pure false := by rfl) :
    PS X (.Expr (.Call (.Attribute o "append" apos) [e] [] cpos) pos) (tS X.K B (sApp i ma)) :=
  ps_w (ps_expr (pe_bm PySem.F.plainAttrs_list PySem.F.slot_list_append PySem.F.type_list_append mt_append ho (l_cons he l_nil hs1) hbase hfew hline hs1 hplain) hs) fun Dn σ H ⟨env, F, s, out, E, o, hm, hq⟩ => by
    unfold sApp at hm
    cases e1 : ma env s with
    | none => simp [e1] at hm
    | some w =>
      obtain ⟨d, s1⟩ := w
      simp only [e1, Option.bind_some] at hm
      cases e2 : ownAt env i with
      | none => simp [e2] at hm
      | some xs =>
        have hx := ownAt_eq e2
        simp only [e2, Option.bind_some] at hm
        split at hm
        · rename_i c
          cases hm
          obtain ⟨q, vs, h1, h2, h3, h4, h5⟩ := E.own i xs hx
          refine ⟨.ref q, h1, .inl ⟨rfl, vs, SqL.of h4⟩, env, F, s, [d], s1, E, o, ?_, fun us F1 H1 v1 hv => ?_⟩
          · show mCons ma mNil env s = some ([d], s1)
            simp [mCons, e1, mNil]
          · obtain ⟨v, ev, hd⟩ := one_of hv
            have h4' := v1.hs q _ h4 h3
            refine ⟨q, vs, v, rfl, ev, h4', by rw [h5.len]; exact c, ?_⟩
            obtain ⟨E2, w2⟩ := (E.step o v1).mut v1.ok hx h1 ((h5.ext (v1.sameF o)).app (DvL.one hd))
            exact hq σ F1 _ E2 ((Sv.of E v1).trans w2)
        · cases hm
theorem s_ext {i : Nat} {o : Expr} {apos cpos : Pos} (ho : PE X o (tVar i)) (he : PE X e (tD X.K B ma)) (hs1 : starEach (e :: []) X.env = (false, eval e X.env) :: starEach [] X.env := by rfl)
    (hbase : attributeBase o "extend" X.env (eval o X.env) = eval o X.env := by rfl)
    (hfew : ((backTo cpos (starEach (e :: []) X.env)).all (fun x => !x.1) && (backToKw cpos (keywordEach [] X.env)).all (fun x => x.1.isSome)
      && decide ((e :: []).length + ([] : List Keyword).length + (if ([] : List Keyword).isEmpty then 0 else 1) < 30)) = true := by rfl)
    (hline : (apos.endLine == cpos.line) = true := by rfl) (hplain : (backTo cpos (starEach [] X.env)).any (·.1) = false := by rfl)
    (hs : swapsWith (.Call (.Attribute o "extend" apos) [e] [] cpos) none pos.line X.env = pure false := by rfl) :
    PS X (.Expr (.Call (.Attribute o "extend" apos) [e] [] cpos) pos) (tS X.K B (sExt i ma)) :=
  ps_w (ps_expr (pe_bm PySem.F.plainAttrs_list PySem.F.slot_list_extend PySem.F.type_list_extend mt_extend ho (l_cons he l_nil hs1) hbase hfew hline hs1 hplain) hs) fun Dn σ H ⟨env, F, s, out, E, o, hm, hq⟩ => by
    unfold sExt at hm
    cases e1 : ma env s with
    | none => simp [e1] at hm
    | some w =>
      obtain ⟨d, s1⟩ := w
      simp only [e1, Option.bind_some] at hm
      cases e2 : ownAt env i with
      | none => simp [e2] at hm
      | some xs =>
       have hx := ownAt_eq e2
       simp only [e2, Option.bind_some] at hm
       cases e3 : lstItems d with
       | none => simp [e3] at hm
       | some ys =>
        have hy := lstItems_eq e3
        simp only [e3, Option.bind_some] at hm
        split at hm
        · rename_i c
          cases hm
          obtain ⟨q, vs, h1, h2, h3, h4, h5⟩ := E.own i xs hx
          refine ⟨.ref q, h1, .inl ⟨rfl, vs, SqL.of h4⟩, env, F, s, [d], s1, E, o, ?_, fun us F1 H1 v1 hv => ?_⟩
          · show mCons ma mNil env s = some ([d], s1)
            simp [mCons, e1, mNil]
          · obtain ⟨v, ev, hd⟩ := one_of hv
            have hd' : Dv X.K B F1 (.lst ys) v := by
              have z : d = .lst ys := hy
              rw [← z]
              exact hd
            obtain ⟨b, zs, eb, k2, k3⟩ := hd'
            have h4' := v1.hs q _ h4 h3
            refine ⟨q, b, vs, zs, rfl, by rw [ev, eb], h4', v1.ok.sub b _ k2, by rw [h5.len, k3.len]; exact c, ?_⟩
            obtain ⟨E2, w2⟩ := (E.step o v1).mut v1.ok hx h1 ((h5.ext (v1.sameF o)).app k3)
            exact hq σ F1 _ E2 ((Sv.of E v1).trans w2)
        · cases hm
theorem ixN_lt {n : Nat} {z : Int} {j : Nat} (h : ixN n z = some j) : j < n := by
  unfold ixN at h
  split at h
  · split at h
    · cases h
      omega
    · cases h
  · split at h
    · cases h
      omega
    · cases h
/-- xs[k] = v -/
theorem s_put {i : Nat} {o k v : Expr} {p2 : Pos} {mk mv : ME S} (ho : PE X o (tVar i)) (hk : PE X k (tD X.K B mk)) (hv : PE X v (tD X.K B mv))
    (hg : ∀ {to ti : TE}, PE X o to → PE X k ti → PG X (.Subscript o k p2) (gSub to ti rSetL)) (hs : swapsWithSole [.Subscript o k p2] v pos.line X.env = pure false := by rfl) (hw : swappedStores [.Subscript o k p2] v X.env = pure none := by rfl)
    (h1 : (assignEach [.Subscript o k p2] X.env).map (·.2) = [assign (.Subscript o k p2) X.env] := by rfl) : PS X (.Assign [.Subscript o k p2] v pos) (tS X.K B (sPut i mk mv)) :=
  ps_w (ps_asg hv (hg ho hk) hs hw h1) fun Dn σ H ⟨env, F, s, out, E, o, hm, hq⟩ => by
    unfold sPut at hm
    cases e1 : mv env s with
    | none => simp [e1] at hm
    | some w =>
      obtain ⟨d, s1⟩ := w
      simp only [e1, Option.bind_some] at hm
      cases e2 : mk env s1 with
      | none => simp [e2] at hm
      | some w =>
        obtain ⟨dk, s2⟩ := w
        simp only [e2, Option.bind_some] at hm
        cases e4 : ownAt env i with
        | none => simp [e4] at hm
        | some xs =>
         have hx := ownAt_eq e4
         simp only [e4, Option.bind_some] at hm
         cases e5 : intOf dk with
         | none => simp [e5] at hm
         | some z =>
          have hz := intOf_eq e5
          simp only [e5, Option.bind_some] at hm
          cases e3 : ixN xs.length z with
          | none => simp [e3] at hm
          | some j =>
            simp only [e3, Option.map_some, Option.some.injEq] at hm
            subst hm
            refine ⟨env, F, s, d, s1, E, o, e1, fun vv F1 H1 v1 hd => ?_⟩
            obtain ⟨q, vs, g1, g2, g3, g4, g5⟩ := E.own i xs hx
            refine ⟨.ref q, g1, env, F1, s1, dk, s2, E.step o v1, v1.ok, e2, fun vk F2 H2 v2 hdk => ?_⟩
            have hz' : vk = V.int z := by
              have y : dk = .int z := hz
              rw [y] at hdk
              exact hdk
            have v12 := v1.trans v2
            refine ⟨q, vs, z, j, rfl, hz', v12.hs q _ g4 g3, by rw [g5.len]; exact e3, ?_⟩
            obtain ⟨E2, w2⟩ := (E.step o v12).mut v12.ok hx g1 ((g5.ext (v12.sameF o)).set j (hd.ext (v2.sameF v1.ok)))
            exact hq σ F2 _ E2 ((Sv.of E v12).trans w2)
/-- a ghost: the list of slot i stays as it is from here on -/
theorem s_frz (i : Nat) (h : PSs X sts (tS X.K B m)) : PSs X sts (tS X.K B (sFrz i m)) := pss_w h fun Dn σ H ⟨env, F, s, out, E, o, hm, hq⟩ => by
  unfold sFrz at hm
  cases e2 : ownAt env i with
  | none => simp [e2] at hm
  | some xs =>
    have hx := ownAt_eq e2
    simp only [e2, Option.bind_some] at hm
    obtain ⟨q, vs, h1, h2, h3, h4, h5⟩ := E.own i xs hx
    obtain ⟨E2, w2⟩ := E.frz o hx h1 h4 h2 h3 h5
    exact ⟨_, _, s, out, E2, w2.ok, hm, hq.back w2⟩
theorem s_par {i j : Nat} {x y : Str} {px py pt : Pos} {kt k2 pt2} (hc : X.calm = true) (hN : X.N.Nodup) (hl : PA X [a, b] (tL X.K B (mCons ma (mCons mb mNil)))) (hi : X.N[i]? = some x := by rfl) (hj : X.N[j]? = some y := by rfl) (hij : i ≠ j := by decide)
    (hx : X.env.scope.names.lookup x = some .local := by rfl) (hy : X.env.scope.names.lookup y = some .local := by rfl)
    (hw : swappedStores [.Tuple [.Name x px, .Name y py] kt pt] (.Tuple [a, b] k2 pt2) X.env = pure (some [x, y]) := by rfl)
    (hs : swapsWithSole [.Tuple [.Name x px, .Name y py] kt pt] (.Tuple [a, b] k2 pt2) pos.line X.env = pure false := by rfl) :
    PS X (.Assign [.Tuple [.Name x px, .Name y py] kt pt] (.Tuple [a, b] k2 pt2) pos) (tS X.K B (sPar i j ma mb)) := ps_w (ps_par hc hN hi hj hij hx hy hl hw hs) fun Dn σ H ⟨env, F, s, out, E, o, hm, hq⟩ => by
  unfold sPar at hm
  cases e1 : ma env s with
  | none => simp [e1] at hm
  | some w =>
    obtain ⟨d1, s1⟩ := w
    simp only [e1, Option.bind_some] at hm
    cases e2 : mb env s1 with
    | none => simp [e2] at hm
    | some w =>
      obtain ⟨d2, s2⟩ := w
      simp only [e2, Option.map_some, Option.some.injEq] at hm
      subst hm
      refine ⟨env, F, s, [d1, d2], s2, E, o, by simp [mCons, e1, e2, mNil], fun vs F1 H1 v1 hv => ?_⟩
      obtain ⟨u, w, ev, h1, h2⟩ := two_of hv
      refine ⟨u, w, ev, ?_⟩
      obtain ⟨E1, o1⟩ := (E.step o v1).put (i := i) h1
      obtain ⟨E2, o2⟩ := E1.put (i := j) h2
      exact hq _ F1 H1 E2 ((Sv.of E v1).less fun p z => o1 p (o2 p z))
/-! reading -/
theorem d_ixO {i : Nat} (ho : PE X a (tVar i)) (hk : PE X b (tD X.K B mb)) (hs : PlainIx b := by exact fun _ _ => rfl) : PE X (.Subscript a b pos) (tD X.K B (mIxO i mb)) := pe_w (pe_ix ix_list ho hk hs) fun σ H Q ⟨env, F, s, d, s', E, o, hm, hq⟩ => by
  unfold mIxO at hm
  cases e3 : ownAt env i with
  | none => simp [e3] at hm
  | some xs =>
    have hx := ownAt_eq e3
    simp only [e3, Option.bind_some] at hm
    cases e1 : mb env s with
    | none => simp [e1] at hm
    | some w =>
      obtain ⟨dk, s1⟩ := w
      simp only [e1, Option.bind_some] at hm
      cases e5 : intOf dk with
      | none => simp [e5] at hm
      | some z =>
        have hz := intOf_eq e5
        subst hz
        simp only [e5, Option.bind_some] at hm
        cases e2 : atI xs z with
        | none => simp [e2] at hm
        | some y =>
          simp only [e2, Option.map_some, Option.some.injEq, Prod.mk.injEq] at hm
          obtain ⟨rfl, rfl⟩ := hm
          obtain ⟨q, vs, g1, g2, g3, g4, g5⟩ := E.own i xs hx
          refine ⟨.ref q, g1, env, F, s, _, s1, E, o, e1, fun v F1 H1 v1 hv => ?_⟩
          obtain ⟨u, h1, h2⟩ := atI_dv (g5.ext (v1.sameF o)) e2
          exact ⟨q, vs, z, u, rfl, hv, SqL.of (v1.hs q _ g4 g3), h1, hq u F1 H1 v1 h2⟩
theorem d_lenO {i : Nat} (hm : X.mg "len" = none) (ho : PE X a (tVar i)) (hv : bootBuiltins "len" = some (.builtin "len") := by decide +kernel) (hg : Gl X "len" := by rfl)
    (he : starEach (a :: []) X.env = (false, eval a X.env) :: starEach [] X.env := by rfl) (hpl : (backTo pos (starEach [] X.env)).any (·.1) = false := by rfl) : PE X (.Call (.Name "len" p) [a] [] pos) (tD X.K B (mLenO i)) :=
  pe_w (pe_callB call_len hg hm hv (pa_cons ho pa_nil he) (by decide) (by decide) he hpl) fun σ H Q ⟨env, F, s, d, s', E, o, hm, hq⟩ => by
    unfold mLenO at hm
    cases e3 : ownAt env i with
    | none => simp [e3] at hm
    | some xs =>
      have hx := ownAt_eq e3
      simp only [e3, Option.map_some, Option.some.injEq, Prod.mk.injEq] at hm
      obtain ⟨rfl, rfl⟩ := hm
      obtain ⟨q, vs, g1, g2, g3, g4, g5⟩ := E.own i xs hx
      refine ⟨.ref q, g1, .ref q, vs.length, rfl, .inl ⟨vs, SqL.of g4, rfl⟩, ?_⟩
      rw [g5.len]
      exact hq _ F H o.refl rfl
theorem d_tupO {i : Nat} (hm : X.mg "tuple" = none) (ho : PE X a (tVar i)) (hv : bootBuiltins "tuple" = some (.type "tuple") := by decide +kernel) (hg : Gl X "tuple" := by rfl)
    (he : starEach (a :: []) X.env = (false, eval a X.env) :: starEach [] X.env := by rfl) (hpl : (backTo pos (starEach [] X.env)).any (·.1) = false := by rfl) : PE X (.Call (.Name "tuple" p) [a] [] pos) (tD X.K B (mTupO i)) :=
  pe_w (pe_callTy call_tuple_of hg hm hv (pa_cons ho pa_nil he) (by decide) (by decide) he hpl) fun σ H Q ⟨env, F, s, d, s', E, o, hm, hq⟩ => by
    unfold mTupO at hm
    cases e3 : ownAt env i with
    | none => simp [e3] at hm
    | some xs =>
      have hx := ownAt_eq e3
      simp only [e3, Option.map_some, Option.some.injEq, Prod.mk.injEq] at hm
      obtain ⟨rfl, rfl⟩ := hm
      obtain ⟨q, vs, g1, g2, g3, g4, g5⟩ := E.own i xs hx
      exact ⟨.ref q, g1, q, vs, rfl, .inl ⟨SqL.of g4, fun l hl => hq _ _ _ (Ev.new o _ hl) (new_tup o hl g5)⟩⟩
end

/-! ### a def -/
def startE (n : Nat) (ds : List D) : DE := ds.map (fun d => some (.dat d)) ++ List.replicate (n - ds.length) none
def mDef {S : Type} (n : Nat) (m : MS S) : List D → S → Option (D × S) := fun ds s => (m (startE n ds) s).bind fun o => match o with
  | .nx _ s' => some (.non, s')
  | .rt d s' => some (d, s')
  | _ => none
theorem startE_get {n : Nat} {ds : List D} {i : Nat} {x : Slot} (h : (startE n ds)[i]? = some (some x)) : ∃ d, ds[i]? = some d ∧ x = .dat d := by
  unfold startE at h
  by_cases hi : i < ds.length
  · rw [List.getElem?_append_left (by simpa using hi), List.getElem?_map] at h
    cases q : ds[i]? with
    | none => rw [q] at h; cases h
    | some d =>
      rw [q] at h
      cases h
      exact ⟨d, rfl, rfl⟩
  · rw [List.getElem?_append_right (by simp; omega)] at h
    rw [List.getElem?_replicate] at h
    split at h
    · cases h
    · cases h
theorem start_ok {K : PySem.W.Frag} {S : Type} {B : Amb S} {F H : Hp} {N : List Str} {ds : List D} {vs : List V} (h : DvL K B F ds vs) : EnvOk K B F H (L2.start N vs) (startE N.length ds) ∧ ∀ p, ¬ Own (L2.start N vs) (startE N.length ds) p := by
  refine ⟨⟨?_, fun i d q => ?_, fun i xs q => ?_, fun i j xs ys a q _ _ _ => ?_⟩, fun p ⟨i, xs, q, _⟩ => ?_⟩
  · unfold L2.start startE
    simp [h.len]
  · obtain ⟨d', h1, h2⟩ := startE_get q
    cases h2
    obtain ⟨v, h3, h4⟩ := h.get h1
    refine ⟨v, ?_, h4⟩
    unfold L2.start
    have hi : i < vs.length := (List.getElem?_eq_some_iff.mp h3).1
    rw [List.getElem?_append_left (by simpa using hi), List.getElem?_map, h3]
    rfl
  · obtain ⟨d', _, h2⟩ := startE_get q
    cases h2
  · obtain ⟨d', _, h2⟩ := startE_get q
    cases h2
  · obtain ⟨d', _, h2⟩ := startE_get q
    cases h2
theorem def_D {K : PySem.W.Frag} {S : Type} {B : Amb S} {N : List Str} {n : Nat} {m : MS S} {vs : List V} {H : Hp} {Q : VK} {E : XK} (h : spD K B n (mDef N.length m) vs H Q E) : tS K B m { nx := fun _ H' => Q .non H', rt := Q } (L2.start N vs) H := by
  obtain ⟨_, F, s, ds, d, s', hv, o, hm, hq⟩ := h
  unfold mDef at hm
  obtain ⟨E0, o0⟩ := start_ok (H := H) (N := N) hv
  cases e1 : m (startE N.length ds) s with
  | none => simp [e1] at hm
  | some out =>
    simp only [e1, Option.bind_some] at hm
    refine ⟨_, F, s, out, E0, o, e1, ?_⟩
    cases out with
    | nx env' s1 =>
      cases hm
      exact fun σ' F' H' _ v => hq .non F' H' (v.ev o0) rfl
    | rt d1 s1 =>
      cases hm
      exact fun v F' H' own' w hd => hq v F' H' (w.ev o0) hd
    | bk env' s1 => cases hm
    | ct env' s1 => cases hm
section
variable {P : Program} {w : World} {K : PySem.W.Frag} {mg : Str → Option Value} {base : Heap} {S : Type} {B : Amb S}
theorem d_def {x qual : Str} {st : Stmt} {f : Addr} {fd : FuncData} {N ps : List Str} {k : Nat} {m : MS S} (Fn : Fun K x qual st f fd) (S : FnScope N ps (defScope st))
    (hb : ∀ (cdv : Value) (A : Around) (outer : List Env) (s : Shared) (H : Hp) (E : XK), Room k (A.deeper (PyProof.Rows.envOfC qual (defScope st) s.heap.objs.size f cdv)) →
      PSs (cxOf CX0 P w K mg base N qual (defScope st) f cdv A outer s H E).nox (defBody st) (tS K B m)) : FnOk P w K mg base CX0 (k + 1) f fd ps (spD K B ps.length (mDef N.length m)) :=
  Fn.ok S (fun vs H Q E h => h.1) fun cdv A outer s H vs Q E hr h => ⟨_, hb cdv A outer s H E hr, def_D h⟩
end
end Dl

set_option Elab.async false
set_option linter.all false
set_option maxRecDepth 100000
set_option maxHeartbeats 4000000
/-! D8: a text's defs by name, its constants, the Hook that tells them. -/
namespace Dl
open PySem
open L2

/-- x is a def that keeps the promise over data -/
def DOk (P : Program) (w : World) (K : PySem.W.Frag) (mg : Str → Option Value) (base : Heap) {S : Type} (B : Amb S) (x : Str) (k : Nat) (ps : List Str) (g : List D → S → Option (D × S)) : Prop :=
  ∃ f fd, mg x = some (.ref f) ∧ PySem.W.keepIn K (.ref f) = true ∧ Binds K fd ps [] ∧ FnOk P w K mg base CX0 k f fd ps (spD K B ps.length g)
section
variable {X : Cx} {S : Type} {B : Amb S} {e : Expr} {es : List Expr} {pos p : Pos} {ml : ML S} {k : Nat} {ps : List Str} {x : Str} {g : List D → S → Option (D × S)}
theorem d_callO {j : Nat} (G : DOk X.prog X.w X.K X.mg X.base B x k ps g) (hr : Room j X.A) (ha : PA X (e :: es) (tL X.K B ml)) (hj : k ≤ j := by decide)
    (hl : ∀ env s ds s', ml env s = some (ds, s') → ds.length = ps.length := by exact len_cons (by first | exact len_nil | exact len_cons (by first | exact len_nil | exact len_cons (by first | exact len_nil | exact len_cons (by first | exact len_nil | exact len_cons (by first | exact len_nil | exact len_cons len_nil))))))
    (hg : Gl X x := by rfl) (hdb : (x == ("__debug__" : Str)) = false := by decide) (he : starEach (e :: es) X.env = (false, eval e X.env) :: starEach es X.env := by rfl) (hpl : (backTo pos (starEach es X.env)).any (·.1) = false := by rfl) :
    PE X (.Call (.Name x p) (e :: es) [] pos) (tD X.K B (mCall g ml)) := by
  obtain ⟨f, fd, h1, h2, h3, h4⟩ := G
  exact d_call h4 (hr.mono hj) h1 h2 h3 pass0 ha hl hg hdb he hpl
end
section
variable {P : Program} {w : World} {K : PySem.W.Frag} {mg : Str → Option Value} {base : Heap} {S : Type} {B : Amb S}
theorem d_defD {x qual : Str} {st : Stmt} {f : Addr} {fd : FuncData} {N ps : List Str} {k : Nat} {m : MS S} (Fn : FunD K x qual (defArgs st) (defBody st) (defScope st) [] [] f fd) (hm : mg x = some (.ref f)) (S : FnScope N ps (defScope st))
    (bi : ∀ (kV doc pm : Value) (an : Option Addr) (cdv ct : Value) (us : List Value), us.length = ps.length → bindArgs (PySem.W.fnOf x qual (defArgs st) (defBody st) (defScope st) .none kV doc pm an cdv ct) ⟨us, []⟩ = pure (ps.zip us))
    (hb : ∀ (cdv : Value) (A : Around) (outer : List Env) (s : Shared) (H : Hp) (E : XK), Room k (A.deeper (PyProof.Rows.envOfC qual (defScope st) s.heap.objs.size f cdv)) →
      PSs (cxOf CX0 P w K mg base N qual (defScope st) f cdv A outer s H E).nox (defBody st) (tS K B m)) : DOk P w K mg base B x (k + 1) ps (mDef N.length m) :=
  ⟨f, fd, hm, Fn.kp, Fn.bindsN bi, Fn.ok S (fun vs H Q E h => h.1) fun cdv A outer s H vs Q E hr h => ⟨_, (hb cdv A outer s H E hr).nox, def_D h⟩⟩
end

/-! ### constants that lie in the kept part -/
mutual
def dvB (K : PySem.W.Frag) : D → Value → Bool
  | .non, .none => true
  | .bl b, .bool c => b == c
  | .int i, .int j _ => decide (i = j)
  | .str x, .str y _ => decide (x = y)
  | .tup ds, .ref a => match K.lookup a with
    | some ⟨.type c, _, .seq its _, _⟩ => decide (c = "tuple") && (decide (its.size ≤ sizeLine) && dvBL K ds its.toList)
    | _ => false
  | _, _ => false
def dvBL (K : PySem.W.Frag) : List D → List Value → Bool
  | [], [] => true
  | d :: ds, v :: vs => dvB K d v && dvBL K ds vs
  | _, _ => false
end
mutual
theorem dvB_ok {K : PySem.W.Frag} : ∀ {d : D} {u : Value}, dvB K d u = true → ∃ v, RelV v u ∧ ∀ {S : Type} (B : Amb S) (F : Hp), Dv K B F d v
  | .non, .none, _ => ⟨.non, rfl, fun _ _ => rfl⟩
  | .bl b, .bool c, h => by
    have e : b = c := by simpa [dvB] using h
    subst e
    exact ⟨.bl b, rfl, fun _ _ => rfl⟩
  | .int i, .int j t, h => by
    have e : i = j := by simpa [dvB] using h
    subst e
    exact ⟨.int i, ⟨t, rfl⟩, fun _ _ => rfl⟩
  | .str i, .str j t, h => by
    have e : i = j := by simpa [dvB] using h
    subst e
    exact ⟨.str i, ⟨t, rfl⟩, fun _ _ => rfl⟩
  | .tup ds, .ref a, h => by
    unfold dvB at h
    split at h
    · rename_i c dd its n sl e
      simp only [Bool.and_eq_true, decide_eq_true_eq] at h
      obtain ⟨h1, h2, h3⟩ := h
      obtain ⟨vs, r, hv⟩ := dvBL_ok h3
      subst h1
      exact ⟨.ref a, rfl, fun B F => ⟨a, vs, rfl, .inr ⟨_, its, n, e, rfl, rfl, h2, r⟩, hv B F⟩⟩
    · cases h
theorem dvBL_ok {K : PySem.W.Frag} : ∀ {ds : List D} {us : List Value}, dvBL K ds us = true → ∃ vs, Vals vs us ∧ ∀ {S : Type} (B : Amb S) (F : Hp), DvL K B F ds vs
  | [], [], _ => ⟨[], .nil, fun _ _ => rfl⟩
  | [], _ :: _, h => by cases h
  | _ :: _, [], h => by cases h
  | d :: ds, u :: us, h => by
    unfold dvBL at h
    rw [Bool.and_eq_true] at h
    obtain ⟨v, r, hv⟩ := dvB_ok h.1
    obtain ⟨vs, rs, hvs⟩ := dvBL_ok h.2
    exact ⟨v :: vs, .cons r rs, fun B F => ⟨v, vs, rfl, hv B F, hvs B F⟩⟩
end
/-! ### a text's facts -/
/-- what the text's top leaves: its defs, its constants, built-in names as they were -/
structure Tx (fn : List He.DefD) (gs fr : List Str) (is : List (Str × Int)) (ss : List (Str × Str)) (ts : List (Str × D)) (K : PySem.W.Frag) (mg : Str → Option Value) : Prop where
  fns : ∀ d ∈ fn, ∃ fd, FunD K d.name d.qual d.params d.body d.scope (d.dvs K) (d.kws K) (He.fAd K d.at_) fd
  glo : ∀ x ∈ gs, mg x = some (.ref (He.ga K x))
  free : ∀ x ∈ fr, mg x = none
  gint : ∀ p ∈ is, ∃ t, mg p.1 = some (.int p.2 t)
  gstr : ∀ p ∈ ss, ∃ t, mg p.1 = some (.str p.2 t)
  gtup : ∀ p ∈ ts, ∃ a, mg p.1 = some (.ref a) ∧ ∀ {S : Type} (B : Amb S) (F : Hp), Dv K B F p.2 (.ref a)
def faOf (gs fr : List Str) (is : List (Str × Int)) (ss : List (Str × Str)) (ts : List (Str × D)) : List He.Fa :=
  gs.map He.Fa.glo ++ (fr.map He.Fa.free ++ (is.map (fun p => He.Fa.int p.1 p.2) ++ (ss.map (fun p => He.Fa.str p.1 p.2) ++ ts.map fun p => He.Fa.glo p.1)))
def exOf (ts : List (Str × D)) (K : PySem.W.Frag) : Bool := ts.all fun p => dvB K p.2 (.ref (He.ga K p.1))
def SaysY (fa : List He.Fa) (fn : List He.DefD) (ts : List (Str × D)) (K : PySem.W.Frag) : Prop := He.SaysD fa fn K ∧ exOf ts K = true
def obsY (n : Nat) (fa : List He.Fa) (fn : List He.DefD) (ts : List (Str × D)) (g : Addr → Option Obj) : He.AlD × Bool := (He.obsD fa fn (He.frG g (He.asD g n)), exOf ts (He.frG g (He.asD g n)))
def hookY (n : Nat) (fa : List He.Fa) (fn : List He.DefD) (ts : List (Str × D)) : PySem.W.Hook where
  α := He.AlD × Bool
  obs := fun s => obsY n fa fn ts s.heap.get?
  val := fun _ => (He.valD fn, true)
  says := fun _ h => ∃ K : PySem.W.Frag, K.In h ∧ SaysY fa fn ts K
  of := fun _ _ e => ⟨_, He.frG_in, congrArg (fun z : He.AlD × Bool => z.1) e, congrArg (fun z : He.AlD × Bool => z.2) e⟩
  keeps := fun _ _ _ ⟨K, hK, c⟩ k => ⟨K, PySem.W.Frag.In.keeps hK k, c⟩
theorem obsY_eq {n : Nat} {fa : List He.Fa} {fn : List He.DefD} {ts : List (Str × D)} {g : Addr → Option Obj} {s : Shared} (h : ∀ a, g a = s.heap.get? a) : obsY n fa fn ts g = (hookY n fa fn ts).obs s := by
  have e : g = s.heap.get? := funext h
  rw [e]
  rfl
theorem fact_in {fa : List He.Fa} {fn : List He.DefD} {K : PySem.W.Frag} (c : He.SaysD fa fn K) {f : He.Fa} (h : f ∈ fa) : f.ok K = true := by
  have c1 := (He.ba (show ((fa.all fun f => f.ok K) && fn.all fun d => d.ok K) = true from congrArg (fun z : He.AlD => z.1) c)).1
  exact List.all_eq_true.mp c1 f h
theorem def_in {fa : List He.Fa} {fn : List He.DefD} {K : PySem.W.Frag} (c : He.SaysD fa fn K) {d : He.DefD} (h : d ∈ fn) : ∃ fd, FunD K d.name d.qual d.params d.body d.scope (d.dvs K) (d.kws K) (He.fAd K d.at_) fd := by
  obtain ⟨i, hi⟩ := List.getElem?_of_mem h
  exact c.def_ i hi
theorem tx_of {fn : List He.DefD} {gs fr : List Str} {is : List (Str × Int)} {ss : List (Str × Str)} {ts : List (Str × D)} {K : PySem.W.Frag} {h : Heap} {mg : Str → Option Value} (X : K.In h) (G : h.Ns mainGlobals mg)
    (c : SaysY (faOf gs fr is ss ts) fn ts K) : Tx fn gs fr is ss ts K mg := by
  have m1 : ∀ {f : He.Fa}, f ∈ gs.map He.Fa.glo → f ∈ faOf gs fr is ss ts := fun h => List.mem_append_left _ h
  have m2 : ∀ {f : He.Fa}, f ∈ fr.map He.Fa.free → f ∈ faOf gs fr is ss ts := fun h => List.mem_append_right _ (List.mem_append_left _ h)
  have m3 : ∀ {f : He.Fa}, f ∈ is.map (fun p => He.Fa.int p.1 p.2) → f ∈ faOf gs fr is ss ts := fun h => List.mem_append_right _ (List.mem_append_right _ (List.mem_append_left _ h))
  have m4 : ∀ {f : He.Fa}, f ∈ ss.map (fun p => He.Fa.str p.1 p.2) → f ∈ faOf gs fr is ss ts := fun h => List.mem_append_right _ (List.mem_append_right _ (List.mem_append_right _ (List.mem_append_left _ h)))
  have m5 : ∀ {f : He.Fa}, f ∈ ts.map (fun p => He.Fa.glo p.1) → f ∈ faOf gs fr is ss ts := fun h => List.mem_append_right _ (List.mem_append_right _ (List.mem_append_right _ (List.mem_append_right _ h)))
  refine ⟨fun d hd => def_in c.1 hd, fun x hx => He.glo_ok X G (fact_in c.1 (m1 (List.mem_map_of_mem hx))), fun x hx => He.free_ok X G (fact_in c.1 (m2 (List.mem_map_of_mem hx))),
    fun p hp => He.int_ok X G (fact_in c.1 (m3 (List.mem_map_of_mem hp))), fun p hp => He.str_ok X G (fact_in c.1 (m4 (List.mem_map_of_mem hp))), fun p hp => ⟨_, He.glo_ok X G (fact_in c.1 (m5 (List.mem_map_of_mem hp))), fun {S} B F => ?_⟩⟩
  have e := List.all_eq_true.mp c.2 p hp
  obtain ⟨v, r, hv⟩ := dvB_ok e
  have ev : v = V.ref (He.ga K p.1) := by
    cases v with
    | ref a =>
      have r' : Value.ref (He.ga K p.1) = Value.ref a := r
      cases r'
      rfl
    | non => cases r
    | bl b => cases r
    | int i => obtain ⟨_, r⟩ := r; cases r
    | str i => obtain ⟨_, r⟩ := r; cases r
    | byt i => obtain ⟨_, r⟩ := r; cases r
    | flt i => obtain ⟨_, r⟩ := r; cases r
    | ty n => cases r
  rw [← ev]
  exact hv B F
section
variable {X : Cx} {S : Type} {B : Amb S} {pos : Pos} {x : Str}
theorem d_gint {i : Int} (h : ∃ t, X.mg x = some (.int i t)) (hg : Gl X x := by rfl) (hd : (x == ("__debug__" : Str)) = false := by decide) : PE X (.Name x pos) (tD X.K B (mC (.int i))) := by
  obtain ⟨t, h⟩ := h
  exact d_c (pe_glob (v := .int i) hg h ⟨t, rfl⟩ hd) fun _ => rfl
theorem d_gstr {i : Str} (h : ∃ t, X.mg x = some (.str i t)) (hg : Gl X x := by rfl) (hd : (x == ("__debug__" : Str)) = false := by decide) : PE X (.Name x pos) (tD X.K B (mC (.str i))) := by
  obtain ⟨t, h⟩ := h
  exact d_c (pe_glob (v := .str i) hg h ⟨t, rfl⟩ hd) fun _ => rfl
theorem d_gtup {d : D} (h : ∃ a, X.mg x = some (.ref a) ∧ ∀ {S : Type} (B : Amb S) (F : Hp), Dv X.K B F d (.ref a)) (hg : Gl X x := by rfl) (hd : (x == ("__debug__" : Str)) = false := by decide) : PE X (.Name x pos) (tD X.K B (mC d)) := by
  obtain ⟨a, h, hq⟩ := h
  exact d_c (pe_glob (v := .ref a) hg h rfl hd) fun F => hq B F
end
/-! constants, small words -/
section
variable {X : Cx} {S : Type} {B : Amb S} {pos : Pos} {a b : Expr} {ma mb : ME S} {ml : ML S} {es : List Expr}
theorem d_int {i : Int} {j} : PE X (.Constant (.int i) j pos) (tD X.K B (mC (.int i))) := d_c pe_int fun _ => rfl
theorem d_bl {i : Bool} {j} : PE X (.Constant (.bool i) j pos) (tD X.K B (mC (.bl i))) := d_c pe_bl fun _ => rfl
theorem d_non {j} : PE X (.Constant .none j pos) (tD X.K B (mC .non)) := d_c pe_non fun _ => rfl
theorem d_str {i : Str} {j} : PE X (.Constant (.str i) j pos) (tD X.K B (mC (.str i))) := d_c pe_str fun _ => rfl
theorem d_dct0 : PE X (.Dict [] [] pos) (tD X.K B (mC (.dct [] []))) := pe_w pe_dnewK fun σ H Q ⟨env, F, s, d, s', E, o, hm, hq⟩ => by
  cases hm
  exact fun p hp => hq _ _ _ (Ev.new o _ hp) ⟨p, [], rfl, upd_same, rfl, rfl⟩
end
end Dl

set_option Elab.async false
set_option linter.all false
set_option maxRecDepth 100000
set_option maxHeartbeats 4000000
/-! D9: the hand of five places; further rules. -/
namespace Dl
open PySem
open L2
/-- [cells, the next one's place, what is left of a great one, the seed, the turn] -/
structure Hand where
  cells : List Int
  pos : Nat
  great : Int
  seed : Int
  turn : Int
def handL (c : Addr) (h : Hand) : List V := [.ref c, .int h.pos, .int h.great, .int h.seed, .int h.turn]
def HandB (p c : Addr) : Amb Hand where
  at' := fun h H => p ≠ c ∧ H p = some (.lst (handL c h)) ∧ H c = some (.lst (h.cells.map V.int))
  own := fun q => q = p ∨ q = c
  hA := p
  there := fun s H q h ho => by
    rcases ho with e | e
    · subst e; rw [h.2.1]; exact fun z => nomatch z
    · subst e; rw [h.2.2]; exact fun z => nomatch z
  stay := fun s H H' h k => ⟨h.1, k p _ (.inl rfl) h.2.1, k c _ (.inr rfl) h.2.2⟩
end Dl

set_option Elab.async false
set_option linter.all false
set_option maxRecDepth 100000
set_option maxHeartbeats 4000000
/-! D10: a tuple turned about. -/
namespace Dl
open PySem
open L2
open PyProof.Rows
theorem rev_places (n : Nat) : Builtin.Slice.slicePlaces ((n : Int) - 1) (-1) (-1) = n := by
  unfold Builtin.Slice.slicePlaces
  have h1 : ¬ ((-1 : Int) > 0) := by decide
  by_cases h : n = 0
  · subst h; rfl
  · have h2 : (n : Int) - 1 > -1 := by omega
    simp only [h1, if_false, h2, if_true]
    rw [show (- -1 : Int) = 1 by decide, Int.ediv_one]
    omega
theorem rev_adjust (n : Nat) : Builtin.Slice.sliceAdjust none none (-1) (n : Int) = ((n : Int) - 1, -1) := by
  unfold Builtin.Slice.sliceAdjust
  have h1 : (-1 : Int) < 0 := by decide
  simp only [h1, if_true]
section
variable {prog : Program} {w : World} {A : Around} {E : Value → Shared → Prop} {s : Shared}
theorem rev_applied {sl : Addr} {n : Nat} {t : Tok} {Q : Int × Int × Nat → Shared → Prop} (hs : s.heap.IsSliceOf sl .none .none (.int (-1) t)) (h : Q ((n : Int) - 1, -1, n) s) :
    wpAny (model prog w) A (Builtin.Slice.sliceApplied (.ref sl) (pure (n : Int))) Q E s := by
  obtain ⟨os, hos, hcs, hds⟩ := id hs
  unfold Builtin.Slice.sliceApplied Builtin.Slice.sliceFields
  refine wpAny_bind (wpAny_bind (wpAny_field hos hds (x := .none) rfl (wpAny_bind (wpAny_field hos hds (x := .none) rfl (wpAny_bind (wpAny_field hos hds (x := .int (-1) t) rfl (wpAny_pure ?_)))))))
  refine wpAny_bind (HT.slicePart_ (.int (-1) t) ?_)
  show wpAny _ _ (if ((-1 : Int) == 0) = true then _ else _) _ _ s
  rw [if_neg (by decide)]
  refine wpAny_bind (HT.slicePart_ .none (wpAny_bind (HT.slicePart_ .none (wpAny_bind (wpAny_pure ?_)))))
  show wpAny _ _ (match Builtin.Slice.sliceAdjust none none (-1) (n : Int) with | (lo, hi) => pure (lo, (-1 : Int), Builtin.Slice.slicePlaces lo hi (-1))) _ _ s
  rw [rev_adjust]
  show wpAny _ _ (pure ((n : Int) - 1, (-1 : Int), Builtin.Slice.slicePlaces ((n : Int) - 1) (-1) (-1))) _ _ s
  rw [rev_places]
  exact wpAny_pure h
theorem rev_pick (xs : Array Value) : ((List.range xs.size).filterMap fun (m : Nat) => xs[((xs.size : Int) - 1 + (m : Int) * (-1)).toNat]?).toArray = xs.toList.reverse.toArray := by
  have h := PySem.W.krv_pick xs
  unfold slicePick at h
  rw [PySem.W.krv_bounds] at h
  have h2 : ((sliceRange ((xs.size : Int) - 1) (-1) (-1)).filterMap (xs[·]?)).toArray = xs.toList.reverse.toArray := h
  rw [PySem.W.krv_sliceRange, List.filterMap_map] at h2
  rw [← h2]
  have e : (fun (m : Nat) => xs[((xs.size : Int) - 1 + (m : Int) * (-1)).toNat]?) = ((fun x => xs[x]?) ∘ fun k => xs.size - 1 - k) := by
    funext m
    show xs[((xs.size : Int) - 1 + (m : Int) * (-1)).toNat]? = xs[xs.size - 1 - m]?
    have e1 : ((xs.size : Int) - 1 + (m : Int) * (-1)).toNat = xs.size - 1 - m := by omega
    rw [e1]
  rw [e]
theorem getItem_tuple_rev {t sl : Addr} {items : Array Value} {tk : Tok} {Q : Value → Shared → Prop} (ht : IsTup s.heap t items) (hs : s.heap.IsSliceOf sl .none .none (.int (-1) tk))
    (h : Q (.ref s.heap.objs.size) { s with heap := s.heap.push { cls := .type "tuple", data := .seq items.toList.reverse.toArray } }) (hsz : items.size ≤ sizeLine) : wpAny (model prog w) A (getItem (.ref t) (.ref sl)) Q E s := by
  have hok : sizeOk (.seq items.toList.reverse.toArray) := by
    show items.toList.reverse.toArray.size ≤ sizeLine
    rw [List.size_toArray, List.length_reverse, Array.length_toList]
    exact hsz
  obtain ⟨os, hos, hcs, hds⟩ := id hs
  have hTs : s.TypeIs (.ref sl) "slice" := ⟨os, hos, hcs⟩
  unfold getItem
  try with_reducible refine wpAny_holding ?_
  first
    | refine wpAny_bind (wpAny_pure ?_)
    | skip
  refine wpAny_bind (wpAny_sequenceKey ht.typeIs (by decide) ?_)
  refine wpAny_bind (wpAny_callSpecial?_slot (name := Str.ofString "__getitem__") ht.typeIs PyProof.Rows.slot_tuple_getitem (wpAny_call_entry PyProof.Rows.slot_tuple_getitem ht.typeIs entry_tuple_getitem ?_
    (args_tuple_getitem _ _)))
  show wpAny _ _ (Builtin.Tuple.tupleItemsOf (.ref t) >>= _) _ _ s
  refine wpAny_bind (tupleItemsOf_ ht ?_)
  refine wpAny_bind (wpAny_typeOf hTs ?_)
  rw [if_pos (by decide)]
  refine wpAny_bind (rev_applied hs ?_)
  have hno : ¬ ((((items.size : Int) - 1) == 0 && (-1 : Int) == 1 && items.size == items.size) = true) := by
    intro q
    rw [Bool.and_eq_true, Bool.and_eq_true] at q
    exact absurd q.1.2 (by decide)
  show wpAny _ _ (if (((items.size : Int) - 1) == 0 && (-1 : Int) == 1 && items.size == items.size) = true then _ else _) _ _ s
  rw [if_neg hno, rev_pick]
  first
    | exact wpAny_bind (m := Builtin.Tuple.tupleExact _) (wpAny_newObj_type (wpAny_pure ⟨_, rfl, wpAny_pure h⟩) hok)
    | exact wpAny_bind (m := Builtin.Tuple.tupleExact _) (wpAny_newObj_type (wpAny_bind (wpAny_pure (wpAny_pure ⟨_, rfl, wpAny_pure h⟩))) hok)
end
def tRevT (K : PySem.W.Frag) (te : TE) : TE := fun σ H Q => te σ H fun x H1 => ∃ a xs, x = .ref a ∧ SqT K H1 a xs ∧ ∀ p, H1 p = none → Q (.ref p) (upd H1 p (.tup xs.reverse))
section
variable {X : Cx}
theorem pe_revT {e : Expr} {te : TE} {k : Nat} {p1 p2 p3 pos : Pos} (he : PE X e te) : PE X (.Subscript e (.Slice none none (some (.UnaryOp .USub (.Constant (.int 1) k p1) p2)) p3) pos) (tRevT X.K te) := by
  refine ⟨fun pins s σ H Q I h => ?_⟩
  refine Subscript_ (thn (he.run pins s σ H _ I h) fun v s1 ⟨x, H1, I1, r1, q1⟩ => ?_)
  obtain ⟨a, xs, ex, hx, q⟩ := q1
  subst ex
  cases r1
  have hst : PO X (some (.UnaryOp .USub (.Constant (.int 1) k p1) p2)) (tPart (tUn (rU fun i => .int (-i)) (tC (.int 1)))) := po_some (pe_un un_neg pe_int)
  have hno : PO X none tNoPart := po_none
  refine wpAny_Slice (thn (hno.run pins s1 σ H1 (fun o H2 => o = none ∧ H2 = H1) I1 ⟨rfl, rfl⟩) fun vl s2 ⟨l, H2, I2, pl, el, e2⟩ => ?_)
  subst el e2
  refine thn (hno.run pins s2 σ H2 (fun o H3 => o = none ∧ H3 = H2) I2 ⟨rfl, rfl⟩) fun vu s3 ⟨u, H3, I3, pu, eu, e3⟩ => ?_
  subst eu e3
  refine thn (hst.run pins s3 σ H3 (fun o H4 => o = some (-1) ∧ H4 = H3) I3 ⟨1, rfl, -1, rfl, rfl, rfl⟩) fun vs s4 ⟨o, H4, I4, ps, eo, e4⟩ => ?_
  subst eo e4
  cases pl
  cases pu
  cases ps with
  | int i tk =>
    have I5 : Inv X pins σ H4 { s4 with heap := s4.heap.push { cls := .type "slice", data := .fields #[.none, .none, .int (-1) tk] } } := I4.kept (t' := s4.toks) fun b ob q => Heap.get?_push_of_some _ q
    obtain ⟨its, r, ht, hz⟩ := I5.tuple hx
    have hlen := r.length
    show wpAny (model X.prog X.w) X.A (subscriptTail e (.Slice none none (some (.UnaryOp .USub (.Constant (.int 1) k p1) p2)) p3) (.ref a) (.ref s4.heap.objs.size)) (EP X pins σ Q) X.xe
      { s4 with heap := s4.heap.push { cls := .type "slice", data := .fields #[.none, .none, .int (-1) tk] } }
    refine tail_any (ops := [.ref a, .ref s4.heap.objs.size]) ht.typeIs (PyProof.Rows.slot_tuple_getitem.lookup) ?_ (by with_unfolding_all rfl)
    refine getItem_tuple_rev ht (Heap.IsSliceOf.new _ .none .none (.int (-1) tk)) ?_ (by rw [List.size_toArray]; omega)
    refine ⟨.ref _, _, I5.laid (t' := s4.toks) (o := .tup xs.reverse) (fun b ob q => Heap.get?_push_of_some _ q) (Nat.le_refl _) ?_, rfl, q _ (I5.hok.fresh (Nat.le_refl _))⟩
    exact ⟨by rw [List.length_reverse]; exact hz, its.reverse, r.reverse, ⟨_, Heap.get?_push_size _ rfl, rfl, 0, by simp⟩⟩
end
def revT : D → Option D
  | .tup ds => some (.tup ds.reverse)
  | _ => none
section
variable {X : Cx} {S : Type} {B : Amb S} {ma : ME S}
theorem d_revT {e : Expr} {k : Nat} {p1 p2 p3 pos : Pos} (he : PE X e (tD X.K B ma)) : PE X (.Subscript e (.Slice none none (some (.UnaryOp .USub (.Constant (.int 1) k p1) p2)) p3) pos) (tD X.K B (mU revT ma)) :=
  pe_w (pe_revT he) fun σ H Q ⟨env, F, s, d, s', E, o, hm, hq⟩ => by
    obtain ⟨x, e1, e2⟩ := un_un hm
    cases x with
    | tup ds =>
      cases e2
      refine ⟨env, F, s, .tup ds, s', E, o, e1, fun v F1 H1 v1 hx => ?_⟩
      obtain ⟨a, vs, ea, h2, h3⟩ := hx
      exact ⟨a, vs, ea, sqT_ext v1.ok.sub h2, fun p hp => hq _ _ _ (v1.trans (Ev.new v1.ok _ hp)) (new_tup v1.ok hp h3.rev)⟩
    | _ => cases e2
end
end Dl

set_option Elab.async false
set_option linter.all false
set_option maxRecDepth 100000
set_option maxHeartbeats 4000000
/-! D11: enumerate over a tuple, over a list. -/
namespace Dl
open PySem
open L2
open AutoSeq1 (wpAny_loadPart')
theorem meets_enumT (l : Addr) (items : Array Value) (n : Nat) (dct : Option Addr) (sl : Array (Option Value)) :
    Meets (Builtin.«enumerate.__new__» ⟨[.type "enumerate", .ref l], []⟩) (fun _ R s => s.heap.get? l = some { cls := .type "tuple", dict := dct, data := .seq items n, slots := sl } ∧
      R (.ok (.ret (.ref (s.heap.push { cls := .type "tuple_iterator", data := .fields #[.ref l, .int 0 0] }).objs.size)))
        { s with heap := (s.heap.push { cls := .type "tuple_iterator", data := .fields #[.ref l, .int 0 0] }).push { cls := .type "enumerate", data := .fields #[.none, .bool false, .ref s.heap.objs.size, rawInt 0, .none, .none] } }) :=
  .of_wp fun prog w A R s h => by
    obtain ⟨hp, g, d, tk, os⟩ := s
    obtain ⟨hl, h⟩ := h
    have hsub := sub_enumerate
    have hL : Heap.IsTuple (Shared.heap ⟨hp, g, d, tk, os⟩) l items := ⟨_, hl, rfl, n, rfl⟩
    wp_walk using wpAny_loadPart' hl
    refine wpAny_stack_any fun st => wpAny_pure ?_
    split
    · rename_i c _ _ _ _ _
      cases (c == Value.type "enumerate")
      · wp_walk using wpAny_loadPart' hl, wpAny_pyIter_tuple hL
        exact ⟨_, rfl, h⟩
      · wp_walk using wpAny_loadPart' hl, wpAny_pyIter_tuple hL
        exact ⟨_, rfl, h⟩
    · wp_walk using wpAny_loadPart' hl, wpAny_pyIter_tuple hL
      exact ⟨_, rfl, h⟩
theorem call_enumT {prog : Program} {w : World} {A : Around} {E : Value → Shared → Prop} {s : Shared} {l : Addr} {items : Array Value} {Q : Value → Shared → Prop} (hL : PyProof.Rows.IsTup s.heap l items)
    (h : ∀ h', IsEnum h' (s.heap.objs.size + 1) s.heap.objs.size 0 .none → h'.IsTupleIter s.heap.objs.size l 0 → (∀ b o, s.heap.get? b = some o → h'.get? b = some o) → Q (.ref (s.heap.objs.size + 1)) { s with heap := h' }) :
    wpAny (model prog w) A (call (.type "enumerate") [.ref l]) Q E s := by
  obtain ⟨⟨c, dct, dt, sl⟩, hl, hc, n, hd⟩ := hL
  have hc' : c = .type "tuple" := hc
  have hd' : dt = .seq items n := hd
  subst hc' hd'
  refine callType_new F.called_enumerate (by decide) (F.typeCall_enumerate_1 _) (F.newCall_enumerate_1 _) (fun obj => F.args_object_init_2 obj _) F.entry_enumerate_new (meets_enumT l items n dct sl) ⟨hl, ?_⟩
  have hz : (s.heap.push { cls := .type "tuple_iterator", data := .fields #[.ref l, .int 0 0] }).objs.size = s.heap.objs.size + 1 := Heap.size_push ..
  show _ ∧ _
  rw [hz]
  have he : IsEnum ((s.heap.push { cls := .type "tuple_iterator", data := .fields #[.ref l, .int 0 0] }).push { cls := .type "enumerate", data := .fields #[.none, .bool false, .ref s.heap.objs.size, rawInt 0, .none, .none] }) (s.heap.objs.size + 1) s.heap.objs.size 0 .none := by
    have z := Heap.get?_push_size (s.heap.push { cls := .type "tuple_iterator", data := .fields #[.ref l, .int 0 0] }) (o := { cls := .type "enumerate", data := .fields #[.none, .bool false, .ref s.heap.objs.size, rawInt 0, .none, .none] }) rfl
    rw [hz] at z
    exact z
  exact ⟨⟨_, he, rfl⟩, h _ he ⟨_, Heap.get?_push_of_some _ (Heap.get?_push_size _ rfl), rfl, rfl⟩ fun b o x => Heap.get?_push_of_some _ (Heap.get?_push_of_some _ x)⟩
/-- (i, the i-th item) of the tuple at a -/
def IteT (K : PySem.W.Frag) (a : Addr) : It :=
  ⟨fun i H => ∃ (xs : List V) (x : V), SqT K H a xs ∧ xs[i]? = some x, fun i H v H' => ∃ T x, v = .ref T ∧ H T = none ∧ H' = upd H T (.tup [.int (i : Nat), x]) ∧ ∀ xs, SqT K H a xs → xs[i]? = some x, fun i H => ∃ xs : List V, SqT K H a xs ∧ xs.length ≤ i⟩
theorem turn_enumT {P : Program} {w : World} {K : PySem.W.Frag} {elts : List Expr} {kk : Nat} {tpos : Pos} (a e it : Addr) :
    Turn P w K (.Tuple elts kk tpos) (IteT K a) [e, it] e (fun i h => (∃ old, IsEnum h e it ((i : Nat) : Int) old) ∧ h.IsTupleIter it a i ∧ e ≠ it) where
  mem := by simp
  obj := fun i h st b hb => by
    obtain ⟨⟨old, he⟩, ⟨o, ho, hc, hd⟩, _⟩ := st
    have e' : b = e ∨ b = it := by simpa using hb
    rcases e' with z | z
    · rw [z]
      exact ⟨_, he, fun v q => nomatch q⟩
    · rw [z]
      exact ⟨o, ho, fun v q => by rw [hd] at q; cases q⟩
  keep := fun i h h' st k => by
    obtain ⟨⟨old, he⟩, hi, hne⟩ := st
    exact ⟨⟨old, k e (by simp) _ he⟩, hi.at fun o q => k it (by simp) o q, hne⟩
  item := by
    intro X hP hw hK hc i pins s σ H E I hf st hg
    subst hP hw hK
    obtain ⟨⟨old, he⟩, hit, hne⟩ := st
    obtain ⟨xs, x, hq, hx⟩ := hg
    obtain ⟨its, rv, tp, hz⟩ := I.tuple hq
    obtain ⟨u, hu, ru⟩ := rv.get hx
    have hel : e < s.heap.objs.size := Heap.lt_size he
    have hil : it < s.heap.objs.size := by
      obtain ⟨_, q, _⟩ := hit
      exact Heap.lt_size q
    have hai : a ≠ it := by
      rintro rfl
      obtain ⟨o1, h1, c1, _⟩ := tp
      obtain ⟨o2, h2, c2, _⟩ := hit
      rw [h1] at h2
      cases h2
      rw [c1] at c2
      exact absurd c2 (by decide)
    have hae : a ≠ e := by
      rintro rfl
      obtain ⟨o1, h1, c1, _⟩ := tp
      rw [show s.heap.get? a = _ from he] at h1
      cases h1
      exact absurd (show Value.type "enumerate" = Value.type "tuple" from c1) (by decide)
    have hef : e ∉ [it, a] := by
      intro z
      rcases List.mem_cons.mp z with z | z
      · exact hne z
      · exact hae (List.mem_singleton.mp z).symm
    have hsz : i < its.toArray.size := by
      have q := (List.getElem?_eq_some_iff.mp hu).1
      simpa using q
    refine wpAny_pyNext_enum_itemD (Draws.tuple (A := X.A.in1) (I.ok.hd hc) it a hai its.toArray) he ⟨hit, tp⟩ hsz hne hef fun y h' tk hy ho hit' hT hsz' hk => ?_
    have ey : y = u := by
      have q : its.toArray[i]? = some y := hy
      have q2 : its.toArray[i]? = some u := by simpa using hu
      rw [q2] at q
      exact (Option.some.inj q).symm
    subst ey
    refine ⟨_, rfl, wpAny_letOwnedTupleGo_enum (s := { s with heap := h', toks := tk + 1 }) ho fun h'' he' sb => ?_⟩
    have hT2 : h''.get? s.heap.objs.size = some { cls := .type "tuple", data := .seq #[.int i tk, y] } := (sb.2 _ (Nat.ne_of_gt hel)).trans hT
    have new : ObjOk X.prog X.w (upd H s.heap.objs.size (.tup [.int (i : Nat), x])) h'' s.heap.objs.size (.tup [.int (i : Nat), x]) :=
      ⟨by show 2 ≤ sizeLine; decide, [.int i tk, y], .cons ⟨_, rfl⟩ (.cons ru .nil), ⟨_, hT2, rfl, _, rfl⟩⟩
    have I1 : Inv X pins σ (upd H s.heap.objs.size (.tup [.int (i : Nat), x])) { s with heap := h'', toks := tk + 1 } :=
      I.turnedNew (ch := [e, it]) (fun b ob hb q => (sb.2 b (fun z => hb (by simp [z]))).trans (hk b ob (fun z => hb (by simp [z])) (fun z => hb (by simp [z])) q)) hf (Nat.le_refl _) new
    refine ⟨.ref s.heap.objs.size, _, I1, rfl, ⟨_, x, rfl, I.hok.fresh (Nat.le_refl _), rfl, fun ys hy => by rw [I.tuple_inj hy hq]; exact hx⟩, ⟨⟨y, ?_⟩, hit'.1.at fun o q => (sb.2 it (Ne.symm hne)).trans q, hne⟩, fun b hb => ?_⟩
    · have e1 : ((i + 1 : Nat) : Int) = (i : Int) + 1 := by omega
      rw [e1]
      exact he'
    · have hb' : b < s.heap.objs.size := by
        have e' : b = e ∨ b = it := by simpa using hb
        rcases e' with z | z
        · rw [z]; exact hel
        · rw [z]; exact hil
      rw [upd_ne (Nat.ne_of_lt hb')]
      exact (hf b hb).1
  done := by
    intro X hP hw hK hc i pins s σ H E I hf st hg
    subst hP hw hK
    obtain ⟨⟨old, he⟩, hit, hne⟩ := st
    obtain ⟨xs, hq, hx⟩ := hg
    obtain ⟨its, rv, tp, hz⟩ := I.tuple hq
    obtain ⟨f0, f1, f2, f3, f4, f5⟩ := hf it (by simp)
    have hl := rv.length
    have hT : s.TypeIs (.ref e) "enumerate" := ⟨_, he, rfl⟩
    unfold pyNext
    refine wpAny_bind (wpAny_attempt (wpAny_callSpecial?_slot (name := Str.ofString "__next__") hT F.slot_enumerate_next (wpAny_call_entry F.slot_enumerate_next hT F.entry_enumerate_next ?_ (F.args_enumerate_next_1 _))))
    show wpAny _ _ (field (.ref e) 2 >>= _) _ _ _
    refine wpAny_bind (wpAny_field he rfl (x := .ref it) rfl ?_)
    refine wpAny_bind (wpAny_nextOf_tuple_end (I.ok.hd hc) hit tp (by simp; omega) fun h' x he' hx' => ?_)
    obtain ⟨o, ho, hc'⟩ := hx'
    refine wpAny_bind (wpAny_isInstance (T := "StopIteration") (b := true) ⟨o, ho, hc'⟩ isSubtype_stop ?_)
    exact wpAny_pure ⟨rfl, I.turned (t' := s.toks) (fun b o hb q => he' b o hb q) f0 f1 f3 f4 f5⟩
  self := fun A i s Q E st h => let ⟨⟨_, he⟩, _⟩ := st; wpAny_pyIter_enum he h
def iEnumT (K : PySem.W.Frag) (ta : TA) : TI := fun σ H R => ta σ H fun vs H1 => ∃ a xs, vs = [.ref a] ∧ SqT K H1 a xs ∧ R (IteT K a) H1
theorem pi_enumT {X : Cx} {e : Expr} {ta : TA} {p pos tpos : Pos} {elts : List Expr} {kk : Nat} (hg : Gl X "enumerate") (hm : X.mg "enumerate" = none) (ha : PA X [e] ta) (hs1 : starEach [e] X.env = [(false, eval e X.env)] := by rfl) :
    PI X (.Tuple elts kk tpos) (.Call (.Name "enumerate" p) [e] [] pos) (iEnumT X.K ta) := by
  refine ⟨fun pins s σ H R I h => ?_⟩
  refine PyProof.Rows.Call_ (ld_blt I hg hm PyProof.Rows.boot_enumerate (PyProof.Rows.callWith_type1 (thn (ha.run pos pins s σ H _ I h) fun us s1 ⟨vs, H1, I1, r1, q1⟩ => ?_) hs1 rfl))
  obtain ⟨a, xs, ex, hq, q⟩ := q1
  subst ex
  obtain ⟨u, rfl, ru⟩ := vals1 r1
  cases ru
  obtain ⟨its, rv, tp, hz⟩ := I1.tuple hq
  refine call_enumT tp fun h' he' hit hk => wpAny_pyIter_enum he' ?_
  have I2 : Inv X pins σ H1 { s1 with heap := h' } := I1.kept (t' := s1.toks) hk
  refine ⟨s1.heap.objs.size + 1, [s1.heap.objs.size + 1, s1.heap.objs.size], _, _, H1, rfl, I2, turn_enumT a (s1.heap.objs.size + 1) s1.heap.objs.size, ⟨⟨.none, he'⟩, hit, Nat.succ_ne_self _⟩, fun b hb => ?_, q⟩
  have hle : s1.heap.objs.size ≤ b := by
    rcases List.mem_cons.mp hb with z | z
    · rw [z]
      exact Nat.le_add_right _ _
    · rw [List.mem_singleton.mp z]
      exact Nat.le_refl _
  exact I1.fpOk hle (I1.hok.fresh hle)
/-! over data -/
def enuOf : Nat → List D → List D
  | _, [] => []
  | n, d :: ds => .tup [.int n, d] :: enuOf (n + 1) ds
theorem enuOf_len : ∀ (n : Nat) (ds : List D), (enuOf n ds).length = ds.length
  | _, [] => rfl
  | n, d :: ds => by
    show (enuOf (n + 1) ds).length + 1 = ds.length + 1
    rw [enuOf_len]
theorem enuOf_get : ∀ (n : Nat) (ds : List D) (i : Nat) (d : D), (enuOf n ds)[i]? = some d → ∃ x, ds[i]? = some x ∧ d = .tup [.int ((n + i : Nat) : Int), x]
  | _, [], i, d, h => by simp [enuOf] at h
  | n, y :: ds, 0, d, h => by
    simp [enuOf] at h
    exact ⟨y, by simp, by rw [← h]; rfl⟩
  | n, y :: ds, i + 1, d, h => by
    have h' : (enuOf (n + 1) ds)[i]? = some d := by simpa [enuOf] using h
    obtain ⟨x, h1, h2⟩ := enuOf_get (n + 1) ds i d h'
    refine ⟨x, by simpa using h1, ?_⟩
    rw [h2]
    have e : n + 1 + i = n + (i + 1) := by omega
    rw [e]
def enuT : D → Option (List D)
  | .tup ds => some (enuOf 0 ds)
  | _ => none
def enuL : D → Option (List D)
  | .lst ds => some (enuOf 0 ds)
  | _ => none
section
variable {X : Cx} {S : Type} {B : Amb S} {a : Expr} {ma : ME S} {elts : List Expr} {kk : Nat} {tpos pos p : Pos}
theorem enu_item {K : PySem.W.Frag} {F H : Hp} {s : S} {T : Addr} {i : Nat} {x : V} {d y : D} {ds : List D} (o : Ok B F H s) (hT : H T = none) (hy : (enuOf 0 ds)[i]? = some y) (hd : ds[i]? = some d) (hx : Dv K B F d x) :
    ∃ F', Ev B F H F' (upd H T (.tup [.int (i : Nat), x])) s ∧ Dv K B F' y (.ref T) := by
  obtain ⟨d', h1, h2⟩ := enuOf_get 0 ds i y hy
  rw [hd] at h1
  cases h1
  subst h2
  refine ⟨_, Ev.new o _ hT, new_tup o hT ⟨_, _, rfl, ?_, DvL.one hx⟩⟩
  show V.int _ = V.int _
  rw [Nat.zero_add]
theorem i_enuT (hm : X.mg "enumerate" = none) (ha : PE X a (tD X.K B ma)) (hg : Gl X "enumerate" := by rfl) (hs1 : starEach [a] X.env = (false, eval a X.env) :: starEach [] X.env := by rfl) (hs2 : starEach [a] X.env = [(false, eval a X.env)] := by rfl) :
    PI X (.Tuple elts kk tpos) (.Call (.Name "enumerate" p) [a] [] pos) (tI X.K B (mIt enuT ma)) := pi_w (pi_bd (pi_enumT hg hm (pa_cons ha pa_nil hs1) hs2)) fun σ H R ⟨env, F, s, xs, s', E, o, hm, hq⟩ => by
  obtain ⟨x, e1, e2⟩ := it_un hm
  cases x with
  | tup ds =>
    cases e2
    refine ⟨env, F, s, .tup ds, s', E, o, e1, fun v F1 H1 v1 hx => ?_⟩
    obtain ⟨a, vs, ea, h2, h3⟩ := hx
    subst ea
    refine ⟨a, vs, rfl, sqT_ext v1.ok.sub h2, fun b1 b2 => hq _ F1 H1 v1 ⟨fun i F2 H2 s2 h4 o2 hi => ?_, fun i F2 H2 s2 y H3 d h4 o2 hy hd => ?_, fun i F2 H2 s2 h4 o2 hi => ?_⟩ (by rw [enuOf_len, ← h3.len]; exact b1 a vs (sqT_ext v1.ok.sub h2))⟩
    · rw [enuOf_len] at hi
      have hi' : i < vs.length := by rw [h3.len]; exact hi
      exact ⟨vs, vs[i], sqT_ext (h4.trans o2.sub) h2, by simp [hi']⟩
    · obtain ⟨T, z, e, hT, eH, q⟩ := hy
      subst e eH
      obtain ⟨d', hd', hv⟩ := h3.getV (q vs (sqT_ext (h4.trans o2.sub) h2))
      exact enu_item o2 hT hd hd' (hv.ext h4)
    · rw [enuOf_len] at hi
      exact ⟨vs, sqT_ext (h4.trans o2.sub) h2, by rw [h3.len]; exact hi⟩
  | _ => cases e2
theorem i_enuL (hm : X.mg "enumerate" = none) (ha : PE X a (tD X.K B ma)) (hg : Gl X "enumerate" := by rfl) (hs1 : starEach [a] X.env = (false, eval a X.env) :: starEach [] X.env := by rfl) (hs2 : starEach [a] X.env = [(false, eval a X.env)] := by rfl) :
    PI X (.Tuple elts kk tpos) (.Call (.Name "enumerate" p) [a] [] pos) (tI X.K B (mIt enuL ma)) := pi_w (pi_bd (pi_enum hg hm (pa_cons ha pa_nil hs1) hs2)) fun σ H R ⟨env, F, s, xs, s', E, o, hm, hq⟩ => by
  obtain ⟨x, e1, e2⟩ := it_un hm
  cases x with
  | lst ds =>
    cases e2
    refine ⟨env, F, s, .lst ds, s', E, o, e1, fun v F1 H1 v1 hx => ?_⟩
    obtain ⟨a, vs, ea, h2, h3⟩ := hx
    subst ea
    refine ⟨a, vs, rfl, SqL.of (v1.ok.sub a _ h2), fun b1 b2 => hq _ F1 H1 v1 ⟨fun i F2 H2 s2 h4 o2 hi => ?_, fun i F2 H2 s2 y H3 d h4 o2 hy hd => ?_, fun i F2 H2 s2 h4 o2 hi => ?_⟩ (by rw [enuOf_len, ← h3.len]; exact b2 a vs (SqL.of (v1.ok.sub a _ h2)))⟩
    · rw [enuOf_len] at hi
      have hi' : i < vs.length := by rw [h3.len]; exact hi
      exact ⟨vs, vs[i], SqL.of (o2.sub a _ (h4 a _ h2)), by simp [hi']⟩
    · obtain ⟨T, z, e, hT, eH, q⟩ := hy
      subst e eH
      obtain ⟨d', hd', hv⟩ := h3.getV (q vs (SqL.of (o2.sub a _ (h4 a _ h2))))
      exact enu_item o2 hT hd hd' (hv.ext h4)
    · rw [enuOf_len] at hi
      exact ⟨vs, SqL.of (o2.sub a _ (h4 a _ h2)), by rw [h3.len]; exact hi⟩
  | _ => cases e2
end
end Dl

set_option Elab.async false
set_option linter.all false
set_option maxRecDepth 100000
set_option maxHeartbeats 4000000
/-! D12: max, min of two; products; a comprehension given to a name. -/
namespace Dl
open PySem
open L2
theorem max_two_data {prog : Program} {w : World} {A : Around} {E : Value → Shared → Prop} {s : Shared} {a b : Value} {d e : PyData} {as bs : List Addr} {Q : Value → Shared → Prop} (hh : A.handled = none) (ra : Reads s.heap a d as) (rb : Reads s.heap b e bs)
    (ha : PySem.W.AlikeAll [d, e]) (hu : A.units + 1 + PyData.depthAll [d, e] < cLine) (h : ∀ h' tk, (∀ b o, s.heap.get? b = some o → h'.get? b = some o) → Q (if PySem.W.dataLt d e = true then b else a) { s with heap := h', toks := tk }) :
    wpAny (model prog w) A (call (.builtin "max") [a, b]) Q E s := by
  have hname : (toString "max" ++ toString ".loop" : String) = "max.loop" := by decide
  refine call_function_tree F.kind_max F.plain_max F.entry_max (F.args_max2 _ _) ?_
  show wpAny _ A.in1 (Builtin.Builtins.bindParams "max" ["key", "default"] 0 ⟨[], []⟩ >>= _) _ _ s
  refine wpAny_bind (wpAny_of_eq (show Builtin.Builtins.bindParams "max" ["key", "default"] 0 ⟨[], []⟩ = pure [none, none] from rfl) ?_)
  show wpAny _ A.in1 (newTuple [a, b] >>= _) _ _ s
  refine wpAny_bind (wpAny_newObj_type ?_)
  have k1 : ∀ c o, s.heap.get? c = some o → (s.heap.push { cls := .type "tuple", data := .seq #[a, b] }).get? c = some o := fun c o q => Heap.get?_push_of_some _ q
  have hT : (s.heap.push { cls := .type "tuple", data := .seq #[a, b] }).IsTuple s.heap.objs.size #[a, b] := ⟨_, Heap.get?_push_size _ rfl, rfl, 0, rfl⟩
  refine wpAny_bind ?_
  refine PySem.W.iter_tupleW (A := A.in1) (s := { s with heap := s.heap.push { cls := .type "tuple", data := .seq #[a, b] } }) hh hT fun s2 e2 W st hfp hw hk => ?_
  have hr : ReadsAll (s.heap.push { cls := .type "tuple", data := .seq #[a, b] }) (#[a, b] : Array Value).toList [d, e] (as ++ (bs ++ [])) :=
    .cons (PyProof.Rows.Reads.keeps k1 ra) (.cons (PyProof.Rows.Reads.keeps k1 rb) .nil)
  refine wpAny_bind (wpAny_newObj_type ?_)
  rw [hname]
  have hSf : s2.heap.objs.size ∉ [({ s with heap := s.heap.push { cls := .type "tuple", data := .seq #[a, b] } } : Shared).heap.objs.size, s.heap.objs.size] := fun hm => Nat.lt_irrefl _ (hfp _ hm)
  have hcmp := PySem.W.cmpIn_gt (prog := prog) (w := w) (A := A.in1) (s := { s with heap := s.heap.push { cls := .type "tuple", data := .seq #[a, b] } }) hr ha (by show A.units + 1 + _ < _; exact hu)
  refine wpAny_pure ⟨plainId_quiet F.plain_max_loop _, PySem.codeAny_max_loop_firstH W _ hw _ hcmp s2.heap.objs.size hSf (PySem.fresh_in hk) _ (by show 0 < 2; decide) (fun c o q => Heap.get?_push_of_some _ (hk c o q)) (W.frame 0 s2 _ s2.toks st (Nat.le_refl _) fun c _ o q => Heap.get?_push_of_some _ q) (Heap.get?_push_size _ rfl) fun v s' hP hm => ?_⟩
  have hm' := Moved.drop_new (tk := s2.toks) hm (Nat.le_refl _)
  obtain ⟨h', tk, es, hk2⟩ := PySem.W.moved_old e2 rfl hm'
  have z := h h' tk fun c o q => hk2 c o (k1 c o q)
  subst es
  have hv : v = if PySem.W.dataLt d e = true then b else a := by
    have hP' : (#[a, b] : Array Value)[argBest (fun i j => PySem.W.dataLt ([d, e].getD j .none) ([d, e].getD i .none)) 1]? = some v := hP
    cases q : PySem.W.dataLt d e with
    | true =>
      have e3 : argBest (fun i j => PySem.W.dataLt ([d, e].getD j .none) ([d, e].getD i .none)) 1 = 1 := by simp [argBest, q]
      rw [e3] at hP'
      simpa using hP'.symm
    | false =>
      have e3 : argBest (fun i j => PySem.W.dataLt ([d, e].getD j .none) ([d, e].getD i .none)) 1 = 0 := by simp [argBest, q]
      rw [e3] at hP'
      simpa using hP'.symm
  rw [hv]
  exact z
def twoOk (d e : PyData) : Bool := PySem.W.alike d d && PySem.W.alike d e && PySem.W.alike e d && PySem.W.alike e e && !isNone d && !isNone e && decide (PyData.depthAll [d, e] ≤ 62)
theorem twoOk_all {d e : PyData} (h : twoOk d e = true) : PySem.W.AlikeAll [d, e] ∧ PyData.depthAll [d, e] ≤ 62 := by
  unfold twoOk at h
  simp only [Bool.and_eq_true, decide_eq_true_eq, Bool.not_eq_true'] at h
  obtain ⟨⟨⟨⟨⟨⟨h1, h2⟩, h3⟩, h4⟩, h5⟩, h6⟩, h7⟩ := h
  refine ⟨⟨fun x hx y hy => ?_, fun x hx => ?_⟩, h7⟩
  · simp only [List.mem_cons, List.not_mem_nil, or_false] at hx hy
    rcases hx with rfl | rfl <;> rcases hy with rfl | rfl <;> assumption
  · simp only [List.mem_cons, List.not_mem_nil, or_false] at hx
    rcases hx with rfl | rfl
    · exact notNone h5
    · exact notNone h6
def rMaxA (K : PySem.W.Frag) : List V → Hp → VK → Prop := fun vs H Q => ∃ x y d e, vs = [x, y] ∧ Dp K H x d ∧ Dp K H y e ∧ twoOk d e = true ∧ Q (if PySem.W.dataLt d e = true then y else x) H
section
variable {X : Cx} {S : Type} {B : Amb S}
theorem call_maxA (hc : X.calm = true) (hu : X.A.units + 64 < cLine) : CallR X (.builtin "max") (rMaxA X.K) := by
  intro pins s σ H vs us Q I r h
  obtain ⟨x, y, d, e, rfl, hx, hy, ok, q⟩ := h
  obtain ⟨u, u', rfl, rx, ry⟩ := vals2 r
  obtain ⟨as, r1⟩ := Dp.reads I d x u hx rx
  obtain ⟨bs, r2⟩ := Dp.reads I e y u' hy ry
  obtain ⟨ha, hd⟩ := twoOk_all ok
  refine max_two_data (I.ok.hd hc) r1 r2 ha (by omega) fun h' tk k => ⟨_, H, I.kept k, ?_, q⟩
  split
  · exact ry
  · exact rx
def maxD : List D → Option D
  | [x, y] => match toPy x, toPy y with
    | some d, some e => if twoOk d e = true then some (if PySem.W.dataLt d e = true then y else x) else none
    | _, _ => none
  | _ => none
theorem maxD_ok {K : PySem.W.Frag} : CallD K B (rMaxA K) maxD := fun F H s ds dz vs Q o hv hf hq => by
  unfold maxD at hf
  split at hf
  · rename_i x y
    cases e1 : toPy x with
    | none => simp [e1] at hf
    | some d =>
      cases e2 : toPy y with
      | none => simp [e1, e2] at hf
      | some e =>
        simp only [e1, e2] at hf
        split at hf
        · rename_i c
          obtain ⟨v, u, rfl, hx, hy⟩ := two_of hv
          refine ⟨v, u, d, e, rfl, dp_of o.sub e1 hx, dp_of o.sub e2 hy, c, ?_⟩
          cases q : PySem.W.dataLt d e with
          | true =>
            rw [q, if_pos rfl] at hf
            cases hf
            rw [if_pos rfl]
            exact hq _ F H o.refl hy
          | false =>
            rw [q, if_neg Bool.false_ne_true] at hf
            cases hf
            rw [if_neg Bool.false_ne_true]
            exact hq _ F H o.refl hx
        · cases hf
  · cases hf
theorem s_setLc {i : Nat} {y : Str} {py : Pos} {elt tg iter : Expr} {ifs : List Expr} {scope : Scope} {own : List (Str × Nat)} {pos spos : Pos} {src : ML S} {g : TG} {gd : D → DE → Option DE} {is : List Nat} {c : MT S} {e : ME S} (hc : X.calm = true) (hN : X.N.Nodup) (hy : X.N[i]? = some y)
    (hyl : X.env.scope.names.lookup y = some .local) (hsw : swapsWith (.ListComp elt [⟨tg, iter, ifs, 0⟩] scope pos) (some (.Name y py)) spos.line X.env = pure true) (hi : PI X tg iter (tI X.K B src)) (ok : BlkOk X.N X.env.scope scope own)
    (hg : ∀ (s : Shared) (H : Hp) (C : Addr) (cl : List (Str × Addr)) (fp : List Addr), PG (X.blk s H scope (compEnvC scope cl C X.env) fp) tg g) (hgd : GD X.K B is g gd)
    (ht : ∀ (s : Shared) (H : Hp) (C : Addr) (cl : List (Str × Addr)) (fp : List Addr), PTs (X.blk s H scope (compEnvC scope cl C X.env) fp) ifs (tT X.K B c))
    (he : ∀ (s : Shared) (H : Hp) (C : Addr) (cl : List (Str × Addr)) (fp : List Addr), PE (X.blk s H scope (compEnvC scope cl C X.env) fp) elt (tD X.K B e))
    (his : ∀ i ∈ is, i ∈ own.map (·.2) := by decide) (hs : ∀ x, foldedSetIterable iter X.env x = pure x := by intro _; rfl) :
    PS X (.Assign [.Name y py] (.ListComp elt [⟨tg, iter, ifs, 0⟩] scope pos) spos) (tS X.K B (sAsg (gdName i) (mComp src gd c e (own.map (·.2))))) := ps_w (ps_setLc hc hN hy hyl hsw hi ok hg ht he hs) fun Dn σ H h => by
  have h2 := asg_D (g_name i) h
  exact comp_D hgd his h2
end
end Dl

set_option Elab.async false
set_option linter.all false
set_option maxRecDepth 100000
set_option maxHeartbeats 4000000
/-! D13: sorted(set(a list of rows of whole numbers)). -/
namespace Dl
open PySem
open L2
/-- rows of whole numbers in the order of words -/
def ltI : List Int → List Int → Bool
  | [], [] => false
  | [], _ :: _ => true
  | _ :: _, [] => false
  | x :: xs, y :: ys => if x < y then true else if y < x then false else ltI xs ys
def insU (x : List Int) : List (List Int) → List (List Int)
  | [] => [x]
  | y :: ys => if ltI x y then x :: y :: ys else if x = y then y :: ys else y :: insU x ys
def ssetI (l : List (List Int)) : List (List Int) := l.foldr insU []
theorem ltI_irr : ∀ a : List Int, ltI a a = false
  | [] => rfl
  | x :: xs => by
    unfold ltI
    rw [if_neg (by omega), if_neg (by omega)]
    exact ltI_irr xs
theorem ltI_code {b : Int} : ∀ {x y : List Int}, x.length = y.length → TS.Bd b x → TS.Bd b y → (ltI x y = true ↔ TS.code b x < TS.code b y)
  | [], [], _, _, _ => by
    constructor
    · intro h; exact absurd h Bool.false_ne_true
    · intro h; exact absurd h (Int.lt_irrefl _)
  | [], _ :: _, h, _, _ => by cases h
  | _ :: _, [], h, _, _ => by cases h
  | x :: xs, y :: ys, h, hx, hy => by
    have hl : xs.length = ys.length := by simpa using h
    unfold ltI
    by_cases c : x < y
    · rw [if_pos c]
      exact ⟨fun _ => TS.code_lt hl hx.tail hy.tail c, fun _ => rfl⟩
    · rw [if_neg c]
      by_cases k : y < x
      · rw [if_pos k]
        have z := TS.code_lt (B := b) hl.symm hy.tail hx.tail k
        exact ⟨fun h => absurd h Bool.false_ne_true, fun h => absurd (Int.lt_trans h z) (Int.lt_irrefl _)⟩
      · rw [if_neg k]
        have e : x = y := by omega
        subst e
        exact (ltI_code hl hx.tail hy.tail).trans (TS.code_same hl).symm
theorem ltI_tri : ∀ {x y : List Int}, ltI x y = false → x ≠ y → ltI y x = true
  | [], [], _, h => absurd rfl h
  | [], _ :: _, h, _ => by cases h
  | _ :: _, [], _, _ => rfl
  | x :: xs, y :: ys, h, hn => by
    unfold ltI at h ⊢
    by_cases c : x < y
    · rw [if_pos c] at h; cases h
    · rw [if_neg c] at h
      by_cases k : y < x
      · rw [if_pos k]
      · rw [if_neg k] at h ⊢
        have e : x = y := by omega
        subst e
        rw [if_neg k]
        exact ltI_tri h fun z => hn (by rw [z])
theorem ltI_asym : ∀ {x y : List Int}, ltI x y = true → ltI y x = false
  | [], [], h => by cases h
  | [], _ :: _, _ => rfl
  | _ :: _, [], h => by cases h
  | x :: xs, y :: ys, h => by
    unfold ltI at h ⊢
    by_cases c : x < y
    · rw [if_neg (by omega), if_pos c]
    · rw [if_neg c] at h
      by_cases k : y < x
      · rw [if_pos k] at h; cases h
      · rw [if_neg k] at h ⊢
        rw [if_neg c]
        exact ltI_asym h
theorem ltI_trans : ∀ {x y z : List Int}, ltI x y = true → ltI y z = true → ltI x z = true
  | [], [], _, h, _ => by cases h
  | _, _ :: _, [], _, h => by cases h
  | [], _ :: _, _ :: _, _, _ => rfl
  | _ :: _, [], _, h, _ => by cases h
  | x :: xs, y :: ys, z :: zs, h, k => by
    unfold ltI at h k ⊢
    by_cases c : x < y
    · by_cases c2 : y < z
      · rw [if_pos (by omega)]
      · rw [if_neg c2] at k
        by_cases c3 : z < y
        · rw [if_pos c3] at k; cases k
        · rw [if_pos (by omega)]
    · rw [if_neg c] at h
      by_cases c1 : y < x
      · rw [if_pos c1] at h; cases h
      · rw [if_neg c1] at h
        have e : x = y := by omega
        subst e
        by_cases c2 : x < z
        · rw [if_pos c2]
        · rw [if_neg c2] at k ⊢
          by_cases c3 : z < x
          · rw [if_pos c3] at k; cases k
          · rw [if_neg c3] at k ⊢
            exact ltI_trans h k
theorem mem_insU {x z : List Int} : ∀ {l : List (List Int)}, z ∈ insU x l ↔ z = x ∨ z ∈ l
  | [] => by simp [insU]
  | y :: ys => by
    unfold insU
    split
    · simp
    · split
      · rename_i e
        subst e
        simp
      · rw [List.mem_cons, mem_insU, List.mem_cons]
        constructor
        · rintro (h | h | h)
          · exact .inr (.inl h)
          · exact .inl h
          · exact .inr (.inr h)
        · rintro (h | h | h)
          · exact .inr (.inl h)
          · exact .inl h
          · exact .inr (.inr h)
theorem mem_ssetI {z : List Int} : ∀ {l : List (List Int)}, z ∈ ssetI l ↔ z ∈ l
  | [] => Iff.rfl
  | y :: ys => by
    show z ∈ insU y (ssetI ys) ↔ _
    rw [mem_insU, mem_ssetI, List.mem_cons]
theorem up_insU {x : List Int} : ∀ {l : List (List Int)}, l.Pairwise (fun a b => ltI a b = true) → (insU x l).Pairwise (fun a b => ltI a b = true)
  | [], _ => List.pairwise_singleton _ _
  | y :: ys, h => by
    unfold insU
    rw [List.pairwise_cons] at h
    split
    · rename_i c
      refine List.pairwise_cons.mpr ⟨fun z hz => ?_, List.pairwise_cons.mpr h⟩
      rcases List.mem_cons.mp hz with e | e
      · subst e; exact c
      · exact ltI_trans c (h.1 z e)
    · rename_i c
      split
      · exact List.pairwise_cons.mpr h
      · rename_i n
        refine List.pairwise_cons.mpr ⟨fun z hz => ?_, up_insU h.2⟩
        rcases mem_insU.mp hz with e | e
        · subst e
          exact ltI_tri (by simpa using c) n
        · exact h.1 z e
theorem up_ssetI : ∀ l : List (List Int), (ssetI l).Pairwise (fun a b => ltI a b = true)
  | [] => List.Pairwise.nil
  | _ :: ys => up_insU (up_ssetI ys)
theorem same_up : ∀ {a b : List (List Int)}, a.Pairwise (fun a b => ltI a b = true) → b.Pairwise (fun a b => ltI a b = true) → (∀ z, z ∈ a ↔ z ∈ b) → a = b
  | [], [], _, _, _ => rfl
  | [], y :: _, _, _, h => absurd ((h y).mpr (List.mem_cons_self ..)) (by simp)
  | x :: _, [], _, _, h => absurd ((h x).mp (List.mem_cons_self ..)) (by simp)
  | x :: xs, y :: ys, hx, hy, h => by
    rw [List.pairwise_cons] at hx hy
    have e : x = y := by
      rcases List.mem_cons.mp ((h x).mp (List.mem_cons_self ..)) with e | e
      · exact e
      · rcases List.mem_cons.mp ((h y).mpr (List.mem_cons_self ..)) with k | k
        · exact k.symm
        · have z1 := hy.1 x e
          have z2 := ltI_asym (hx.1 y k)
          rw [z2] at z1
          cases z1
    subst e
    refine congrArg (x :: ·) (same_up hx.2 hy.2 fun z => ⟨fun k => ?_, fun k => ?_⟩)
    · rcases List.mem_cons.mp ((h z).mp (List.mem_cons_of_mem _ k)) with e | e
      · subst e
        have q := hx.1 z k
        rw [ltI_irr] at q
        cases q
      · exact e
    · rcases List.mem_cons.mp ((h z).mpr (List.mem_cons_of_mem _ k)) with e | e
      · subst e
        have q := hy.1 z k
        rw [ltI_irr] at q
        cases q
      · exact e
/-- what the set's rows, put in order, are -/
theorem sset_is {b : Int} {d : Nat} {L' ks : List (Addr × List Int)} (h1 : ∀ p ∈ L', p ∈ ks) (h2 : ∀ p ∈ ks, p.2 ∈ L'.map (·.2)) (hb : ∀ p ∈ ks, p.2.length = d ∧ TS.Bd b p.2) (nd : (L'.map (·.2)).Nodup)
    (pw : L'.Pairwise fun q r => TS.code b q.2 ≤ TS.code b r.2) : L'.map (·.2) = ssetI (ks.map (·.2)) := by
  refine same_up ?_ (up_ssetI _) fun z => ?_
  · have pw2 : (L'.map (·.2)).Pairwise fun q r => TS.code b q ≤ TS.code b r := List.pairwise_map.mpr pw
    refine List.Pairwise.imp_of_mem ?_ (pw2.and nd)
    intro q r hq hr ⟨hc, hn⟩
    obtain ⟨p, hp, ep⟩ := List.mem_map.mp hq
    obtain ⟨p', hp', ep'⟩ := List.mem_map.mp hr
    have b1 := hb p (h1 p hp)
    have b2 := hb p' (h1 p' hp')
    rw [ep] at b1
    rw [ep'] at b2
    cases c : ltI q r with
    | true => rfl
    | false =>
      have k := ltI_tri c hn
      rw [ltI_code (b2.1.trans b1.1.symm) b2.2 b1.2] at k
      omega
  · rw [mem_ssetI]
    constructor
    · intro h
      obtain ⟨p, hp, e⟩ := List.mem_map.mp h
      exact List.mem_map.mpr ⟨p, h1 p hp, e⟩
    · intro h
      obtain ⟨p, hp, e⟩ := List.mem_map.mp h
      rw [← e]
      exact h2 p hp
/-- the row's numbers -/
def numsOf : List D → Option (List Int)
  | [] => some []
  | .int i :: ds => (numsOf ds).map (i :: ·)
  | _ :: _ => none
def rowOf : D → Option (List Int)
  | .tup ds => numsOf ds
  | _ => none
def rowsOf : List D → Option (List (List Int))
  | [] => some []
  | d :: ds => (rowOf d).bind fun r => (rowsOf ds).map (r :: ·)
theorem numsOf_eq : ∀ {ds : List D} {ns : List Int}, numsOf ds = some ns → ds = ns.map D.int
  | [], ns, h => by
    cases h
    rfl
  | d :: ds, ns, h => by
    cases d with
    | int i =>
      unfold numsOf at h
      cases e : numsOf ds with
      | none => simp [e] at h
      | some r =>
        simp [e] at h
        subst h
        rw [List.map_cons, ← numsOf_eq e]
    | _ => simp [numsOf] at h
theorem rowsOf_eq : ∀ {ds : List D} {rs : List (List Int)}, rowsOf ds = some rs → ds = rs.map fun r => D.tup (r.map D.int)
  | [], rs, h => by
    cases h
    rfl
  | d :: ds, rs, h => by
    unfold rowsOf at h
    cases e : rowOf d with
    | none => simp [e] at h
    | some r =>
      cases e2 : rowsOf ds with
      | none => simp [e, e2] at h
      | some q =>
        simp [e, e2] at h
        subst h
        rw [List.map_cons, ← rowsOf_eq e2]
        cases d with
        | tup x =>
          rw [numsOf_eq (show numsOf x = some r from e)]
        | _ => simp [rowOf] at e
def topI : Int := 1099511627776
def ssOk (rs : List (List Int)) : Bool := decide (rs.length < 64) && match rs with
  | [] => false
  | r :: _ => decide (1 ≤ r.length) && rs.all fun q => decide (q.length = r.length) && q.all fun i => decide (0 ≤ i) && decide (i < topI)
def ssetD : List D → Option D
  | [.lst ds] => match rowsOf ds with
    | some rs => if ssOk rs then some (.lst ((ssetI rs).map fun r => .tup (r.map .int))) else none
    | none => none
  | _ => none
theorem ssOk_all {rs : List (List Int)} (h : ssOk rs = true) : rs.length < 64 ∧ ∃ d, 1 ≤ d ∧ ∀ q ∈ rs, q.length = d ∧ TS.Bd topI q := by
  unfold ssOk at h
  rw [Bool.and_eq_true, decide_eq_true_eq] at h
  refine ⟨h.1, ?_⟩
  have h2 := h.2
  cases rs with
  | nil => cases h2
  | cons r rs =>
    simp only [Bool.and_eq_true, decide_eq_true_eq, List.all_eq_true] at h2
    refine ⟨r.length, h2.1, fun q hq => ?_⟩
    obtain ⟨z1, z2⟩ := h2.2 q hq
    exact ⟨z1, fun m hm => z2 m hm⟩
section
variable {K : PySem.W.Frag} {S : Type} {B : Amb S} {F : Hp}
/-- the rows' places -/
theorem rows_at : ∀ {rs : List (List Int)} {vs : List V}, DvL K B F (rs.map fun r => D.tup (r.map D.int)) vs → ∃ ks : List (Addr × List Int), ks.map (·.2) = rs ∧ vs = ks.map (fun p => V.ref p.1) ∧ ∀ p ∈ ks, SqT K F p.1 (p.2.map V.int)
  | [], vs, h => by
    cases (show vs = [] from h)
    exact ⟨[], rfl, rfl, fun _ h => by cases h⟩
  | r :: rs, vs, h => by
    obtain ⟨v, q, e, h1, h2⟩ := h
    subst e
    obtain ⟨ks, e1, e2, e3⟩ := rows_at h2
    obtain ⟨a, us, ea, s1, s2⟩ := h1
    subst ea
    rw [DvL.ints s2] at s1
    refine ⟨(a, r) :: ks, by rw [List.map_cons, e1], by rw [List.map_cons, e2], fun p hp => ?_⟩
    rcases List.mem_cons.mp hp with e | e
    · subst e; exact s1
    · exact e3 p e
theorem rows_back : ∀ {ks : List (Addr × List Int)}, (∀ p ∈ ks, SqT K F p.1 (p.2.map V.int)) → DvL K B F ((ks.map (·.2)).map fun r => D.tup (r.map D.int)) (ks.map fun p => V.ref p.1)
  | [], _ => rfl
  | p :: ks, h => ⟨_, _, rfl, ⟨p.1, _, rfl, h p (List.mem_cons_self ..), DvL.of_ints⟩, rows_back fun q hq => h q (List.mem_cons_of_mem _ hq)⟩
end
section
variable {X : Cx} {S : Type} {B : Amb S} {a : Expr} {ml : ML S} {pos pos2 p1 p2 : Pos}
theorem d_sset (hc : X.calm = true) (hu : X.A.units + 64 < cLine) (hs : X.mg "sorted" = none) (ht : X.mg "set" = none) (ha : PA X [a] (tL X.K B ml)) (hg : Gl X "sorted" := by rfl) (hg2 : Gl X "set" := by rfl)
    (he : starEach [a] X.env = (false, eval a X.env) :: starEach [] X.env := by rfl)
    (he2 : starEach [Expr.Call (.Name "set" p2) [a] [] pos2] X.env = (false, eval (Expr.Call (.Name "set" p2) [a] [] pos2) X.env) :: starEach [] X.env := by rfl) :
    PE X (.Call (.Name "sorted" p1) [.Call (.Name "set" p2) [a] [] pos2] [] pos) (tD X.K B (mF ssetD ml)) :=
  pe_w (pe_callB (cr_sortedT hc) hg hs (by decide +kernel) (pa_cons (pe_callTy (cr_setOfT hc hu) hg2 ht (by decide +kernel) ha (he := he)) pa_nil he2) (he := he2)) fun σ H Q ⟨env, F, s, d, s', E, o, hm, hq⟩ => by
    obtain ⟨ds, e1, e2⟩ := f_un hm
    refine ⟨env, F, s, ds, s', E, o, e1, fun vs F1 H1 v1 hv => ?_⟩
    unfold ssetD at e2
    split at e2
    · rename_i x
      cases e3 : rowsOf x with
      | none => rw [e3] at e2; cases e2
      | some rs =>
        rw [e3] at e2
        dsimp only at e2
        split at e2
        · rename_i hok
          cases e2
          obtain ⟨h64, dd, hd, hB⟩ := ssOk_all hok
          rw [rowsOf_eq e3] at hv
          obtain ⟨v, rfl, hv2⟩ := one_of hv
          obtain ⟨l, us, rfl, hl, hv3⟩ := hv2
          obtain ⟨ks, ek, eu, hk⟩ := rows_at hv3
          subst eu ek
          rw [List.length_map] at h64
          refine ⟨l, ks, rfl, .inl (.inl (v1.ok.sub _ _ hl)), fun p hp => sqT_ext v1.ok.sub (hk p hp), h64, fun b L hb hL1 hL2 => ?_⟩
          have v2 := Ev.newO v1.ok (SetTO X.prog X.w b L) hb
          refine ⟨b, L, dd, topI, rfl, upd_same, fun p hp => sqT_ext v2.ok.sub (hk p (hL1 p hp)), hd, fun p hp => hB p.2 (List.mem_map_of_mem (hL1 p hp)), fun L' q hP hN h64' hS hq2 => ?_⟩
          have hin : ∀ p ∈ L', p ∈ ks := fun p hp => hL1 p (hP.mem_iff.mp hp)
          have e5 : L'.map (·.2) = ssetI (ks.map (·.2)) := by
            refine sset_is (d := dd) (b := topI) hin (fun p hp => ?_) (fun p hp => hB p.2 (List.mem_map_of_mem hp)) hN hS
            obtain ⟨r, hr, er⟩ := List.mem_map.mp (hL2 p hp)
            rw [← er]
            exact List.mem_map_of_mem (hP.mem_iff.mpr hr)
          refine hq _ _ _ ((v1.trans v2).trans (Ev.new v2.ok _ hq2)) ?_
          rw [← e5]
          exact new_lst v2.ok hq2 (rows_back fun p hp => hk p (hin p hp))
        · cases e2
    · cases e2
end
end Dl

set_option Elab.async false
set_option linter.all false
set_option maxRecDepth 100000
set_option maxHeartbeats 4000000
/-! D14: the words of the hand; the script. -/
namespace Dl
open PySem
open L2
def isH (env : DE) (i : Nat) : Bool := match env[i]? with
  | some (some (.dat .hnd)) => true
  | _ => false
theorem isH_eq {env : DE} {i : Nat} (h : isH env i = true) : env[i]? = some (some (.dat .hnd)) := by
  unfold isH at h
  split at h
  · assumption
  · cases h
def hget (h : Hand) : Int → Option Int
  | 1 => some h.pos
  | 2 => some h.great
  | 3 => some h.seed
  | 4 => some h.turn
  | _ => none
def hset (h : Hand) (k z : Int) : Option Hand :=
  if k = 1 then (if 0 ≤ z then some { h with pos := z.toNat } else none)
  else if k = 2 then some { h with great := z }
  else if k = 3 then some { h with seed := z }
  else if k = 4 then some { h with turn := z }
  else none
def mHx (i : Nat) (k : Int) : ME Hand := fun env h => if isH env i = true then (hget h k).map fun z => (.int z, h) else none
def mHlen (i : Nat) : ME Hand := fun env h => if isH env i = true then some (.int h.cells.length, h) else none
def mHcell (i : Nat) (e : ME Hand) : ME Hand := fun env h => if isH env i = true then (e env h).bind fun p => (intOf p.1).bind fun z => (atI p.2.cells z).map fun n => (.int n, p.2) else none
def sHput (i : Nat) (k : Int) (e : ME Hand) : MS Hand := fun env h => if isH env i = true then (e env h).bind fun p => (intOf p.1).bind fun z => (hset p.2 k z).map fun h' => .nx env h' else none
section
variable {p c : Addr} {F H : Hp} {h h' : Hand} {k z : Int}
theorem hset_at (e : hset h k z = some h') : ∃ j, ixN 5 k = some j ∧ handL c h' = (handL c h).set j (.int z) := by
  unfold hset at e
  split at e
  · rename_i e1
    subst e1
    split at e
    · rename_i h0
      cases e
      refine ⟨1, by decide, ?_⟩
      show [V.ref c, V.int ((z.toNat : Nat) : Int), V.int h.great, V.int h.seed, V.int h.turn] = [V.ref c, V.int z, V.int h.great, V.int h.seed, V.int h.turn]
      rw [show ((z.toNat : Nat) : Int) = z by omega]
    · cases e
  · split at e
    · rename_i e1
      subst e1
      cases e
      exact ⟨2, by decide, rfl⟩
    · split at e
      · rename_i e1
        subst e1
        cases e
        exact ⟨3, by decide, rfl⟩
      · split at e
        · rename_i e1
          subst e1
          cases e
          exact ⟨4, by decide, rfl⟩
        · cases e
theorem hset_cells (e : hset h k z = some h') : h'.cells = h.cells := by
  unfold hset at e
  repeat' split at e
  all_goals first
    | (cases e; rfl)
    | cases e
theorem hand_put (o : Ok (HandB p c) F H h) {j : Nat} (e : hset h k z = some h') (ej : handL c h' = (handL c h).set j (.int z)) : Ev (HandB p c) F H F (upd H p (.lst ((handL c h).set j (.int z)))) h' := by
  have hp : F p = none := o.ap p (.inl rfl)
  refine ⟨fun _ _ => rfl, fun q x hx hn => ?_, ⟨fun q x hx => ?_, o.ap, ?_⟩⟩
  · rw [upd_ne (fun z => hn (.inl z))]
    exact hx
  · have hq : q ≠ p := fun z => by
      subst z
      rw [hp] at hx
      cases hx
    rw [upd_ne hq]
    exact o.sub q x hx
  · obtain ⟨a1, a2, a3⟩ := o.am
    refine ⟨a1, ?_, ?_⟩
    · rw [upd_same, ej]
    · rw [upd_ne (fun z => a1 z.symm), hset_cells e]
      exact a3
theorem hget_at (e : hget h k = some z) : atI (handL c h) k = some (.int z) := by
  unfold hget at e
  split at e
  · cases e; rfl
  · cases e; rfl
  · cases e; rfl
  · cases e; rfl
  · cases e
theorem atI_ints {l : List Int} {n : Int} (e : atI l z = some n) : atI (l.map V.int) z = some (.int n) := by
  unfold atI at e ⊢
  rw [List.length_map]
  revert e
  generalize ixN l.length z = q
  intro e
  cases q with
  | none => cases e
  | some j =>
    have e' : l[j]? = some n := e
    show (l.map V.int)[j]? = some (V.int n)
    rw [List.getElem?_map, e']
    rfl
end
section
variable {X : Cx} {p c : Addr} {a b e : Expr} {pos p1 p2 pos2 : Pos} {i : Nat} {mb : ME Hand}
theorem hnd_at {K : PySem.W.Frag} {F H : Hp} {σ : L2.St} {env : DE} (E : EnvOk K (HandB p c) F H σ env) (h : isH env i = true) : σ[i]? = some (some (.ref p)) := by
  obtain ⟨v, h1, h2⟩ := E.dat i _ (isH_eq h)
  rw [show v = V.ref p from h2] at h1
  exact h1
theorem d_hx {k : Int} {j} (ho : PE X a (tVar i)) (hs : PlainIx (.Constant (.int k) j p1) := by exact fun _ _ => rfl) : PE X (.Subscript a (.Constant (.int k) j p1) pos) (tD X.K (HandB p c) (mHx i k)) := pe_w (pe_ix ix_list ho pe_int hs) fun σ H Q ⟨env, F, s, d, s', E, o, hm, hq⟩ => by
  unfold mHx at hm
  split at hm
  · rename_i hh
    cases e1 : hget s k with
    | none => rw [e1] at hm; cases hm
    | some z =>
      rw [e1] at hm
      cases hm
      exact ⟨.ref p, hnd_at E hh, p, _, k, .int z, rfl, rfl, SqL.of o.am.2.1, hget_at e1, hq _ F H o.refl rfl⟩
  · cases hm
theorem d_hlen {j} (hm : X.mg "len" = none) (ho : PE X a (tVar i)) (hs : PlainIx (.Constant (.int 0) j p1) := by exact fun _ _ => rfl) (hv : bootBuiltins "len" = some (.builtin "len") := by decide +kernel) (hg : Gl X "len" := by rfl)
    (he : starEach (Expr.Subscript a (.Constant (.int 0) j p1) p2 :: []) X.env = (false, eval (Expr.Subscript a (.Constant (.int 0) j p1) p2) X.env) :: starEach [] X.env := by rfl) (hpl : (backTo pos (starEach [] X.env)).any (·.1) = false := by rfl) :
    PE X (.Call (.Name "len" pos2) [.Subscript a (.Constant (.int 0) j p1) p2] [] pos) (tD X.K (HandB p c) (mHlen i)) :=
  pe_w (pe_callB call_len hg hm hv (pa_cons (pe_ix ix_list ho pe_int hs) pa_nil he) (by decide) (by decide) he hpl) fun σ H Q ⟨env, F, s, d, s', E, o, hm, hq⟩ => by
    unfold mHlen at hm
    split at hm
    · rename_i hh
      cases hm
      refine ⟨.ref p, hnd_at E hh, p, _, 0, .ref c, rfl, rfl, SqL.of o.am.2.1, rfl, .ref c, _, rfl, .inl ⟨_, SqL.of o.am.2.2, rfl⟩, ?_⟩
      rw [List.length_map]
      exact hq _ F H o.refl rfl
    · cases hm
theorem d_hcell {j} (ho : PE X a (tVar i)) (hb : PE X b (tD X.K (HandB p c) mb)) (hs : PlainIx (.Constant (.int 0) j p1) := by exact fun _ _ => rfl) (hs2 : PlainIx b := by exact fun _ _ => rfl) :
    PE X (.Subscript (.Subscript a (.Constant (.int 0) j p1) p2) b pos) (tD X.K (HandB p c) (mHcell i mb)) :=
  pe_w (pe_ix ix_list (pe_ix ix_list ho pe_int hs) hb hs2) fun σ H Q ⟨env, F, s, d, s', E, o, hm, hq⟩ => by
    unfold mHcell at hm
    split at hm
    · rename_i hh
      cases e1 : mb env s with
      | none => simp [e1] at hm
      | some w =>
        obtain ⟨dk, s1⟩ := w
        simp only [e1, Option.bind_some] at hm
        cases e5 : intOf dk with
        | none => simp [e5] at hm
        | some z =>
          have hz := intOf_eq e5
          subst hz
          simp only [e5, Option.bind_some] at hm
          cases e6 : atI s1.cells z with
          | none => simp [e6] at hm
          | some n =>
            simp only [e6, Option.map_some, Option.some.injEq, Prod.mk.injEq] at hm
            obtain ⟨rfl, rfl⟩ := hm
            refine ⟨.ref p, hnd_at E hh, p, _, 0, .ref c, rfl, rfl, SqL.of o.am.2.1, rfl, env, F, s, _, s1, E, o, e1, fun v F1 H1 v1 hv => ?_⟩
            exact ⟨c, _, z, .int n, rfl, hv, SqL.of v1.ok.am.2.2, atI_ints e6, hq _ F1 H1 v1 rfl⟩
    · cases hm
theorem s_hput {o v : Expr} {k : Int} {j} {mv : ME Hand} (ho : PE X o (tVar i)) (hv : PE X v (tD X.K (HandB p c) mv))
    (hg : ∀ {to ti : TE}, PE X o to → PE X (.Constant (.int k) j p1) ti → PG X (.Subscript o (.Constant (.int k) j p1) p2) (gSub to ti rSetL)) (hs : swapsWithSole [.Subscript o (.Constant (.int k) j p1) p2] v pos.line X.env = pure false := by rfl)
    (hw : swappedStores [.Subscript o (.Constant (.int k) j p1) p2] v X.env = pure none := by rfl)
    (h1 : (assignEach [.Subscript o (.Constant (.int k) j p1) p2] X.env).map (·.2) = [assign (.Subscript o (.Constant (.int k) j p1) p2) X.env] := by rfl) : PS X (.Assign [.Subscript o (.Constant (.int k) j p1) p2] v pos) (tS X.K (HandB p c) (sHput i k mv)) :=
  ps_w (ps_asg hv (hg ho pe_int) hs hw h1) fun Dn σ H ⟨env, F, s, out, E, o, hm, hq⟩ => by
    unfold sHput at hm
    split at hm
    · rename_i hh
      cases e1 : mv env s with
      | none => simp [e1] at hm
      | some w =>
        obtain ⟨dk, s1⟩ := w
        simp only [e1, Option.bind_some] at hm
        cases e5 : intOf dk with
        | none => simp [e5] at hm
        | some z =>
          have hz := intOf_eq e5
          subst hz
          simp only [e5, Option.bind_some] at hm
          cases e6 : hset s1 k z with
          | none => simp [e6] at hm
          | some h' =>
            simp only [e6, Option.map_some, Option.some.injEq] at hm
            subst hm
            refine ⟨env, F, s, _, s1, E, o, e1, fun vv F1 H1 v1 hd => ?_⟩
            obtain ⟨jj, k1, k2⟩ := hset_at (c := c) e6
            refine ⟨.ref p, hnd_at E hh, p, handL c s1, k, jj, rfl, rfl, v1.ok.am.2.1, k1, ?_⟩
            have v2 := hand_put v1.ok e6 k2
            rw [show vv = V.int z from hd]
            exact hq σ F1 _ (E.step o (v1.trans v2)) (Sv.of E (v1.trans v2))
    · cases hm
end
/-! the script -/
def ScrB (K : PySem.W.Frag) (a : Addr) (b : Prop) : Amb (List Int) where
  at' := fun l H => (b ∧ Rd H a (.lst (l.map V.int))) ∨ (¬ b ∧ ∀ H', SqL K H' a (l.map V.int))
  own := fun q => q = a ∧ b
  hA := a
  there := fun s H q h ho => by
    rcases h with h | h
    · rw [ho.1]
      rcases h.2 with h | ⟨o, h⟩
      · rw [h]; exact fun z => nomatch z
      · rw [h]; exact fun z => nomatch z
    · exact absurd ho.2 h.1
  stay := fun s H H' h k => by
    rcases h with h | h
    · refine .inl ⟨h.1, ?_⟩
      rcases h.2 with q | ⟨o, q⟩
      · exact .inl (k a _ ⟨rfl, h.1⟩ q)
      · exact .inr ⟨o, k a _ ⟨rfl, h.1⟩ q⟩
    · exact .inr h
theorem scr_at {K : PySem.W.Frag} {a : Addr} {b : Prop} {l : List Int} {H : Hp} (h : (ScrB K a b).at' l H) : SqL K H a (l.map V.int) := by
  rcases h with h | h
  · exact .inl h.2
  · exact h.2 H
theorem scr_of {K : PySem.W.Frag} {a : Addr} {l : List Int} {H : Hp} (h : SqL K H a (l.map V.int)) : ∃ b, (ScrB K a b).at' l H := by
  rcases h with h | h
  · exact ⟨True, .inl ⟨trivial, h⟩⟩
  · exact ⟨False, .inr ⟨fun z => z, fun H' => .inr h⟩⟩
def mScr (i : Nat) (n : Nat) : ME (List Int) := fun env s => if isH env i = true then some (.lst (cutD (s.map .int) none (some (n : Int))), s) else none
section
variable {X : Cx} {a : Addr} {bp : Prop} {e : Expr} {pos p1 p2 : Pos} {i : Nat}
theorem d_scr {n : Nat} {j} (ho : PE X e (tVar i)) : PE X (.Subscript e (.Slice none (some (.Constant (.int n) j p1)) none p2) pos) (tD X.K (ScrB X.K a bp) (mScr i n)) :=
  pe_w (pe_slice sl_list ho po_none (po_some pe_int)) fun σ H Q ⟨env, F, s, d, s', E, o, hm, hq⟩ => by
    unfold mScr at hm
    split at hm
    · rename_i hh
      cases hm
      obtain ⟨v, h1, h2⟩ := E.dat i _ (isH_eq hh)
      rw [show v = V.ref a from h2] at h1
      refine ⟨.ref a, h1, n, rfl, a, _, rfl, scr_at o.am, fun q hp => ?_⟩
      exact hq _ _ _ (Ev.new o _ hp) (new_lst o hp (cut_dv DvL.of_ints none (some (n : Int))))
    · cases hm
end
end Dl

set_option Elab.async false
set_option linter.all false
set_option maxRecDepth 100000
set_option maxHeartbeats 4000000
/-! D15: the law's entry. -/
namespace Dl
open PySem
open L2
def spLaw (K : PySem.W.Frag) : Sp := fun vs H Q _ => ∃ (a : Addr) (ns : List Int), vs = [V.ref a] ∧ SqL K H a (ns.map V.int) ∧ ns.length ≤ 63 ∧ ∀ H', Q (.bl true) H'
def handD (cells : List Int) (k : Int) : D := .lst [.lst (cells.map .int), .int 0, .int 0, .int k, .int 0]
def hand0 (cells : List Int) (k : Int) : Hand := ⟨cells, 0, 0, k, 0⟩
def startH (n i : Nat) : DE := (List.replicate n none).set i (some (.dat .hnd))
def LawOk (n i : Nat) (m : MS Hand) (fh : List D → List Int → Option (D × List Int)) : Prop :=
  ∀ ns : List Int, ns.length ≤ 63 → ∃ cells k s', fh [.hnd] ns = some (handD cells k, ns) ∧ m (startH n i) (hand0 cells k) = some (.rt (.bl true) s')
theorem startH_get {n i j : Nat} {d : Slot} (h : (startH n i)[j]? = some (some d)) : j = i ∧ d = .dat .hnd := by
  unfold startH at h
  by_cases e : i = j
  · subst e
    by_cases hl : i < n
    · rw [List.getElem?_set_self (by simpa using hl)] at h
      cases h
      exact ⟨rfl, rfl⟩
    · rw [List.getElem?_eq_none (by simpa using Nat.le_of_not_lt hl)] at h
      cases h
  · rw [List.getElem?_set_ne e, List.getElem?_replicate] at h
    split at h
    · cases h
    · cases h
/-- what the hand's list shows -/
theorem hand_dv {K : PySem.W.Frag} {S : Type} {B : Amb S} {F : Hp} {cells : List Int} {k : Int} {v : V} (h : Dv K B F (handD cells k) v) : ∃ p c, v = .ref p ∧ p ≠ c ∧ F p = some (.lst (handL c (hand0 cells k))) ∧ F c = some (.lst (cells.map V.int)) := by
  obtain ⟨p, vs, rfl, h1, v0, r0, rfl, h2, h3⟩ := h
  obtain ⟨c, us, rfl, h4, h5⟩ := h2
  have h3' : DvL K B F ([0, 0, k, 0].map D.int) r0 := h3
  rw [DvL.ints h3'] at h1
  rw [DvL.ints h5] at h4
  refine ⟨p, c, rfl, fun e => ?_, h1, h4⟩
  subst e
  rw [h1] at h4
  have e := congrArg (fun o => match o with
    | some (HO.lst (x :: _)) => some x
    | _ => none) h4
  cases cells with
  | nil => cases e
  | cons n ns => cases e
theorem pss_ex {X : Cx} {sts : List Stmt} {t : Addr → Addr → TS} (h : ∀ p c, PSs X sts (t p c)) : PSs X sts (fun Dn σ H => ∃ p c, t p c Dn σ H) := ⟨fun pins s σ H Dn I ⟨p, c, hw⟩ => (h p c).run pins s σ H Dn I hw⟩
section
variable {P : Program} {w : World} {K : PySem.W.Frag} {mg : Str → Option Value} {base : Heap}
theorem law_fn {x qual : Str} {st : Stmt} {f : Addr} {fd : FuncData} {N : List Str} {y : Str} {k : Nat} {i : Nat} {m : MS Hand} {fh : List D → List Int → Option (D × List Int)} {st1 : Stmt} {rest : List Stmt} (Fn : FunD K x qual (defArgs st) (defBody st) (defScope st) [] [] f fd)
    (S : FnScope N [y] (defScope st)) (hi : i < N.length) (h0 : 0 < i) (hl : LawOk N.length i m fh) (hB : defBody st = st1 :: rest)
    (h1 : ∀ (a : Addr) (bp : Prop) (cdv : Value) (A : Around) (outer : List Env) (s : Shared) (H : Hp) (E : XK), Room k (A.deeper (PyProof.Rows.envOfC qual (defScope st) s.heap.objs.size f cdv)) →
      PS (cxOf CX0 P w K mg base N qual (defScope st) f cdv A outer s H E).nox st1 (tS K (ScrB K a bp) (sAsg (gdName i) (mCall fh (mCons (mVar 0) mNil)))))
    (h2 : ∀ (p c : Addr) (cdv : Value) (A : Around) (outer : List Env) (s : Shared) (H : Hp) (E : XK), Room k (A.deeper (PyProof.Rows.envOfC qual (defScope st) s.heap.objs.size f cdv)) →
      PSs (cxOf CX0 P w K mg base N qual (defScope st) f cdv A outer s H E).nox rest (tS K (HandB p c) m)) : FnOk P w K mg base CX0 (k + 1) f fd [y] (spLaw K) := by
  refine Fn.ok S (fun vs H Q E ⟨a, ns, e, _⟩ => by rw [e]; rfl) fun cdv A outer s H vs Q E hr ⟨a, ns, e, hs, hz, hq⟩ => ?_
  subst e
  obtain ⟨bp, hb⟩ := scr_of hs
  refine ⟨_, by rw [hB]; exact PSs.nox (pss_cons (h1 a bp cdv A outer s H E hr) (pss_ex fun p c => h2 p c cdv A outer s H E hr)), ?_⟩
  obtain ⟨cells, kk, s', e1, e2⟩ := hl ns hz
  have hv : DvL K (ScrB K a bp) (fun _ => none) [D.hnd] [V.ref a] := DvL.one rfl
  obtain ⟨E0, o0⟩ := start_ok (H := H) (N := N) hv
  have O : Ok (ScrB K a bp) (fun _ => none) H ns := ⟨(fun _ _ h => by cases h), fun _ _ => rfl, hb⟩
  have hn : 0 < N.length := Nat.lt_of_le_of_lt (Nat.zero_le _) hi
  have hst : (startE N.length [D.hnd])[0]? = some (some (.dat .hnd)) := by
    unfold startE
    rfl
  have hm1 : sAsg (gdName i) (mCall fh (mCons (mVar 0) mNil)) (startE N.length [D.hnd]) ns = some (.nx ((startE N.length [D.hnd]).set i (some (.dat (handD cells kk)))) ns) := by
    have a1 : mCons (mVar 0) mNil (startE N.length [D.hnd]) ns = some ([D.hnd], ns) := by
      simp [mCons, mVar, mNil, hst]
    have a2 : mCall fh (mCons (mVar 0) mNil) (startE N.length [D.hnd]) ns = some (handD cells kk, ns) := by
      unfold mCall
      rw [a1]
      exact e1
    unfold sAsg
    rw [a2]
    rfl
  refine ⟨_, _, ns, _, E0, O, hm1, fun σ' F' H' E' v => ?_⟩
  have hli : i < (startE N.length [D.hnd]).length := by
    have : (startE N.length [D.hnd]).length = N.length := by
      unfold startE
      simp
      omega
    omega
  obtain ⟨u, g1, g2⟩ := E'.dat i (handD cells kk) (List.getElem?_set_self hli)
  obtain ⟨p, c, rfl, g3, g4, g5⟩ := hand_dv g2
  refine ⟨p, c, startH N.length i, fun _ => none, hand0 cells kk, _, ⟨?_, fun j d q => ?_, fun j xs q => ?_, fun j j2 xs ys b q _ _ _ => ?_⟩, ⟨(fun _ _ h => by cases h), fun _ _ => rfl, g3, v.ok.sub _ _ g4, v.ok.sub _ _ g5⟩, e2, fun u F2 H2 own' w2 hd => ?_⟩
  · rw [E'.len, List.length_set]
    unfold startH startE
    simp
    omega
  · obtain ⟨e, e'⟩ := startH_get q
    subst e
    cases e'
    exact ⟨_, g1, rfl⟩
  · obtain ⟨e, e'⟩ := startH_get q
    cases e'
  · obtain ⟨e, e'⟩ := startH_get q
    cases e'
  · rw [show u = V.bl true from hd]
    exact hq H2
end
end Dl

set_option Elab.async false
set_option linter.all false
set_option maxRecDepth 100000
set_option maxHeartbeats 4000000
/-! D16: texts; in. -/
namespace Dl
open PySem
open L2
section
variable {K : PySem.W.Frag} {S : Type} {B : Amb S}
theorem dvl_strs {F : Hp} : ∀ {ns : List Str}, DvL K B F (ns.map D.str) (ns.map V.str)
  | [] => rfl
  | n :: ns => ⟨_, _, rfl, rfl, dvl_strs⟩
def slS : D → Option Int → Option Int → Option D
  | .str z, lo, hi => if z.length ≤ sizeLine then some (.str (cutS z lo hi)) else none
  | _, _, _ => none
theorem slS_ok : SlD K B rSlS slS := fun F H s dx dz lo hi x Q o hx hf hq => by
  cases dx with
  | str z =>
    have hf' : (if z.length ≤ sizeLine then some (D.str (cutS z lo hi)) else none) = some dz := hf
    by_cases c : z.length ≤ sizeLine
    · rw [if_pos c] at hf'
      cases hf'
      exact ⟨z, hx, c, hq _ F H o.refl rfl⟩
    · rw [if_neg c] at hf'
      cases hf'
  | _ => cases hf
def signsOf (x : Str) : List D := x.cps.toList.map fun c => .str ⟨#[c]⟩
def strItems : D → Option (List D)
  | .str x => if x.length ≤ sizeLine then some (signsOf x) else none
  | _ => none
theorem jd_str {x : Str} {F1 : Hp} : JD K B (Its x) (signsOf x) F1 := by
  refine ⟨fun i F H s _ _ hi => ?_, fun i F H s y H' d _ o hy hd => ?_, fun i F H s _ _ hi => ?_⟩
  · show i < x.cps.size
    simpa [signsOf] using hi
  · obtain ⟨e1, c, e2, e3⟩ := hy
    subst e1 e3
    unfold signsOf at hd
    rw [List.getElem?_map, Array.getElem?_toList, e2] at hd
    cases hd
    exact ⟨F, o.refl, rfl⟩
  · show x.cps.size ≤ i
    simpa [signsOf] using hi
end
section
variable {X : Cx} {S : Type} {B : Amb S} {a e o tg : Expr} {ma me : ME S} {pos p apos : Pos} {m : MS S}
theorem i_str (ha : PE X a (tD X.K B ma)) : PI X tg a (tI X.K B (mIt strItems ma)) := pi_w (pi_str ha) fun σ H R ⟨env, F, s, xs, s', E, o, hm, hq⟩ => by
  obtain ⟨x, e1, e2⟩ := it_un hm
  cases x with
  | str z =>
    have e2' : (if z.length ≤ sizeLine then some (signsOf z) else none) = some xs := e2
    by_cases c : z.length ≤ sizeLine
    · rw [if_pos c] at e2'
      cases e2'
      refine ⟨env, F, s, .str z, s', E, o, e1, fun v F1 H1 v1 hx => ⟨z, hx, hq _ F1 H1 v1 jd_str ?_⟩⟩
      unfold signsOf
      rw [List.length_map, Array.length_toList]
      exact c
    · rw [if_neg c] at e2'
      cases e2'
  | _ => cases e2
/-! methods of a text -/
def mM1 (f : D → D → Option D) (a b : ME S) : ME S := mB f a b
def splitD : D → D → Option D
  | .str a, .str b => if (b.length == 0) = false ∧ a.length + 2 ≤ sizeLine then some (.lst ((Txt.split a b).map .str)) else none
  | _, _ => none
theorem d_split (ho : PE X o (tD X.K B ma)) (he : PE X e (tD X.K B me)) (hs : starEach [e] X.env = [(false, eval e X.env)] := by rfl) (hbase : attributeBase o "split" X.env (eval o X.env) = eval o X.env := by rfl) (hline : (apos.endLine == pos.line) = true := by rfl) :
    PE X (.Call (.Attribute o "split" apos) [e] [] pos) (tD X.K B (mB splitD ma me)) := pe_w (pe_split ho he hs hbase hline) fun σ H Q ⟨env, F, s, d, s', E, oo, hm, hq⟩ => by
  unfold mB at hm
  cases e1 : ma env s with
  | none => simp [e1] at hm
  | some q1 =>
    obtain ⟨d1, s1⟩ := q1
    simp only [e1, Option.bind_some] at hm
    cases e2 : me env s1 with
    | none => simp [e2] at hm
    | some q2 =>
      obtain ⟨d2, s2⟩ := q2
      simp only [e2, Option.bind_some] at hm
      cases e3 : splitD d1 d2 with
      | none => rw [e3] at hm; cases hm
      | some z =>
        rw [e3] at hm
        cases hm
        unfold splitD at e3
        split at e3
        · rename_i a b
          split at e3
          · rename_i c
            cases e3
            refine ⟨env, F, s, .str a, s1, E, oo, e1, fun v F1 H1 v1 hx => ?_⟩
            have ex : v = V.str a := hx
            subst ex
            refine ⟨⟨a, rfl⟩, env, F1, s1, .str b, _, E.step oo v1, v1.ok, e2, fun u F2 H2 v2 hy => ?_⟩
            have ey : u = V.str b := hy
            subst ey
            refine ⟨a, b, rfl, rfl, c.1, c.2, fun pp hp => hq _ _ _ ((v1.trans v2).trans (Ev.new v2.ok _ hp)) ?_⟩
            exact ⟨pp, _, rfl, upd_same, dvl_strs⟩
          · cases e3
        · cases e3
end
end Dl
namespace Dl
open PySem
open L2
/-! in -/
theorem py_plainD : True := trivial
mutual
theorem py_pl : ∀ {d : D} {p : PyData}, toPy d = some p → p.plain = true
  | .non, _, h => by cases h; rfl
  | .bl _, _, h => by cases h; rfl
  | .int _, _, h => by cases h; rfl
  | .str _, _, h => by cases h; rfl
  | .hnd, _, h => by cases h
  | .dct _ _, _, h => by cases h
  | .tup ds, p, h => by
    have h' : (toPyL ds).map PyData.tuple = some p := h
    cases e : toPyL ds with
    | none => rw [e] at h'; cases h'
    | some ps =>
      rw [e] at h'
      cases h'
      exact py_plL e
  | .lst ds, p, h => by
    have h' : (toPyL ds).map PyData.list = some p := h
    cases e : toPyL ds with
    | none => rw [e] at h'; cases h'
    | some ps =>
      rw [e] at h'
      cases h'
      exact py_plL e
theorem py_plL : ∀ {ds : List D} {ps : List PyData}, toPyL ds = some ps → PyData.plainAll ps = true
  | [], _, h => by cases h; rfl
  | d :: ds, ps, h => by
    have h' : (match toPy d, toPyL ds with | some p, some ps => some (p :: ps) | _, _ => none) = some ps := h
    cases e : toPy d with
    | none => rw [e] at h'; cases h'
    | some q =>
      cases e2 : toPyL ds with
      | none => rw [e, e2] at h'; cases h'
      | some qs =>
        rw [e, e2] at h'
        cases h'
        show (q.plain && PyData.plainAll qs) = true
        rw [py_pl e, py_plL e2]
        rfl
end
def inP (neg : Bool) (d e : PyData) : Option Bool := match e with
  | .tuple ds => if min (PyData.depthAll ds) d.depth ≤ 62 then some (neg != ds.any fun y => PyData.eqv y d) else none
  | .list ds => if min (PyData.depthAll ds) d.depth ≤ 62 then some (neg != ds.any fun y => PyData.eqv y d) else none
  | _ => none
def rInP (K : PySem.W.Frag) (neg : Bool) : R2 := fun x y H Q => ∃ d e b, Dp K H x d ∧ Dp K H y e ∧ d.plain = true ∧ e.plain = true ∧ inP neg d e = some b ∧ Q (.bl b) H
section
variable {X : Cx}
theorem op_inP (hu : X.A.units + 64 < cLine) : OpR X (compareOp .In) (rInP X.K false) := by
  intro pins s σ H x y v u Q I rx ry h
  obtain ⟨d, e, b, hd, he, p1, p2, hf, q⟩ := h
  obtain ⟨as, r1⟩ := Dp.reads I d x v hd rx
  obtain ⟨bs, r2⟩ := Dp.reads I e y u he ry
  unfold inP at hf
  split at hf
  · rename_i ds
    split at hf
    · rename_i c
      cases hf
      exact PySem.SeqAt.in_tuple_data r2 r1 p2 p1 (by omega) ⟨.bl _, H, I, rfl, by rw [Bool.false_bne] at q; exact q⟩
    · cases hf
  · rename_i ds
    split at hf
    · rename_i c
      cases hf
      exact PySem.SeqAt.in_list_data r2 r1 p2 p1 (by omega) ⟨.bl _, H, I, rfl, by rw [Bool.false_bne] at q; exact q⟩
    · cases hf
  · cases hf
theorem op_ninP (hu : X.A.units + 64 < cLine) : OpR X (compareOp .NotIn) (rInP X.K true) := by
  intro pins s σ H x y v u Q I rx ry h
  obtain ⟨d, e, b, hd, he, p1, p2, hf, q⟩ := h
  obtain ⟨as, r1⟩ := Dp.reads I d x v hd rx
  obtain ⟨bs, r2⟩ := Dp.reads I e y u he ry
  unfold inP at hf
  split at hf
  · rename_i ds
    split at hf
    · rename_i c
      cases hf
      exact PySem.SeqAt.notIn_tuple_data r2 r1 p2 p1 (by omega) ⟨.bl _, H, I, rfl, by rw [Bool.true_bne] at q; exact q⟩
    · cases hf
  · rename_i ds
    split at hf
    · rename_i c
      cases hf
      exact PySem.SeqAt.notIn_list_data r2 r1 p2 p1 (by omega) ⟨.bl _, H, I, rfl, by rw [Bool.true_bne] at q; exact q⟩
    · cases hf
  · cases hf
def rSignIn (neg : Bool) : R2 := fun x y H Q => ∃ (c : Nat) (z : Str), x = .str ⟨#[c]⟩ ∧ y = .str z ∧ Q (.bl (neg != decide (c ∈ z.cps.toList))) H
theorem op_inA (hu : X.A.units + 64 < cLine) : OpR X (compareOp .In) (fun x y H Q => rSignIn false x y H Q ∨ rInP X.K false x y H Q) :=
  OpR.or (fun pins s σ H x y v u Q I rx ry ⟨c, z, e1, e2, q⟩ => op_in_sign pins s σ H x y v u Q I rx ry ⟨c, z, e1, e2, by rw [Bool.false_bne] at q; exact q⟩) (op_inP hu)
theorem op_ninA (hu : X.A.units + 64 < cLine) : OpR X (compareOp .NotIn) (fun x y H Q => rSignIn true x y H Q ∨ rInP X.K true x y H Q) :=
  OpR.or (fun pins s σ H x y v u Q I rx ry ⟨c, z, e1, e2, q⟩ => op_notIn_sign pins s σ H x y v u Q I rx ry ⟨c, z, e1, e2, by rw [Bool.true_bne] at q; exact q⟩) (op_ninP hu)
end
def signIn (neg : Bool) : D → D → Option D
  | .str w, .str z => match w.cps.toList with
    | [c] => some (.bl (neg != decide (c ∈ z.cps.toList)))
    | _ => none
  | _, _ => none
def inN (neg : Bool) (x y : D) : Option D := match y with
  | .str _ => signIn neg x y
  | _ => relD (inP neg) x y
def inD := inN false
def ninD := inN true
theorem inN_ok {K : PySem.W.Frag} {S : Type} {B : Amb S} (neg : Bool) : OpD K B (fun x y H Q => rSignIn neg x y H Q ∨ rInP K neg x y H Q) (inN neg) := fun F H s dx dy dz x y Q o hx hy hf hq => by
  have data : relD (inP neg) dx dy = some dz → (rSignIn neg x y H Q ∨ rInP K neg x y H Q) := fun hf => by
    unfold relD at hf
    cases e1 : toPy dx with
    | none => rw [e1] at hf; cases hf
    | some a =>
      cases e2 : toPy dy with
      | none => rw [e1, e2] at hf; cases hf
      | some b =>
        rw [e1, e2] at hf
        cases e3 : inP neg a b with
        | none => simp [e3] at hf
        | some k =>
          simp [e3] at hf
          subst hf
          exact .inr ⟨a, b, k, dp_of o.sub e1 hx, dp_of o.sub e2 hy, py_pl e1, py_pl e2, e3, hq _ F H o.refl rfl⟩
  cases dy with
  | str z =>
    have hf' : signIn neg dx (.str z) = some dz := hf
    cases dx with
    | str w =>
      have hf2 : (match w.cps.toList with | [c] => some (D.bl (neg != decide (c ∈ z.cps.toList))) | _ => none) = some dz := hf'
      split at hf2
      · rename_i c e
        cases hf2
        refine .inl ⟨c, z, ?_, hy, hq _ F H o.refl rfl⟩
        have ew : w = ⟨#[c]⟩ := by
          cases w with
          | mk cps =>
            have e' : cps.toList = [c] := e
            have : cps = #[c] := by
              rw [← Array.toList_inj, e']
            rw [this]
        rw [← ew]
        exact hx
      · cases hf2
    | _ => cases hf'
  | _ => exact data hf
theorem inD_ok {K : PySem.W.Frag} {S : Type} {B : Amb S} : OpD K B (fun x y H Q => rSignIn false x y H Q ∨ rInP K false x y H Q) inD := inN_ok false
theorem ninD_ok {K : PySem.W.Frag} {S : Type} {B : Amb S} : OpD K B (fun x y H Q => rSignIn true x y H Q ∨ rInP K true x y H Q) ninD := inN_ok true
/-! str(), int() of a text -/
def strCD : List D → Option D
  | [.int i] => if i.natAbs.log2 < 1920 then some (.str (toString i)) else none
  | [.str a] => some (.str a)
  | _ => none
theorem strCD_ok {K : PySem.W.Frag} {S : Type} {B : Amb S} : CallD K B (fun xs H Q => (∃ i, xs = [.int i] ∧ i.natAbs.log2 < 1920 ∧ Q (.str (toString i)) H) ∨ ∃ a, xs = [.str a] ∧ Q (.str a) H) strCD := fun F H s ds dz vs Q o hv hf hq => by
  unfold strCD at hf
  split at hf
  · rename_i i
    split at hf
    · rename_i c
      cases hf
      obtain ⟨v, rfl, hx⟩ := one_of hv
      exact .inl ⟨i, by rw [show v = V.int i from hx], c, hq _ F H o.refl rfl⟩
    · cases hf
  · rename_i a
    cases hf
    obtain ⟨v, rfl, hx⟩ := one_of hv
    exact .inr ⟨a, by rw [show v = V.str a from hx], hq _ F H o.refl rfl⟩
  · cases hf
def intTD : List D → Option D
  | [.str a] => if a.length ≤ 640 then (PySem.intText? a).map D.int else none
  | ds => intCD ds
def rIntT : List V → Hp → VK → Prop := fun xs H Q => ((∃ i, xs = [.int i] ∧ Q (.int i) H) ∨ ∃ k, xs = [.bl k] ∧ Q (.int (if k then 1 else 0)) H) ∨ ∃ a n, xs = [.str a] ∧ PySem.intText? a = some n ∧ a.length ≤ 640 ∧ Q (.int n) H
theorem intTD_ok {K : PySem.W.Frag} {S : Type} {B : Amb S} : CallD K B rIntT intTD := fun F H s ds dz vs Q o hv hf hq => by
  unfold intTD at hf
  split at hf
  · rename_i a
    split at hf
    · rename_i c
      cases e : PySem.intText? a with
      | none => rw [e] at hf; cases hf
      | some n =>
        rw [e] at hf
        cases hf
        obtain ⟨v, rfl, hx⟩ := one_of hv
        exact .inr ⟨a, n, by rw [show v = V.str a from hx], e, c, hq _ F H o.refl rfl⟩
    · cases hf
  · exact .inl (intCD_ok F H s ds dz vs Q o hv hf hq)
/-! join -/
def strsOf : List D → Option (List Str)
  | [] => some []
  | .str x :: ds => (strsOf ds).map (x :: ·)
  | _ :: _ => none
theorem strsOf_eq : ∀ {ds : List D} {ys : List Str}, strsOf ds = some ys → ds = ys.map D.str
  | [], _, h => by cases h; rfl
  | d :: ds, ys, h => by
    cases d with
    | str x =>
      have h' : (strsOf ds).map (x :: ·) = some ys := h
      cases e : strsOf ds with
      | none => rw [e] at h'; cases h'
      | some r =>
        rw [e] at h'
        cases h'
        rw [List.map_cons, ← strsOf_eq e]
    | _ => cases h
def seqItems : D → Option (List D)
  | .tup ds => some ds
  | .lst ds => some ds
  | _ => none
def joinS (a : Str) (ys : List Str) : Option D := if (ys.map (·.length)).sum + ys.length * a.length ≤ 16777216 then some (.str (Txt.join a ys)) else none
def joinD (a b : D) : Option D := match a with
  | .str x => (seqItems b).bind fun ds => (strsOf ds).bind fun ys => joinS x ys
  | _ => none
section
variable {X : Cx} {S : Type} {B : Amb S} {e o : Expr} {ma me : ME S} {pos p apos : Pos}
theorem d_join (ho : PE X o (tD X.K B ma)) (he : PE X e (tD X.K B me)) (hs : starEach [e] X.env = [(false, eval e X.env)] := by rfl) (hbase : attributeBase o "join" X.env (eval o X.env) = eval o X.env := by rfl) (hline : (apos.endLine == pos.line) = true := by rfl) :
    PE X (.Call (.Attribute o "join" apos) [e] [] pos) (tD X.K B (mB joinD ma me)) := pe_w (pe_join ho he hs hbase hline) fun σ H Q ⟨env, F, s, d, s', E, oo, hm, hq⟩ => by
  obtain ⟨d1, s1, d2, e1, e2, e3⟩ := bin_un hm
  unfold joinD at e3
  cases d1 with
  | str x =>
    dsimp only at e3
    cases e4 : seqItems d2 with
    | none => rw [e4] at e3; cases e3
    | some ds =>
      rw [e4, Option.bind_some] at e3
      cases e5 : strsOf ds with
      | none => rw [e5] at e3; cases e3
      | some ys =>
        rw [e5, Option.bind_some] at e3
        unfold joinS at e3
        split at e3
        · rename_i c
          cases e3
          have eds := strsOf_eq e5
          refine ⟨env, F, s, .str x, s1, E, oo, e1, fun v F1 H1 v1 hx => ?_⟩
          have ex : v = V.str x := hx
          subst ex
          refine ⟨⟨x, rfl⟩, env, F1, s1, d2, _, E.step oo v1, v1.ok, e2, fun u F2 H2 v2 hy => ?_⟩
          cases d2 with
          | tup es =>
            cases e4
            obtain ⟨a, vs, rfl, h2, h3⟩ := hy
            rw [eds] at h3
            rw [h3.strs] at h2
            exact ⟨x, a, ys, rfl, rfl, .inr (sqT_ext v2.ok.sub h2), c, hq _ _ _ (v1.trans v2) rfl⟩
          | lst es =>
            cases e4
            obtain ⟨a, vs, rfl, h2, h3⟩ := hy
            rw [eds] at h3
            rw [h3.strs] at h2
            exact ⟨x, a, ys, rfl, rfl, .inl (SqL.of (v2.ok.sub _ _ h2)), c, hq _ _ _ (v1.trans v2) rfl⟩
          | _ => cases e4
        · cases e3
  | _ => cases e3
end
end Dl

set_option Elab.async false
set_option linter.all false
set_option maxRecDepth 100000
set_option maxHeartbeats 4000000
/-! D17: what is never reached; x op= e; max of a tuple. -/
namespace Dl
open PySem
open L2
def sNone {S : Type} : MS S := fun _ _ => none
def mNone {S : Type} : ME S := fun _ _ => none
section
variable {X : Cx} {S : Type} {B : Amb S} {e a : Expr} {me : ME S} {pos p : Pos} {st : Stmt} {sts : List Stmt} {ml : ML S}
/-- a statement that is never reached -/
theorem s_none : PS X st (tS X.K B sNone) := ⟨fun pins s σ H Dn I ⟨env, F, s', out, E, o, hm, hq⟩ => by cases hm⟩
theorem ss_none : PSs X sts (tS X.K B sNone) := ⟨fun pins s σ H Dn I ⟨env, F, s', out, E, o, hm, hq⟩ => by cases hm⟩
theorem d_none : PE X e (tD X.K B mNone) := ⟨fun pins s σ H Q I ⟨env, F, s', d, s2, E, o, hm, hq⟩ => by cases hm⟩
def datAt (env : DE) (i : Nat) : Option D := match env[i]? with
  | some (some (.dat d)) => some d
  | _ => none
theorem datAt_eq {env : DE} {i : Nat} {d : D} (h : datAt env i = some d) : env[i]? = some (some (.dat d)) := by
  unfold datAt at h
  split at h
  · cases h; assumption
  · cases h
def sAug (i : Nat) (f : D → D → Option D) (e : ME S) : MS S := fun env s => (datAt env i).bind fun d => (e env s).bind fun p => (f d p.1).map fun z => .nx (env.set i (some (.dat z))) p.2
theorem s_aug {i : Nat} {x : Str} {op : Operator} {r : R2} {f : D → D → Option D} {pos' : Pos} (hN : X.N.Nodup) (hr : OpR X (inplaceOp op) r) (hd : OpD X.K B r f) (he : PE X e (tD X.K B me)) (hi : X.N[i]? = some x := by rfl) (hx : Loc X.env.scope x := by first | exact Or.inl rfl | exact Or.inr rfl)
    (hf : X.fn x = true ∨ X.env.scope.names.lookup x = some .local := by first | exact .inl rfl | exact .inr rfl) : PS X (.AugAssign (.Name x pos') op e pos) (tS X.K B (sAug i f me)) :=
  ps_w (ps_aug (i := i) hN hi hx he hr hf) fun Dn σ H ⟨env, F, s, out, E, o, hm, hq⟩ => by
    unfold sAug at hm
    cases e0 : datAt env i with
    | none => simp [e0] at hm
    | some d =>
      simp only [e0, Option.bind_some] at hm
      cases e1 : me env s with
      | none => simp [e1] at hm
      | some w =>
        obtain ⟨d2, s1⟩ := w
        simp only [e1, Option.bind_some] at hm
        cases e2 : f d d2 with
        | none => simp [e2] at hm
        | some z =>
          simp only [e2, Option.map_some, Option.some.injEq] at hm
          subst hm
          obtain ⟨v, g1, g2⟩ := E.dat i d (datAt_eq e0)
          refine ⟨v, g1, env, F, s, d2, s1, E, o, e1, fun u F1 H1 v1 hu => ?_⟩
          refine hd F1 H1 s1 d d2 z v u _ v1.ok (g2.ext (v1.sameF o)) hu e2 fun y F3 H3 v3 hy => ?_
          obtain ⟨E2, o2⟩ := (E.step o (v1.trans v3)).put (i := i) hy
          exact hq _ F3 H3 E2 ((Sv.of E (v1.trans v3)).less o2)
theorem iop_addA : OpR X (inplaceOp .Add) (fun x y H Q => rI0 (fun i j => .int (i + j)) x y H Q ∨ ∃ i j, x = .str i ∧ y = .str j ∧ i.length + j.length ≤ sizeLine ∧ Q (.str (i ++ j)) H) := OpR.or iop_add iop_add_str
def iaddD : D → D → Option D
  | .int i, .int j => some (.int (i + j))
  | .str x, .str y => if x.length + y.length ≤ sizeLine then some (.str (x ++ y)) else none
  | _, _ => none
theorem iaddD_ok {K : PySem.W.Frag} : OpD K B (fun x y H Q => rI0 (fun i j => .int (i + j)) x y H Q ∨ ∃ i j, x = .str i ∧ y = .str j ∧ i.length + j.length ≤ sizeLine ∧ Q (.str (i ++ j)) H) iaddD := fun F H s dx dy dz x y Q o hx hy hf hq => by
  unfold iaddD at hf
  split at hf
  · rename_i i j
    cases hf
    exact .inl ⟨i, j, hx, hy, hq _ F H o.refl rfl⟩
  · rename_i i j
    split at hf
    · rename_i c
      cases hf
      exact .inr ⟨i, j, hx, hy, c, hq _ F H o.refl rfl⟩
    · cases hf
  · cases hf
/-! max of a tuple of whole numbers -/
def rMaxT (K : PySem.W.Frag) : List V → Hp → VK → Prop := fun vs H Q => ∃ (a : Addr) (n : Int) (ns : List Int), vs = [V.ref a] ∧ SqT K H a ((n :: ns).map V.int) ∧ Q (.int (ns.foldl max n)) H
theorem ints_dp {K : PySem.W.Frag} {H : Hp} : ∀ ns : List Int, DpAll K H (ns.map V.int) (ns.map PyData.int)
  | [] => .nil
  | n :: ns => .cons (.int n) (ints_dp ns)
theorem ints_depth : ∀ ns : List Int, PyData.depthAll (ns.map PyData.int) = 0
  | [] => rfl
  | n :: ns => by
    show max 0 (PyData.depthAll (ns.map PyData.int)) = 0
    rw [ints_depth ns]
    rfl
theorem cr_maxT (hc : X.calm = true) (hu : X.A.units + 64 < cLine) : CallR X (.builtin "max") (rMaxT X.K) := by
  intro pins s σ H vs us Q I r h
  obtain ⟨a, n, ns, rfl, hs, q⟩ := h
  rw [Vals.ref1 r]
  obtain ⟨its, rv, hl, hz⟩ := I.tuple hs
  obtain ⟨as, hr⟩ := Dp.readsAll I ((n :: ns).map PyData.int) _ _ (ints_dp (K := X.K) (H := H) (n :: ns)) rv
  have hal : PySem.W.AlikeAll ((n :: ns).map PyData.int) := by
    refine ⟨fun x hx y hy => ?_, fun x hx => ?_⟩
    · obtain ⟨i, _, rfl⟩ := List.mem_map.mp hx
      obtain ⟨j, _, rfl⟩ := List.mem_map.mp hy
      rfl
    · obtain ⟨i, _, rfl⟩ := List.mem_map.mp hx
      exact fun z => nomatch z
  have hr' : ReadsAll s.heap its.toArray.toList (PyData.int n :: ns.map PyData.int) as := by simpa using hr
  refine PySem.W.max_tuple_data (I.ok.hd hc) hl hr' hal (by rw [show PyData.depthAll (PyData.int n :: ns.map PyData.int) = 0 from ints_depth (n :: ns)]; omega) fun i v h' tk bs hv rd k => ?_
  rw [PySem.W.maxD_ints] at rd
  cases rd
  exact ⟨.int _, H, I.kept k, ⟨_, rfl⟩, q⟩
def maxTD : List D → Option D
  | [.tup ds] => match numsOf ds with
    | some (n :: ns) => some (.int (ns.foldl max n))
    | _ => none
  | ds => maxD ds
theorem maxTD_ok {K : PySem.W.Frag} : CallD K B (fun vs H Q => rMaxT K vs H Q ∨ rMaxA K vs H Q) maxTD := fun F H s ds dz vs Q o hv hf hq => by
  unfold maxTD at hf
  split at hf
  · rename_i x
    split at hf
    · rename_i n ns e
      cases hf
      have ex := numsOf_eq e
      subst ex
      obtain ⟨v, rfl, hx⟩ := one_of hv
      obtain ⟨a, us, rfl, h2, h3⟩ := hx
      rw [DvL.ints h3] at h2
      exact .inl ⟨a, n, ns, rfl, sqT_ext o.sub h2, hq _ F H o.refl rfl⟩
    · cases hf
  · exact .inr (maxD_ok F H s ds dz vs Q o hv hf hq)
end
end Dl

set_option Elab.async false
set_option linter.all false
set_option maxRecDepth 100000
set_option maxHeartbeats 4000000
/-! D18: dicts with texts for keys: displays, reading. -/
namespace Dl
open PySem
open L2
theorem putK_new {kvs : List (Key × V)} {k : Key} {v : V} (h : k ∉ kvs.map (·.1)) : putK kvs k v = kvs ++ [(k, v)] := by
  unfold putK
  rw [if_neg]
  intro c
  obtain ⟨p, hp, e⟩ := List.any_eq_true.mp c
  exact h (List.mem_map.mpr ⟨p, hp, by simpa using e⟩)
theorem mergeK_new : ∀ {more kvs : List (Key × V)}, ((kvs ++ more).map (·.1)).Nodup → mergeK kvs more = kvs ++ more
  | [], kvs, _ => (List.append_nil _).symm
  | p :: more, kvs, h => by
    have hp : p.1 ∉ kvs.map (·.1) := by
      rw [List.map_append, List.map_cons] at h
      intro hm
      exact (List.nodup_append.mp h).2.2 _ hm _ (List.mem_cons_self ..) rfl
    show mergeK (putK kvs p.1 p.2) more = _
    rw [putK_new hp, mergeK_new (by rw [List.append_assoc]; exact h), List.append_assoc]
    rfl
def mDisp {S : Type} (ks : List Str) (l : ML S) : ME S := fun env s => (l env s).bind fun p => if p.1.length = ks.length ∧ (ks.map (Sum.inr : Str → Key)).Nodup then some (.dct (ks.map Sum.inr) p.1, p.2) else none
section
variable {X : Cx} {S : Type} {B : Amb S} {a b v : Expr} {ma mb : ME S} {ml : ML S} {pos p : Pos}
/-- a display's pairs -/
structure PD (X : Cx) (B : Amb S) (pos : Pos) (keys : List (Option Expr)) (values : List Expr) (ks : List Str) (ml : ML S) : Prop where
  ex : ∃ trs, PPs X pos keys values trs ∧ keys.all (·.isSome) = true ∧ keys.length = values.length ∧ keys.length = ks.length ∧
    ∀ (σ : L2.St) (H : Hp) (Q : List (V × V) → Hp → Prop), (∃ env F s ds s', EnvOk X.K B F H σ env ∧ Ok B F H s ∧ ml env s = some (ds, s') ∧ ∀ vs F' H', Ev B F H F' H' s' → DvL X.K B F' ds vs → Q ((ks.zip vs).map fun p => (V.str p.1, p.2)) H') → tPairs trs σ H Q
theorem pd_nil : PD X B pos [] [] [] mNil := ⟨[], pps_nil, rfl, rfl, rfl, fun σ H Q ⟨env, F, s, ds, s', E, o, hm, hq⟩ => by
  have e : ([], s) = (ds, s') := Option.some.inj hm
  cases e
  exact hq [] F H o.refl rfl⟩
theorem pd_cons {k : Str} {j} {kp : Pos} {keys : List (Option Expr)} {values : List Expr} {ks : List Str} (hv : PE X v (tD X.K B ma)) (hr : PD X B pos keys values ks ml) : PD X B pos (some (.Constant (.str k) j kp) :: keys) (v :: values) (k :: ks) (mCons ma ml) := by
  obtain ⟨trs, h1, h2, h3, h4, h5⟩ := hr.ex
  refine ⟨_, pps_cons pe_str hv h1, by rw [List.all_cons, h2]; rfl, by rw [List.length_cons, List.length_cons, h3], by rw [List.length_cons, List.length_cons, h4], fun σ H Q ⟨env, F, s, ds, s', E, o, hm, hq⟩ => ?_⟩
  unfold mCons at hm
  cases e1 : ma env s with
  | none => simp [e1] at hm
  | some w =>
    obtain ⟨d, s1⟩ := w
    cases e2 : ml env s1 with
    | none => simp [e1, e2] at hm
    | some w =>
      obtain ⟨es, s2⟩ := w
      simp [e1, e2] at hm
      obtain ⟨m1, m2⟩ := hm
      subst m1 m2
      show tD X.K B ma σ H fun y H2 => tPairs trs σ H2 fun ps H3 => Q ((V.str k, y) :: ps) H3
      refine ⟨env, F, s, d, s1, E, o, e1, fun u F1 H1 v1 hu => ?_⟩
      refine h5 σ H1 _ ⟨env, F1, s1, es, s2, E.step o v1, v1.ok, e2, fun vs F2 H2 v2 hvs => ?_⟩
      exact hq (u :: vs) F2 H2 (v1.trans v2) ⟨u, vs, rfl, hu.ext (v2.sameF v1.ok), hvs⟩
theorem d_disp {keys : List (Option Expr)} {values : List Expr} {ks : List Str} (h : PD X B pos keys values ks ml) (h0 : keys ≠ []) (h15 : keys.length ≤ 15 := by decide) : PE X (.Dict keys values pos) (tD X.K B (mDisp ks ml)) := by
  obtain ⟨trs, h1, h2, h3, h4, h5⟩ := h.ex
  refine pe_w (pe_disp h1 h2 h3 h0 h15) fun σ H Q ⟨env, F, s, d, s', E, o, hm, hq⟩ => ?_
  unfold mDisp at hm
  cases e1 : ml env s with
  | none => simp [e1] at hm
  | some w =>
    obtain ⟨ds, s1⟩ := w
    simp only [e1, Option.bind_some] at hm
    split at hm
    · rename_i c
      cases hm
      intro p hp
      have v0 := Ev.newO o (.dK []) hp
      refine h5 σ _ _ ⟨env, F, s, ds, _, E.step o v0, v0.ok, e1, fun vs F1 H1 v1 hvs => ?_⟩
      have hpo : ¬ B.own p := ne_own o hp
      have hp1 : H1 p = some (.dK []) := v1.hs p _ upd_same hpo
      have hf0 : F p = none := by
        cases q : F p with
        | none => rfl
        | some x => rw [o.sub p x q] at hp; cases hp
      have hf1 : F1 p = none := by
        have := v1.fs p (by rw [upd_same]; exact fun z => nomatch z)
        rw [this]
        exact hf0
      have hl : vs.length = ks.length := by rw [hvs.len]; exact c.1
      have hz1 : ((ks.zip vs).map fun q => ((Sum.inr q.1 : Key), q.2)).map (·.1) = ks.map Sum.inr := by
        rw [List.map_map]
        have : ((fun x : Key × V => x.1) ∘ fun q : Str × V => ((Sum.inr q.1 : Key), q.2)) = (Sum.inr : Str → Key) ∘ Prod.fst := rfl
        rw [this, ← List.map_map, List.map_fst_zip (by omega)]
      have hz2 : ((ks.zip vs).map fun q => ((Sum.inr q.1 : Key), q.2)).map (·.2) = vs := by
        rw [List.map_map]
        have : ((fun x : Key × V => x.2) ∘ fun q : Str × V => ((Sum.inr q.1 : Key), q.2)) = Prod.snd := rfl
        rw [this, List.map_snd_zip (by omega)]
      refine ⟨hp1, (ks.zip vs).map fun q => (Sum.inr q.1, q.2), ?_, ?_, ?_⟩
      · rw [List.map_map]
        rfl
      · rw [List.length_map, List.length_zip]
        omega
      · rw [mergeK_new (by rw [List.nil_append, hz1]; exact c.2), List.nil_append]
        have v2 : Ev B F H (upd F1 p (.dK ((ks.zip vs).map fun q => (Sum.inr q.1, q.2)))) (upd H1 p (.dK ((ks.zip vs).map fun q => (Sum.inr q.1, q.2)))) s' := by
          have v01 := v0.trans v1
          refine ⟨fun q hq2 => ?_, fun q x hx hn => ?_, ⟨fun q x hx => ?_, fun q hq2 => ?_, B.stay _ H1 _ v01.ok.am fun q x hq2 hx => ?_⟩⟩
          · have : q ≠ p := fun z => hq2 (z ▸ hp)
            rw [upd_ne this]
            exact v01.fs q hq2
          · have : q ≠ p := fun z => by rw [z, hp] at hx; cases hx
            rw [upd_ne this]
            exact v01.hs q x hx hn
          · by_cases z : q = p
            · subst z
              rw [upd_same] at hx ⊢
              exact hx
            · rw [upd_ne z] at hx ⊢
              exact v01.ok.sub q x hx
          · have : q ≠ p := fun z => hpo (z ▸ hq2)
            rw [upd_ne this]
            exact v01.ok.ap q hq2
          · have : q ≠ p := fun z => hpo (z ▸ hq2)
            rw [upd_ne this]
            exact hx
        refine hq _ _ _ v2 ⟨p, _, rfl, upd_same, hz1, ?_⟩
        rw [hz2]
        refine hvs.ext fun q x hx => ?_
        have : q ≠ p := fun z => by rw [z, hf1] at hx; cases hx
        rw [upd_ne this]
        exact hx
    · cases hm
/-! d[k] -/
def lookD : List Key → List D → Key → Option D
  | k :: ks, d :: ds, x => if k = x then some d else lookD ks ds x
  | _, _, _ => none
def dgetD (x y : D) : Option D := match x, y with
  | .dct ks ds, .str z => lookD ks ds (.inr z)
  | .dct ks ds, .int z => lookD ks ds (.inl z)
  | _, _ => none
theorem look_dv {K : PySem.W.Frag} {F : Hp} : ∀ {kvs : List (Key × V)} {ds : List D} {k : Key} {d : D}, DvL K B F ds (kvs.map (·.2)) → lookD (kvs.map (·.1)) ds k = some d → ∃ v, valV kvs k = some v ∧ Dv K B F d v
  | [], ds, k, d, _, e => by
    cases ds <;> cases e
  | p :: kvs, [], k, d, h, e => by cases e
  | p :: kvs, d0 :: ds, k, d, h, e => by
    obtain ⟨v, r, e1, h1, h2⟩ := h
    rw [List.map_cons, List.cons.injEq] at e1
    obtain ⟨e1, e2⟩ := e1
    have e' : (if p.1 = k then some d0 else lookD (kvs.map (·.1)) ds k) = some d := e
    by_cases c : p.1 = k
    · rw [if_pos c] at e'
      cases e'
      exact ⟨p.2, valV_pos c, by rw [e1]; exact h1⟩
    · rw [if_neg c] at e'
      rw [← e2] at h2
      obtain ⟨u, g1, g2⟩ := look_dv h2 e'
      refine ⟨u, ?_, g2⟩
      rw [← g1]
      simp [valV, List.find?_cons, c]
theorem d_dget (hu : X.A.units + 64 < cLine) (ha : PE X a (tD X.K B ma)) (hb : PE X b (tD X.K B mb)) (hs : NoSl b := by exact fun _ _ => rfl) : PE X (.Subscript a b pos) (tD X.K B (mB dgetD ma mb)) :=
  pe_w (pe_dget (by omega) ha hb hs) fun σ H Q ⟨env, F, s, d, s', E, o, hm, hq⟩ => by
    obtain ⟨x, s1, y, e1, e2, e3⟩ := bin_un hm
    refine ⟨env, F, s, x, s1, E, o, e1, fun u F1 H1 v1 hx => ⟨env, F1, s1, y, s', E.step o v1, v1.ok, e2, fun w F2 H2 v2 hy => ?_⟩⟩
    unfold dgetD at e3
    split at e3
    · rename_i ks ds z
      obtain ⟨p, kvs, rfl, g1, g2, g3⟩ := hx
      subst g2
      obtain ⟨r, k1, k2⟩ := look_dv g3 e3
      refine ⟨p, r, rfl, .inl ⟨kvs, .inr z, .inl (v2.ok.sub _ _ (v2.sameF v1.ok p _ g1)), hy, k1.symm⟩, hq r F2 H2 (v1.trans v2) (k2.ext (v2.sameF v1.ok))⟩
    · rename_i ks ds z
      obtain ⟨p, kvs, rfl, g1, g2, g3⟩ := hx
      subst g2
      obtain ⟨r, k1, k2⟩ := look_dv g3 e3
      refine ⟨p, r, rfl, .inl ⟨kvs, .inl z, .inl (v2.ok.sub _ _ (v2.sameF v1.ok p _ g1)), hy, k1.symm⟩, hq r F2 H2 (v1.trans v2) (k2.ext (v2.sameF v1.ok))⟩
    · cases e3
end
end Dl

set_option Elab.async false
set_option linter.all false
set_option maxRecDepth 100000
set_option maxHeartbeats 4000000
/-! D19: x, y = e, [..] with y a list of one's own. -/
namespace Dl
open PySem
open L2
section
variable {X : Cx} {S : Type} {B : Amb S} {a : Expr} {es : List Expr} {ma : ME S} {ml : ML S} {pos : Pos}
def sParO (i j : Nat) (a : ME S) (l : ML S) : MS S := fun env s => (a env s).bind fun p => (l env p.2).bind fun q => if q.1.length ≤ sizeLine then some (.nx ((env.set i (some (.dat p.1))).set j (some (.own q.1))) q.2) else none
theorem s_parO {i j : Nat} {x y : Str} {px py pt lp : Pos} {kt k2 pt2} (hc : X.calm = true) (hN : X.N.Nodup) (ha : PE X a (tD X.K B ma)) (hl : PA X es (tL X.K B ml)) (hi : X.N[i]? = some x := by rfl) (hj : X.N[j]? = some y := by rfl) (hij : i ≠ j := by decide)
    (hx : X.env.scope.names.lookup x = some .local := by rfl) (hy : X.env.scope.names.lookup y = some .local := by rfl)
    (hw : swappedStores [.Tuple [.Name x px, .Name y py] kt pt] (.Tuple [a, .List es lp] k2 pt2) X.env = pure (some [x, y]) := by rfl)
    (hs : swapsWithSole [.Tuple [.Name x px, .Name y py] kt pt] (.Tuple [a, .List es lp] k2 pt2) pos.line X.env = pure false := by rfl)
    (hst : starEach [a, .List es lp] X.env = (false, eval a X.env) :: starEach [.List es lp] X.env := by rfl) (hst2 : starEach [.List es lp] X.env = (false, eval (.List es lp) X.env) :: starEach [] X.env := by rfl) :
    PS X (.Assign [.Tuple [.Name x px, .Name y py] kt pt] (.Tuple [a, .List es lp] k2 pt2) pos) (tS X.K B (sParO i j ma ml)) :=
  ps_w (ps_par hc hN hi hj hij hx hy (pa_cons ha (pa_cons (pe_lst hl) pa_nil hst2) hst) hw hs) fun Dn σ H ⟨env, F, s, out, E, o, hm, hq⟩ => by
    unfold sParO at hm
    cases e1 : ma env s with
    | none => simp [e1] at hm
    | some w =>
      obtain ⟨d, s1⟩ := w
      simp only [e1, Option.bind_some] at hm
      cases e2 : ml env s1 with
      | none => simp [e2] at hm
      | some w =>
        obtain ⟨ds, s2⟩ := w
        simp only [e2, Option.bind_some] at hm
        split at hm
        · rename_i c
          cases hm
          refine ⟨env, F, s, d, s1, E, o, e1, fun u F1 H1 v1 hu => ?_⟩
          refine ⟨env, F1, s1, ds, s2, E.step o v1, v1.ok, e2, fun vs F2 H2 v2 hv => ⟨by rw [hv.len]; exact c, fun q hq' => ?_⟩⟩
          have v12 := v1.trans v2
          have v3 : Ev B F2 H2 F2 (upd H2 q (.lst vs)) s2 := Ev.newO v2.ok _ hq'
          have E2 := E.step o (v12.trans v3)
          have hF : F2 q = none := by
            cases r : F2 q with
            | none => rfl
            | some u => rw [v2.ok.sub q u r] at hq'; cases hq'
          obtain ⟨E3, o3⟩ := E2.put (i := i) (hu.ext (v2.sameF v1.ok))
          obtain ⟨E4, o4⟩ := E3.putO (i := j) (xs := ds) hF (ne_own v2.ok hq') upd_same hv fun k ys hk q1 q2 => by
            rcases set_get q1 with ⟨_, z, _⟩ | ⟨z, z2⟩
            · cases z
            · obtain ⟨b, us, h1, _, _, h4, _⟩ := (E.step o v12).own k ys z2
              rw [List.getElem?_set_ne (fun e => z e.symm)] at q2
              rw [q2] at h1
              cases h1
              rw [hq'] at h4
              cases h4
          refine ⟨u, .ref q, rfl, ?_⟩
          refine hq _ F2 _ E4 ?_
          have w := Sv.of E (v12.trans v3)
          exact ⟨w.fs, w.hs, fun p hp => by
            rcases o4 p hp with z | z
            · exact .inr (by rw [z]; exact v12.free hq')
            · exact .inl (o3 p z), w.th, w.ok⟩
        · cases hm
end
end Dl
namespace Dl
open PySem
open L2
theorem DOk.mono {P : Program} {w : World} {K : PySem.W.Frag} {mg : Str → Option Value} {base : Heap} {S : Type} {B : Amb S} {x : Str} {j k : Nat} {ps : List Str} {g : List D → S → Option (D × S)} (h : DOk P w K mg base B x j ps g) (hj : j ≤ k) : DOk P w K mg base B x k ps g := by
  obtain ⟨f, fd, h1, h2, h3, h4⟩ := h
  exact ⟨f, fd, h1, h2, h3, h4.mono hj⟩
end Dl

set_option Elab.async false
set_option linter.all false
set_option maxRecDepth 100000
set_option maxHeartbeats 4000000
/-! E1: an own exception of one field whose __init__ says super().__init__(f); self.f = f: the machine's words. -/
namespace PySem
namespace Er
open PySem.W PySem.Calls PyProof.Rows PySem.HandSPX
def iA (f : Str) (p1 p2 : Pos) : Arguments := { posonlyargs := [], args := [{ arg := "self", annotation := none, pos := p1 }, { arg := f, annotation := none, pos := p2 }], vararg := none, kwonlyargs := [], kw_defaults := [], kwarg := none, defaults := [] }
def sB (f : Str) (q0 q1 q2 q3 q4 : Pos) : Expr := .Call (.Attribute (.Call (.Name "super" q0) [] [] q1) "__init__" q2) [.Name f q3] [] q4
def iB (f : Str) (q0 q1 q2 q3 q4 q5 q6 q7 q8 q9 : Pos) : List Stmt := [.Expr (sB f q0 q1 q2 q3 q4) q5, .Assign [.Attribute (.Name "self" q6) f q7] (.Name f q8) q9]
def iS (f : Str) : Scope := { kind := .function, names := [(PySem.Str.ofString "self", .local), (f, .local), (PySem.Str.ofString "__class__", .free), (PySem.Str.ofString "super", .globalImplicit)], isGenerator := false, isCoroutine := false, more := [] }
/-- a field's name that is none of the others -/
structure FOk (f : Str) : Prop where
  l : (iS f).names.lookup f = some .local
  c : (iS f).names.lookup ("__class__" : Str) = some .free
  s : (iS f).names.lookup ("super" : Str) = some .globalImplicit
  i : (iS f).names.lookup ("self" : Str) = some .local
  d : (f == ("__debug__" : Str)) = false
  nc : ∀ x ∈ (iS f).names, x.2 ≠ .cell
  ns : f ≠ ("self" : Str)
  bnd : ∀ (qual : Str) (body : List Stmt) (doc pm cdv ct x v : Value) (an : Option Addr) (cc : Addr) (p1 p2 : Pos), bindArgs (ksFn "__init__" qual (iA f p1 p2) body (iS f) .none .none doc pm an cdv ct cc) ⟨[x, v], []⟩ = pure [(("self" : Str), x), (f, v)]
/-- of the program: its text -/
structure Pg (P : Program) (file : Str) : Prop where
  file : (P.main.file : Str) = file
  nos : (P.main.scope.names.lookup ("super" : Str)).isSome = false
/-- what the written part says of the class x at C -/
structure ErrTxt (K : Frag) (file f : Str) (C : Addr) : Prop where
  ok : FOk f
  cls : ∃ nm q N bs bm sn sub ab col dd k0 k1 k2 k3 k5, K.lookup C = some (excClassObj nm q C N bs bm true sn sub ab col dd k0 k1 k2 k3 k5 "ValueError.__new__") ∧ refsVE bm = true
  sa : findIn K (.ref C) "__setattr__" = some (some (.builtin "object.__setattr__"))
  noN : findIn K (.ref C) f = some none
  sup : ks_superIn K C C "__init__" = some (some (.builtin "ValueError.__init__"))
  exV : subIn K (.ref C) (.type "ValueError") = some true
  any : nsIn K cStatics "thirdparty.any" = some none
  gs : nsIn K mainGlobals "super" = some none
  kC : keepIn K (.ref C) = true
  exC : subIn K (.ref C) (.type "BaseException") = some true
  tyC : typeIn K (.ref C) = some (.type "type")
  fn : ∃ (fI cc cda : Addr) (oc ccl cl : Value) (od cdd cld : Option Addr) (vs : Array Value) (tf : Tok) (osl ccs csl : Array (Option Value)) (qual : Str) (doc pm ct : Value) (an : Option Addr) (p1 p2 q0 q1 q2 q3 q4 q5 q6 q7 q8 q9 : Pos),
    findIn K (.ref C) "__init__" = some (some (.ref fI)) ∧ typeIn K (.ref fI) = some (.type "function") ∧
    K.lookup fI = some ⟨oc, od, .func (ksFn "__init__" qual (iA f p1 p2) (iB f q0 q1 q2 q3 q4 q5 q6 q7 q8 q9) (iS f) .none .none doc pm an (.ref cda) ct cc), osl⟩ ∧ codeIn K (.ref cda) qual = true ∧
    K.lookup cda = some ⟨ccl, cdd, .fields vs, ccs⟩ ∧ vs[2]? = some (.str file tf) ∧ (q2.endLine == q4.line) = true ∧ K.lookup cc = some ⟨cl, cld, .cell (some (.ref C)), csl⟩
theorem one_size (v : Value) : [v].length ≤ sizeLine := by
  rw [sizeLine_eq]
  exact (by decide : 1 ≤ 16777216)
structure InitEnd (f : Str) (h h' : Heap) (x C dx t1 : Addr) (v : Value) : Prop where
  keep : ∀ b o, b ≠ x → h.get? b = some o → h'.get? b = some o
  obj : h'.get? x = some { cls := .ref C, dict := some dx, data := .fields #[.ref t1, .none, .none, .none, .bool false, .none] }
  dbig : h.objs.size ≤ dx
  dne : dx ≠ x
  ns : h'.Ns1 dx (fun y => if y = f then some v else none)
structure OwnMade (f : Str) (h h' : Heap) (e C d : Addr) (v : Value) : Prop where
  keep : ∀ b o, h.get? b = some o → h'.get? b = some o
  new : h.objs.size ≤ e
  obj : ∃ oe vs, h'.get? e = some oe ∧ oe.cls = .ref C ∧ oe.dict = some d ∧ oe.data = .fields vs ∧ vs[1]? = some .none ∧ vs[2]? = some .none
  dbig : h.objs.size ≤ d
  dne : d ≠ e
  ns : h'.Ns1 d (fun y => if y = f then some v else none)
section
variable {prog : Program} {w : World} {A : Around} {E : Value → Shared → Prop} {R : Result → Shared → Prop} {s : Shared} {K : Frag} {C : Addr} {file f : Str}
/-- the wrapper of ValueError.__init__ bound to the object, called -/
theorem call_mw {bm : List Value} {nm q : Str} {N : Addr} {bs : List Value} {hdct : Bool} {sn : List Str} {sub : List Value} {ab : Bool} {col : Option Bool} {dd : Option Addr} {k0 k1 k2 k3 k5 : Option Value} {h : Heap} {g : Array GenState} {d : Drawn} {t : Nat} {os : OsState}
    {u e t0 : Addr} {rest : List Value} {Q : Value → Shared → Prop}
    (hC : h.get? C = some (excClassObj nm q C N bs bm hdct sn sub ab col dd k0 k1 k2 k3 k5 "ValueError.__new__")) (he : h.get? e = some (excO C t0)) (hu : h.get? u = some (kxs_mw "ValueError.__init__" e)) (hrest : rest.length ≤ sizeLine)
    (hq : ∀ h' t1, (∀ b o, b ≠ e → h.get? b = some o → h'.get? b = some o) → h'.get? e = some (excO C t1) → Q .none ⟨h', g, d, t, os⟩) :
    wpAny (model prog w) A (call (.ref u) rest) Q E ⟨h, g, d, t, os⟩ := by
  refine wpAny_call (codeAny_of_tree ?_)
  show wpAny _ A.in1 (callAny (.ref u) ⟨rest, []⟩) _ _ _
  simp only [callAny]
  refine wpAny_bind (wpAny_load hu ?_)
  simp only [kxs_mw, show (Value.type "method-wrapper" == Value.type "method" || Value.type "method-wrapper" == Value.type "builtin_function_or_method" || Value.type "method-wrapper" == Value.type "method-wrapper") = true by decide, if_true]
  refine W.KFB.if_so (by decide) ?_
  refine wpAny_bind (check_bound_init F.excBase_ValueError.toExcCallFacts hC he rfl ?_)
  refine wpAny_bind (wpAny_pure (wpAny_pure ?_))
  refine ⟨plainId_quiet F.excBase_ValueError.init.plain _, codeAny_builtin F.excBase_ValueError.initEntry ?_⟩
  rw [Around.under_plainId F.excBase_ValueError.init.plain _]
  wp_walk
  refine hq _ h.objs.size (fun b o hb ho => ?_) ?_
  · rw [Heap.get?_update_other _ _ (Ne.symm hb)]
    exact Heap.get?_push_of_some _ ho
  · rw [Heap.get?_update_self _ (Heap.get?_push_of_some _ he) rfl]
    rfl
end
end Er
end PySem

set_option Elab.async false
set_option linter.all false
set_option maxRecDepth 100000
set_option maxHeartbeats 4000000
namespace PySem
namespace Er
open PySem.W PySem.Calls PyProof.Rows PySem.HandSPX
section
variable {prog : Program} {w : World} {A : Around} {E : Value → Shared → Prop} {R : Result → Shared → Prop} {s : Shared} {K : Frag} {C : Addr} {file f : Str} {mg mb : Str → Option Value}
theorem mro_self {cd : ClassData} {bm : List Value} (hcd : clsIn K C = some cd) (hm : cd.mro = .ref C :: bm) : mroIn K C (.ref C) = some true := by
  unfold mroIn
  rw [hcd, Option.bind_some, hm, if_neg (show ¬ (List.isEmpty (Value.ref C :: bm) = true) from Bool.false_ne_true)]
  simp
theorem sup_eq {f : Str} {q0 q1 q2 q3 q4 : Pos} {env : Env} (h : (q2.endLine == q4.line) = true) : ∃ pl : Sem Bool, eval (sB f q0 q1 q2 q3 q4) env = (do
      let ov ← attributeBase (.Call (.Name "super" q0) [] [] q1) "__init__" env (eval (.Call (.Name "super" q0) [] [] q1) env)
      standAt q2.atName
      let (f', first) ← holding [ov] (getMethod ov "__init__" pl)
      callWith q4 f' first (backTo q4 (starEach [.Name f q3] env)) []) := by
  refine ⟨(do return (← importBound (.Call (.Name "super" q0) [] [] q1) env).getD true), ?_⟩
  show (do
      let ov ← attributeBase (.Call (.Name "super" q0) [] [] q1) "__init__" env (eval (.Call (.Name "super" q0) [] [] q1) env)
      standAt q2.atName
      methodCall (.Call (.Name "super" q0) [] [] q1) "__init__" q2 q4 env ov 1 (backTo q4 (starEach [.Name f q3] env)) (backToKw q4 (keywordEach [] env))) = _
  have hp : methodCallPos (methodCallForm 1 (backTo q4 (starEach [.Name f q3] env)) (backToKw q4 (keywordEach [] env))) (.Call (.Name "super" q0) [] [] q1) env q2 q4 = pure q4 := by
    unfold methodCallPos
    rw [h, Bool.or_true]
    rfl
  unfold methodCall
  rw [hp]
  simp only [pure_bind]
  rfl
theorem err_init (T : ErrTxt K file f C) (PG : Pg prog file) {fI cc cda : Addr} {oc ccl cl : Value} {od cdd cld : Option Addr} {vs : Array Value} {tf : Tok} {osl ccs csl : Array (Option Value)} {qual : Str} {doc pm ct : Value} {an : Option Addr} {p1 p2 q0 q1 q2 q3 q4 q5 q6 q7 q8 q9 : Pos}
    (ho : K.lookup fI = some ⟨oc, od, .func (ksFn "__init__" qual (iA f p1 p2) (iB f q0 q1 q2 q3 q4 q5 q6 q7 q8 q9) (iS f) .none .none doc pm an (.ref cda) ct cc), osl⟩) (hcd : codeIn K (.ref cda) qual = true)
    (hcda : K.lookup cda = some ⟨ccl, cdd, .fields vs, ccs⟩) (hvs : vs[2]? = some (.str file tf)) (hps : (q2.endLine == q4.line) = true) (hcc : K.lookup cc = some ⟨cl, cld, .cell (some (.ref C)), csl⟩)
    {x t0 : Addr} {v : Value} (X : K.In s.heap) (hlim : s.heap.NoLimit) (hG : s.heap.Ns mainGlobals mg) (hms : mg "super" = none) (hB : s.heap.Ns builtinsNs mb) (hbs : mb "super" = some (.type "super")) (hx : s.heap.get? x = some (excO C t0)) (hnx : K.lookup x = none) (hxC : x ≠ C) (hroom : A.depth < recursionLimit)
    (hq : ∀ h' tk dx t1, InitEnd f s.heap h' x C dx t1 v → R (.ok (.ret .none)) { s with heap := h', toks := tk }) :
    codeAny (model prog w) A (.call (.ref fI) ⟨[.ref x, v], []⟩) R s := by
  obtain ⟨nm, q, N, bs, bm, sn, sub, ab, col, dd, k0, k1, k2, k3, k5, hC, hbm⟩ := T.cls
  have hcl : clsIn K C = some { name := nm, bases := bs, mro := .ref C :: bm, ns := N, qualname := q, hasDict := true, slotNames := sn, subclasses := sub, abstract := ab, collection := col, hasDel := false } := by unfold clsIn; rw [hC] <;> rfl
  obtain ⟨h, g, d, t, os⟩ := s
  refine ks_codeAny_call_defAt (fd := ksFn "__init__" qual (iA f p1 p2) (iB f q0 q1 q2 q3 q4 q5 q6 q7 q8 q9) (iS f) .none .none doc pm an (.ref cda) ct cc) (body := iB f q0 q1 q2 q3 q4 q5 q6 q7 q8 q9) (binds := [("self", .ref x), (f, v)]) hroom (X _ _ ho) rfl hlim (codeRec_of X hcd) rfl
    (BindsTo.of_eq (T.ok.bnd _ _ _ _ _ _ _ _ _ _ _ _)) T.ok.nc (fun y hy => ?_) (fun h₁ hns kk => ?_) rfl rfl rfl
  · rcases List.mem_cons.mp hy with e | e
    · rw [e]; exact T.ok.i
    · rw [List.mem_singleton.mp e]; exact T.ok.l
  have X₁ : K.In h₁ := X.keeps kk
  have hx₁ := kk _ _ hx
  have hC₁ := X₁ _ _ hC
  have hself : (fun y => ([(("self" : Str), Value.ref x), (f, v)] : List (Str × Value)).reverse.lookup y) ("self" : Str) = some (.ref x) := by
    show ([(f, v), (("self" : Str), Value.ref x)] : List (Str × Value)).lookup ("self" : Str) = _
    have e : (("self" : Str) == f) = false := by
      rw [beq_eq_false_iff_ne]
      exact fun z => T.ok.ns z.symm
    simp only [List.lookup, e, beq_self_eq_true]
  have hfv : (fun y => ([(("self" : Str), Value.ref x), (f, v)] : List (Str × Value)).reverse.lookup y) f = some v := by
    show ([(f, v), (("self" : Str), Value.ref x)] : List (Str × Value)).lookup f = _
    simp only [List.lookup, beq_self_eq_true]
  have hxL : h.objs.size ≠ x := Nat.ne_of_gt (Heap.lt_size hx)
  have lim1 : h.objs.size < h₁.objs.size := hns.lt
  show _root_.PySem.wpAt _ _ _ (execs (.Expr (sB f q0 q1 q2 q3 q4) q5 :: _) _) _ _ _
  obtain ⟨pl, hev⟩ := sup_eq (f := f) (q0 := q0) (q1 := q1) (q2 := q2) (q3 := q3) (q4 := q4) (env := callEnv (ksFn "__init__" qual (iA f p1 p2) (iB f q0 q1 q2 q3 q4 q5 q6 q7 q8 q9) (iS f) .none .none doc pm an (.ref cda) ct cc) h.objs.size fI) hps
  refine ks_wpAt_execs_cons (ks_wpAt_Expr_any (ks_wpAt_MethodCall (pl := pl) ?_ hev))
  refine ks_wpAt_super_base T.ok.s T.ok.c (by decide +kernel) rfl (X₁ _ _ ho) rfl rfl rfl (X₁ _ _ hcda) rfl hvs (by rw [PG.file]; exact beq_self_eq_true _) PG.nos ?_
  refine ks_loadName_global rfl T.ok.s (loadGlobal_builtin (hG.keeps kk) hms (hB.keeps kk) hbs ⟨rfl, ?_⟩)
  refine wpAny_loadName_free rfl T.ok.c rfl ⟨_, X₁ _ _ hcc, rfl⟩ ?_
  refine wpAny_loadName_local rfl T.ok.i hns hself ?_
  refine ks_wpAny_isType_cls hC₁ rfl ⟨rfl, ?_⟩
  refine ks_wpAny_call_super hC₁ rfl hx₁ rfl (fun c e => by cases e) (looks_mroIn X₁ (mro_self hcl rfl)) (fun h₂ eso k2' => ?_)
  have X₂ : K.In h₂ := X₁.keeps k2'
  have hx₂ := k2' _ _ hx₁
  have I₂ : W.InstAt h₂ x (excO C t0) C none := ⟨hx₂, rfl, rfl, trivial⟩
  have hsup := T.sup
  unfold ks_superIn at hsup
  rw [hcl] at hsup
  refine kxs_getMethod kxs_ValueError eso (looks_opaque X₂ T.any) (l₀ := .ref C :: bm) (fun A Q E s k q => wpAny_bind ((looks_clsIn X₂ hcl) A _ E s k (wpAny_pure q))) rfl X₂ hsup (I₂.type.andThen (looks_subIn X₂ T.exV)) hxC rfl ?_
  have k3 : ∀ b o, h₂.get? b = some o → (h₂.push (kxs_mw "ValueError.__init__" x)).get? b = some o := fun b o e => Heap.get?_push_of_some _ e
  have hu : (h₂.push (kxs_mw "ValueError.__init__" x)).get? h₂.objs.size = some (kxs_mw "ValueError.__init__" x) := Heap.get?_push_at rfl rfl
  have ns3 := (hns.keeps k2').keeps k3
  refine kxs_callWith (i := "ValueError.__init__") (x := x) (by rfl) (evalArgs_plain ?_)
  refine Calls.spliced_cons (wpAny_Name (wpAny_loadName_local rfl T.ok.l ns3 hfv ?_) T.ok.d)
  refine Calls.spliced_nil ⟨hu, ?_⟩
  refine call_mw (k3 _ _ (X₂ _ _ hC)) (k3 _ _ hx₂) hu (one_size v) fun h₄ t1 k4 e4 => ?_
  have k14 : ∀ b o, b ≠ x → h₁.get? b = some o → h₄.get? b = some o := fun b o hb e => k4 b o hb (k3 _ _ (k2' _ _ e))
  have X₄ : K.In h₄ := fun a o e => k14 a o (fun z => by rw [z, hnx] at e; cases e) (X₁ a o e)
  have ns4 : h₄.Ns h.objs.size (fun y => ([(("self" : Str), Value.ref x), (f, v)] : List (Str × Value)).reverse.lookup y) := by
    obtain ⟨oL, es, ep, hL, r⟩ := hns
    exact ⟨oL, es, ep, k14 _ _ hxL hL, r⟩
  show _root_.PySem.wpAt _ _ _ (execs _ _) _ _ _
  refine wpAt_of_wpAny (wpAny_execs_cons (plainObj_wpAny_Assign_Attribute ?_))
  refine wpAny_Name (wpAny_loadName_local rfl T.ok.l ns4 hfv ?_) T.ok.d
  refine wpAny_Name (wpAny_loadName_local rfl T.ok.i ns4 hself ?_) (by decide +kernel)
  refine set_plain X₄ (ox := excO C t1) (od := none) ⟨e4, rfl, rfl, trivial⟩ T.sa ?_
  refine exc_osa X₄ e4 hcl (show refsVE (.ref C :: bm) = true from hbm) rfl T.noN (fun h₅ tk₅ dx k₅ dn dne hx₅ hn₅ => ?_)
  refine wpAny_execs_nil ?_
  have z : h.objs.size ≤ h₄.objs.size := by
    obtain ⟨oL, es, ep, hL, r⟩ := ns4
    exact Nat.le_of_lt (Heap.lt_size hL)
  exact hq h₅ tk₅ dx t1 ⟨fun b o hb e => k₅ b o hb (k14 b o hb (kk b o e)), hx₅, Nat.le_trans z dn, dne, hn₅⟩
end
end Er
end PySem

set_option Elab.async false
set_option linter.all false
set_option maxRecDepth 100000
set_option maxHeartbeats 4000000
namespace PySem
namespace Er
open PySem.W PySem.Calls PyProof.Rows PySem.HandSPX
section
variable {prog : Program} {w : World} {A : Around} {E : Value → Shared → Prop} {R : Result → Shared → Prop} {s : Shared} {K : Frag} {C : Addr} {file f : Str} {mg mb : Str → Option Value}
theorem err_made (T : ErrTxt K file f C) (PG : Pg prog file) {v : Value} (X : K.In s.heap) (hlim : s.heap.NoLimit) (hG : s.heap.Ns mainGlobals mg) (hms : mg "super" = none) (hB : s.heap.Ns builtinsNs mb) (hbs : mb "super" = some (.type "super")) (hroom : A.depth + 1 < recursionLimit)
    (hq : ∀ h' tk e d, OwnMade f s.heap h' e C d v → R (.ok (.ret (.ref e))) { s with heap := h', toks := tk }) :
    codeAny (model prog w) A (.call (.ref C) ⟨[v], []⟩) R s := by
  obtain ⟨nm, q, N, bs, bm, sn, sub, ab, col, dd, k0, k1, k2, k3, k5, hC, hbm⟩ := T.cls
  obtain ⟨fI, cc, cda, oc, ccl, cl, od, cdd, cld, vs, tf, osl, ccs, csl, qual, doc, pm, ct, an, p1, p2, q0, q1, q2, q3, q4, q5, q6, q7, q8, q9, iC, tI, ho, hcd, hcda, hvs, hps, hcc⟩ := T.fn
  obtain ⟨hp, g, dr, tk, os⟩ := s
  have k : ∀ b o, hp.get? b = some o → ((hp.push (kdv_tup [v])).push (excO C hp.objs.size)).get? b = some o := fun b o e => Heap.get?_push_of_some _ (Heap.get?_push_of_some _ e)
  have hget : ((hp.push (kdv_tup [v])).push (excO C hp.objs.size)).get? (hp.objs.size + 1) = some (excO C hp.objs.size) := by heap_get
  have hnx : K.lookup (hp.objs.size + 1) = none := by
    cases e : K.lookup (hp.objs.size + 1) with
    | none => rfl
    | some o =>
      have z : hp.get? (hp.objs.size + 1) = some o := X _ _ e
      exact absurd (Nat.lt_of_succ_lt (Heap.lt_size z)) (Nat.lt_irrefl _)
  have hxC : hp.objs.size + 1 ≠ C := fun z => by
    have e := Heap.lt_size (X _ _ hC)
    rw [← z] at e
    have e' : hp.objs.size + 1 < hp.objs.size := e
    exact absurd (Nat.lt_of_succ_lt e') (Nat.lt_irrefl _)
  refine call_own F.excBase_ValueError (fun X => refsVE_contains X bm hbm) (X _ _ hC) (looks_findIn X iC) (fun self => bind_fn X self tI) (one_size v) ?_
  refine err_init (s := ⟨(hp.push (kdv_tup [v])).push (excO C hp.objs.size), g, dr, tk, os⟩) T PG ho hcd hcda hvs hps hcc (X.keeps k) (hlim.keeps k) (hG.keeps k) hms (hB.keeps k) hbs hget hnx hxC ?_ fun h' tk' dx t1 ⟨k', hx, dn, dne, hns⟩ => ?_
  · show A.depth + 1 < recursionLimit
    exact hroom
  · have old : ∀ b o, hp.get? b = some o → h'.get? b = some o := fun b o e => k' b o (Nat.ne_of_lt (Nat.lt_succ_of_lt (Heap.lt_size e))) (k b o e)
    have z : hp.objs.size + 1 + 1 ≤ dx := by
      first
        | (simpa only [Heap.size_push] using dn)
        | exact dn
        | (have q := dn; rw [Heap.size_push, Heap.size_push] at q; exact q)
    exact ⟨rfl, hq h' tk' (hp.objs.size + 1) dx ⟨old, Nat.le_succ _, ⟨_, _, hx, rfl, rfl, rfl, rfl, rfl⟩, Nat.le_trans (Nat.le_trans (Nat.le_succ _) (Nat.le_succ _)) z, dne, hns⟩⟩
end
end Er
end PySem
namespace L2
open PySem PySem.Spec PyProof.Rows
theorem relO_err {f : Str} {v : V} {v' : Value} (r : RelV v v') (g : Str) : RelO (List.lookup g [(f, v)]) (if g = f then some v' else none) := by
  by_cases hw : g = f
  · subst hw
    rw [if_pos rfl]
    have q : List.lookup g [(g, v)] = some v := by simp [List.lookup]
    rw [q]
    exact r
  · rw [if_neg hw]
    have qw : (g == f) = false := by simpa using hw
    have q2 : List.lookup g [(f, v)] = none := by simp [List.lookup, qw]
    rw [q2]
    trivial
section
variable {X : Cx} {C : Addr} {file f : Str}
/-- X(e) -/
def tMkErr (C : Addr) (f : Str) (te : TE) : St → Hp → XK → Prop := fun σ H Q => te σ H fun v H1 => ∀ d, H1 d = none → Q (.ref C) (some d) (upd H1 d (.xd [(f, v)]))
theorem pmk_err {x : Str} {a : Expr} {te : TE} {p pos : Pos} {k : Nat} (T : PySem.Er.ErrTxt X.K file f C) (PG : PySem.Er.Pg X.prog file) (gC : X.mg x = some (.ref C)) (hr : Room k X.A) (he : PE X a te) (hg : Gl X x)
    (hs : starEach [a] X.env = (false, eval a X.env) :: starEach [] X.env := by rfl) (hpl : (backTo pos (starEach [] X.env)).any (·.1) = false := by rfl) (hdb : (x == ("__debug__" : Str)) = false := by decide) :
    PMk X (.Call (.Name x p) [a] [] pos) (tMkErr C f te) := by
  intro pins s σ H Q I h
  refine wpAny_Call_Name_kw (ld_glob I hg gC ?_ hdb)
  refine PySem.W.callWith_K (h₀ := X.base) I.ok.mod.kin T.kC ?_ hs hpl
  rw [hs]
  show wpAny _ _ (spliced ((false, eval a X.env) :: backTo pos (starEach [] X.env))) _ _ s
  refine Calls.spliced_cons (thn (he.run pins s σ H _ I h) fun u s1 ⟨v, H1, I1, rv, q1⟩ => ?_)
  refine Calls.spliced_nil ⟨I1.kIn, ?_⟩
  show wpAny _ _ (call (.ref C) [u]) _ _ _
  have hlim := I1.nolimit
  obtain ⟨mb, b1, b2⟩ := I1.mod.blt
  have hG := I1.mod.glob.keeps I1.bk
  have hB := b1.keeps I1.bk
  obtain ⟨hp, g, dr, tk, os⟩ := s1
  refine wpAny_call (PySem.Er.err_made T PG I1.kIn hlim hG (PySem.W.mg_none_of I1.kIn hG T.gs) hB ((b2 _ (by decide)).trans (by decide +kernel)) (by have := hr.dp; omega) fun h' tk' e d M => ?_)
  show MkP X pins σ Q (.ref e) ⟨h', g, dr, tk', os⟩
  obtain ⟨oe, fv, hoe, hc, hd, hdat, h1, h2⟩ := M.obj
  have hns := M.ns
  obtain ⟨G', g1, g2⟩ := restrict h' fun b => decide (b ≠ e)
  have gk : ∀ b, b ≠ e → G'.get? b = h'.get? b := fun b hb => g1 b (decide_eq_true hb)
  have ge : G'.get? e = none := g2 e (by simp)
  have old : ∀ b o, hp.get? b = some o → G'.get? b = some o := fun b o q => (gk b (Nat.ne_of_lt (Nat.lt_of_lt_of_le (Heap.lt_size q) M.new))).trans (M.keep b o q)
  have ob : ObjOk X.prog X.w (upd H1 d (.xd [(f, v)])) G' d (.xd [(f, v)]) :=
    ⟨_, hns.at (fun o q => (gk d M.dne).trans q), fun g => relO_err rv g⟩
  have J : Inv X pins σ (upd H1 d (.xd [(f, v)])) ⟨G', g, dr, tk', os⟩ := I1.laid (t' := tk') old M.dbig ob
  refine ⟨e, oe, fv, ⟨G', g, dr, tk', os⟩, _, .ref C, some d, rfl, J, fun b o q => ?_, ge, hoe, ⟨hc, hd⟩, hdat, h1, ?_, rfl, I1.bare, raises_own T.exC T.tyC, q1 d (I1.hok.fresh M.dbig)⟩
  · by_cases hb : b = e
    · have q' : G'.get? b = some o := q
      rw [hb, ge] at q'; cases q'
    · exact (gk b hb).symm.trans q
  · rw [upd_ne (Ne.symm M.dne)]
    exact I1.hok.fresh M.new
end
end L2

set_option Elab.async false
set_option linter.all false
set_option maxRecDepth 100000
set_option maxHeartbeats 4000000
/-! E4: isinstance of a caught error that has a dict. -/
namespace PySem.W
open PySem PySem.Spec PySem.Calls PyProof.Rows
section
variable {prog : Program} {w : World} {A : Around} {E : Value → Shared → Prop} {s : Shared} {K : Frag} {x D : Addr} {ox : Obj}
theorem ekin_class {od : Obj} {Q : Option Value → Shared → Prop} (C : L2.ExcC K D)
    (X : K.In s.heap) (I : InstAt s.heap x ox D (some od)) (h : Q (some (.ref D)) { s with toks := s.toks + 1 }) : wpAny (model prog w) A (getAttr? (.ref x) "__class__") Q E s := by
  have hf : findObj K D (some od) "__class__" = some (.bind (.builtin "getset_descriptor.__get__") (.builtin "object.__class__")) := findObj_data (by obtain ⟨cd, hc, _⟩ := any_some C.hd; rw [hc]; rfl) C.ha C.hn C.ht
  obtain ⟨hp, g, d, t, os⟩ := s
  have L0 := I.type (M := model prog w)
  have L1 := looks_findIn (M := model prog w) X C.hg
  have L2 := looks_findIn (M := model prog w) X C.hk
  have L3 := looks_find (M := model prog w) X I hf
  have sub : Looks (model prog w) hp (isInstance (.ref x) (.type "BaseException")) true := L0.andThen (looks_subIn X C.hs)
  have hx0 : (false && onTheHeap (Value.builtin "BaseException.__getattribute__")) = false := rfl
  have hx2 : (Value.builtin "BaseException.__getattribute__" == Value.builtin "object.__getattribute__") = false := by decide +kernel
  have hx1 : (onTheHeap (Value.ref D) && Value.builtin "BaseException.__getattribute__" == Value.builtin "object.__getattribute__") = false := by rw [hx2]; rfl
  unfold getAttr? getAttrBy? getAttrBy
  refine wpAny_bind (wpAny_mkText (wpAny_bind (wpAny_attempt (wpAny_holding (wpAny_bind (L0.at (wpAny_bind (L1.at ?_))))))))
  show wpAny _ _ (if (onTheHeap (Value.ref D) && Value.builtin "BaseException.__getattribute__" == Value.builtin "object.__getattribute__") = true then _ else _) _ _ _
  rw [hx1, if_neg Bool.false_ne_true]
  unfold getAttrByItsOwn hookBefore
  refine wpAny_bind ?_
  rw [if_pos (show onTheHeap (Value.ref D) = true from rfl)]
  refine L2.at ?_
  refine wpAny_bind (wpAny_attempt (wpAny_holding ?_))
  unfold callGetattribute
  rw [hx0, if_neg Bool.false_ne_true]
  unfold boundAndCalled
  rw [PySem.F.excAttr_ValueError.ga.bind (.ref x)]
  refine wpAny_bind (wpAny_pure ?_)
  show wpAny _ _ (call (.builtin "BaseException.__getattribute__") [.ref x, .str "__class__" t]) _ _ _
  refine wpAny_call (codeAny_call_builtin PySem.F.excAttr_ValueError.ga.plain PySem.F.entry_bexc_ga ?_)
  refine @check_slot (model prog w) _ _ ⟨hp, g, d, t + 1, os⟩ "BaseException.__getattribute__" "BaseException" "__getattribute__" (.ref x) [.str "__class__" t] [] _ (by decide +kernel) (by decide +kernel) sub (PySem.F.args_bexc_ga (.ref x) (.str "__class__" t)) ?_
  unfold Builtin.«object.__getattribute__»
  refine wpAny_bind (wpAny_of_eq (a := ((Value.ref x : Value), [Value.str "__class__" t])) (by first | rfl | (simp only [slotArgs]; rfl)) ?_)
  refine wpAny_bind (wpAny_pure (wpAny_bind (L0.at (wpAny_bind (L3.at ?_)))))
  show wpAny _ _ (holding [Value.builtin "object.__class__"] (call (.builtin "getset_descriptor.__get__") [.builtin "object.__class__", .ref x, .ref D]) >>= ret) _ _ _
  refine wpAny_bind (wpAny_holding (wpAny_call (class_get (s := ⟨hp, g, d, t + 1, os⟩) (ox := ox) (od := some od) X I C.hm ?_)))
  refine wpAny_pure ?_
  show wpAny _ _ (handedOut (.ref D)) _ _ _
  rw [handedOut_of (v := .ref D) rfl]
  first
    | exact wpAny_pure (wpAny_pure h)
    | exact wpAny_pure h
    | exact wpAny_pure (wpAny_bind (wpAny_pure (wpAny_pure h)))
theorem ekitx (C : L2.ExcC K D) : KitX K (.ref x) (.ref D) (fun h => ∃ od, InstAt h x ox D (some od)) where
  ty := fun _ _ _ ⟨_, I⟩ => I.type
  it := fun _ _ X _ => by
    obtain ⟨cdD, hcD, _⟩ := any_some C.hd
    unfold clsIn at hcD
    split at hcD
    · rename_i c' d' cd' sl' ho
      intro A' Q' E' s' k q
      unfold isType loadHead
      exact wpAny_bind (wpAny_loadPart (k _ _ (X _ _ ho)) (wpAny_pure q))
    · cases hcD
  ne := fun h tp dd its n sl X htp => by
    obtain ⟨cdD, hcD, _⟩ := any_some C.hd
    refine Bool.eq_false_iff.mpr fun q => ?_
    have e : D = tp := Value.ref.inj (beq_iff_eq.mp q)
    subst e
    unfold clsIn at hcD
    split at hcD
    · rename_i c' d' cd' sl' ho
      have z := (X _ _ ho).symm.trans htp
      cases z
    · cases hcD
  ca := fun X ⟨_, I⟩ k => ekin_class C X I k
end
end PySem.W
namespace L2
open PySem PySem.Spec PyProof.Rows
/-- isinstance(e, c), e the exception that the suite holds, with or without a dict (its dict as a thing of exceptions' dicts) -/
def rIsD (K : PySem.W.Frag) (D a : Addr) (d : Option Addr) : List V → Hp → VK → Prop := fun xs H Q => ∃ (c : V) (cv : Value) (b : Bool), xs = [.ref a, c] ∧ (∀ u, RelV c u → u = cv) ∧ PySem.W.kitOne K (.ref D) cv = some b ∧ (∀ dd, d = some dd → ∃ fs, H dd = some (.xd fs)) ∧ Q (.bl b) H
theorem call_isD {X : Cx} {a D : Addr} {oe : Obj} {d : Option Addr} {pn : List (Addr × Obj)} (C : ExcC X.K D) (hz : Zc (.ref D) d oe) (hf : ∃ vs, oe.data = .fields vs) : CallR (X.suite a ((a, oe) :: pn)) (.builtin "isinstance") (rIsD X.K D a d) := by
  intro pins s σ H xs us Q I r h
  obtain ⟨c, cv, b, rfl, hcv, e, hd, q⟩ := h
  cases r with
  | cons rx rr =>
    cases rr with
    | cons rt rr =>
      cases rr
      cases rx
      have ec := hcv _ rt
      subst ec
      obtain ⟨hget, _⟩ := I.pin (a, oe) (List.mem_append.mpr (.inl List.mem_cons_self))
      obtain ⟨vs, hv⟩ := hf
      cases d with
      | none =>
        have J : PySem.W.InstAt s.heap a oe D none := by
          obtain ⟨oc, od, oda, osl⟩ := oe
          obtain ⟨h1, h2⟩ := hz
          dsimp only at h1 h2 hv
          subst h1 h2 hv
          exact ⟨hget, rfl, rfl, trivial⟩
        exact PySem.W.kia_one (PySem.W.handS_kitx_exc C.hg C.hk C.hs C.hd C.ha C.hn C.ht C.hm) I.kIn J e (fun z => nomatch z) fun tk => ⟨.bl b, H, I.kept (t' := tk) fun _ _ z => z, rfl, q⟩
      | some dd =>
        obtain ⟨fs, ea⟩ := hd dd rfl
        have hx : ObjOk X.prog X.w H s.heap dd (.xd fs) := I.hok dd _ ea
        obtain ⟨mA, hns, hr⟩ := hx
        obtain ⟨od', ho, hl⟩ := lookIn_ns hns
        have J : ∃ od, PySem.W.InstAt s.heap a oe D (some od) := by
          refine ⟨od', ?_⟩
          obtain ⟨oc, od, oda, osl⟩ := oe
          obtain ⟨h1, h2⟩ := hz
          dsimp only at h1 h2 hv
          subst h1 h2 hv
          exact ⟨hget, rfl, rfl, ho⟩
        exact PySem.W.kia_one (PySem.W.ekitx C) I.kIn J e (fun z => nomatch z) fun tk => ⟨.bl b, H, I.kept (t' := tk) fun _ _ z => z, rfl, q⟩
end L2

set_option Elab.async false
set_option linter.all false
set_option maxRecDepth 100000
set_option maxHeartbeats 4000000
/-! D20: what raises: expressions, calls, statements. -/
namespace Dl
open PySem
open L2
/-- what comes of a thing that may raise: a value, or an error of the class c with its field f (or none) -/
inductive RX (S : Type) where
  | val (d : D) (s : S) | exc (c f : Str) (ds : List D) (s : S)
abbrev MX (S : Type) := DE → S → Option (RX S)
inductive RL (S : Type) where
  | val (ds : List D) (s : S) | exc (c f : Str) (ds : List D) (s : S)
abbrev MLX (S : Type) := DE → S → Option (RL S)
/-- the dict of a raised error shows its field -/
def ExD (K : PySem.W.Frag) {S : Type} (B : Amb S) (F : Hp) (f : Str) (ds : List D) (dd : Option Addr) : Prop := ∃ ws, ((dd = none ∧ ws = []) ∨ ∃ a w, dd = some a ∧ F a = some (.xd [(f, w)]) ∧ ws = [w]) ∧ DvL K B F ds ws
def RxOk (K : PySem.W.Frag) {S : Type} (B : Amb S) (F H : Hp) (Q : VK) (E : XK) : RX S → Prop
  | .val d s' => ∀ v F' H', Ev B F H F' H' s' → Dv K B F' d v → Q v H'
  | .exc c f ds s' => ∀ F' H' dd, Ev B F H F' H' s' → ExD K B F' f ds dd → E (.ref (He.ga K c)) dd H'
def tX (K : PySem.W.Frag) {S : Type} (B : Amb S) (W : WX) (m : MX S) : TE := fun σ H Q => ∃ env F s out, EnvOk K B F H σ env ∧ Ok B F H s ∧ m env s = some out ∧ RxOk K B F H Q (WE W σ) out
def tLX (K : PySem.W.Frag) {S : Type} (B : Amb S) (W : WX) (m : MLX S) : TA := fun σ H Q => ∃ env F s out, EnvOk K B F H σ env ∧ Ok B F H s ∧ m env s = some out ∧ (match out with
  | .val ds s' => ∀ vs F' H', Ev B F H F' H' s' → DvL K B F' ds vs → Q vs H'
  | .exc c f ds s' => ∀ F' H' dd, Ev B F H F' H' s' → ExD K B F' f ds dd → W (.ref (He.ga K c)) dd σ H')
def spX (K : PySem.W.Frag) {S : Type} (B : Amb S) (n : Nat) (g : List D → S → Option (RX S)) : Sp := fun vs H Q E => vs.length = n ∧ ∃ F s ds out, DvL K B F ds vs ∧ Ok B F H s ∧ g ds s = some out ∧ RxOk K B F H Q E out
def xL {S : Type} (m : ME S) : MX S := fun env s => (m env s).map fun p => .val p.1 p.2
def xLL {S : Type} (m : ML S) : MLX S := fun env s => (m env s).map fun p => .val p.1 p.2
def xCall {S : Type} (g : List D → S → Option (RX S)) (l : ML S) : MX S := fun env s => (l env s).bind fun p => g p.1 p.2
/-- a then l, a may raise -/
def xCons {S : Type} (a : MX S) (l : MLX S) : MLX S := fun env s => (a env s).bind fun r => match r with
  | .val d s1 => (l env s1).map fun q => match q with
    | .val ds s2 => .val (d :: ds) s2
    | .exc c f ds s2 => .exc c f ds s2
  | .exc c f ds s1 => some (.exc c f ds s1)
def xF {S : Type} (f : List D → Option D) (l : MLX S) : MX S := fun env s => (l env s).bind fun r => match r with
  | .val ds s1 => (f ds).map fun z => .val z s1
  | .exc c g ds s1 => some (.exc c g ds s1)
def DOkX (P : Program) (w : World) (K : PySem.W.Frag) (mg : Str → Option Value) (base : Heap) {S : Type} (B : Amb S) (x : Str) (k : Nat) (ps : List Str) (g : List D → S → Option (RX S)) : Prop :=
  ∃ f fd, mg x = some (.ref f) ∧ PySem.W.keepIn K (.ref f) = true ∧ Binds K fd ps [] ∧ FnOk P w K mg base (L2.CX P w) k f fd ps (spX K B ps.length g)
theorem DOkX.mono {P : Program} {w : World} {K : PySem.W.Frag} {mg : Str → Option Value} {base : Heap} {S : Type} {B : Amb S} {x : Str} {j k : Nat} {ps : List Str} {g : List D → S → Option (RX S)} (h : DOkX P w K mg base B x j ps g) (hj : j ≤ k) : DOkX P w K mg base B x k ps g := by
  obtain ⟨f, fd, h1, h2, h3, h4⟩ := h
  exact ⟨f, fd, h1, h2, h3, h4.mono hj⟩
section
variable {X : Cx} {S : Type} {B : Amb S} {W : WX} {a b e : Expr} {es : List Expr} {pos p : Pos} {ma : ME S} {ml : ML S} {mx : MX S} {mlx : MLX S} {k : Nat} {ps : List Str} {x : Str} {g : List D → S → Option (RX S)}
theorem dx_l (h : PE X a (tD X.K B ma)) : PE X a (tX X.K B W (xL ma)) := pe_w h fun σ H Q ⟨env, F, s, out, E, o, hm, hq⟩ => by
  unfold xL at hm
  cases e1 : ma env s with
  | none => simp [e1] at hm
  | some w =>
    obtain ⟨d, s1⟩ := w
    simp only [e1, Option.map_some, Option.some.injEq] at hm
    subst hm
    exact ⟨env, F, s, d, s1, E, o, e1, hq⟩
theorem lx_l (h : PA X es (tL X.K B ml)) : PA X es (tLX X.K B W (xLL ml)) := pa_w h fun σ H Q ⟨env, F, s, out, E, o, hm, hq⟩ => by
  unfold xLL at hm
  cases e1 : ml env s with
  | none => simp [e1] at hm
  | some w =>
    obtain ⟨d, s1⟩ := w
    simp only [e1, Option.map_some, Option.some.injEq] at hm
    subst hm
    exact ⟨env, F, s, d, s1, E, o, e1, hq⟩
theorem lx_cons (ha : PE X a (tX X.K B W mx)) (hl : PA X es (tLX X.K B W mlx)) (hs : starEach (a :: es) X.env = (false, eval a X.env) :: starEach es X.env := by rfl) : PA X (a :: es) (tLX X.K B W (xCons mx mlx)) :=
  pa_w (pa_cons ha hl hs) fun σ H Q ⟨env, F, s, out, E, o, hm, hq⟩ => by
    unfold xCons at hm
    cases e1 : mx env s with
    | none => simp [e1] at hm
    | some r =>
      simp only [e1, Option.bind_some] at hm
      cases r with
      | exc c f ds s1 =>
        cases hm
        exact ⟨env, F, s, _, E, o, e1, hq⟩
      | val d s1 =>
        dsimp only at hm
        cases e2 : mlx env s1 with
        | none => simp [e2] at hm
        | some q =>
          simp only [e2, Option.map_some, Option.some.injEq] at hm
          refine ⟨env, F, s, _, E, o, e1, fun v F1 H1 v1 hv => ⟨env, F1, s1, q, E.step o v1, v1.ok, e2, ?_⟩⟩
          subst hm
          cases q with
          | val ds s2 => exact fun vs F2 H2 v2 hvs => hq (v :: vs) F2 H2 (v1.trans v2) ⟨v, vs, rfl, hv.ext (v2.sameF v1.ok), hvs⟩
          | exc c f ds s2 => exact fun F2 H2 dd v2 hd => hq F2 H2 dd (v1.trans v2) hd
theorem dx_tup {ctx} (hl : PA X es (tLX X.K B W mlx)) : PE X (.Tuple es ctx pos) (tX X.K B W (xF tupD mlx)) := pe_w (pe_tup hl) fun σ H Q ⟨env, F, s, out, E, o, hm, hq⟩ => by
  unfold xF at hm
  cases e1 : mlx env s with
  | none => simp [e1] at hm
  | some r =>
    simp only [e1, Option.bind_some] at hm
    refine ⟨env, F, s, r, E, o, e1, ?_⟩
    cases r with
    | exc c f ds s1 =>
      cases hm
      exact hq
    | val ds s1 =>
      dsimp only at hm
      cases e2 : tupD ds with
      | none => simp [e2] at hm
      | some z =>
        simp only [e2, Option.map_some, Option.some.injEq] at hm
        subst hm
        unfold tupD at e2
        split at e2
        · rename_i hz
          cases e2
          intro vs F1 H1 v1 hv
          exact ⟨by rw [hv.len]; exact hz, fun p hp => hq _ _ _ (v1.trans (Ev.new v1.ok _ hp)) (new_tup v1.ok hp hv)⟩
        · cases e2
theorem dx_call {j : Nat} (G : DOkX X.prog X.w X.K X.mg X.base B x k ps g) (tk : Takes X W) (hr : Room j X.A) (ha : PA X (e :: es) (tL X.K B ml)) (hj : k ≤ j := by decide)
    (hl : ∀ env s ds s', ml env s = some (ds, s') → ds.length = ps.length := by exact len_cons (by first | exact len_nil | exact len_cons (by first | exact len_nil | exact len_cons (by first | exact len_nil | exact len_cons (by first | exact len_nil | exact len_cons (by first | exact len_nil | exact len_cons len_nil))))))
    (hg : Gl X x := by rfl) (hdb : (x == ("__debug__" : Str)) = false := by decide) (he : starEach (e :: es) X.env = (false, eval e X.env) :: starEach es X.env := by rfl) (hpl : (backTo pos (starEach es X.env)).any (·.1) = false := by rfl) :
    PE X (.Call (.Name x p) (e :: es) [] pos) (tX X.K B W (xCall g ml)) := by
  obtain ⟨f, fd, h1, h2, h3, h4⟩ := G
  refine pe_w (pe_callS (E := WE W) h4 (hr.mono hj) hg h1 h2 h3 (fun σ => passAt tk σ) ha hdb he hpl) fun σ H Q ⟨env, F, s, out, E, o, hm, hq⟩ => ?_
  unfold xCall at hm
  cases e1 : ml env s with
  | none => simp [e1] at hm
  | some q =>
    obtain ⟨ds, s1⟩ := q
    simp only [e1, Option.bind_some] at hm
    refine ⟨env, F, s, ds, s1, E, o, e1, fun vs F1 H1 v1 hv => ⟨by rw [hv.len]; exact hl _ _ _ _ e1, F1, s1, ds, out, hv, v1.ok, hm, ?_⟩⟩
    cases out with
    | val d s2 => exact fun v F2 H2 v2 hz => hq v F2 H2 (v1.trans v2) hz
    | exc c f ds s2 => exact fun F2 H2 dd v2 hd => hq F2 H2 dd (v1.trans v2) hd
end
/-! ### statements -/
inductive OutX (S : Type) where
  | ok (o : OutS S) | ex (c f : Str) (ds : List D) (env : DE) (s : S)
abbrev MSX (S : Type) := DE → S → Option (OutX S)
def OutOkX (K : PySem.W.Frag) {S : Type} (B : Amb S) (F H : Hp) (own : Addr → Prop) (Dn : Ends) (W : WX) : OutX S → Prop
  | .ok o => OutOk K B F H own Dn o
  | .ex c f ds env' s' => ∀ σ' F' H' dd, EnvOk K B F' H' σ' env' → Sv B F H own F' H' (Own σ' env') s' → ExD K B F' f ds dd → W (.ref (He.ga K c)) dd σ' H'
theorem OutOkX.back {K : PySem.W.Frag} {S : Type} {B : Amb S} {F H F1 H1 : Hp} {o o1 : Addr → Prop} {s1 : S} {Dn : Ends} {W : WX} (e : Sv B F H o F1 H1 o1 s1) : ∀ {out : OutX S}, OutOkX K B F H o Dn W out → OutOkX K B F1 H1 o1 Dn W out
  | .ok _, h => OutOk.back e h
  | .ex _ _ _ _ _, h => fun σ' F' H' dd E v k => h σ' F' H' dd E (e.trans v) k
def tSX (K : PySem.W.Frag) {S : Type} (B : Amb S) (W : WX) (m : MSX S) : TS := fun Dn σ H => ∃ env F s out, EnvOk K B F H σ env ∧ Ok B F H s ∧ m env s = some out ∧ OutOkX K B F H (Own σ env) Dn W out
def xS {S : Type} (m : MS S) : MSX S := fun env s => (m env s).map .ok
def xSeq {S : Type} (a b : MSX S) : MSX S := fun env s => (a env s).bind fun o => match o with
  | .ok (.nx env' s') => b env' s'
  | o => some o
def xIf {S : Type} (t : MT S) (a b : MSX S) : MSX S := fun env s => (t env s).bind fun p => if p.1 = true then a env p.2 else b env p.2
def xAsg {S : Type} (gd : D → DE → Option DE) (e : MX S) : MSX S := fun env s => (e env s).bind fun r => match r with
  | .val d s1 => (gd d env).map fun env' => .ok (.nx env' s1)
  | .exc c f ds s1 => some (.ex c f ds env s1)
def xRet {S : Type} (e : MX S) : MSX S := fun env s => (e env s).map fun r => match r with
  | .val d s1 => .ok (.rt d s1)
  | .exc c f ds s1 => .ex c f ds env s1
def xDrop {S : Type} (e : MX S) : MSX S := fun env s => (e env s).map fun r => match r with
  | .val d s1 => .ok (.nx env s1)
  | .exc c f ds s1 => .ex c f ds env s1
def xRaise {S : Type} (c f : Str) (e : ME S) : MSX S := fun env s => (e env s).map fun p => .ex c f [p.1] env p.2
def loopX {S : Type} (gd : D → DE → Option DE) (body : MSX S) : List D → DE → S → Option (OutX S)
  | [], env, s => some (.ok (.nx env s))
  | x :: xs, env, s => (gd x env).bind fun env1 => (body env1 s).bind fun o => match o with
    | .ok (.nx e s) => loopX gd body xs e s
    | .ok (.ct e s) => loopX gd body xs e s
    | .ok (.bk e s) => some (.ok (.nx e s))
    | .ok (.rt d s) => some (.ok (.rt d s))
    | .ex c f ds e s => some (.ex c f ds e s)
def xFor {S : Type} (src : ML S) (gd : D → DE → Option DE) (body : MSX S) : MSX S := fun env s => (src env s).bind fun p => loopX gd body p.1 env p.2
def xFrz {S : Type} (i : Nat) (m : MSX S) : MSX S := fun env s => (ownAt env i).bind fun xs => m (env.set i (some (.dat (.lst xs)))) s
section
variable {X : Cx} {S : Type} {B : Amb S} {W : WX} {st : Stmt} {sts : List Stmt} {m m' : MSX S} {ms : MS S} {a e : Expr} {pos p : Pos} {ma : ME S} {mx : MX S} {src : ML S}
theorem x_s (h : PS X st (tS X.K B ms)) : PS X st (tSX X.K B W (xS ms)) := ps_w h fun Dn σ H ⟨env, F, s, out, E, o, hm, hq⟩ => by
  unfold xS at hm
  cases e1 : ms env s with
  | none => simp [e1] at hm
  | some o1 =>
    simp only [e1, Option.map_some, Option.some.injEq] at hm
    subst hm
    exact ⟨env, F, s, o1, E, o, e1, hq⟩
theorem x_ss (h : PSs X sts (tS X.K B ms)) : PSs X sts (tSX X.K B W (xS ms)) := pss_w h fun Dn σ H ⟨env, F, s, out, E, o, hm, hq⟩ => by
  unfold xS at hm
  cases e1 : ms env s with
  | none => simp [e1] at hm
  | some o1 =>
    simp only [e1, Option.map_some, Option.some.injEq] at hm
    subst hm
    exact ⟨env, F, s, o1, E, o, e1, hq⟩
theorem x_cons (h1 : PS X st (tSX X.K B W m)) (h2 : PSs X sts (tSX X.K B W m')) : PSs X (st :: sts) (tSX X.K B W (xSeq m m')) := pss_w (pss_cons h1 h2) fun Dn σ H ⟨env, F, s, out, E, o, hm, hq⟩ => by
  unfold xSeq at hm
  cases e1 : m env s with
  | none => simp [e1] at hm
  | some o1 =>
    simp only [e1, Option.bind_some] at hm
    refine ⟨env, F, s, o1, E, o, e1, ?_⟩
    cases o1 with
    | ex c f ds env' s' => cases hm; exact hq
    | ok o1 =>
      cases o1 with
      | nx env' s' => exact fun σ' F' H' E' v => ⟨env', F', s', out, E', v.ok, hm, hq.back v⟩
      | rt d s' => cases hm; exact hq
      | bk env' s' => cases hm; exact hq
      | ct env' s' => cases hm; exact hq
theorem x_one (h1 : PS X st (tSX X.K B W m)) : PSs X [st] (tSX X.K B W m) := pss_one h1
theorem x_if {c : Expr} {t : MT S} {stt sff : List Stmt} (hc : PT X c (tT X.K B t)) (ha : PSs X stt (tSX X.K B W m)) (hb : PSs X sff (tSX X.K B W m')) : PS X (.If c stt sff pos) (tSX X.K B W (xIf t m m')) := ps_w (ps_if hc ha hb) fun Dn σ H ⟨env, F, s, out, E, o, hm, hq⟩ => by
  unfold xIf at hm
  cases e1 : t env s with
  | none => simp [e1] at hm
  | some w =>
    obtain ⟨b, s1⟩ := w
    simp only [e1, Option.bind_some] at hm
    refine ⟨env, F, s, b, s1, E, o, e1, fun F1 H1 v1 => ?_⟩
    have hq1 := hq.back (Sv.of E v1)
    cases b with
    | true => exact ⟨env, F1, s1, out, E.step o v1, v1.ok, hm, hq1⟩
    | false => exact ⟨env, F1, s1, out, E.step o v1, v1.ok, hm, hq1⟩
theorem x_asg {tg : Expr} {is : List Nat} {g : TG} {gd : D → DE → Option DE} (hg : GD X.K B is g gd) (he : PE X a (tX X.K B W mx)) (ht : PG X tg g) (hs : swapsWithSole [tg] a pos.line X.env = pure false := by rfl) (hw : swappedStores [tg] a X.env = pure none := by rfl)
    (h1 : (assignEach [tg] X.env).map (·.2) = [assign tg X.env] := by rfl) : PS X (.Assign [tg] a pos) (tSX X.K B W (xAsg gd mx)) := ps_w (ps_asg he ht hs hw h1) fun Dn σ H ⟨env, F, s, out, E, o, hm, hq⟩ => by
  unfold xAsg at hm
  cases e1 : mx env s with
  | none => simp [e1] at hm
  | some r =>
    simp only [e1, Option.bind_some] at hm
    refine ⟨env, F, s, r, E, o, e1, ?_⟩
    cases r with
    | exc c f ds s1 =>
      cases hm
      exact fun F1 H1 dd v1 hd => hq σ F1 H1 dd (E.step o v1) (Sv.of E v1) hd
    | val d s1 =>
      dsimp only at hm
      cases e2 : gd d env with
      | none => simp [e2] at hm
      | some env' =>
        simp only [e2, Option.map_some, Option.some.injEq] at hm
        subst hm
        intro v F1 H1 v1 hx
        refine hg d v F1 H1 s1 σ env env' _ (E.step o v1) v1.ok hx e2 fun σ' E' ho _ => ?_
        exact hq σ' F1 H1 E' ((Sv.of E v1).less ho)
theorem x_ret (he : PE X a (tX X.K B W mx)) : PS X (.Return (some a) pos) (tSX X.K B W (xRet mx)) := ps_w (ps_ret he) fun Dn σ H ⟨env, F, s, out, E, o, hm, hq⟩ => by
  unfold xRet at hm
  cases e1 : mx env s with
  | none => simp [e1] at hm
  | some r =>
    simp only [e1, Option.map_some, Option.some.injEq] at hm
    subst hm
    refine ⟨env, F, s, r, E, o, e1, ?_⟩
    cases r with
    | exc c f ds s1 => exact fun F1 H1 dd v1 hd => hq σ F1 H1 dd (E.step o v1) (Sv.of E v1) hd
    | val d s1 => exact fun v F1 H1 v1 hx => hq v F1 H1 _ (Sv.of E v1) hx
theorem x_drop (he : PE X a (tX X.K B W mx)) (hs : swapsWith a none pos.line X.env = pure false := by rfl) : PS X (.Expr a pos) (tSX X.K B W (xDrop mx)) := ps_w (ps_expr he hs) fun Dn σ H ⟨env, F, s, out, E, o, hm, hq⟩ => by
  unfold xDrop at hm
  cases e1 : mx env s with
  | none => simp [e1] at hm
  | some r =>
    simp only [e1, Option.map_some, Option.some.injEq] at hm
    subst hm
    refine ⟨env, F, s, r, E, o, e1, ?_⟩
    cases r with
    | exc c f ds s1 => exact fun F1 H1 dd v1 hd => hq σ F1 H1 dd (E.step o v1) (Sv.of E v1) hd
    | val d s1 => exact fun v F1 H1 v1 hx => hq σ F1 H1 (E.step o v1) (Sv.of E v1)
theorem x_raise {x file f : Str} {pos2 : Pos} {k : Nat} (hc : X.calm = true) (tk : Takes X W) (T : PySem.Er.ErrTxt X.K file f (He.ga X.K x)) (PG : PySem.Er.Pg X.prog file) (gC : X.mg x = some (.ref (He.ga X.K x))) (hr : Room k X.A) (he : PE X a (tD X.K B ma)) (hg : Gl X x := by rfl)
    (hs : starEach [a] X.env = (false, eval a X.env) :: starEach [] X.env := by rfl) (hpl : (backTo pos (starEach [] X.env)).any (·.1) = false := by rfl) (hdb : (x == ("__debug__" : Str)) = false := by decide) :
    PS X (.Raise (some (.Call (.Name x p) [a] [] pos)) none pos2) (tSX X.K B W (xRaise x f ma)) := ps_w (ps_raise hc tk (pmk_err T PG gC hr he hg hs hpl hdb)) fun Dn σ H ⟨env, F, s, out, E, o, hm, hq⟩ => by
  unfold xRaise at hm
  cases e1 : ma env s with
  | none => simp [e1] at hm
  | some w =>
    obtain ⟨d, s1⟩ := w
    simp only [e1, Option.map_some, Option.some.injEq] at hm
    subst hm
    refine ⟨env, F, s, d, s1, E, o, e1, fun v F1 H1 v1 hx dd hd => ?_⟩
    have v2 := Ev.new v1.ok (.xd [(f, v)]) hd
    exact hq σ _ _ (some dd) (E.step o (v1.trans v2)) (Sv.of E (v1.trans v2)) ⟨[v], .inr ⟨dd, v, rfl, upd_same, rfl⟩, DvL.one (hx.ext (v2.sameF v1.ok))⟩
theorem x_for {tg iter : Expr} {body : List Stmt} {is : List Nat} {g : TG} {gd : D → DE → Option DE} (hp : PassesOwn (model X.prog X.w) X.A X.env X.xe) (hc : X.calm = true) (hi : PI X tg iter (tI X.K B src)) (hg' : PG X tg g) (hg : GD X.K B is g gd) (hb : PSs X body (tSX X.K B W m))
    (hs : ∀ x, foldedSetIterable iter X.env x = pure x := by intro _; rfl) : PS X (.For tg iter body [] pos) (tSX X.K B W (xFor src gd m)) := ps_w (ps_for hp hc hi hg' hb hs) fun Dn σ H h => by
  obtain ⟨env, F, s, out, E, o, hm, hq⟩ := h
  unfold xFor at hm
  cases e1 : src env s with
  | none => simp [e1] at hm
  | some w =>
    obtain ⟨xs, s1⟩ := w
    simp only [e1, Option.bind_some] at hm
    refine ⟨env, F, s, xs, s1, E, o, e1, fun J F1 H1 v1 jd hz => ?_⟩
    have E1 : EnvOk X.K B F1 H1 σ env := E.step o v1
    have hq1 : OutOkX X.K B F1 H1 (Own σ env) Dn W out := hq.back (Sv.of E v1)
    refine ⟨fun i n σ2 H2 => n = xs.length - i ∧ i ≤ xs.length ∧ ∃ env2 F2 s2, EnvOk X.K B F2 H2 σ2 env2 ∧ Sv B F1 H1 (Own σ env) F2 H2 (Own σ2 env2) s2 ∧ loopX gd m (xs.drop i) env2 s2 = some out,
      ⟨xs.length, by simp, Nat.zero_le _, env, F1, s1, E1, Sv.refl E1 v1.ok, hm⟩, ?_⟩
    rintro i n σ2 H2 ⟨rfl, hi, env2, F2, s2, E2, v2, hl⟩
    have sF := v2.sameF E1 v1.ok
    by_cases hlt : i < xs.length
    · refine .inr ⟨jd.go i F2 H2 s2 sF v2.ok hlt, fun σ' H' => i + 1 ≤ xs.length ∧ ∃ env2 F2 s2, EnvOk X.K B F2 H' σ' env2 ∧ Sv B F1 H1 (Own σ env) F2 H' (Own σ' env2) s2 ∧ loopX gd m (xs.drop (i + 1)) env2 s2 = some out,
        fun σ' H' p' => ⟨xs.length - (i + 1), by omega, rfl, p'⟩, fun x H3 hy => ?_⟩
      obtain ⟨F3, v3, hx⟩ := jd.yld i F2 H2 s2 x H3 xs[i] sF v2.ok hy (by simp [hlt])
      rw [List.drop_eq_getElem_cons hlt] at hl
      unfold loopX at hl
      cases q1 : gd xs[i] env2 with
      | none => simp [q1] at hl
      | some env3 =>
        simp only [q1, Option.bind_some] at hl
        cases q2 : m env3 s2 with
        | none => simp [q2] at hl
        | some ob =>
          simp only [q2, Option.bind_some] at hl
          refine hg xs[i] x F3 H3 s2 σ2 env2 env3 _ (E2.step v2.ok v3) v3.ok hx q1 fun σ3 E3 ho _ => ?_
          have v23 : Sv B F1 H1 (Own σ env) F3 H3 (Own σ3 env3) s2 := v2.trans ((Sv.of E2 v3).less ho)
          refine ⟨env3, F3, s2, ob, E3, v3.ok, q2, ?_⟩
          have hq3 := hq1.back v23
          cases ob with
          | ex c f ds e4 s4 =>
            cases hl
            exact hq3
          | ok ob =>
            cases ob with
            | nx e4 s4 => exact fun σ4 F4 H4 E4 v4 => ⟨hlt, e4, F4, s4, E4, v23.trans v4, hl⟩
            | ct e4 s4 => exact fun σ4 F4 H4 E4 v4 => ⟨hlt, e4, F4, s4, E4, v23.trans v4, hl⟩
            | bk e4 s4 =>
              cases hl
              exact hq3
            | rt d s4 =>
              cases hl
              exact hq3
    · have hi2 : xs.length ≤ i := Nat.le_of_not_lt hlt
      refine .inl ⟨jd.stop i F2 H2 s2 sF v2.ok hi2, ?_⟩
      rw [List.drop_of_length_le hi2] at hl
      cases hl
      exact hq1 σ2 F2 H2 E2 v2
end
/-! ### a def that may raise -/
def mDefX {S : Type} (n : Nat) (m : MSX S) : List D → S → Option (RX S) := fun ds s => (m (startE n ds) s).bind fun o => match o with
  | .ok (.nx _ s') => some (.val .non s')
  | .ok (.rt d s') => some (.val d s')
  | .ex c f ds _ s' => some (.exc c f ds s')
  | _ => none
theorem def_DX {K : PySem.W.Frag} {S : Type} {B : Amb S} {N : List Str} {n : Nat} {m : MSX S} {vs : List V} {H : Hp} {Q : VK} {E : XK} (h : spX K B n (mDefX N.length m) vs H Q E) : tSX K B (fun cls d _ H => E cls d H) m { nx := fun _ H' => Q .non H', rt := Q } (L2.start N vs) H := by
  obtain ⟨_, F, s, ds, out0, hv, o, hm, hq⟩ := h
  unfold mDefX at hm
  obtain ⟨E0, o0⟩ := start_ok (H := H) (N := N) hv
  cases e1 : m (startE N.length ds) s with
  | none => simp [e1] at hm
  | some out =>
    simp only [e1, Option.bind_some] at hm
    refine ⟨_, F, s, out, E0, o, e1, ?_⟩
    cases out with
    | ex c f ds env' s1 =>
      cases hm
      exact fun σ' F' H' dd _ v hd => hq F' H' dd (v.ev o0) hd
    | ok out =>
      cases out with
      | nx env' s1 =>
        cases hm
        exact fun σ' F' H' _ v => hq .non F' H' (v.ev o0) rfl
      | rt d1 s1 =>
        cases hm
        exact fun v F' H' own' w hd => hq v F' H' (w.ev o0) hd
      | bk env' s1 => cases hm
      | ct env' s1 => cases hm
section
variable {P : Program} {w : World} {K : PySem.W.Frag} {mg : Str → Option Value} {base : Heap} {S : Type} {B : Amb S}
theorem d_defX {x qual : Str} {st : Stmt} {f : Addr} {fd : FuncData} {N ps : List Str} {k : Nat} {m : MSX S} (Fn : FunD K x qual (defArgs st) (defBody st) (defScope st) [] [] f fd) (hm : mg x = some (.ref f)) (S : FnScope N ps (defScope st))
    (bi : ∀ (kV doc pm : Value) (an : Option Addr) (cdv ct : Value) (us : List Value), us.length = ps.length → bindArgs (PySem.W.fnOf x qual (defArgs st) (defBody st) (defScope st) .none kV doc pm an cdv ct) ⟨us, []⟩ = pure (ps.zip us))
    (hb : ∀ (cdv : Value) (A : Around) (outer : List Env) (s : Shared) (H : Hp) (E : XK), Room k (A.deeper (PyProof.Rows.envOfC qual (defScope st) s.heap.objs.size f cdv)) →
      Takes (cxOf (L2.CX P w) P w K mg base N qual (defScope st) f cdv A outer s H E) (fun cls d _ H => E cls d H) → PassesOwn (model P w) (A.deeper (PyProof.Rows.envOfC qual (defScope st) s.heap.objs.size f cdv)) (PyProof.Rows.envOfC qual (defScope st) s.heap.objs.size f cdv) (cxOf (L2.CX P w) P w K mg base N qual (defScope st) f cdv A outer s H E).xe →
      PSs (cxOf (L2.CX P w) P w K mg base N qual (defScope st) f cdv A outer s H E) (defBody st) (tSX K B (fun cls d _ H => E cls d H) m)) : DOkX P w K mg base B x (k + 1) ps (mDefX N.length m) :=
  ⟨f, fd, hm, Fn.kp, Fn.bindsN bi, Fn.ok S (fun vs H Q E h => h.1) fun cdv A outer s H vs Q E hr h => ⟨_, hb cdv A outer s H E hr (takes_of rfl rfl rfl rfl) (passes_of rfl), def_DX h⟩⟩
end
end Dl

set_option Elab.async false
set_option linter.all false
set_option maxRecDepth 100000
set_option maxHeartbeats 4000000
/-! D21: try .. except X as e. -/
namespace Dl
open PySem
open L2
def withE {S : Type} (B : Amb S) (e : Addr × Value × Option Addr) : Amb S := { B with ex := some e }
mutual
/-- no caught error within -/
def noE : D → Bool
  | .exn _ _ _ => false
  | .tup ds => noEL ds
  | .lst ds => noEL ds
  | .dct _ ds => noEL ds
  | .ins _ _ ds => noEL ds
  | .non => true
  | .bl _ => true
  | .int _ => true
  | .str _ => true
  | .hnd => true
def noEL : List D → Bool
  | [] => true
  | d :: ds => noE d && noEL ds
end
section
variable {K : PySem.W.Frag} {S : Type} {B : Amb S} {F H : Hp} {e : Addr × Value × Option Addr}
mutual
theorem dv_up (hB : B.ex = none) : ∀ {d : D} {v : V}, Dv K B F d v → Dv K (withE B e) F d v
  | .non, _, h => h
  | .bl _, _, h => h
  | .int _, _, h => h
  | .str _, _, h => h
  | .hnd, _, h => h
  | .tup _, _, ⟨a, vs, h1, h2, h3⟩ => ⟨a, vs, h1, h2, dvl_up hB h3⟩
  | .lst _, _, ⟨a, vs, h1, h2, h3⟩ => ⟨a, vs, h1, h2, dvl_up hB h3⟩
  | .dct _ _, _, ⟨a, kvs, h1, h2, h3, h4⟩ => ⟨a, kvs, h1, h2, h3, dvl_up hB h4⟩
  | .exn _ _ _, _, ⟨a, d, ws, h1, _⟩ => by
    rw [hB] at h1
    cases h1
  | .ins _ _ _, _, ⟨a, dx, fs, h1, h2, h3, h4, h5⟩ => ⟨a, dx, fs, h1, h2, h3, h4, dvl_up hB h5⟩
theorem dvl_up (hB : B.ex = none) : ∀ {ds : List D} {vs : List V}, DvL K B F ds vs → DvL K (withE B e) F ds vs
  | [], _, h => h
  | _ :: _, _, ⟨v, r, h1, h2, h3⟩ => ⟨v, r, h1, dv_up hB h2, dvl_up hB h3⟩
end
mutual
theorem dv_down : ∀ {d : D} {v : V}, noE d = true → Dv K (withE B e) F d v → Dv K B F d v
  | .non, _, _, h => h
  | .bl _, _, _, h => h
  | .int _, _, _, h => h
  | .str _, _, _, h => h
  | .hnd, _, _, h => h
  | .tup _, _, n, ⟨a, vs, h1, h2, h3⟩ => ⟨a, vs, h1, h2, dvl_down n h3⟩
  | .lst _, _, n, ⟨a, vs, h1, h2, h3⟩ => ⟨a, vs, h1, h2, dvl_down n h3⟩
  | .dct _ _, _, n, ⟨a, kvs, h1, h2, h3, h4⟩ => ⟨a, kvs, h1, h2, h3, dvl_down n h4⟩
  | .exn _ _ _, _, n, _ => by cases n
  | .ins _ _ _, _, n, ⟨a, dx, fs, h1, h2, h3, h4, h5⟩ => ⟨a, dx, fs, h1, h2, h3, h4, dvl_down n h5⟩
theorem dvl_down : ∀ {ds : List D} {vs : List V}, noEL ds = true → DvL K (withE B e) F ds vs → DvL K B F ds vs
  | [], _, _, h => h
  | d :: ds, _, n, ⟨v, r, h1, h2, h3⟩ => by
    have n' : (noE d && noEL ds) = true := n
    rw [Bool.and_eq_true] at n'
    exact ⟨v, r, h1, dv_down n'.1 h2, dvl_down n'.2 h3⟩
end
def noEO : Option Slot → Bool
  | none => true
  | some (.dat d) => noE d
  | some (.own xs) => noEL xs
theorem env_up (hB : B.ex = none) {σ : L2.St} {env : DE} (E : EnvOk K B F H σ env) : EnvOk K (withE B e) F H σ env :=
  ⟨E.len, fun i d h => by
    obtain ⟨v, h1, h2⟩ := E.dat i d h
    exact ⟨v, h1, dv_up hB h2⟩, fun i xs h => by
    obtain ⟨a, vs, h1, h2, h3, h4, h5⟩ := E.own i xs h
    exact ⟨a, vs, h1, h2, h3, h4, dvl_up hB h5⟩, E.inj⟩
theorem env_down {σ : L2.St} {env : DE} (n : env.all noEO = true) (E : EnvOk K (withE B e) F H σ env) : EnvOk K B F H σ env := by
  have nn : ∀ {i : Nat} {x : Option Slot}, env[i]? = some x → noEO x = true := fun h => List.all_eq_true.mp n _ (List.mem_of_getElem? h)
  exact ⟨E.len, fun i d h => by
    obtain ⟨v, h1, h2⟩ := E.dat i d h
    exact ⟨v, h1, dv_down (nn h) h2⟩, fun i xs h => by
    obtain ⟨a, vs, h1, h2, h3, h4, h5⟩ := E.own i xs h
    exact ⟨a, vs, h1, h2, h3, h4, dvl_down (nn h) h5⟩, E.inj⟩
theorem ok_up {s : S} (o : Ok B F H s) : Ok (withE B e) F H s := ⟨o.sub, o.ap, o.am⟩
theorem ok_down {s : S} (o : Ok (withE B e) F H s) : Ok B F H s := ⟨o.sub, o.ap, o.am⟩
theorem sv_down {o o' : Addr → Prop} {F' H' : Hp} {s : S} (v : Sv (withE B e) F H o F' H' o' s) : Sv B F H o F' H' o' s := ⟨v.fs, v.hs, v.os, v.th, ok_down v.ok⟩
/-- a slot forgotten -/
theorem env_drop {σ : L2.St} {env : DE} (E : EnvOk K B F H σ env) (i : Nat) (x : Option V) : EnvOk K B F H (σ.set i x) (env.set i none) := by
  have g : ∀ {j : Nat} {y : Slot}, (env.set i none)[j]? = some (some y) → j ≠ i ∧ env[j]? = some (some y) := fun {j y} h => by
    rcases set_get h with ⟨_, h2, _⟩ | h
    · cases h2
    · exact h
  have gs : ∀ {j : Nat} {y : Option V}, j ≠ i → σ[j]? = some y → (σ.set i x)[j]? = some y := fun hj h => by
    rw [List.getElem?_set_ne (Ne.symm hj)]
    exact h
  have gs' : ∀ {j : Nat} {y : Option V}, j ≠ i → (σ.set i x)[j]? = some y → σ[j]? = some y := fun hj h => by
    rw [List.getElem?_set_ne (Ne.symm hj)] at h
    exact h
  refine ⟨by rw [List.length_set, List.length_set]; exact E.len, fun j d h => ?_, fun j xs h => ?_, fun j k xs ys a h1 h2 h3 h4 => ?_⟩
  · obtain ⟨n, h'⟩ := g h
    obtain ⟨v, k1, k2⟩ := E.dat j d h'
    exact ⟨v, gs n k1, k2⟩
  · obtain ⟨n, h'⟩ := g h
    obtain ⟨a, vs, k1, k2⟩ := E.own j xs h'
    exact ⟨a, vs, gs n k1, k2⟩
  · obtain ⟨n1, h1'⟩ := g h1
    obtain ⟨n2, h2'⟩ := g h2
    exact E.inj j k xs ys a h1' h2' (gs' n1 h3) (gs' n2 h4)
theorem own_drop {σ : L2.St} {env : DE} {i : Nat} {x : Option V} {p : Addr} (h : Own (σ.set i x) (env.set i none) p) : Own σ env p := by
  obtain ⟨j, xs, h1, h2⟩ := h
  rcases set_get h1 with ⟨_, h3, _⟩ | ⟨n, h3⟩
  · cases h3
  · rw [List.getElem?_set_ne (Ne.symm n)] at h2
    exact ⟨j, xs, h3, h2⟩
end
theorem lookup_mem {α β : Type} [BEq α] [LawfulBEq α] {c : α} {b : β} : ∀ {l : List (α × β)}, l.lookup c = some b → (c, b) ∈ l
  | [], h => by cases h
  | (c', b') :: l, h => by
    unfold List.lookup at h
    split at h
    · rename_i hc
      have hc' : c = c' := by simpa using hc
      cases h
      rw [hc']
      exact List.mem_cons_self ..
    · exact List.mem_cons_of_mem _ (lookup_mem h)
/-- behind the suite: the name is gone, no error is left in any name -/
def cleanX {S : Type} (i : Nat) : OutS S → Option (OutX S)
  | .nx env s => if (env.set i none).all noEO = true then some (.ok (.nx (env.set i none) s)) else none
  | .bk env s => if (env.set i none).all noEO = true then some (.ok (.bk (env.set i none) s)) else none
  | .ct env s => if (env.set i none).all noEO = true then some (.ok (.ct (env.set i none) s)) else none
  | .rt d s => if noE d = true then some (.ok (.rt d s)) else none
/-- try: m except (the classes of which isS says so) as i: su -/
def xTry {S : Type} (i : Nat) (isS : List (Str × Bool)) (m : MSX S) (su : MS S) : MSX S := fun env s => (m env s).bind fun o => match o with
  | .ok o => some (.ok o)
  | .ex c f ds env' s' => (isS.lookup c).bind fun b => if b = true then (su (env'.set i (some (.dat (.exn c f ds)))) s').bind (cleanX i) else some (.ex c f ds env' s')
section
variable {X : Cx} {S : Type} {B : Amb S} {W : WX} {m : MSX S} {su : MS S} {body suite : List Stmt} {b₀ : Stmt} {x n : Str} {np pos pos' : Pos}
theorem x_try {i : Nat} {isS : List (Str × Bool)} (hB : B.ex = none) (hs : X.stack = X.env :: X.outer) (hf : X.env.frame = some X.env.locals) (hN : X.N.Nodup) (hi : X.N[i]? = some n) (hln : X.env.kindOf n = some .local) (gC : X.mg x = some (.ref (He.ga X.K x))) (hg : Gl X x) (hdb : (x == ("__debug__" : Str)) = false) (tk : Takes X W)
    (hx : ∀ q ∈ isS, PySem.W.exmOne X.K (.ref (He.ga X.K q.1)) (.ref (He.ga X.K x)) = some q.2)
    (hb : ∀ (W : WX) (pn : List (Addr × Obj)) (xe : Value → Shared → Prop), Takes (X.tr pn xe) W → PassesOwn (model X.prog X.w) X.A X.env xe → PSs (X.tr pn xe) body (tSX X.K B W m))
    (hsu : ∀ (a : Addr) (oe : Obj) (cls : Value) (d : Option Addr) (pn : List (Addr × Obj)), Zc cls d oe → (∃ vs, oe.data = .fields vs) → PSs (X.suite a ((a, oe) :: pn)) (b₀ :: suite) (tS X.K (withE B (a, cls, d)) su)) :
    PS X (.Try body [.ExceptHandler (some (.Name x np)) (some n) (b₀ :: suite) pos'] [] [] pos) (tSX X.K B W (xTry i isS m su)) :=
  ps_w (ps_try_as (c := .ref (He.ga X.K x)) (ts := fun a cls d => tS X.K (withE B (a, cls, d)) su) (tb := fun W => tSX X.K B W m) hs hf hN hi hln ⟨hg, hdb, .inl gC⟩ tk hb hsu) fun Dn σ H ⟨env, F, s, out, E, o, hm, hq⟩ => by
    unfold xTry at hm
    cases e1 : m env s with
    | none => simp [e1] at hm
    | some o1 =>
      simp only [e1, Option.bind_some] at hm
      refine ⟨env, F, s, o1, E, o, e1, ?_⟩
      cases o1 with
      | ok o1 =>
        cases hm
        exact hq
      | ex c f ds env' s' =>
        dsimp only at hm
        cases e2 : isS.lookup c with
        | none => simp [e2] at hm
        | some b =>
          simp only [e2, Option.bind_some] at hm
          have hmem : (c, b) ∈ isS := lookup_mem e2
          intro σ' F' H' dd E' v' hd
          refine ⟨b, hx _ hmem, fun hb' a ha => ?_, fun hb' => ?_⟩
          · subst hb'
            rw [if_pos rfl] at hm
            cases e3 : su (env'.set i (some (.dat (.exn c f ds)))) s' with
            | none => simp [e3] at hm
            | some o3 =>
              simp only [e3, Option.bind_some] at hm
              have hdv : Dv X.K (withE B (a, .ref (He.ga X.K c), dd)) F' (.exn c f ds) (.ref a) := by
                obtain ⟨ws, h1, h2⟩ := hd
                exact ⟨a, dd, ws, rfl, rfl, h1, dvl_up hB h2⟩
              have Eu := env_up (e := (a, .ref (He.ga X.K c), dd)) hB E'
              obtain ⟨Ep, op⟩ := Eu.put (i := i) hdv
              refine ⟨_, F', s', o3, Ep, ok_up v'.ok, e3, ?_⟩
              have back : ∀ {σ2 : L2.St} {env2 : DE} {F2 H2 : Hp} {s2 : S} {x2 : Option V}, Sv (withE B (a, .ref (He.ga X.K c), dd)) F' H' (Own (σ'.set i (some (.ref a))) (env'.set i (some (.dat (.exn c f ds))))) F2 H2 (Own σ2 env2) s2 → Sv B F H (Own σ env) F2 H2 (Own (σ2.set i x2) (env2.set i none)) s2 := fun v2 => by
                have v3 := sv_down v2
                have v4 : Sv B F' H' (Own σ' env') _ _ _ _ := ⟨fun p hp hn => v3.fs p hp (fun z => hn (op p z)), fun p u hp hb hn => v3.hs p u hp hb (fun z => hn (op p z)), fun p hp => (v3.os p hp).imp (op p) id, fun p hp => ?_, v3.ok⟩
                · exact v'.trans (v4.less fun p hp => own_drop hp)
                · have hh : H' p ≠ none := by
                    obtain ⟨_, _, _, _, _, _, _, h4, _⟩ := Own.at E' hp
                    rw [h4]
                    exact fun z => nomatch z
                  exact v3.dom hh
              cases o3 with
              | nx env2 s2 =>
                change (if (env2.set i none).all noEO = true then some (OutX.ok (.nx (env2.set i none) s2)) else none) = some out at hm
                split at hm
                · rename_i hn
                  cases hm
                  exact fun σ2 F2 H2 E2 v2 => hq (σ2.set i none) F2 H2 (env_down hn (env_drop E2 i none)) (back v2)
                · cases hm
              | bk env2 s2 =>
                change (if (env2.set i none).all noEO = true then some (OutX.ok (.bk (env2.set i none) s2)) else none) = some out at hm
                split at hm
                · rename_i hn
                  cases hm
                  exact fun σ2 F2 H2 E2 v2 => hq (σ2.set i none) F2 H2 (env_down hn (env_drop E2 i none)) (back v2)
                · cases hm
              | ct env2 s2 =>
                change (if (env2.set i none).all noEO = true then some (OutX.ok (.ct (env2.set i none) s2)) else none) = some out at hm
                split at hm
                · rename_i hn
                  cases hm
                  exact fun σ2 F2 H2 E2 v2 => hq (σ2.set i none) F2 H2 (env_down hn (env_drop E2 i none)) (back v2)
                · cases hm
              | rt d2 s2 =>
                change (if noE d2 = true then some (OutX.ok (.rt d2 s2)) else none) = some out at hm
                split at hm
                · rename_i hn
                  cases hm
                  intro v F2 H2 own' w hdv2
                  have w3 := sv_down w
                  have w4 : Sv B F' H' (Own σ' env') F2 H2 own' s2 := ⟨fun p hp hn => w3.fs p hp (fun z => hn (op p z)), fun p u hp hb hn => w3.hs p u hp hb (fun z => hn (op p z)), fun p hp => (w3.os p hp).imp (op p) id, fun p hp => by
                    have hh : H' p ≠ none := by
                      obtain ⟨_, _, _, _, _, _, _, h4, _⟩ := Own.at E' hp
                      rw [h4]
                      exact fun z => nomatch z
                    exact w3.dom hh, w3.ok⟩
                  exact hq v F2 H2 own' (v'.trans w4) (dv_down hn hdv2)
                · cases hm
          · subst hb'
            rw [if_neg Bool.false_ne_true] at hm
            cases hm
            exact hq σ' F' H' dd E' v' hd
end
/-! ### in a suite: the error's field, isinstance of it -/
def mXfld {S : Type} (errs : List (Str × Str)) (i : Nat) (f : Str) : ME S := fun env s => match env[i]? with
  | some (some (.dat (.exn c g [d]))) => if (c, f) ∈ errs ∧ g = f then some (d, s) else none
  | _ => none
def mXis {S : Type} (tbl : List (Str × Bool)) (i : Nat) : ME S := fun env s => match env[i]? with
  | some (some (.dat (.exn c _ _))) => (tbl.lookup c).map fun b => (.bl b, s)
  | _ => none
section
variable {X : Cx} {S : Type} {B : Amb S} {a : Addr} {oe : Obj} {cls : Value} {d : Option Addr} {pn : List (Addr × Obj)} {p1 p2 pos : Pos} {nm : Str}
theorem d_xfld {errs : List (Str × Str)} {i : Nat} {f : Str} (hT : ∀ q ∈ errs, XfC X.K (He.ga X.K q.1) ∧ PySem.W.findIn X.K (.ref (He.ga X.K q.1)) q.2 = some none) (hz : Zc cls d oe) (hf : ∃ vs, oe.data = .fields vs) (ho : PE (X.suite a ((a, oe) :: pn)) (.Name nm p1) (tVar i))
    (hb : attributeBase (.Name nm p1) f X.env (eval (.Name nm p1) X.env) = eval (.Name nm p1) X.env := by rfl) :
    PE (X.suite a ((a, oe) :: pn)) (.Attribute (.Name nm p1) f pos) (tD X.K (withE B (a, cls, d)) (mXfld errs i f)) := by
  refine ⟨fun pins s σ H Q I h => ?_⟩
  obtain ⟨env, F, st, d0, st', E, o, hm, hq⟩ := h
  unfold mXfld at hm
  split at hm
  · rename_i c g d1 he
    split at hm
    · rename_i hc
      obtain ⟨hc1, hc2⟩ := hc
      subst hc2
      cases hm
      obtain ⟨v, hσ, a', d', ws, k1, k2, k3, k4⟩ := E.dat i _ he
      have k1' : some (a, cls, d) = some (a', Value.ref (He.ga X.K c), d') := k1
      cases k1'
      obtain ⟨T1, T2⟩ := hT _ hc1
      obtain ⟨w, r, rfl, hw, hr⟩ := k4
      cases (show r = [] from hr)
      rcases k3 with ⟨_, z⟩ | ⟨dd, w', e1, e2, e3⟩
      · cases z
      · cases e3
        refine (pe_xf T1 T2 hz hf ho hb).run pins s σ H Q I ?_
        exact ⟨v, hσ, k2, rfl, dd, _, w, e1, o.sub _ _ e2, by simp [List.lookup], hq w F H o.refl hw⟩
    · cases hm
  · cases hm
theorem d_xis {tbl : List (Str × Bool)} {i : Nat} {e2 : Expr} {cv : Value} {cV : V} (hz : Zc cls d oe) (hf : ∃ vs, oe.data = .fields vs) (hc2 : ∀ u, RelV cV u → u = cv) (hT : ∀ q ∈ tbl, ExcC X.K (He.ga X.K q.1) ∧ PySem.W.kitOne X.K (.ref (He.ga X.K q.1)) cv = some q.2)
    (ho : PE (X.suite a ((a, oe) :: pn)) (.Name nm p1) (tVar i)) (h2 : PE (X.suite a ((a, oe) :: pn)) e2 (tC cV)) (hm : X.mg "isinstance" = none) (hg : Gl (X.suite a ((a, oe) :: pn)) "isinstance" := by rfl)
    (hs1 : starEach [e2] X.env = (false, eval e2 X.env) :: starEach [] X.env := by rfl) (hs2 : starEach (.Name nm p1 :: [e2]) X.env = (false, eval (.Name nm p1) X.env) :: starEach [e2] X.env := by rfl) (hpl : (backTo pos (starEach [e2] X.env)).any (·.1) = false := by rfl) :
    PE (X.suite a ((a, oe) :: pn)) (.Call (.Name "isinstance" p2) [.Name nm p1, e2] [] pos) (tD X.K (withE B (a, cls, d)) (mXis tbl i)) := by
  refine ⟨fun pins s σ H Q I h => ?_⟩
  obtain ⟨env, F, st, d0, st', E, o, hmm, hq⟩ := h
  unfold mXis at hmm
  split at hmm
  · rename_i c g ds he
    cases e5 : tbl.lookup c with
    | none => rw [e5] at hmm; cases hmm
    | some b =>
      rw [e5] at hmm
      cases hmm
      obtain ⟨v, hσ, a', d', ws, k1, k2, k3, k4⟩ := E.dat i _ he
      have k1' : some (a, cls, d) = some (a', Value.ref (He.ga X.K c), d') := k1
      cases k1'
      obtain ⟨T1, T2⟩ := hT _ (lookup_mem e5)
      subst k2
      refine (pe_callB (call_isD T1 hz hf) hg hm (by decide +kernel) (pa_cons ho (pa_cons h2 pa_nil hs1) hs2) (by decide) (by decide) hs2 hpl).run pins s σ H Q I ?_
      refine ⟨_, hσ, cV, cv, b, rfl, hc2, T2, fun dd e => ?_, hq _ F H o.refl rfl⟩
      rcases k3 with ⟨z, _⟩ | ⟨dd', w', e1, e2', e3⟩
      · rw [z] at e; cases e
      · rw [e1] at e
        cases e
        exact ⟨_, o.sub _ _ e2'⟩
  · cases hmm
end
end Dl

set_option Elab.async false
set_option linter.all false
set_option maxRecDepth 100000
set_option maxHeartbeats 4000000
/-! D22: the facts of own errors; what catches all; raising defs called where nothing is raised. -/
namespace Dl
open PySem
open L2
/-! ### a body that lets nothing out -/
def toS {S : Type} (m : MSX S) : MS S := fun env s => (m env s).bind fun o => match o with
  | .ok o => some o
  | .ex _ _ _ _ _ => none
def mCallX {S : Type} (g : List D → S → Option (RX S)) (l : ML S) : ME S := fun env s => (l env s).bind fun p => (g p.1 p.2).bind fun r => match r with
  | .val d s' => some (d, s')
  | .exc _ _ _ _ => none
section
variable {X : Cx} {S : Type} {B : Amb S} {sts : List Stmt} {st : Stmt} {m : MSX S} {e : Expr} {es : List Expr} {pos p : Pos} {ml : ML S} {k : Nat} {ps : List Str} {x : Str} {g : List D → S → Option (RX S)}
abbrev W0 : WX := fun _ _ _ _ => False
theorem ss_toS (h : PSs X sts (tSX X.K B W0 m)) : PSs X sts (tS X.K B (toS m)) := pss_w h fun Dn σ H ⟨env, F, s, out, E, o, hm, hq⟩ => by
  unfold toS at hm
  cases e1 : m env s with
  | none => simp [e1] at hm
  | some o1 =>
    simp only [e1, Option.bind_some] at hm
    cases o1 with
    | ok o1 =>
      cases hm
      exact ⟨env, F, s, _, E, o, e1, hq⟩
    | ex c f ds env' s' => cases hm
theorem s_toS (h : PS X st (tSX X.K B W0 m)) : PS X st (tS X.K B (toS m)) := ps_w h fun Dn σ H ⟨env, F, s, out, E, o, hm, hq⟩ => by
  unfold toS at hm
  cases e1 : m env s with
  | none => simp [e1] at hm
  | some o1 =>
    simp only [e1, Option.bind_some] at hm
    cases o1 with
    | ok o1 =>
      cases hm
      exact ⟨env, F, s, _, E, o, e1, hq⟩
    | ex c f ds env' s' => cases hm
theorem d_callX {j : Nat} (G : DOkX X.prog X.w X.K X.mg X.base B x k ps g) (hr : Room j X.A) (ha : PA X (e :: es) (tL X.K B ml)) (hj : k ≤ j := by decide)
    (hl : ∀ env s ds s', ml env s = some (ds, s') → ds.length = ps.length := by exact len_cons (by first | exact len_nil | exact len_cons (by first | exact len_nil | exact len_cons (by first | exact len_nil | exact len_cons (by first | exact len_nil | exact len_cons (by first | exact len_nil | exact len_cons len_nil))))))
    (hg : Gl X x := by rfl) (hdb : (x == ("__debug__" : Str)) = false := by decide) (he : starEach (e :: es) X.env = (false, eval e X.env) :: starEach es X.env := by rfl) (hpl : (backTo pos (starEach es X.env)).any (·.1) = false := by rfl) :
    PE X (.Call (.Name x p) (e :: es) [] pos) (tD X.K B (mCallX g ml)) := by
  refine pe_w (dx_call (W := W0) G takes0 hr ha hj hl hg hdb he hpl) fun σ H Q ⟨env, F, s, d, s', E, o, hm, hq⟩ => ?_
  unfold mCallX at hm
  cases e1 : ml env s with
  | none => simp [e1] at hm
  | some q =>
    simp only [e1, Option.bind_some] at hm
    cases e2 : g q.1 q.2 with
    | none => simp [e2] at hm
    | some r =>
      simp only [e2, Option.bind_some] at hm
      cases r with
      | val d1 s1 =>
        cases hm
        refine ⟨env, F, s, .val d s', E, o, ?_, hq⟩
        unfold xCall
        rw [e1]
        exact e2
      | exc c f ds s1 => cases hm
end
/-! ### facts -/
structure ErrD where
  x : Str
  f : Str
  qual : Str
  params : Arguments
  body : List Stmt
  scope : Scope
structure ErrSide (d : ErrD) : Prop where
  ok : PySem.Er.FOk d.f
  a : ∃ p1 p2, d.params = PySem.Er.iA d.f p1 p2
  b : ∃ q0 q1 q2 q3 q4 q5 q6 q7 q8 q9, d.body = PySem.Er.iB d.f q0 q1 q2 q3 q4 q5 q6 q7 q8 q9 ∧ (q2.endLine == q4.line) = true
  s : d.scope = PySem.Er.iS d.f
abbrev FnE : Type := Option (Str × Str × Arguments × FuncBody × Scope × Addr × List Str × Value × Value × Addr)
def fnE (K : PySem.W.Frag) (x : Str) : FnE := match K.lookup (He.ma K (He.ga K x) "__init__") with
  | some ⟨_, _, .func fd, _⟩ => some (fd.name, fd.qualname, fd.params, fd.body, fd.scope, fd.globals, fd.closure.map (·.1), fd.defaults, fd.kwdefaults, fd.builtins)
  | _ => none
def ErrD.val (d : ErrD) : FnE := some (("__init__" : Str), d.qual, d.params, .stmts d.body, d.scope, mainGlobals, [("__class__" : Str)], .none, .none, builtinsNs)
def errC (K : PySem.W.Frag) (C : Addr) : Bool := match K.lookup C with
  | some ⟨.type "type", _, .cls cd, sl⟩ => (match cd.mro, sl.toList with
    | .ref C' :: bm, [_, _, _, _, some (.builtin n), _] => C' == C && n == "ValueError.__new__" && !cd.hasDel && cd.hasDict && PySem.HandSPX.refsVE bm
    | _, _ => false)
  | _ => false
theorem errC_ok {K : PySem.W.Frag} {C : Addr} (q : errC K C = true) : ∃ nm qn N bs bm sn sub ab col dd k0 k1 k2 k3 k5, K.lookup C = some (excClassObj nm qn C N bs bm true sn sub ab col dd k0 k1 k2 k3 k5 "ValueError.__new__") ∧ PySem.HandSPX.refsVE bm = true := by
  unfold errC at q
  split at q
  · rename_i dd cd sl ho
    split at q
    · rename_i C' bm k0 k1 k2 k3 n k5 hm hs
      simp only [Bool.and_eq_true, beq_iff_eq, Bool.not_eq_true'] at q
      obtain ⟨⟨⟨⟨rfl, rfl⟩, hdel⟩, hd⟩, ht⟩ := q
      obtain ⟨nm, bs, mro, ns, qn, hd', sn, sub, ab, col, del⟩ := cd
      dsimp only at hm hdel hd
      subst hm hdel hd
      have hsl : sl = #[k0, k1, k2, k3, some (.builtin "ValueError.__new__"), k5] := by
        obtain ⟨l⟩ := sl
        simp only at hs
        subst hs
        rfl
      subst hsl
      exact ⟨_, _, _, _, _, _, _, _, _, _, _, _, _, _, _, ho, ht⟩
    · cases q
  · cases q
def errCell (K : PySem.W.Frag) (C cc : Addr) : Bool := match K.lookup cc with
  | some ⟨_, _, .cell (some (.ref D)), _⟩ => D == C
  | _ => false
def errCode (K : PySem.W.Frag) (file : Str) (cda : Addr) : Bool := match K.lookup cda with
  | some ⟨_, _, .fields vs, _⟩ => (match (vs[2]? : Option Value) with
    | some (.str z _) => decide (z = file)
    | _ => false)
  | _ => false
def errClo (K : PySem.W.Frag) (C : Addr) (file : Str) : List (Str × Addr) → Value → Bool
  | [(_, cc)], .ref cda => errCell K C cc && errCode K file cda
  | _, _ => false
def errF (K : PySem.W.Frag) (C fI : Addr) (file : Str) : Bool := match K.lookup fI with
  | some ⟨_, _, .func fd, _⟩ => PySem.W.codeIn K fd.code fd.qualname && errClo K C file fd.closure fd.code
  | _ => false
theorem errCell_ok {K : PySem.W.Frag} {C cc : Addr} (h : errCell K C cc = true) : ∃ cl cld csl, K.lookup cc = some ⟨cl, cld, .cell (some (.ref C)), csl⟩ := by
  unfold errCell at h
  split at h
  · rename_i cl cld D csl hcc
    have e : D = C := by simpa using h
    subst e
    exact ⟨_, _, _, hcc⟩
  · cases h
theorem errCode_ok {K : PySem.W.Frag} {file : Str} {cda : Addr} (h : errCode K file cda = true) : ∃ ccl cdd vs ccs tf, K.lookup cda = some ⟨ccl, cdd, .fields vs, ccs⟩ ∧ vs[2]? = some (.str file tf) := by
  unfold errCode at h
  split at h
  · rename_i ccl cdd vs ccs hcda
    split at h
    · rename_i z tf hvs
      have ez : z = file := of_decide_eq_true h
      subst ez
      exact ⟨_, _, _, _, _, hcda, hvs⟩
    · cases h
  · cases h
theorem errClo_ok {K : PySem.W.Frag} {C : Addr} {file : Str} {cl : List (Str × Addr)} {v : Value} (h : errClo K C file cl v = true) : ∃ nm cc cda, cl = [(nm, cc)] ∧ v = .ref cda ∧ errCell K C cc = true ∧ errCode K file cda = true := by
  unfold errClo at h
  split at h
  · rename_i nm cc cda
    obtain ⟨h1, h2⟩ := He.ba h
    exact ⟨nm, cc, cda, rfl, rfl, h1, h2⟩
  · cases h
def excCB (K : PySem.W.Frag) (D : Addr) : Bool := decide (PySem.W.findIn K (.ref D) "__getattribute__" = some (some (.builtin "BaseException.__getattribute__"))) && (decide (PySem.W.findIn K (.ref D) "__getattr__" = some none) && (decide (PySem.W.subIn K (.ref D) (.type "BaseException") = some true) && (PySem.W.hasDictIn K D &&
  (decide (PySem.W.findIn K (.ref D) "__class__" = some (some (.builtin "object.__class__"))) && (decide (PySem.W.specialIn K (.builtin "object.__class__") "__get__" = some (some (.builtin "getset_descriptor.__get__"))) && (decide (PySem.W.takesIn K (.builtin "object.__class__") = some true) && decide (PySem.W.mroIn K D (.type "object") = some true)))))))
theorem excCB_ok {K : PySem.W.Frag} {D : Addr} (h : excCB K D = true) : ExcC K D := by
  unfold excCB at h
  simp only [Bool.and_eq_true, decide_eq_true_eq] at h
  obtain ⟨h1, h2, h3, h4, h5, h6, h7, h8⟩ := h
  exact ⟨h1, h2, h3, h4, h5, h6, h7, h8⟩
def errB (K : PySem.W.Frag) (file x f : Str) : Bool := errC K (He.ga K x) && (decide (PySem.W.findIn K (.ref (He.ga K x)) "__setattr__" = some (some (.builtin "object.__setattr__"))) && (decide (PySem.W.findIn K (.ref (He.ga K x)) f = some none) &&
  (decide (PySem.W.ks_superIn K (He.ga K x) (He.ga K x) "__init__" = some (some (.builtin "ValueError.__init__"))) && (decide (PySem.W.subIn K (.ref (He.ga K x)) (.type "ValueError") = some true) && (decide (PySem.W.nsIn K PySem.cStatics "thirdparty.any" = some none) && (decide (PySem.W.nsIn K mainGlobals "super" = some none) &&
  (PySem.W.keepIn K (.ref (He.ga K x)) && (decide (PySem.W.subIn K (.ref (He.ga K x)) (.type "BaseException") = some true) && (decide (PySem.W.typeIn K (.ref (He.ga K x)) = some (.type "type")) && (decide (PySem.W.findIn K (.ref (He.ga K x)) "__init__" = some (some (.ref (He.ma K (He.ga K x) "__init__")))) &&
  (decide (PySem.W.typeIn K (.ref (He.ma K (He.ga K x) "__init__")) = some (.type "function")) && (errF K (He.ga K x) (He.ma K (He.ga K x) "__init__") file && (xfB K (He.ga K x) && excCB K (He.ga K x))))))))))))))
theorem err_ok {K : PySem.W.Frag} {file : Str} {d : ErrD} (sd : ErrSide d) (e : fnE K d.x = d.val) (h : errB K file d.x d.f = true) : PySem.Er.ErrTxt K file d.f (He.ga K d.x) ∧ XfC K (He.ga K d.x) ∧ ExcC K (He.ga K d.x) := by
  unfold errB at h
  simp only [Bool.and_eq_true, decide_eq_true_eq] at h
  obtain ⟨h1, h2, h3, h4, h5, h6, h7, h8, h9, h10, h11, h12, h13, h14, h15⟩ := h
  refine ⟨⟨sd.ok, errC_ok h1, h2, h3, h4, h5, h6, h7, h8, h9, h10, ?_⟩, xfB_ok h14, excCB_ok h15⟩
  obtain ⟨p1, p2, ea⟩ := sd.a
  obtain ⟨q0, q1, q2, q3, q4, q5, q6, q7, q8, q9, eb, eps⟩ := sd.b
  generalize hf : He.ma K (He.ga K d.x) "__init__" = fI at h11 h12 h13
  unfold fnE at e
  rw [hf] at e
  unfold errF at h13
  cases q : K.lookup fI with
  | none =>
    rw [q] at h13
    cases h13
  | some o =>
    obtain ⟨oc, od, dt, osl⟩ := o
    rw [q] at h13 e
    cases dt with
    | func fd =>
      obtain ⟨n1, n2, n3, n4, n5, n6, n7, n8, n9, n10, n11, n12, n13, n14, n15⟩ := fd
      have e2 : (some (n1, n2, n3, n4, n5, n6, n7.map (·.1), n8, n9, n15) : FnE) = some (("__init__" : Str), d.qual, d.params, .stmts d.body, d.scope, mainGlobals, [("__class__" : Str)], .none, .none, builtinsNs) := e
      simp only [Option.some.injEq, Prod.mk.injEq] at e2
      obtain ⟨g1, g2, g3, g4, g5, g6, g7, g8, g9, g10⟩ := e2
      obtain ⟨k1, k2⟩ := He.ba (show (PySem.W.codeIn K n13 n2 && errClo K (He.ga K d.x) file n7 n13) = true from h13)
      obtain ⟨nm, cc, cda, rfl, rfl, k3, k4⟩ := errClo_ok k2
      obtain ⟨cl, cld, csl, hcc⟩ := errCell_ok k3
      obtain ⟨ccl, cdd, vs, ccs, tf, hcda, hvs⟩ := errCode_ok k4
      have en : nm = ("__class__" : Str) := by
        have := g7
        simpa using this
      subst en
      subst g1 g2 g3 g4 g5 g6 g8 g9 g10
      rw [ea, eb, sd.s] at q
      exact ⟨fI, cc, cda, oc, ccl, cl, od, cdd, cld, vs, tf, osl, ccs, csl, d.qual, n10, n11, n14, n12, p1, p2, q0, q1, q2, q3, q4, q5, q6, q7, q8, q9, h11, h12, q, k1, hcda, hvs, eps, hcc⟩
    | _ => cases h13
def ErrsB (K : PySem.W.Frag) (file : Str) (errs : List ErrD) : Bool := errs.all fun d => errB K file d.x d.f
end Dl
namespace Dl
open PySem
open L2
/-! ### a text's facts, with its own errors -/
structure TxE (fn : List He.DefD) (gs fr : List Str) (is : List (Str × Int)) (ss : List (Str × Str)) (ts : List (Str × D)) (file : Str) (errs : List ErrD) (exms kits : List (Str × Str × Bool)) (kitb : List (Str × String × Bool)) (K : PySem.W.Frag) (mg : Str → Option Value) : Prop where
  tx : Tx fn gs fr is ss ts K mg
  err : ∀ d ∈ errs, PySem.Er.ErrTxt K file d.f (He.ga K d.x) ∧ XfC K (He.ga K d.x) ∧ ExcC K (He.ga K d.x)
  exm : ∀ q ∈ exms, PySem.W.exmOne K (.ref (He.ga K q.1)) (.ref (He.ga K q.2.1)) = some q.2.2
  kit : ∀ q ∈ kits, PySem.W.kitOne K (.ref (He.ga K q.1)) (.ref (He.ga K q.2.1)) = some q.2.2
  kib : ∀ q ∈ kitb, PySem.W.kitOne K (.ref (He.ga K q.1)) (.type q.2.1) = some q.2.2
def exB (K : PySem.W.Frag) (file : Str) (errs : List ErrD) (exms kits : List (Str × Str × Bool)) (kitb : List (Str × String × Bool)) : Bool := (errs.all fun d => errB K file d.x d.f) && ((exms.all fun q => decide (PySem.W.exmOne K (.ref (He.ga K q.1)) (.ref (He.ga K q.2.1)) = some q.2.2)) &&
  ((kits.all fun q => decide (PySem.W.kitOne K (.ref (He.ga K q.1)) (.ref (He.ga K q.2.1)) = some q.2.2)) && kitb.all fun q => decide (PySem.W.kitOne K (.ref (He.ga K q.1)) (.type q.2.1) = some q.2.2)))
abbrev AlZ : Type := (He.AlD × Bool) × Bool × List FnE
def frZ (n : Nat) (g : Addr → Option Obj) : PySem.W.Frag := He.frG g (He.asD g n ++ [PySem.cStatics])
def obsZ (n : Nat) (fa : List He.Fa) (fn : List He.DefD) (ts : List (Str × D)) (file : Str) (errs : List ErrD) (exms kits : List (Str × Str × Bool)) (kitb : List (Str × String × Bool)) (g : Addr → Option Obj) : AlZ :=
  ((He.obsD fa fn (frZ n g), exOf ts (frZ n g)), exB (frZ n g) file errs exms kits kitb, errs.map fun d => fnE (frZ n g) d.x)
def SaysZ (fa : List He.Fa) (fn : List He.DefD) (ts : List (Str × D)) (file : Str) (errs : List ErrD) (exms kits : List (Str × Str × Bool)) (kitb : List (Str × String × Bool)) (K : PySem.W.Frag) : Prop := SaysY fa fn ts K ∧ exB K file errs exms kits kitb = true ∧ (errs.map fun d => fnE K d.x) = errs.map ErrD.val
def hookZ (n : Nat) (fa : List He.Fa) (fn : List He.DefD) (ts : List (Str × D)) (file : Str) (errs : List ErrD) (exms kits : List (Str × Str × Bool)) (kitb : List (Str × String × Bool)) : PySem.W.Hook where
  α := AlZ
  obs := fun s => obsZ n fa fn ts file errs exms kits kitb s.heap.get?
  val := fun _ => ((He.valD fn, true), true, errs.map ErrD.val)
  says := fun _ h => ∃ K : PySem.W.Frag, K.In h ∧ SaysZ fa fn ts file errs exms kits kitb K
  of := fun _ _ e => ⟨_, He.frG_in, ⟨congrArg (fun z : AlZ => z.1.1) e, congrArg (fun z : AlZ => z.1.2) e⟩, congrArg (fun z : AlZ => z.2.1) e, congrArg (fun z : AlZ => z.2.2) e⟩
  keeps := fun _ _ _ ⟨K, hK, c⟩ k => ⟨K, PySem.W.Frag.In.keeps hK k, c⟩
theorem obsZ_eq {n : Nat} {fa : List He.Fa} {fn : List He.DefD} {ts : List (Str × D)} {file : Str} {errs : List ErrD} {exms kits : List (Str × Str × Bool)} {kitb : List (Str × String × Bool)} {g : Addr → Option Obj} {s : Shared} (h : ∀ a, g a = s.heap.get? a) : obsZ n fa fn ts file errs exms kits kitb g = (hookZ n fa fn ts file errs exms kits kitb).obs s := by
  have e : g = s.heap.get? := funext h
  rw [e]
  rfl
theorem map_eq_mem {α β : Type} {f g : α → β} : ∀ {l : List α}, l.map f = l.map g → ∀ x ∈ l, f x = g x
  | [], _, _, h => by cases h
  | a :: l, e, x, h => by
    rw [List.map_cons, List.map_cons, List.cons.injEq] at e
    rcases List.mem_cons.mp h with z | z
    · rw [z]; exact e.1
    · exact map_eq_mem e.2 x z
theorem txE_of {fn : List He.DefD} {gs fr : List Str} {is : List (Str × Int)} {ss : List (Str × Str)} {ts : List (Str × D)} {file : Str} {errs : List ErrD} {exms kits : List (Str × Str × Bool)} {kitb : List (Str × String × Bool)} {K : PySem.W.Frag} {h : Heap} {mg : Str → Option Value} (X : K.In h) (G : h.Ns mainGlobals mg)
    (c : SaysZ (faOf gs fr is ss ts) fn ts file errs exms kits kitb K) (sd : ∀ d ∈ errs, ErrSide d) : TxE fn gs fr is ss ts file errs exms kits kitb K mg := by
  obtain ⟨c1, c2, c3⟩ := c
  unfold exB at c2
  simp only [Bool.and_eq_true, List.all_eq_true, decide_eq_true_eq] at c2
  obtain ⟨h1, h2, h3, h4⟩ := c2
  exact ⟨tx_of X G c1, fun d hd => err_ok (sd d hd) (map_eq_mem c3 d hd) (h1 d hd), h2, h3, h4⟩
end Dl

set_option Elab.async false
set_option linter.all false
set_option maxRecDepth 100000
set_option maxHeartbeats 4000000
/-! D23: further words. -/
namespace Dl
open PySem
open L2
/-- the statements of a class -/
def clsBody : Stmt → List Stmt
  | .ClassDef (body := b) .. => b
  | _ => []
section
variable {X : Cx} {S : Type} {B : Amb S} {W : WX} {sts : List Stmt} {m : MSX S} {o e : Expr} {ma me : ME S} {apos pos : Pos}
theorem x_frz (i : Nat) (h : PSs X sts (tSX X.K B W m)) : PSs X sts (tSX X.K B W (xFrz i m)) := pss_w h fun Dn σ H ⟨env, F, s, out, E, o, hm, hq⟩ => by
  unfold xFrz at hm
  cases e2 : ownAt env i with
  | none => simp [e2] at hm
  | some xs =>
    have hx := ownAt_eq e2
    simp only [e2, Option.bind_some] at hm
    obtain ⟨q, vs, h1, h2, h3, h4, h5⟩ := E.own i xs hx
    obtain ⟨E2, w2⟩ := E.frz o hx h1 h4 h2 h3 h5
    exact ⟨_, _, s, out, E2, w2.ok, hm, hq.back w2⟩
def startsD : D → D → Option D
  | .str a, .str b => some (.bl (Txt.startswith a b))
  | _, _ => none
theorem d_starts (ho : PE X o (tD X.K B ma)) (he : PE X e (tD X.K B me)) (hs : starEach [e] X.env = [(false, eval e X.env)] := by rfl) (hbase : attributeBase o "startswith" X.env (eval o X.env) = eval o X.env := by rfl) (hline : (apos.endLine == pos.line) = true := by rfl) :
    PE X (.Call (.Attribute o "startswith" apos) [e] [] pos) (tD X.K B (mB startsD ma me)) := pe_w (pe_m1 PySem.F.slot_str_startswith PySem.F.type_str_startswith mt_startswith ho he hs hbase hline) fun σ H Q ⟨env, F, s, d, s', E, oo, hm, hq⟩ => by
  unfold mB at hm
  cases e1 : ma env s with
  | none => simp [e1] at hm
  | some q1 =>
    obtain ⟨d1, s1⟩ := q1
    simp only [e1, Option.bind_some] at hm
    cases e2 : me env s1 with
    | none => simp [e2] at hm
    | some q2 =>
      obtain ⟨d2, s2⟩ := q2
      simp only [e2, Option.bind_some] at hm
      cases e3 : startsD d1 d2 with
      | none => rw [e3] at hm; cases hm
      | some z =>
        rw [e3] at hm
        cases hm
        unfold startsD at e3
        split at e3
        · rename_i a b
          cases e3
          refine ⟨env, F, s, .str a, s1, E, oo, e1, fun v F1 H1 v1 hx => ?_⟩
          have ex : v = V.str a := hx
          subst ex
          refine ⟨⟨a, rfl⟩, env, F1, s1, .str b, _, E.step oo v1, v1.ok, e2, fun u F2 H2 v2 hy => ?_⟩
          have ey : u = V.str b := hy
          subst ey
          exact ⟨a, b, rfl, rfl, hq _ F2 H2 (v1.trans v2) rfl⟩
        · cases e3
end
end Dl

set_option Elab.async false
set_option linter.all false
set_option maxRecDepth 100000
set_option maxHeartbeats 4000000
/-! M1: what mirrors come to. -/
namespace Dl
open PySem
open L2
structure OW {α : Type} (x : Option α) (Q : α → Prop) : Prop where
  ex : ∃ a, x = some a ∧ Q a
section
variable {α β : Type} {Q : α → Prop} {R : β → Prop} {x : Option α}
theorem OW_some {a : α} : OW (some a) Q = Q a := propext ⟨fun ⟨b, e, q⟩ => by cases e; exact q, fun q => ⟨a, rfl, q⟩⟩
theorem OW_none : OW (none : Option α) Q = False := propext ⟨fun ⟨b, e, q⟩ => (by cases e), fun (q : False) => False.elim q⟩
theorem OW_bind {f : α → Option β} : OW (x.bind f) R = OW x fun a => OW (f a) R := by
  cases x with
  | none => exact OW_none.trans OW_none.symm
  | some a => exact (OW_some (Q := fun a => OW (f a) R)).symm
theorem OW_map {f : α → β} : OW (x.map f) R = OW x fun a => R (f a) := by
  cases x with
  | none => exact OW_none.trans OW_none.symm
  | some a => exact OW_some.trans (OW_some (Q := fun a => R (f a))).symm
theorem OW_if {c : Prop} [Decidable c] {y : Option α} : OW (if c then x else y) Q = (if c then OW x Q else OW y Q) := by
  split <;> rfl
theorem OW.get (h : OW x Q) : ∃ a, x = some a ∧ Q a := h.ex
theorem OW.of {a : α} (h : x = some a) (q : Q a) : OW x Q := ⟨a, h, q⟩
theorem OW.mono {Q' : α → Prop} (h : OW x Q) (g : ∀ a, Q a → Q' a) : OW x Q' := by
  obtain ⟨a, e, q⟩ := h.ex
  exact ⟨a, e, g a q⟩
end
theorem eq_of_OW {α : Type} {x : Option α} {a : α} (h : OW x fun p => p = a) : x = some a := by
  obtain ⟨b, e, k⟩ := h.get
  rw [e, k]
theorem OW_eq {α : Type} {x : Option α} {a : α} {Q : α → Prop} (h : x = some a) : OW x Q = Q a := by rw [h, OW_some]
/-! how a def ends -/
def outD {S : Type} : OutS S → Option (D × S)
  | .nx _ s' => some (.non, s')
  | .rt d s' => some (d, s')
  | _ => none
theorem mDef_eq {S : Type} {n : Nat} {m : MS S} {ds : List D} {s : S} : mDef n m ds s = (m (startE n ds) s).bind outD := by
  unfold mDef
  congr 1
section
variable {S : Type} {env : DE} {s : S} {d : D} {b : MS S}
theorem outD_nx : outD (OutS.nx env s) = some (D.non, s) := rfl
theorem outD_rt : outD (OutS.rt d s) = some (d, s) := rfl
theorem thenS_nx : thenS (OutS.nx env s) b = b env s := rfl
theorem thenS_rt : thenS (OutS.rt d s) b = some (OutS.rt d s) := rfl
theorem thenS_bk : thenS (OutS.bk env s) b = some (OutS.bk env s) := rfl
theorem thenS_ct : thenS (OutS.ct env s) b = some (OutS.ct env s) := rfl
theorem rt_D {d' : D} {s' : S} : (OutS.rt d s = OutS.rt d' s') = (d = d' ∧ s = s') := by rw [OutS.rt.injEq]
end
theorem tupItems_tup {ds : List D} : tupItems (.tup ds) = some ds := rfl
theorem lstItems_lst {ds : List D} : lstItems (.lst ds) = some ds := rfl
theorem bl_bl {b : Bool} : blD (.bl b) = some b := rfl
theorem int_int {b : Int} : intOf (.int b) = some b := rfl
section
variable {h : Hand} {i : Nat} {k z : Int} {e : ME Hand} {env : DE}
theorem mHx_eq : mHx i k env h = if isH env i = true then (hget h k).map fun z => (.int z, h) else none := rfl
theorem mHlen_eq : mHlen i env h = if isH env i = true then some (.int h.cells.length, h) else none := rfl
theorem mHcell_eq : mHcell i e env h = if isH env i = true then (e env h).bind fun p => (intOf p.1).bind fun z => (atI p.2.cells z).map fun n => (.int n, p.2) else none := rfl
theorem sHput_eq : sHput i k e env h = if isH env i = true then (e env h).bind fun p => (intOf p.1).bind fun z => (hset p.2 k z).map fun h' => .nx env h' else none := rfl
theorem isH_hnd {l : DE} : isH (some (.dat .hnd) :: l) 0 = true := rfl
theorem hget1 : hget h 1 = some ((h.pos : Nat) : Int) := rfl
theorem hget2 : hget h 2 = some h.great := rfl
theorem hget3 : hget h 3 = some h.seed := rfl
theorem hget4 : hget h 4 = some h.turn := rfl
theorem hset1 : hset h 1 z = if 0 ≤ z then some { h with pos := z.toNat } else none := rfl
theorem hset2 : hset h 2 z = some { h with great := z } := rfl
theorem hset3 : hset h 3 z = some { h with seed := z } := rfl
theorem hset4 : hset h 4 z = some { h with turn := z } := rfl
end
section
variable {i j : Int} {xs ys : List D}
theorem add_int : addD (.int i) (.int j) = some (.int (i + j)) := rfl
theorem add_tup : addD (.tup xs) (.tup ys) = if xs.length + ys.length ≤ sizeLine then some (.tup (xs ++ ys)) else none := rfl
theorem add_lst : addD (.lst xs) (.lst ys) = if xs.length + ys.length ≤ sizeLine then some (.lst (xs ++ ys)) else none := rfl
theorem sub_int : subD (.int i) (.int j) = some (.int (i - j)) := rfl
theorem mul_int : mulD (.int i) (.int j) = (mulI i j).map D.int := rfl
theorem div_int : divD (.int i) (.int j) = (divI i j).map D.int := rfl
theorem mod_int : modD (.int i) (.int j) = (modI i j).map D.int := rfl
theorem pow_int : powD (.int i) (.int j) = (powI i j).map D.int := rfl
theorem abs_int : absD [.int i] = some (.int (if i < 0 then -i else i)) := rfl
theorem intC_int : intCD [.int i] = some (.int i) := rfl
theorem len_tup : lenD [.tup xs] = some (.int xs.length) := rfl
theorem len_lst : lenD [.lst xs] = some (.int xs.length) := rfl
theorem tup_D : tupD xs = if xs.length ≤ sizeLine then some (.tup xs) else none := rfl
theorem lst_D : lstD xs = if xs.length ≤ sizeLine then some (.lst xs) else none := rfl
end
theorem mulI_r {i j : Int} (h : -(2 ^ 64) < j ∧ j < 2 ^ 64) : mulI i j = some (i * j) := by
  unfold mulI
  rw [if_pos (.inr (.inr h))]
theorem mulI_l {i j : Int} (h : -(2 ^ 64) < i ∧ i < 2 ^ 64) : mulI i j = some (i * j) := by
  unfold mulI
  rw [if_pos (.inr (.inl h))]
theorem mulI_mod {x c j : Int} (h : 0 < c) (h2 : c ≤ 2 ^ 64) : mulI (x % c) j = some (x % c * j) := by
  have h3 := Int.emod_nonneg x (Int.ne_of_gt h)
  have h4 := Int.emod_lt_of_pos x h
  exact mulI_l ⟨by omega, by omega⟩
theorem pow_10_18 : powI 10 18 = some 1000000000000000000 := by decide +kernel
theorem atI_nat {α : Type} {l : List α} {n : Nat} (h : n < l.length) : atI l (n : Int) = some l[n] := by
  unfold atI ixN
  rw [if_pos (by omega), if_pos (by omega)]
  show l[((n : Int)).toNat]? = _
  rw [Int.toNat_natCast, List.getElem?_eq_getElem h]
theorem divI_ok {i j : Int} (h : 0 < j) (h2 : j.natAbs.log2 < 9000) : divI i j = some (i / j) := by
  unfold divI
  rw [if_pos ⟨h, h2⟩]
theorem modI_ok {i j : Int} (h : 0 < j) : modI i j = some (i % j) := by
  unfold modI
  rw [if_pos h]
/-! relations on whole numbers, truths -/
open PySem.W in
theorem lt_int0 (a b : Int) : dataLt (.int a) (.int b) = decide (a < b) := by
  show (decide (a < b) || (!decide (b < a) && false)) = decide (a < b)
  rw [Bool.and_false, Bool.or_false]
section
variable {a b : Int}
theorem eq_int : relD eqP (.int a) (.int b) = some (.bl (a == b)) := rfl
theorem ne_int : relD neP (.int a) (.int b) = some (.bl (!(a == b))) := rfl
theorem lt_int : relD ltP (.int a) (.int b) = some (.bl (decide (a < b))) := by
  show some (D.bl (PySem.W.dataLt (.int a) (.int b))) = _
  rw [lt_int0]
theorem gt_int : relD gtP (.int a) (.int b) = some (.bl (decide (b < a))) := by
  show some (D.bl (PySem.W.dataLt (.int b) (.int a))) = _
  rw [lt_int0]
theorem le_int : relD leP (.int a) (.int b) = some (.bl (decide (a ≤ b))) := by
  show some (D.bl (!PySem.W.dataLt (.int b) (.int a))) = _
  rw [lt_int0]
  congr 2
  by_cases c : a ≤ b
  · simp [c, Int.not_lt.mpr c]
  · simp [c, Int.lt_of_not_ge c]
theorem ge_int : relD geP (.int a) (.int b) = some (.bl (decide (b ≤ a))) := by
  show some (D.bl (!PySem.W.dataLt (.int a) (.int b))) = _
  rw [lt_int0]
  congr 2
  by_cases c : b ≤ a
  · simp [c, Int.not_lt.mpr c]
  · simp [c, Int.lt_of_not_ge c]
theorem eq_bl {a b : Bool} : relD eqP (.bl a) (.bl b) = some (.bl (a == b)) := rfl
end
/-! no hand within -/
mutual
def noH : D → Bool
  | .hnd => false
  | .exn _ _ _ => false
  | .ins _ _ _ => false
  | .tup ds => noHL ds
  | .lst ds => noHL ds
  | .dct _ ds => noHL ds
  | _ => true
def noHL : List D → Bool
  | [] => true
  | d :: ds => noH d && noHL ds
end
theorem noHL_mem {d : D} : ∀ {ds : List D}, noHL ds = true → d ∈ ds → noH d = true
  | x :: xs, h, hm => by
    unfold noHL at h
    rw [Bool.and_eq_true] at h
    rcases List.mem_cons.mp hm with e | e
    · rw [e]; exact h.1
    · exact noHL_mem h.2 e
theorem isi_of {T : Ty} {d : D} (h : noH d = true) : isiD T d = some (.bl (isI T d)) := by
  cases d with
  | hnd => cases h
  | exn _ _ _ => cases h
  | ins _ _ _ => cases h
  | _ => rfl
/-- a comprehension whose item is a plain thing of the walked one -/
theorem comp_pure {S : Type} {g : D → DE → Option DE} {e : ME S} {env : DE} {s : S} {k : D → D} : ∀ {xs : List D}, (∀ x ∈ xs, ∃ env1, g x env = some env1 ∧ e env1 s = some (k x, s)) → compL g mYes e env xs s = some (xs.map k, s)
  | [], _ => rfl
  | x :: xs, h => by
    obtain ⟨env1, h1, h2⟩ := h x (List.mem_cons_self ..)
    have ih := comp_pure (xs := xs) fun y hy => h y (List.mem_cons_of_mem _ hy)
    unfold compL
    rw [h1]
    show (if true = true then (e env1 s).bind fun q => (compL g mYes e env xs q.2).map fun r => (q.1 :: r.1, r.2) else compL g mYes e env xs s) = _
    rw [if_pos rfl, h2]
    show ((compL g mYes e env xs s).map fun r => (k x :: r.1, r.2)) = _
    rw [ih]
    rfl
theorem bls_map {p : D → Bool} : ∀ {xs : List D}, blsD (xs.map fun x => D.bl (p x)) = some (xs.map p)
  | [] => rfl
  | x :: xs => by
    show (blsD (xs.map fun x => D.bl (p x))).map (fun bs => p x :: bs) = _
    rw [bls_map]
    rfl
theorem all_map {p : D → Bool} {xs : List D} : allD [.lst (xs.map fun x => D.bl (p x))] = some (.bl (xs.all p)) := by
  show (blsD (xs.map fun x => D.bl (p x))).map (fun bs => D.bl (bs.all id)) = _
  rw [bls_map]
  show some (D.bl ((xs.map p).all id)) = _
  rw [List.all_map]
  rfl
end Dl

set_option Elab.async false
set_option linter.all false
set_option maxRecDepth 100000
set_option maxHeartbeats 4000000
/-! D24: the hand that is a dict. -/
namespace Dl
open PySem
open L2
def handK (c : Addr) (h : Hand) : List (Key × V) := [(.inr "cells", .ref c), (.inr "at", .int h.pos), (.inr "left", .int h.great), (.inr "seed", .int h.seed), (.inr "turn", .int h.turn)]
def HandK (p c : Addr) : Amb Hand where
  at' := fun h H => p ≠ c ∧ H p = some (.dK (handK c h)) ∧ H c = some (.lst (h.cells.map V.int))
  own := fun q => q = p ∨ q = c
  hA := p
  there := fun s H q h ho => by
    rcases ho with e | e
    · subst e; rw [h.2.1]; exact fun z => nomatch z
    · subst e; rw [h.2.2]; exact fun z => nomatch z
  stay := fun s H H' h k => ⟨h.1, k p _ (.inl rfl) h.2.1, k c _ (.inr rfl) h.2.2⟩
def keyK : Int → Option Str
  | 1 => some "at"
  | 2 => some "left"
  | 3 => some "seed"
  | 4 => some "turn"
  | _ => none
section
variable {p c : Addr} {F H : Hp} {h h' : Hand} {k z : Int} {x : Str}
theorem kget_cells : valV (handK c h) (.inr "cells") = some (.ref c) := valV_pos rfl
theorem kget_at (e : hget h k = some z) (hk : keyK k = some x) : valV (handK c h) (.inr x) = some (.int z) := by
  have n1 : ¬ (.inr "cells" : Key) = .inr "at" := fun z => absurd (Sum.inr.inj z) (by decide +kernel)
  have n2 : ¬ (.inr "cells" : Key) = .inr "left" := fun z => absurd (Sum.inr.inj z) (by decide +kernel)
  have n3 : ¬ (.inr "cells" : Key) = .inr "seed" := fun z => absurd (Sum.inr.inj z) (by decide +kernel)
  have n4 : ¬ (.inr "cells" : Key) = .inr "turn" := fun z => absurd (Sum.inr.inj z) (by decide +kernel)
  have n5 : ¬ (.inr "at" : Key) = .inr "left" := fun z => absurd (Sum.inr.inj z) (by decide +kernel)
  have n6 : ¬ (.inr "at" : Key) = .inr "seed" := fun z => absurd (Sum.inr.inj z) (by decide +kernel)
  have n7 : ¬ (.inr "at" : Key) = .inr "turn" := fun z => absurd (Sum.inr.inj z) (by decide +kernel)
  have n8 : ¬ (.inr "left" : Key) = .inr "seed" := fun z => absurd (Sum.inr.inj z) (by decide +kernel)
  have n9 : ¬ (.inr "left" : Key) = .inr "turn" := fun z => absurd (Sum.inr.inj z) (by decide +kernel)
  have n10 : ¬ (.inr "seed" : Key) = .inr "turn" := fun z => absurd (Sum.inr.inj z) (by decide +kernel)
  unfold hget at e
  unfold handK
  split at e
  · cases e; cases hk
    rw [valV_neg n1, valV_pos rfl]
  · cases e; cases hk
    rw [valV_neg n2, valV_neg n5, valV_pos rfl]
  · cases e; cases hk
    rw [valV_neg n3, valV_neg n6, valV_neg n8, valV_pos rfl]
  · cases e; cases hk
    rw [valV_neg n4, valV_neg n7, valV_neg n9, valV_neg n10, valV_pos rfl]
  · cases e
theorem kput (e : hset h k z = some h') (hk : keyK k = some x) : handK c h' = putK (handK c h) (.inr x) (.int z) := by
  unfold hset at e
  split at e
  · rename_i e1
    subst e1
    cases hk
    split at e
    · rename_i h0
      cases e
      have e2 : putK (handK c h) (.inr "at") (.int z) = [(.inr "cells", .ref c), (.inr "at", .int z), (.inr "left", .int h.great), (.inr "seed", .int h.seed), (.inr "turn", .int h.turn)] := by
        unfold putK handK
        simp [show ¬ (("cells" : Str) = "at") by decide +kernel, show ¬ (("left" : Str) = "at") by decide +kernel, show ¬ (("seed" : Str) = "at") by decide +kernel, show ¬ (("turn" : Str) = "at") by decide +kernel]
      rw [e2]
      unfold handK
      rw [show (((z.toNat : Nat) : Int)) = z by omega]
    · cases e
  · split at e
    · rename_i e1
      subst e1
      cases hk
      cases e
      unfold putK handK
      simp [show ¬ (("cells" : Str) = "left") by decide +kernel, show ¬ (("at" : Str) = "left") by decide +kernel, show ¬ (("seed" : Str) = "left") by decide +kernel, show ¬ (("turn" : Str) = "left") by decide +kernel]
    · split at e
      · rename_i e1
        subst e1
        cases hk
        cases e
        unfold putK handK
        simp [show ¬ (("cells" : Str) = "seed") by decide +kernel, show ¬ (("at" : Str) = "seed") by decide +kernel, show ¬ (("left" : Str) = "seed") by decide +kernel, show ¬ (("turn" : Str) = "seed") by decide +kernel]
      · split at e
        · rename_i e1
          subst e1
          cases hk
          cases e
          unfold putK handK
          simp [show ¬ (("cells" : Str) = "turn") by decide +kernel, show ¬ (("at" : Str) = "turn") by decide +kernel, show ¬ (("left" : Str) = "turn") by decide +kernel, show ¬ (("seed" : Str) = "turn") by decide +kernel]
        · cases e
theorem handK_put (o : Ok (HandK p c) F H h) (e : hset h k z = some h') (hk : keyK k = some x) : Ev (HandK p c) F H F (upd H p (.dK (putK (handK c h) (.inr x) (.int z)))) h' := by
  have hp : F p = none := o.ap p (.inl rfl)
  refine ⟨fun _ _ => rfl, fun q x hx hn => ?_, ⟨fun q x hx => ?_, o.ap, ?_⟩⟩
  · rw [upd_ne (fun z => hn (.inl z))]
    exact hx
  · have hq : q ≠ p := fun z => by
      subst z
      rw [hp] at hx
      cases hx
    rw [upd_ne hq]
    exact o.sub q x hx
  · obtain ⟨a1, a2, a3⟩ := o.am
    refine ⟨a1, ?_, ?_⟩
    · rw [upd_same, kput e hk]
    · rw [upd_ne (fun z => a1 z.symm), hset_cells e]
      exact a3
end
section
variable {X : Cx} {p c : Addr} {a b e : Expr} {pos p1 p2 pos2 : Pos} {i : Nat} {mb : ME Hand} {j : Option Str}
theorem kh_at {K : PySem.W.Frag} {F H : Hp} {σ : L2.St} {env : DE} (E : EnvOk K (HandK p c) F H σ env) (h : isH env i = true) : σ[i]? = some (some (.ref p)) := by
  obtain ⟨v, h1, h2⟩ := E.dat i _ (isH_eq h)
  rw [show v = V.ref p from h2] at h1
  exact h1
theorem dk_hx {k : Int} {x : Str} {j} (hk : keyK k = some x) (hu : X.A.units + 64 < cLine) (ho : PE X a (tVar i)) (hs : NoSl (.Constant (.str x) j p1) := by exact fun _ _ => rfl) : PE X (.Subscript a (.Constant (.str x) j p1) pos) (tD X.K (HandK p c) (mHx i k)) := pe_w (pe_dget (by omega) ho pe_str hs) fun σ H Q ⟨env, F, s, d, s', E, o, hm, hq⟩ => by
  unfold mHx at hm
  split at hm
  · rename_i hh
    cases e1 : hget s k with
    | none => rw [e1] at hm; cases hm
    | some z =>
      rw [e1] at hm
      cases hm
      exact ⟨.ref p, kh_at E hh, p, .int z, rfl, .inl ⟨handK c s, .inr x, .inl o.am.2.1, rfl, (kget_at e1 hk).symm⟩, hq _ F H o.refl rfl⟩
  · cases hm
theorem dk_hlen {j} (hm : X.mg "len" = none) (hu : X.A.units + 64 < cLine) (ho : PE X a (tVar i)) (hs : NoSl (.Constant (.str "cells") j p1) := by exact fun _ _ => rfl) (hv : bootBuiltins "len" = some (.builtin "len") := by decide +kernel) (hg : Gl X "len" := by rfl)
    (he : starEach (Expr.Subscript a (.Constant (.str "cells") j p1) p2 :: []) X.env = (false, eval (Expr.Subscript a (.Constant (.str "cells") j p1) p2) X.env) :: starEach [] X.env := by rfl) (hpl : (backTo pos (starEach [] X.env)).any (·.1) = false := by rfl) :
    PE X (.Call (.Name "len" pos2) [.Subscript a (.Constant (.str "cells") j p1) p2] [] pos) (tD X.K (HandK p c) (mHlen i)) :=
  pe_w (pe_callB call_len hg hm hv (pa_cons (pe_dget (by omega) ho pe_str hs) pa_nil he) (by decide) (by decide) he hpl) fun σ H Q ⟨env, F, s, d, s', E, o, hm, hq⟩ => by
    unfold mHlen at hm
    split at hm
    · rename_i hh
      cases hm
      refine ⟨.ref p, kh_at E hh, p, .ref c, rfl, .inl ⟨handK c s, .inr "cells", .inl o.am.2.1, rfl, kget_cells.symm⟩, .ref c, _, rfl, .inl ⟨_, SqL.of o.am.2.2, rfl⟩, ?_⟩
      rw [List.length_map]
      exact hq _ F H o.refl rfl
    · cases hm
theorem dk_hcell {j} (hu : X.A.units + 64 < cLine) (ho : PE X a (tVar i)) (hb : PE X b (tD X.K (HandK p c) mb)) (hs : NoSl (.Constant (.str "cells") j p1) := by exact fun _ _ => rfl) (hs2 : PlainIx b := by exact fun _ _ => rfl) :
    PE X (.Subscript (.Subscript a (.Constant (.str "cells") j p1) p2) b pos) (tD X.K (HandK p c) (mHcell i mb)) :=
  pe_w (pe_ix ix_list (pe_dget (by omega) ho pe_str hs) hb hs2) fun σ H Q ⟨env, F, s, d, s', E, o, hm, hq⟩ => by
    unfold mHcell at hm
    split at hm
    · rename_i hh
      cases e1 : mb env s with
      | none => simp [e1] at hm
      | some w =>
        obtain ⟨dk, s1⟩ := w
        simp only [e1, Option.bind_some] at hm
        cases e5 : intOf dk with
        | none => simp [e5] at hm
        | some z =>
          have hz := intOf_eq e5
          subst hz
          simp only [e5, Option.bind_some] at hm
          cases e6 : atI s1.cells z with
          | none => simp [e6] at hm
          | some n =>
            simp only [e6, Option.map_some, Option.some.injEq, Prod.mk.injEq] at hm
            obtain ⟨rfl, rfl⟩ := hm
            refine ⟨.ref p, kh_at E hh, p, .ref c, rfl, .inl ⟨handK c s, .inr "cells", .inl o.am.2.1, rfl, kget_cells.symm⟩, env, F, s, _, s1, E, o, e1, fun v F1 H1 v1 hv => ?_⟩
            exact ⟨c, _, z, .int n, rfl, hv, SqL.of v1.ok.am.2.2, atI_ints e6, hq _ F1 H1 v1 rfl⟩
    · cases hm
theorem sk_hput {o v : Expr} {k : Int} {x : Str} {j} {mv : ME Hand} (hk : keyK k = some x) (ho : PE X o (tVar i)) (hv : PE X v (tD X.K (HandK p c) mv))
    (hg : ∀ {to ti : TE}, PE X o to → PE X (.Constant (.str x) j p1) ti → PG X (.Subscript o (.Constant (.str x) j p1) p2) (gSub to ti rSetD)) (hs : swapsWithSole [.Subscript o (.Constant (.str x) j p1) p2] v pos.line X.env = pure false := by rfl)
    (hw : swappedStores [.Subscript o (.Constant (.str x) j p1) p2] v X.env = pure none := by rfl)
    (h1 : (assignEach [.Subscript o (.Constant (.str x) j p1) p2] X.env).map (·.2) = [assign (.Subscript o (.Constant (.str x) j p1) p2) X.env] := by rfl) : PS X (.Assign [.Subscript o (.Constant (.str x) j p1) p2] v pos) (tS X.K (HandK p c) (sHput i k mv)) :=
  ps_w (ps_asg hv (hg ho pe_str) hs hw h1) fun Dn σ H ⟨env, F, s, out, E, o, hm, hq⟩ => by
    unfold sHput at hm
    split at hm
    · rename_i hh
      cases e1 : mv env s with
      | none => simp [e1] at hm
      | some w =>
        obtain ⟨dk, s1⟩ := w
        simp only [e1, Option.bind_some] at hm
        cases e5 : intOf dk with
        | none => simp [e5] at hm
        | some z =>
          have hz := intOf_eq e5
          subst hz
          simp only [e5, Option.bind_some] at hm
          cases e6 : hset s1 k z with
          | none => simp [e6] at hm
          | some h' =>
            simp only [e6, Option.map_some, Option.some.injEq] at hm
            subst hm
            refine ⟨env, F, s, _, s1, E, o, e1, fun vv F1 H1 v1 hd => ?_⟩
            have v2 := handK_put v1.ok e6 hk
            rw [show vv = V.int z from hd]
            refine ⟨.ref p, kh_at E hh, ?_⟩
            have fin : rSetD (.ref p) (.str x) (.int z) H1 (fun H3 => Dn.nx σ H3) := by
              refine ⟨p, upd H1 p (.dK (putK (handK c s1) (.inr x) (.int z))), rfl, ?_, ?_⟩
              · exact DPut.k (k := .inr x) v1.ok.am.2.1 (by show 5 < sizeLine; rw [sizeLine_eq]; omega)
              · exact hq σ F1 _ (E.step o (v1.trans v2)) (Sv.of E (v1.trans v2))
            exact fin
    · cases hm
end
end Dl

set_option Elab.async false
set_option linter.all false
set_option maxRecDepth 100000
set_option maxHeartbeats 4000000
/-! D25: the law's entry, the hand a dict. -/
namespace Dl
open PySem
open L2
def handDK (cells : List Int) (k : Int) : D := .dct [.inr "cells", .inr "at", .inr "left", .inr "seed", .inr "turn"] [.lst (cells.map .int), .int 0, .int 0, .int k, .int 0]
def LawOkK (n i : Nat) (m : MS Hand) (fh : List D → List Int → Option (D × List Int)) : Prop :=
  ∀ ns : List Int, ns.length ≤ 63 → ∃ cells k s', fh [.hnd] ns = some (handDK cells k, ns) ∧ m (startH n i) (hand0 cells k) = some (.rt (.bl true) s')
theorem zip_of {α β : Type} : ∀ l : List (α × β), l = (l.map (·.1)).zip (l.map (·.2))
  | [] => rfl
  | (a, b) :: l => by
    rw [List.map_cons, List.map_cons, List.zip_cons_cons, ← zip_of l]
theorem hand_dvK {K : PySem.W.Frag} {S : Type} {B : Amb S} {F : Hp} {cells : List Int} {k : Int} {v : V} (h : Dv K B F (handDK cells k) v) : ∃ p c, v = .ref p ∧ p ≠ c ∧ F p = some (.dK (handK c (hand0 cells k))) ∧ F c = some (.lst (cells.map V.int)) := by
  obtain ⟨p, kvs, rfl, h1, h2, v0, r0, e0, ⟨c, us, rfl, h4, h5⟩, h3⟩ := h
  have h3' : DvL K B F ([0, 0, k, 0].map D.int) r0 := h3
  have er := DvL.ints h3'
  have hk : kvs = handK c (hand0 cells k) := by
    rw [er] at e0
    rw [zip_of kvs, h2, e0]
    rfl
  rw [hk] at h1
  rw [DvL.ints h5] at h4
  refine ⟨p, c, rfl, fun e => ?_, h1, h4⟩
  subst e
  rw [h1] at h4
  cases h4
section
variable {P : Program} {w : World} {K : PySem.W.Frag} {mg : Str → Option Value} {base : Heap}
theorem law_fnK {x qual : Str} {st : Stmt} {f : Addr} {fd : FuncData} {N : List Str} {y : Str} {k : Nat} {i : Nat} {m : MS Hand} {fh : List D → List Int → Option (D × List Int)} {st1 : Stmt} {rest : List Stmt} (Fn : FunD K x qual (defArgs st) (defBody st) (defScope st) [] [] f fd)
    (S : FnScope N [y] (defScope st)) (hi : i < N.length) (h0 : 0 < i) (hl : LawOkK N.length i m fh) (hB : defBody st = st1 :: rest)
    (h1 : ∀ (a : Addr) (bp : Prop) (cdv : Value) (A : Around) (outer : List Env) (s : Shared) (H : Hp) (E : XK), Room k (A.deeper (PyProof.Rows.envOfC qual (defScope st) s.heap.objs.size f cdv)) →
      PS (cxOf CX0 P w K mg base N qual (defScope st) f cdv A outer s H E).nox st1 (tS K (ScrB K a bp) (sAsg (gdName i) (mCall fh (mCons (mVar 0) mNil)))))
    (h2 : ∀ (p c : Addr) (cdv : Value) (A : Around) (outer : List Env) (s : Shared) (H : Hp) (E : XK), Room k (A.deeper (PyProof.Rows.envOfC qual (defScope st) s.heap.objs.size f cdv)) →
      PSs (cxOf CX0 P w K mg base N qual (defScope st) f cdv A outer s H E).nox rest (tS K (HandK p c) m)) : FnOk P w K mg base CX0 (k + 1) f fd [y] (spLaw K) := by
  refine Fn.ok S (fun vs H Q E ⟨a, ns, e, _⟩ => by rw [e]; rfl) fun cdv A outer s H vs Q E hr ⟨a, ns, e, hs, hz, hq⟩ => ?_
  subst e
  obtain ⟨bp, hb⟩ := scr_of hs
  refine ⟨_, by rw [hB]; exact PSs.nox (pss_cons (h1 a bp cdv A outer s H E hr) (pss_ex fun p c => h2 p c cdv A outer s H E hr)), ?_⟩
  obtain ⟨cells, kk, s', e1, e2⟩ := hl ns hz
  have hv : DvL K (ScrB K a bp) (fun _ => none) [D.hnd] [V.ref a] := DvL.one rfl
  obtain ⟨E0, o0⟩ := start_ok (H := H) (N := N) hv
  have O : Ok (ScrB K a bp) (fun _ => none) H ns := ⟨(fun _ _ h => by cases h), fun _ _ => rfl, hb⟩
  have hn : 0 < N.length := Nat.lt_of_le_of_lt (Nat.zero_le _) hi
  have hst : (startE N.length [D.hnd])[0]? = some (some (.dat .hnd)) := by
    unfold startE
    rfl
  have hm1 : sAsg (gdName i) (mCall fh (mCons (mVar 0) mNil)) (startE N.length [D.hnd]) ns = some (.nx ((startE N.length [D.hnd]).set i (some (.dat (handDK cells kk)))) ns) := by
    have a1 : mCons (mVar 0) mNil (startE N.length [D.hnd]) ns = some ([D.hnd], ns) := by
      simp [mCons, mVar, mNil, hst]
    have a2 : mCall fh (mCons (mVar 0) mNil) (startE N.length [D.hnd]) ns = some (handDK cells kk, ns) := by
      unfold mCall
      rw [a1]
      exact e1
    unfold sAsg
    rw [a2]
    rfl
  refine ⟨_, _, ns, _, E0, O, hm1, fun σ' F' H' E' v => ?_⟩
  have hli : i < (startE N.length [D.hnd]).length := by
    have : (startE N.length [D.hnd]).length = N.length := by
      unfold startE
      simp
      omega
    omega
  obtain ⟨u, g1, g2⟩ := E'.dat i (handDK cells kk) (List.getElem?_set_self hli)
  obtain ⟨p, c, rfl, g3, g4, g5⟩ := hand_dvK g2
  refine ⟨p, c, startH N.length i, fun _ => none, hand0 cells kk, _, ⟨?_, fun j d q => ?_, fun j xs q => ?_, fun j j2 xs ys b q _ _ _ => ?_⟩, ⟨(fun _ _ h => by cases h), fun _ _ => rfl, g3, v.ok.sub _ _ g4, v.ok.sub _ _ g5⟩, e2, fun u F2 H2 own' w2 hd => ?_⟩
  · rw [E'.len, List.length_set]
    unfold startH startE
    simp
    omega
  · obtain ⟨e, e'⟩ := startH_get q
    subst e
    cases e'
    exact ⟨_, g1, rfl⟩
  · obtain ⟨e, e'⟩ := startH_get q
    cases e'
  · obtain ⟨e, e'⟩ := startH_get q
    cases e'
  · rw [show u = V.bl true from hd]
    exact hq H2
end
end Dl

set_option Elab.async false
set_option linter.all false
set_option maxRecDepth 100000
/-! S1: sets of texts. -/
namespace Sx
open PySem PySem.Spec PyProof.Rows L2 PySem.Froz
/-- the set at a holds the texts l -/
def SxR (P : Program) (w : World) (h : Heap) (a : Addr) (l : List Str) : Prop := ∃ es ep t, h.get? a = some (sObj "set" (es, ep, t)) ∧ TxOk P w (es, ep, t) l ∧ Ris t.place.toList ∧ (w.params.followText "set-order" = true ∨ t.led = true)
def put1 (l : List Str) (k : Str) : List Str := if k ∈ l then l else k :: l
section
variable {P : Program} {w : World} {A : Around} {E : Value → Shared → Prop} {s : Shared} {a : Addr} {l : List Str}
theorem SxR.at {h h' : Heap} (R : SxR P w h a l) (k : ∀ o, h.get? a = some o → h'.get? a = some o) : SxR P w h' a l := by
  obtain ⟨es, ep, t, e, r⟩ := R
  exact ⟨es, ep, t, k _ e, r⟩
theorem add_place {k : Str} {u : Tok} {es : Array (Int × Value)} {ep : Nat} {t : SetTable} (r : Ris t.place.toList) (hl : w.params.followText "set-order" = true ∨ t.led = true) :
    Ris (addTx (hashStr w k) (.str k u) (es, ep, t)).2.2.place.toList ∧ (w.params.followText "set-order" = true ∨ (addTx (hashStr w k) (.str k u) (es, ep, t)).2.2.led = true) := by
  have r1 := layNew_ris t es (hashStr w k) (.str k u) r
  have l1 := layNew_led t es (hashStr w k) (.str k u)
  unfold addTx
  dsimp only
  generalize layNew t es (hashStr w k) (.str k u) = Z at r1 l1 ⊢
  obtain ⟨es1, t1, wd, gv⟩ := Z
  dsimp only at r1 l1 ⊢
  have key : ∀ t2 : SetTable, Ris t2.place.toList → t2.led = t.led → Ris (tailTx ep es1 t2 wd).2.2.place.toList ∧ (w.params.followText "set-order" = true ∨ (tailTx ep es1 t2 wd).2.2.led = true) := fun t2 r2 l2 => by
    unfold tailTx
    split
    · refine ⟨relayAll_ris t2 es1 _, hl.imp id fun z => ?_⟩
      show (relayAll t2 es1 (SetTable.grown es1.size)).2.1.led = true
      rw [relayAll_led, l2, z]
    · exact ⟨r2, hl.imp id fun z => by show t2.led = true; rw [l2, z]⟩
  by_cases c : t1.plain = true
  · rw [if_pos c]
    exact key _ r1 l1
  · rw [if_neg c]
    exact key _ r1 l1
theorem sx_add {k : Str} {u : Tok} {Q : Bool → Shared → Prop} (R : SxR P w s.heap a l) (room : l.length + 1 < scanBound) (hQ : ∀ h' b, Heap.SameBut a s.heap h' → SxR P w h' a (put1 l k) → Q b { s with heap := h' }) :
    wpAny (model P w) A (setAddHashed a (.str k u) (hashStr w k)) Q E s := by
  obtain ⟨es, ep, t, ho, F, hr, hl⟩ := R
  by_cases c : k ∈ l
  · have ep1 : put1 l k = l := if_pos c
    rw [ep1] at hQ
    have hf : t.fits es.size = true := F.fit
    have hel : ElemsOf (strKind P w) es.toList := F.el
    have hb : es.size < scanBound := by have := F.sz; dsimp only at this; omega
    unfold setAddHashed setAddHashedIn
    refine wpAny_holding (wpAny_bind (wpAny_setState_of ho rfl hf ?_)); dsimp only
    rw [byScan_of rfl hb hel]; simp only [↓reduceIte]; unfold setAddByScan
    refine wpAny_bind ?_; refine wpAny_bind (wpAny_rule ?_)
    refine wpAny_bind (wpAny_setScan_of (knd := strKind P w) (k := k) (is_str k u) ho rfl hf hel ?_)
    obtain ⟨e, he, q⟩ := (F.mem k).mp c
    cases hfi : List.findIdx? (fun e => (strKind P w).is k e.2) es.toList with
    | none =>
      have z := List.findIdx?_eq_none_iff.mp hfi e he
      rw [q] at z
      cases z
    | some j =>
      dsimp only
      exact wpAny_pure (wpAny_pure (hQ s.heap _ (Heap.SameBut.refl a s.heap) ⟨es, ep, t, ho, F, hr, hl⟩))
  · have ep1 : put1 l k = k :: l := if_neg c
    rw [ep1] at hQ
    refine add_x ho F c room (hQ _ _ (Heap.SameBut.update s.heap a _) ?_)
    obtain ⟨q1, q2⟩ := add_place (w := w) (k := k) (u := u) (es := es) (ep := ep) hr hl
    exact ⟨_, _, _, get_upd _ ho rfl, add_ok u F, q1, q2⟩
def GotS (xs : List Str) (i : Nat) (l : List Str) : Prop := l.Nodup ∧ (∀ x, x ∈ l ↔ x ∈ xs.take i) ∧ l.length ≤ i
theorem GotS.step {xs : List Str} {i : Nat} {x : Str} (g : GotS xs i l) (h : xs[i]? = some x) : GotS xs (i + 1) (put1 l x) := by
  obtain ⟨g1, g2, g3⟩ := g
  have et : xs.take (i + 1) = xs.take i ++ [x] := by
    rw [List.take_add_one, h]
    rfl
  have hm : ∀ y, y ∈ put1 l x ↔ y ∈ xs.take (i + 1) := fun y => by
    rw [et, List.mem_append, List.mem_singleton, ← g2 y]
    unfold put1
    by_cases c : x ∈ l
    · rw [if_pos c]
      exact ⟨.inl, fun z => z.elim id fun e => e ▸ c⟩
    · rw [if_neg c, List.mem_cons]
      exact Or.comm
  refine ⟨?_, hm, ?_⟩
  · unfold put1
    by_cases c : x ∈ l
    · rw [if_pos c]; exact g1
    · rw [if_neg c]; exact List.nodup_cons.mpr ⟨c, g1⟩
  · unfold put1
    split
    · omega
    · rw [List.length_cons]; omega
section
variable {I : Addr} {fp wr : List Addr} {G : Array GenState → Array GenState → Prop} {n : Nat} {Pv : Nat → Value → Prop} {St : Nat → Shared → Prop} {R : Result → Shared → Prop}
theorem sx_loop (W : WalksS P w A.in1 I fp wr G n Pv St) (T : Addr) (hT : T ∉ fp) (xs : List Str) (hn : n = xs.length) (hb : xs.length + 1 < scanBound) (hval : ∀ i v, Pv i v → ∃ x u, xs[i]? = some x ∧ v = .str x u) :
    ∀ (m i : Nat) (s : Shared), n - i = m → i ≤ n → St i s → (∃ l, SxR P w s.heap T l ∧ GotS xs i l) → (∀ s' l, Moved (T :: wr) G s s' → SxR P w s'.heap T l → GotS xs n l → R (.ok (.ret .none)) s') →
      codeAny (model P w) A (.builtin "set.update.loop" ⟨[.ref T, .ref I], []⟩) R s := by
  have hTw : T ∉ wr := fun h => hT (W.sub _ h)
  have up : ∀ b ∈ wr, b ∈ T :: wr := fun b hb => List.mem_cons_of_mem _ hb
  intro m
  induction m with
  | zero =>
    intro i s hm hi st ⟨l, hl, g⟩ hR
    have ei : i = n := by omega
    subst ei
    refine codeAny_builtin F.entry_set_update_loop ?_; rw [Around.under_plainId F.plain_set_update_loop _]
    refine wpAny_bind (m := pyNext (.ref I)) (W.done s _ _ st fun s' mv => ?_)
    exact wpAny_pure (hR s' l (mv.mono up) (hl.at fun o e => mv.heap T o hTw e) g)
  | succ m ih =>
    intro i s hm hi st ⟨l, hl, g⟩ hR
    have hlt : i < n := by omega
    refine codeAny_builtin F.entry_set_update_loop ?_; rw [Around.under_plainId F.plain_set_update_loop _]
    refine wpAny_bind (m := pyNext (.ref I)) (W.item i s _ _ hlt st fun v s' hP st' mv => ?_)
    obtain ⟨x, u, hx, rfl⟩ := hval i v hP
    have hl' : SxR P w s'.heap T l := hl.at fun o e => mv.heap T o hTw e
    refine wpAny_bind (m := holding [Value.str x u] (setAdd T (.str x u))) (wpAny_holding ?_)
    unfold setAdd
    refine wpAny_holding (wpAny_bind ((strKind P w).pyHash (k := x) (is_str x u) ?_))
    have hi2 := g.2.2
    refine sx_add (s := { s' with toks := s'.toks + 1 }) hl' (by omega) fun h' b sb hS => ?_
    refine wpAny_pure ⟨plainId_quiet F.plain_set_update_loop _, ih (i + 1) _ (by omega) hlt (W.frame _ s' _ _ st' (Nat.le_succ _) fun b hb o e => ?_) ⟨_, hS, g.step hx⟩ fun s'' l2 mv2 hS2 g2 => ?_⟩
    · exact (sb.2 b fun z => hT (z ▸ hb)).trans e
    · refine hR s'' l2 (Moved.trans W.gtrans ((mv.mono up).then_heap (Nat.le_succ _) fun b o hb e => ?_) mv2) hS2 g2
      exact (sb.2 b fun z => hb (z ▸ List.mem_cons_self)).trans e
end
end
end Sx

set_option Elab.async false
set_option linter.all false
set_option maxRecDepth 100000
/-! S2: set(xs) of texts. -/
namespace Sx
open PySem PySem.Spec PyProof.Rows L2 PySem.Froz
abbrev fr (w : World) : Obj := { cls := .type "set", dict := none, data := .set #[] 0 (.fresh 0 0 (!w.params.followText "set-order")) }
abbrev itl (l : Addr) : Obj := { cls := .type "list_iterator", data := .fields #[.ref l, .int 0 0] }
abbrev itt (l : Addr) : Obj := { cls := .type "tuple_iterator", data := .fields #[.ref l, .int 0 0] }
section
variable {P : Program} {w : World} {A : Around} {E : Value → Shared → Prop} {s : Shared}
theorem fresh_ok {h : Heap} {a : Addr} (e : h.get? a = some (fr w)) : SxR P w h a [] := ⟨#[], 0, _, e, TxOk.nil rfl, List.Pairwise.nil, by
  show _ ∨ (!w.params.followText "set-order") = true
  cases w.params.followText "set-order" <;> simp⟩
theorem strs_get : ∀ {us : List Value} {xs : List Str}, StrsAre us xs → ∀ (i : Nat) (v : Value), us[i]? = some v → ∃ x u, xs[i]? = some x ∧ v = .str x u
  | _, _, .nil, i, v, h => by simp at h
  | _, _, .cons x u _, 0, v, h => ⟨x, u, rfl, (Option.some.inj h).symm⟩
  | _, _, .cons _ _ r, i + 1, v, h => strs_get r i v h
set_option maxHeartbeats 3200000 in
theorem call_set_strs {l : Addr} {items : Array Value} {xs : List Str} {Q : Value → Shared → Prop} (hh : A.handled = none) (hl : s.heap.IsList l items) (hi : StrsAre items.toList xs) (hb : xs.length + 1 < scanBound)
    (h : ∀ (h' : Heap) (tk : Nat) (L : List Str), SxR P w h' s.heap.objs.size L → GotS xs xs.length L → (∀ b o, s.heap.get? b = some o → h'.get? b = some o) → Q (.ref s.heap.objs.size) { s with heap := h', toks := tk }) :
    wpAny (model P w) A (call (.type "set") [.ref l]) Q E s := by
  have hsz : items.size = xs.length := by rw [← StrsAre.len_eq hi, Array.length_toList]
  obtain ⟨c, tl, hmro⟩ := F.called_set.mro
  have hmade := F.called_set.made; have hsub := F.called_set.sub; have h1 := F.called_set.notType; have h2 := F.called_set.canCreate
  have hct := F.typeCall_set_1 (.ref l)
  refine wpAny_call (codeAny_of_tree (wpAny_pure (M := model P w) ⟨Code.quiet_builtin _ (by decide +kernel), codeAny_builtin F.entry_type_call ?_⟩)); rw [Around.under_plain (weight_type_call_type "set" [.ref l] []) rfl]
  repeat (any_goals (first | assumption | wp_step))
  refine codeAny_mono (code_set_led1 (.ref l) (E := E) (Q₁ := fun v z => v = .ref s.heap.objs.size ∧ z = { s with heap := s.heap.push (fr w) }) ⟨rfl, rfl⟩) fun r s₁ hr => ?_
  match r, hr with
  | .error e, hr => exact hr
  | .ok (.ret obj), hr =>
    obtain ⟨rfl, rfl⟩ := hr
    have hS : (s.heap.push (fr w)).get? s.heap.objs.size = some (fr w) := Heap.get?_push_size _ rfl
    have hT : Shared.TypeIs { s with heap := s.heap.push (fr w) } (.ref s.heap.objs.size) "set" := ⟨_, hS, rfl⟩
    have hli := F.called_set.init.lookup; have hbi := F.called_set.init.bind (.ref s.heap.objs.size)
    repeat (any_goals (first | assumption | wp_step))
    refine codeAny_mono (codeAny_call_builtin (R := wants (fun r z => r = .none ∧ ∃ h' tk L, z = { s with heap := h', toks := tk } ∧ SxR P w h' s.heap.objs.size L ∧ GotS xs xs.length L ∧ (∀ b o, s.heap.get? b = some o → h'.get? b = some o)) E)
      F.called_set.init.plain F.entry_set_init (check_set_init_1 hT ?_)) fun r₂ s₂ hr₂ => ?_
    · obtain ⟨⟨ocls, odict, odata, oslots⟩, hol, hcl, nl, hdl⟩ := hl
      simp only at hcl hdl
      subst hcl hdl
      have hlS : l < s.heap.objs.size := Heap.lt_size hol
      have hol' : (s.heap.push (fr w)).get? l = some { cls := .type "list", dict := odict, data := .seq items nl, slots := oslots } := Heap.get?_push_of_some _ hol
      have hl1 : (s.heap.push (fr w)).IsList l items := ⟨_, hol', rfl, nl, rfl⟩
      have hz1 : (s.heap.push (fr w)).objs.size = s.heap.objs.size + 1 := Heap.size_push ..
      have hsls := F.sub_list_set; have hslf := F.sub_list_frozenset
      have hne : (Value.type "list" == Value.type "dict") = false := by decide
      unfold Builtin.«set.__init__» noKeywords Builtin.Frozenset.updateFrom
      generalize hPI : pyIter = PI
      wp_walk
      subst hPI
      refine wpAny_pyIter_list hl1 (wpAny_bind (wpAny_runValue ?_))
      have hneI : l ≠ (s.heap.push (fr w)).objs.size := by rw [hz1]; exact Nat.ne_of_lt (Nat.lt_succ_of_lt hlS)
      have hSf : s.heap.objs.size ∉ [(s.heap.push (fr w)).objs.size, l] := by
        rw [hz1]
        simp only [List.mem_cons, List.not_mem_nil, or_false, not_or]
        exact ⟨Nat.ne_of_lt (Nat.lt_succ_self _), Nat.ne_of_gt hlS⟩
      refine sx_loop ((Walks.list (by simp [hh]) _ l hneI items).toS) s.heap.objs.size hSf xs hsz hb (fun i v hv => strs_get hi i v (by rw [Array.getElem?_toList]; exact hv)) (items.size - 0) 0 _ (by omega) (Nat.zero_le _)
        ⟨⟨_, Heap.get?_push_size _ rfl, rfl, rfl⟩, (hl1.push _)⟩ ⟨[], fresh_ok (Heap.get?_push_of_some (itl l) hS), List.nodup_nil, fun x => by simp, Nat.le_refl _⟩ fun s' L mv hL g => ?_
      obtain ⟨h', g', d', tk', os'⟩ := s'
      have eg : g' = s.gens := mv.gens
      have ed : d' = s.drawn := mv.drawn
      have eo : os' = s.os := mv.os
      subst eg ed eo
      refine wpAny_pure (M := model P w) ?_
      rw [hsz] at g
      refine wpAny_pure (M := model P w) ⟨rfl, h', tk', L, rfl, hL, g, fun b o e => ?_⟩
      have hbl : b < s.heap.objs.size := Heap.lt_size e
      exact mv.heap b o (by simp only [List.mem_cons, List.not_mem_nil, or_false, not_or]; rw [hz1]; exact ⟨Nat.ne_of_lt hbl, Nat.ne_of_lt (Nat.lt_succ_of_lt hbl)⟩) (Heap.get?_push_of_some _ (Heap.get?_push_of_some _ e))
    · match r₂, hr₂ with
      | .error e, hr₂ => exact hr₂
      | .ok (.ret r), hr₂ =>
        obtain ⟨rfl, h', tk, L, rfl, hL, g, hk⟩ := hr₂
        repeat (any_goals (first | assumption | wp_step))
        exact h _ _ _ hL g hk
set_option maxHeartbeats 3200000 in
theorem call_set_strs_tup {l : Addr} {items : Array Value} {xs : List Str} {Q : Value → Shared → Prop} (hh : A.handled = none) (hl : s.heap.IsTuple l items) (hi : StrsAre items.toList xs) (hb : xs.length + 1 < scanBound)
    (h : ∀ (h' : Heap) (tk : Nat) (L : List Str), SxR P w h' s.heap.objs.size L → GotS xs xs.length L → (∀ b o, s.heap.get? b = some o → h'.get? b = some o) → Q (.ref s.heap.objs.size) { s with heap := h', toks := tk }) :
    wpAny (model P w) A (call (.type "set") [.ref l]) Q E s := by
  have hsz : items.size = xs.length := by rw [← StrsAre.len_eq hi, Array.length_toList]
  obtain ⟨c, tl, hmro⟩ := F.called_set.mro
  have hmade := F.called_set.made; have hsub := F.called_set.sub; have h1 := F.called_set.notType; have h2 := F.called_set.canCreate
  have hct := F.typeCall_set_1 (.ref l)
  refine wpAny_call (codeAny_of_tree (wpAny_pure (M := model P w) ⟨Code.quiet_builtin _ (by decide +kernel), codeAny_builtin F.entry_type_call ?_⟩)); rw [Around.under_plain (weight_type_call_type "set" [.ref l] []) rfl]
  repeat (any_goals (first | assumption | wp_step))
  refine codeAny_mono (code_set_led1 (.ref l) (E := E) (Q₁ := fun v z => v = .ref s.heap.objs.size ∧ z = { s with heap := s.heap.push (fr w) }) ⟨rfl, rfl⟩) fun r s₁ hr => ?_
  match r, hr with
  | .error e, hr => exact hr
  | .ok (.ret obj), hr =>
    obtain ⟨rfl, rfl⟩ := hr
    have hS : (s.heap.push (fr w)).get? s.heap.objs.size = some (fr w) := Heap.get?_push_size _ rfl
    have hT : Shared.TypeIs { s with heap := s.heap.push (fr w) } (.ref s.heap.objs.size) "set" := ⟨_, hS, rfl⟩
    have hli := F.called_set.init.lookup; have hbi := F.called_set.init.bind (.ref s.heap.objs.size)
    repeat (any_goals (first | assumption | wp_step))
    refine codeAny_mono (codeAny_call_builtin (R := wants (fun r z => r = .none ∧ ∃ h' tk L, z = { s with heap := h', toks := tk } ∧ SxR P w h' s.heap.objs.size L ∧ GotS xs xs.length L ∧ (∀ b o, s.heap.get? b = some o → h'.get? b = some o)) E)
      F.called_set.init.plain F.entry_set_init (check_set_init_1 hT ?_)) fun r₂ s₂ hr₂ => ?_
    · obtain ⟨⟨ocls, odict, odata, oslots⟩, hol, hcl, nl, hdl⟩ := hl
      simp only at hcl hdl
      subst hcl hdl
      have hlS : l < s.heap.objs.size := Heap.lt_size hol
      have hol' : (s.heap.push (fr w)).get? l = some { cls := .type "tuple", dict := odict, data := .seq items nl, slots := oslots } := Heap.get?_push_of_some _ hol
      have hl1 : (s.heap.push (fr w)).IsTuple l items := ⟨_, hol', rfl, nl, rfl⟩
      have hz1 : (s.heap.push (fr w)).objs.size = s.heap.objs.size + 1 := Heap.size_push ..
      have hsls := F.sub_tuple_set; have hslf := F.sub_tuple_frozenset
      have hne : (Value.type "tuple" == Value.type "dict") = false := by decide
      unfold Builtin.«set.__init__» noKeywords Builtin.Frozenset.updateFrom
      generalize hPI : pyIter = PI
      wp_walk
      subst hPI
      refine wpAny_pyIter_tuple hl1 (wpAny_bind (wpAny_runValue ?_))
      have hneI : l ≠ (s.heap.push (fr w)).objs.size := by rw [hz1]; exact Nat.ne_of_lt (Nat.lt_succ_of_lt hlS)
      have hSf : s.heap.objs.size ∉ [(s.heap.push (fr w)).objs.size, l] := by
        rw [hz1]
        simp only [List.mem_cons, List.not_mem_nil, or_false, not_or]
        exact ⟨Nat.ne_of_lt (Nat.lt_succ_self _), Nat.ne_of_gt hlS⟩
      refine sx_loop ((Walks.tuple (by simp [hh]) _ l hneI items).toS) s.heap.objs.size hSf xs hsz hb (fun i v hv => strs_get hi i v (by rw [Array.getElem?_toList]; exact hv)) (items.size - 0) 0 _ (by omega) (Nat.zero_le _)
        ⟨⟨_, Heap.get?_push_size _ rfl, rfl, rfl⟩, (hl1.push _)⟩ ⟨[], fresh_ok (Heap.get?_push_of_some (itt l) hS), List.nodup_nil, fun x => by simp, Nat.le_refl _⟩ fun s' L mv hL g => ?_
      obtain ⟨h', g', d', tk', os'⟩ := s'
      have eg : g' = s.gens := mv.gens
      have ed : d' = s.drawn := mv.drawn
      have eo : os' = s.os := mv.os
      subst eg ed eo
      refine wpAny_pure (M := model P w) ?_
      rw [hsz] at g
      refine wpAny_pure (M := model P w) ⟨rfl, h', tk', L, rfl, hL, g, fun b o e => ?_⟩
      have hbl : b < s.heap.objs.size := Heap.lt_size e
      exact mv.heap b o (by simp only [List.mem_cons, List.not_mem_nil, or_false, not_or]; rw [hz1]; exact ⟨Nat.ne_of_lt hbl, Nat.ne_of_lt (Nat.lt_succ_of_lt hbl)⟩) (Heap.get?_push_of_some _ (Heap.get?_push_of_some _ e))
    · match r₂, hr₂ with
      | .error e, hr₂ => exact hr₂
      | .ok (.ret r), hr₂ =>
        obtain ⟨rfl, h', tk, L, rfl, hL, g, hk⟩ := hr₂
        repeat (any_goals (first | assumption | wp_step))
        exact h _ _ _ hL g hk
end
end Sx

set_option Elab.async false
set_option linter.all false
set_option maxRecDepth 100000
set_option maxHeartbeats 1000000
/-! S3: sorted(set) of texts. -/
namespace Sx
open PySem PySem.Spec PyProof.Rows L2 PySem.Froz
theorem perm_of {α : Type} [DecidableEq α] : ∀ {L M : List α}, L.Nodup → (∀ x ∈ L, x ∈ M) → M.length = L.length → M.Perm L
  | [], M, _, _, h => by
    rw [List.eq_nil_of_length_eq_zero h]
  | x :: L, M, hn, hs, hl => by
    obtain ⟨n1, n2⟩ := List.nodup_cons.mp hn
    have hx := hs x (List.mem_cons_self ..)
    have p := List.perm_cons_erase hx
    have hl2 := p.length_eq
    rw [List.length_cons] at hl hl2
    refine p.trans (List.Perm.cons x (perm_of n2 (fun y hy => ?_) (by omega)))
    exact (List.mem_erase_of_ne fun (e : y = x) => n1 (e ▸ hy)).mpr (hs y (List.mem_cons_of_mem _ hy))
def strOf : Value → Str
  | .str x _ => x
  | _ => Str.empty
theorem strs_are : ∀ (vs : List Value), (∀ v ∈ vs, ∃ x u, v = Value.str x u) → StrsAre vs (vs.map strOf)
  | [], _ => .nil
  | v :: vs, h => by
    obtain ⟨x, u, rfl⟩ := h v (List.mem_cons_self ..)
    exact .cons x u (strs_are vs fun y hy => h y (List.mem_cons_of_mem _ hy))
section
variable {P : Program} {w : World} {A : Around} {E : Value → Shared → Prop} {s : Shared} {a : Addr} {L : List Str}
theorem vals_str {es : Array (Int × Value)} {ep : Nat} {t : SetTable} (F : TxOk P w (es, ep, t) L) : ∀ v ∈ es.toList.map (·.2), ∃ x u, v = Value.str x u := fun v hv => by
  obtain ⟨e, he, rfl⟩ := List.mem_map.mp hv
  obtain ⟨⟨k, h1, _⟩, _⟩ := F.el e he
  obtain ⟨u, h2⟩ := Value.isStrOf_shape h1
  exact ⟨k, u, h2⟩
theorem keys_perm {es : Array (Int × Value)} {ep : Nat} {t : SetTable} (F : TxOk P w (es, ep, t) L) (hn : L.Nodup) : ((es.toList.map (·.2)).map strOf).Perm L := by
  refine perm_of hn (fun x hx => ?_) ?_
  · obtain ⟨e, he, q⟩ := (F.mem x).mp hx
    obtain ⟨u, h2⟩ := Value.isStrOf_shape q
    exact List.mem_map.mpr ⟨e.2, List.mem_map_of_mem he, by rw [h2]; rfl⟩
  · rw [List.length_map, List.length_map, Array.length_toList]
    exact F.sz
theorem sorted_sx {Q : Value → Shared → Prop} (R : SxR P w s.heap a L) (hn : L.Nodup) (hh : A.handled = none) (h64 : L.length < 64)
    (hQ : ∀ s' p (out : Array Value) (c : Nat) (ys : List Str), (∀ b o, s.heap.get? b = some o → s'.heap.get? b = some o) → s'.gens = s.gens → s'.os = s.os → s.heap.objs.size ≤ p →
      s'.heap.get? p = some (seqObj "list" out c) → StrsAre out.toList ys → ys.Perm L → sortedS ys = true → Q (.ref p) s') :
    wpAny (model P w) A (call (.builtin "sorted") [.ref a]) Q E s := by
  obtain ⟨es, ep, t, ho, F, r, hl⟩ := R
  have hsz : es.size = L.length := F.sz
  have hat : SetAt s.heap a es ep t := ⟨_, ho, rfl, rfl⟩
  have hf : t.fits es.size = true := F.fit
  have hsc : es.size < scanBound := by unfold scanBound; omega
  have hh1 : A.in1.handled = none := hh
  refine Calls.call_function_entry kind_sorted plain_sorted entry_sorted (args_sorted1 _) ?_; unfold Builtin.«sorted»
  refine wpAny_bind (m := checkCount "sorted" 1 1 _) (wpAny_pure ?_)
  refine wpAny_bind (collect_set (A := A.in1) hh1 hat hf hsc r hl fun s1 vs k1 hz g1 o1 pm => ?_)
  have hvl : vs.length = L.length := by rw [pm.length_eq, List.length_map, Array.length_toList, hsz]
  have hS : StrsAre vs (vs.map strOf) := strs_are vs fun v hv => vals_str F v (pm.mem_iff.mp hv)
  have hp0 : (vs.map strOf).Perm L := (pm.map strOf).trans (keys_perm F hn)
  refine wpAny_bind (wpAny_newList ?_ (by rw [hvl, sizeLine_eq]; omega))
  have hoL : (s1.heap.push (seqObj "list" vs.toArray 0)).get? s1.heap.objs.size = some (seqObj "list" vs.toArray 0) := Heap.get?_push_size _ rfl
  refine wpAny_bind (wpAny_holding (wpAny_call_entry slot_list_sort ⟨_, hoL, rfl⟩ entry_list_sort
    (list_sort_treeK strKind_oneLt hoL hS.keysOf (fun v₁ v₂ rest e => keyKind_strs (by rw [← e]; exact hS)) (by rw [hvl]; exact h64) fun st' hp hs => ⟨_, rfl, ?_⟩) (args_list_sort _)))
  obtain ⟨ys, b1, b2, b3⟩ := sorted_out_str hS hp hs
  obtain ⟨c, hc⟩ := sortedHeap_at (vs := vs) (out := (arrOf st').map (·.2)) hoL
  refine wpAny_pure ⟨_, rfl, hQ _ s1.heap.objs.size _ c ys (fun b u e => ?_) g1 o1 hz hc b1 (b2.trans hp0) b3⟩
  have q := k1 b u e
  have hlt := Heap.lt_size q
  exact (sortedHeap_old (Nat.ne_of_lt hlt) (by rw [Heap.size_push]; exact Nat.lt_succ_of_lt hlt)).trans (Heap.get?_push_of_some _ q)
end
end Sx

set_option Elab.async false
set_option linter.all false
set_option maxRecDepth 100000
set_option maxHeartbeats 1000000
/-! S4: sorted(set(xs)) of texts. -/
namespace Dl
open PySem PySem.Spec PyProof.Rows L2 Sx
/-! ### the texts' order -/
theorem lc_irr : ∀ a : List Nat, ltCps a a = false
  | [] => rfl
  | x :: a => by
    unfold ltCps
    rw [lc_irr a]
    simp
theorem lc_tr : ∀ {a b c : List Nat}, ltCps a b = true → ltCps b c = true → ltCps a c = true
  | [], [], _, h, _ => by cases h
  | [], _ :: _, [], _, h => by cases h
  | [], _ :: _, _ :: _, _, _ => rfl
  | _ :: _, [], _, h, _ => by cases h
  | _ :: _, _ :: _, [], _, h => by cases h
  | x :: a, y :: b, z :: c, h1, h2 => by
    unfold ltCps at h1 h2 ⊢
    simp only [Bool.or_eq_true, Bool.and_eq_true, decide_eq_true_eq, beq_iff_eq] at h1 h2 ⊢
    rcases h1 with h1 | ⟨e1, h1⟩
    · rcases h2 with h2 | ⟨e2, h2⟩
      · exact .inl (by omega)
      · exact .inl (by omega)
    · rcases h2 with h2 | ⟨e2, h2⟩
      · exact .inl (by omega)
      · exact .inr ⟨by omega, lc_tr h1 h2⟩
theorem lc_tri : ∀ {a b : List Nat}, ltCps a b = false → a ≠ b → ltCps b a = true
  | [], [], _, h => absurd rfl h
  | [], _ :: _, h, _ => by cases h
  | _ :: _, [], _, _ => rfl
  | x :: a, y :: b, h, n => by
    unfold ltCps at h ⊢
    simp only [Bool.or_eq_false_iff, Bool.and_eq_false_iff, decide_eq_false_iff_not, beq_eq_false_iff_ne] at h
    simp only [Bool.or_eq_true, Bool.and_eq_true, decide_eq_true_eq, beq_iff_eq]
    by_cases e : x = y
    · subst e
      refine .inr ⟨rfl, lc_tri (h.2.resolve_left (fun z => z rfl)) fun z => n (by rw [z])⟩
    · exact .inl (by omega)
def ltS (x y : Str) : Bool := ltCps x.cps.toList y.cps.toList
theorem cps_inj {x y : Str} (h : x.cps.toList = y.cps.toList) : x = y := PySem.W.str_of_cps h
theorem ltS_irr (x : Str) : ltS x x = false := lc_irr _
theorem ltS_tr {x y z : Str} (h : ltS x y = true) (k : ltS y z = true) : ltS x z = true := lc_tr h k
theorem ltS_tri {x y : Str} (h : ltS x y = false) (n : x ≠ y) : ltS y x = true := lc_tri h fun e => n (cps_inj e)
def UpS (l : List Str) : Prop := l.Pairwise fun a b => ltS a b = true
def insT (x : Str) : List Str → List Str
  | [] => [x]
  | y :: l => if ltS x y = true then x :: y :: l else if x = y then y :: l else y :: insT x l
def ssT (l : List Str) : List Str := l.foldr insT []
theorem mem_insT {x z : Str} : ∀ {l : List Str}, z ∈ insT x l ↔ z = x ∨ z ∈ l
  | [] => by simp [insT]
  | y :: l => by
    unfold insT
    by_cases c : ltS x y = true
    · rw [if_pos c, List.mem_cons]
    · rw [if_neg c]
      by_cases e : x = y
      · rw [if_pos e, e, List.mem_cons]
        exact ⟨.inr, fun h => h.elim .inl id⟩
      · rw [if_neg e, List.mem_cons, List.mem_cons, mem_insT (l := l)]
        exact ⟨fun h => h.elim (fun q => .inr (.inl q)) fun q => q.elim .inl fun r => .inr (.inr r), fun h => h.elim (fun q => .inr (.inl q)) fun q => q.elim .inl fun r => .inr (.inr r)⟩
theorem mem_ssT {z : Str} : ∀ {l : List Str}, z ∈ ssT l ↔ z ∈ l
  | [] => Iff.rfl
  | y :: l => by
    show z ∈ insT y (ssT l) ↔ _
    rw [mem_insT, mem_ssT, List.mem_cons]
theorem up_insT {x : Str} : ∀ {l : List Str}, UpS l → UpS (insT x l)
  | [], _ => List.pairwise_singleton _ _
  | y :: l, h => by
    obtain ⟨h1, h2⟩ := List.pairwise_cons.mp h
    unfold insT
    by_cases c : ltS x y = true
    · rw [if_pos c]
      refine List.pairwise_cons.mpr ⟨fun z hz => ?_, h⟩
      rcases List.mem_cons.mp hz with e | e
      · rw [e]; exact c
      · exact ltS_tr c (h1 z e)
    · rw [if_neg c]
      by_cases e : x = y
      · rw [if_pos e]; exact h
      · rw [if_neg e]
        refine List.pairwise_cons.mpr ⟨fun z hz => ?_, up_insT h2⟩
        rcases mem_insT.mp hz with q | q
        · rw [q]; exact ltS_tri (Bool.eq_false_iff.mpr c) e
        · exact h1 z q
theorem up_ssT : ∀ l : List Str, UpS (ssT l)
  | [] => List.Pairwise.nil
  | _ :: l => up_insT (up_ssT l)
theorem same_upS : ∀ {a b : List Str}, UpS a → UpS b → (∀ z, z ∈ a ↔ z ∈ b) → a = b
  | [], [], _, _, _ => rfl
  | [], y :: b, _, _, h => by
    have := (h y).mpr (List.mem_cons_self ..)
    cases this
  | x :: a, [], _, _, h => by
    have := (h x).mp (List.mem_cons_self ..)
    cases this
  | x :: a, y :: b, ha, hb, h => by
    obtain ⟨a1, a2⟩ := List.pairwise_cons.mp ha
    obtain ⟨b1, b2⟩ := List.pairwise_cons.mp hb
    have e : x = y := by
      rcases List.mem_cons.mp ((h x).mp (List.mem_cons_self ..)) with e | e
      · exact e
      · rcases List.mem_cons.mp ((h y).mpr (List.mem_cons_self ..)) with q | q
        · exact q.symm
        · have z := ltS_tr (a1 y q) (b1 x e)
          rw [ltS_irr] at z
          cases z
    subst e
    rw [same_upS a2 b2 fun z => ⟨fun hz => ?_, fun hz => ?_⟩]
    · rcases List.mem_cons.mp ((h z).mp (List.mem_cons_of_mem _ hz)) with q | q
      · have k := a1 z hz
        rw [q, ltS_irr] at k
        cases k
      · exact q
    · rcases List.mem_cons.mp ((h z).mpr (List.mem_cons_of_mem _ hz)) with q | q
      · have k := b1 z hz
        rw [q, ltS_irr] at k
        cases k
      · exact q
theorem rising_up : ∀ {l : List Str} {p : Str}, risingS p l = true → (p :: l).Nodup → UpS (p :: l)
  | [], p, _, _ => List.pairwise_singleton _ _
  | x :: l, p, h, hn => by
    have h' : (!ltCps x.cps.toList p.cps.toList && risingS x l) = true := h
    rw [Bool.and_eq_true, Bool.not_eq_true'] at h'
    obtain ⟨n1, n2⟩ := List.nodup_cons.mp hn
    have up := rising_up h'.2 n2
    have hpx : ltS p x = true := ltS_tri h'.1 fun e => n1 (e ▸ List.mem_cons_self ..)
    refine List.pairwise_cons.mpr ⟨fun z hz => ?_, up⟩
    rcases List.mem_cons.mp hz with q | q
    · rw [q]; exact hpx
    · exact ltS_tr hpx ((List.pairwise_cons.mp up).1 z q)
theorem sorted_up {l : List Str} (h : sortedS l = true) (hn : l.Nodup) : UpS l := by
  cases l with
  | nil => exact List.Pairwise.nil
  | cons p l => exact rising_up h hn
/-! ### the calls -/
def SetX (P : Program) (w : World) (a : Addr) (L : List Str) : HO := .ext fun h => SxR P w h a L
theorem setX_new {P : Program} {w : World} {H : Hp} {h : Heap} {a : Addr} {L : List Str} (R : SxR P w h a L) : ObjOk P w H h a (SetX P w a L) := by
  have ⟨_, _, _, ho, _⟩ := R
  exact ⟨R, ⟨_, ho⟩, fun _ _ p k => p.at k⟩
section
variable {X : Cx}
def rSetX (K : PySem.W.Frag) (P : Program) (w : World) : List V → Hp → VK → Prop := fun xs H Q => ∃ (l : Addr) (ws : List Str), xs = [V.ref l] ∧ (SqL K H l (ws.map V.str) ∨ SqT K H l (ws.map V.str)) ∧ ws.length < 64 ∧ ∀ p L, H p = none → GotS ws ws.length L → Q (.ref p) (upd H p (SetX P w p L))
theorem cr_setX (hc : X.calm = true) : CallR X (.type "set") (rSetX X.K X.prog X.w) := by
  intro pins s σ H xs us Q I r h
  obtain ⟨l, ws, rfl, hl, hb, q⟩ := h
  rw [Vals.ref1 r]
  rcases hl with hl | hl
  · obtain ⟨its, rv, pl, hz⟩ := I.list hl
    have hi : StrsAre its ws := rv.strs
    refine call_set_strs (P := X.prog) (w := X.w) (xs := ws) (I.ok.hd hc) pl.isList (by simpa using hi) (by unfold scanBound; omega) fun h' tk L R g k => ?_
    exact ⟨.ref _, upd H s.heap.objs.size (SetX X.prog X.w s.heap.objs.size L), I.laid (t' := tk) k (Nat.le_refl _) (setX_new R), rfl, q _ L (I.hok.fresh (Nat.le_refl _)) g⟩
  · obtain ⟨its, rv, pl, hz⟩ := I.tuple hl
    have hi : StrsAre its ws := rv.strs
    have pt : s.heap.IsTuple l its.toArray := pl
    refine call_set_strs_tup (P := X.prog) (w := X.w) (xs := ws) (I.ok.hd hc) pt (by simpa using hi) (by unfold scanBound; omega) fun h' tk L R g k => ?_
    exact ⟨.ref _, upd H s.heap.objs.size (SetX X.prog X.w s.heap.objs.size L), I.laid (t' := tk) k (Nat.le_refl _) (setX_new R), rfl, q _ L (I.hok.fresh (Nat.le_refl _)) g⟩
def rSortedX (P : Program) (w : World) : List V → Hp → VK → Prop := fun vs H Q => ∃ (a : Addr) (L : List Str), vs = [V.ref a] ∧ H a = some (SetX P w a L) ∧ L.Nodup ∧ L.length < 64 ∧
  ∀ (ys : List Str) (p : Addr), ys.Perm L → sortedS ys = true → H p = none → Q (.ref p) (upd H p (.lst (ys.map V.str)))
theorem cr_sortedX (hc : X.calm = true) : CallR X (.builtin "sorted") (rSortedX X.prog X.w) := by
  intro pins s σ H vs us Q I r h
  obtain ⟨a, L, rfl, ha, hn, h64, q⟩ := h
  have R0 : SxR X.prog X.w s.heap a L := (I.hok a _ ha).1
  rw [Vals.ref1 r]
  refine sorted_sx R0 hn (I.ok.hd hc) h64 fun s' p out c ys k g o hp hg hS pm st => ?_
  have hlen : (ys.map V.str).length ≤ sizeLine := by rw [List.length_map, pm.length_eq, sizeLine_eq]; omega
  have hnp : H p = none := I.hok.fresh hp
  have J : Inv X pins σ (upd H p (.lst (ys.map V.str))) { s with heap := s'.heap, gens := s'.gens, drawn := s'.drawn, toks := s'.toks } :=
    I.call (ch := []) (Un.laid k hp hnp) (I.hok.laid k hp ⟨hlen, out.toList, c, vals_of_strs hS, by rw [Array.toArray_toList]; exact hg⟩) (by rw [g]; exact I.bare) (fun _ z => nomatch z)
  have e : s' = { s with heap := s'.heap, gens := s'.gens, drawn := s'.drawn, toks := s'.toks } := by
    cases s'
    cases s
    cases o
    rfl
  rw [e]
  exact ⟨.ref p, _, J, rfl, q ys p pm st hnp⟩
end
def ssetTD : List D → Option D
  | [.lst ds] => match strsOf ds with
    | some ws => if ws.length < 64 then some (.lst ((ssT ws).map .str)) else none
    | none => none
  | [.tup ds] => match strsOf ds with
    | some ws => if ws.length < 64 then some (.lst ((ssT ws).map .str)) else none
    | none => none
  | _ => none
theorem of_strs {K : PySem.W.Frag} {S : Type} {B : Amb S} {F : Hp} : ∀ {ws : List Str}, DvL K B F (ws.map D.str) (ws.map V.str)
  | [] => rfl
  | _ :: _ => ⟨_, _, rfl, rfl, of_strs⟩
section
variable {X : Cx} {S : Type} {B : Amb S} {a : Expr} {ml : ML S} {pos pos2 p1 p2 : Pos}
theorem d_ssetT (hc : X.calm = true) (hs : X.mg "sorted" = none) (ht : X.mg "set" = none) (ha : PA X [a] (tL X.K B ml)) (hg : Gl X "sorted" := by rfl) (hg2 : Gl X "set" := by rfl)
    (he : starEach [a] X.env = (false, eval a X.env) :: starEach [] X.env := by rfl)
    (he2 : starEach [Expr.Call (.Name "set" p2) [a] [] pos2] X.env = (false, eval (Expr.Call (.Name "set" p2) [a] [] pos2) X.env) :: starEach [] X.env := by rfl) :
    PE X (.Call (.Name "sorted" p1) [.Call (.Name "set" p2) [a] [] pos2] [] pos) (tD X.K B (mF ssetTD ml)) :=
  pe_w (pe_callB (cr_sortedX hc) hg hs (by decide +kernel) (pa_cons (pe_callTy (cr_setX hc) hg2 ht (by decide +kernel) ha (he := he)) pa_nil he2) (he := he2)) fun σ H Q ⟨env, F, s, d, s', E, o, hm, hq⟩ => by
    obtain ⟨ds, e1, e2⟩ := f_un hm
    refine ⟨env, F, s, ds, s', E, o, e1, fun vs F1 H1 v1 hv => ?_⟩
    unfold ssetTD at e2
    split at e2
    · rename_i x
      cases e3 : strsOf x with
      | none => rw [e3] at e2; cases e2
      | some ws =>
        rw [e3] at e2
        dsimp only at e2
        split at e2
        · rename_i h64
          cases e2
          rw [strsOf_eq e3] at hv
          obtain ⟨v, rfl, hv2⟩ := one_of hv
          obtain ⟨l, us, rfl, hl, hv3⟩ := hv2
          rw [DvL.strs hv3] at hl
          refine ⟨l, ws, rfl, .inl (.inl (.inl (v1.ok.sub _ _ hl))), h64, fun b L hb ⟨g1, g2, g3⟩ => ?_⟩
          have v2 := Ev.newO v1.ok (SetX X.prog X.w b L) hb
          refine ⟨b, L, rfl, upd_same, g1, by omega, fun ys q hP hS hq2 => ?_⟩
          have e5 : ys = ssT ws := same_upS (sorted_up hS (hP.nodup_iff.mpr g1)) (up_ssT ws) fun z => by
            rw [hP.mem_iff, g2 z, List.take_length, mem_ssT]
          refine hq _ _ _ ((v1.trans v2).trans (Ev.new v2.ok _ hq2)) ?_
          rw [← e5]
          exact new_lst v2.ok hq2 of_strs
        · cases e2
    · rename_i x
      cases e3 : strsOf x with
      | none => rw [e3] at e2; cases e2
      | some ws =>
        rw [e3] at e2
        dsimp only at e2
        split at e2
        · rename_i h64
          cases e2
          rw [strsOf_eq e3] at hv
          obtain ⟨v, rfl, hv2⟩ := one_of hv
          obtain ⟨l, us, rfl, hl, hv3⟩ := hv2
          rw [DvL.strs hv3] at hl
          refine ⟨l, ws, rfl, .inr (sqT_ext v1.ok.sub hl), h64, fun b L hb ⟨g1, g2, g3⟩ => ?_⟩
          have v2 := Ev.newO v1.ok (SetX X.prog X.w b L) hb
          refine ⟨b, L, rfl, upd_same, g1, by omega, fun ys q hP hS hq2 => ?_⟩
          have e5 : ys = ssT ws := same_upS (sorted_up hS (hP.nodup_iff.mpr g1)) (up_ssT ws) fun z => by
            rw [hP.mem_iff, g2 z, List.take_length, mem_ssT]
          refine hq _ _ _ ((v1.trans v2).trans (Ev.new v2.ok _ hq2)) ?_
          rw [← e5]
          exact new_lst v2.ok hq2 of_strs
        · cases e2
    · cases e2
end
end Dl

set_option Elab.async false
set_option linter.all false
set_option maxRecDepth 100000
set_option maxHeartbeats 2000000
/-! S5: enumerate(text, 1). -/
namespace Sx
open PySem PySem.Spec PyProof.Rows L2
theorem tc2 (a b : Value) : checkTypeCall "enumerate" ⟨[a, b], []⟩ = pure () := by kernel_rfl
theorem nc2 (a b : Value) : checkBuiltinCall "enumerate.__new__" ⟨[.type "enumerate", a, b], []⟩ = pure () := by kernel_rfl
theorem oi3 (a b c : Value) : argsOk "object.__init__" ⟨[a, b, c], []⟩ := by unfold argsOk; kernel_rfl
theorem meets_enum1 (x : Str) (t u : Tok) :
    Meets (Builtin.«enumerate.__new__» ⟨[.type "enumerate", .str x t, .int 1 u], []⟩) (fun _ R s =>
      R (.ok (.ret (.ref (s.heap.push { cls := .type (strIterType x), data := .fields #[.str x t, .int 0 0] }).objs.size)))
        { s with heap := (s.heap.push { cls := .type (strIterType x), data := .fields #[.str x t, .int 0 0] }).push { cls := .type "enumerate", data := .fields #[.none, .bool false, .ref s.heap.objs.size, rawInt 1, .none, .none] } }) :=
  .of_wp fun prog w A R s h => by
    obtain ⟨hp, g, d, tk, os⟩ := s
    have hsub := sub_enumerate
    wp_walk
    refine wpAny_stack_any fun st => wpAny_pure ?_
    split
    · rename_i c _ _ _ _ _
      cases (c == Value.type "enumerate")
      · wp_walk using wpAny_pyIter_strU
        exact ⟨_, rfl, h⟩
      · wp_walk using wpAny_pyIter_strU
        exact ⟨_, rfl, h⟩
    · wp_walk using wpAny_pyIter_strU
      exact ⟨_, rfl, h⟩
end Sx

set_option Elab.async false
set_option linter.all false
set_option maxRecDepth 100000
set_option maxHeartbeats 1000000
/-! S6: the walk over enumerate(text, 1). -/
namespace Sx
open PySem PySem.Spec PyProof.Rows L2
section
variable {prog : Program} {w : World} {A : Around} {E : Value → Shared → Prop} {s : Shared}
theorem call_enum1 {x : Str} {t u : Tok} {Q : Value → Shared → Prop}
    (h : ∀ h', IsEnum h' (s.heap.objs.size + 1) s.heap.objs.size 1 .none → h'.IsStrIter s.heap.objs.size (strIterType x) x t 0 → (∀ b o, s.heap.get? b = some o → h'.get? b = some o) → Q (.ref (s.heap.objs.size + 1)) { s with heap := h' }) :
    wpAny (model prog w) A (call (.type "enumerate") [.str x t, .int 1 u]) Q E s := by
  have hz : (s.heap.push { cls := .type (strIterType x), data := .fields #[.str x t, .int 0 0] }).objs.size = s.heap.objs.size + 1 := Heap.size_push ..
  refine callType_new F.called_enumerate (by decide) (tc2 _ _) (nc2 _ _) (fun obj => oi3 obj _ _) F.entry_enumerate_new (meets_enum1 x t u) ?_
  have he := Heap.get?_push_size (s.heap.push { cls := .type (strIterType x), data := .fields #[.str x t, .int 0 0] }) (o := { cls := .type "enumerate", data := .fields #[.none, .bool false, .ref s.heap.objs.size, rawInt 1, .none, .none] }) rfl
  rw [hz] at he
  show _ ∧ _
  rw [hz]
  exact ⟨⟨_, he, rfl⟩, h _ he ⟨_, Heap.get?_push_of_some _ (Heap.get?_push_size _ rfl), rfl, rfl⟩ fun b o y => Heap.get?_push_of_some _ (Heap.get?_push_of_some _ y)⟩
theorem draws_str (hh : A.handled = none) (it : Addr) (x : Str) (t : Tok) :
    Draws prog w A it [it] x.cps.size (fun i v => ∃ c u, x.cps[i]? = some c ∧ v = .str ⟨#[c]⟩ u) (fun i h => h.IsStrIter it (strIterType x) x t i) := by
  unfold strIterType
  by_cases c : x.cps.all (· < 128) = true
  · rw [if_pos c]; exact Draws.strAscii hh it x t
  · rw [if_neg c]; exact Draws.strWide hh it x t
/-- the count stands one ahead of the place -/
theorem draws_up {it : Addr} {fp : List Addr} {n : Nat} {Pv : Nat → Value → Prop} {St : Nat → Heap → Prop} (D : Draws prog w A it fp n Pv St) :
    Draws prog w A it fp (n + 1) (fun i v => ∃ j, i = j + 1 ∧ Pv j v) (fun i h => ∃ j, i = j + 1 ∧ St j h) where
  live := fun _ h ⟨j, _, st⟩ => D.live j h st
  frame := fun _ h h' ⟨j, e, st⟩ k => ⟨j, e, D.frame j h h' st k⟩
  item := fun i s Q E hi ⟨j, e, st⟩ hQ => D.item j s Q E (by omega) st fun v h' tk p st' sb => hQ v h' tk ⟨j, e, p⟩ ⟨j + 1, by omega, st'⟩ sb
  done := fun s Q E ⟨j, e, st⟩ hE => by
    have ej : j = n := by omega
    subst ej
    exact D.done s Q E st hE
end
/-- the signs of x with their places from 1 -/
def Ite1 (x : Str) : It :=
  ⟨fun i _ => i < x.cps.size, fun i H v H' => ∃ T c, v = .ref T ∧ H T = none ∧ H' = upd H T (.tup [.int ((i : Nat) + 1), .str ⟨#[c]⟩]) ∧ x.cps[i]? = some c, fun i _ => x.cps.size ≤ i⟩
theorem turn_enum1 {P : Program} {w : World} {K : PySem.W.Frag} {elts : List Expr} {kk : Nat} {tpos : Pos} (x : Str) (t : Tok) (e it : Addr) :
    Turn P w K (.Tuple elts kk tpos) (Ite1 x) [e, it] e (fun i h => (∃ old, IsEnum h e it (((i + 1 : Nat)) : Int) old) ∧ h.IsStrIter it (strIterType x) x t i ∧ e ≠ it ∧ i ≤ x.cps.size) where
  mem := List.mem_cons_self ..
  obj := fun i h ⟨⟨old, he⟩, ⟨o, ho, hc, hd⟩, _⟩ b hb => by
    rcases List.mem_cons.mp hb with z | z
    · rw [z]; exact ⟨_, he, fun v q => nomatch q⟩
    · rw [List.mem_singleton.mp z]; exact ⟨o, ho, fun v q => by rw [hd] at q; cases q⟩
  keep := fun i h h' ⟨⟨old, he⟩, ⟨o, ho, r⟩, hne⟩ k => ⟨⟨old, k e (by simp) _ he⟩, ⟨o, k it (by simp) o ho, r⟩, hne⟩
  item := fun X hP hw hK hc i pins s σ H E I hf ⟨⟨old, he⟩, hst, hne, hi⟩ hg => by
    subst hP hw hK
    have hg' : i < x.cps.size := hg
    have D := draws_up (draws_str (prog := X.prog) (w := X.w) (A := X.A.in1) (I.ok.hd hc) it x t)
    have hel : e < s.heap.objs.size := Heap.lt_size he
    have hil : it < s.heap.objs.size := Heap.lt_size hst.choose_spec.1
    refine wpAny_pyNext_enum_itemD D he ⟨i, rfl, hst⟩ (by omega) hne (by simpa using hne) fun v h' tk ⟨j, ej, c, u, hcx, ev⟩ ho ⟨j2, ej2, hst2⟩ hT hsz hk => ?_
    obtain rfl : j = i := by omega
    obtain rfl : j2 = j + 1 := by omega
    subst ev
    refine ⟨_, rfl, wpAny_letOwnedTupleGo_enum (s := { s with heap := h', toks := tk + 1 }) ho fun h'' he' sb => ?_⟩
    have hT2 := (sb.2 _ (Nat.ne_of_gt hel)).trans hT
    have new : ObjOk X.prog X.w (upd H s.heap.objs.size (.tup [.int ((j : Nat) + 1), .str ⟨#[c]⟩])) h'' s.heap.objs.size (.tup [.int ((j : Nat) + 1), .str ⟨#[c]⟩]) :=
      ⟨by show 2 ≤ sizeLine; decide, [.int ((j + 1 : Nat) : Int) tk, .str ⟨#[c]⟩ u], .cons ⟨_, by rw [show (((j + 1 : Nat)) : Int) = (j : Int) + 1 by omega]⟩ (.cons ⟨_, rfl⟩ .nil), ⟨_, hT2, rfl, _, rfl⟩⟩
    have I1 : Inv X pins σ (upd H s.heap.objs.size (.tup [.int ((j : Nat) + 1), .str ⟨#[c]⟩])) { s with heap := h'', toks := tk + 1 } :=
      I.turnedNew (ch := [e, it]) (fun b ob hb q => (sb.2 b fun z => hb (z ▸ List.mem_cons_self)).trans (hk b ob (fun z => hb (z ▸ List.mem_cons_self)) (fun z => hb (z ▸ List.mem_cons_of_mem _ List.mem_cons_self)) q)) hf (Nat.le_refl _) new
    refine ⟨.ref s.heap.objs.size, _, I1, rfl, ⟨_, c, rfl, I.hok.fresh (Nat.le_refl _), rfl, hcx⟩, ⟨⟨_, he'⟩, ?_, hne, by omega⟩, fun b hb => ?_⟩
    · obtain ⟨o, o1, o2⟩ := hst2
      exact ⟨o, (sb.2 it (Ne.symm hne)).trans o1, o2⟩
    · have hb' : b < s.heap.objs.size := by
        rcases List.mem_cons.mp hb with z | z
        · rw [z]; exact hel
        · rw [List.mem_singleton.mp z]; exact hil
      rw [upd_ne (Nat.ne_of_lt hb')]
      exact (hf b hb).1
  done := fun X hP hw hK hc i pins s σ H E I hf ⟨⟨old, he⟩, hst, hne, hi⟩ hg => by
    subst hP hw hK
    have hg' : x.cps.size ≤ i := hg
    have D := draws_up (draws_str (prog := X.prog) (w := X.w) (A := X.A.in1) (I.ok.hd hc) it x t)
    obtain ⟨f0, f1, f2, f3, f4, f5⟩ := hf it (by simp)
    obtain rfl : i = x.cps.size := by omega
    exact wpAny_pyNext_enum_endD D he ⟨x.cps.size, rfl, hst⟩ fun h' eb => ⟨rfl, I.turned (t' := s.toks) (fun b o hb q => eb b o hb q) f0 f1 f3 f4 f5⟩
  self := fun A i s Q E ⟨⟨_, he⟩, _⟩ h => wpAny_pyIter_enum he h
def iEnum1 (ta : TA) : TI := fun σ H R => ta σ H fun vs H1 => ∃ x, vs = [.str x, .int 1] ∧ R (Ite1 x) H1
theorem pi_enum1 {X : Cx} {e e2 : Expr} {ta : TA} {p pos tpos : Pos} {elts : List Expr} {kk : Nat} (hg : Gl X "enumerate") (hm : X.mg "enumerate" = none) (ha : PA X [e, e2] ta)
    (hs : starEach [e, e2] X.env = (false, eval e X.env) :: starEach [e2] X.env := by rfl) (hpl : (backTo pos (starEach [e2] X.env)).any (·.1) = false := by rfl) :
    PI X (.Tuple elts kk tpos) (.Call (.Name "enumerate" p) [e, e2] [] pos) (iEnum1 ta) := ⟨fun pins s σ H R I h => by
  refine Call_ (ld_blt I hg hm boot_enumerate (callWith_type1 (thn (ha.run pos pins s σ H _ I h) fun us s1 ⟨vs, H1, I1, r1, x, ex, q⟩ => ?_) hs hpl))
  subst ex
  obtain ⟨u1, u2, rfl, ⟨t, rfl⟩, ⟨t2, rfl⟩⟩ : ∃ u1 u2, us = [u1, u2] ∧ RelV (.str x) u1 ∧ RelV (.int 1) u2 := by
    cases r1 with
    | cons r rr =>
      cases rr with
      | cons r' rr =>
        cases rr
        exact ⟨_, _, rfl, r, r'⟩
  refine call_enum1 fun h' he hit hk => wpAny_pyIter_enum he ?_
  have I2 : Inv X pins σ H1 { s1 with heap := h' } := I1.kept (t' := s1.toks) hk
  refine ⟨s1.heap.objs.size + 1, [s1.heap.objs.size + 1, s1.heap.objs.size], _, _, H1, rfl, I2, turn_enum1 x t (s1.heap.objs.size + 1) s1.heap.objs.size, ⟨⟨.none, he⟩, hit, Nat.succ_ne_self _, Nat.zero_le _⟩, fun b hb => ?_, q⟩
  have hle : s1.heap.objs.size ≤ b := by
    rcases List.mem_cons.mp hb with z | z
    · rw [z]; exact Nat.le_succ _
    · rw [List.mem_singleton.mp z]; exact Nat.le_refl _
  exact I1.fpOk hle (I1.hok.fresh hle)⟩
end Sx

set_option Elab.async false
set_option linter.all false
set_option maxRecDepth 100000
set_option maxHeartbeats 1000000
/-! S7: enumerate over data; sum, ord. -/
namespace Dl
open PySem PySem.Spec PyProof.Rows L2 Sx
/-- items with their places from k -/
def enumD : Int → List D → List D
  | _, [] => []
  | k, d :: ds => .tup [.int k, d] :: enumD (k + 1) ds
theorem enumD_len : ∀ (ds : List D) (k : Int), (enumD k ds).length = ds.length
  | [], _ => rfl
  | d :: ds, k => by
    show (enumD (k + 1) ds).length + 1 = ds.length + 1
    rw [enumD_len ds]
theorem enumD_get : ∀ (ds : List D) (k : Int) (i : Nat), (enumD k ds)[i]? = ds[i]?.map fun d => .tup [.int (k + i), d]
  | [], _, _ => rfl
  | d :: ds, k, 0 => by
    show some (D.tup [.int k, d]) = some (D.tup [.int (k + (0 : Nat)), d])
    rw [show k + ((0 : Nat) : Int) = k by omega]
  | d :: ds, k, i + 1 => by
    show (enumD (k + 1) ds)[i]? = ds[i]?.map _
    rw [enumD_get ds (k + 1) i, show k + 1 + (i : Int) = k + ((i + 1 : Nat) : Int) by omega]
def enum1Items : List D → Option (List D)
  | [.str x, .int 1] => if x.length ≤ sizeLine then some (enumD 1 (signsOf x)) else none
  | _ => none
def enumLItems : List D → Option (List D)
  | [.lst ds] => some (enumD 0 ds)
  | _ => none
def mIt2 {S : Type} (f : List D → Option (List D)) (l : ML S) : ML S := fun env s => (l env s).bind fun p => (f p.1).map fun xs => (xs, p.2)
section
variable {X : Cx} {S : Type} {B : Amb S} {F F1 H : Hp} {s : S}
theorem pair_new (o : Ok B F H s) {T : Addr} (hT : H T = none) {k : Int} {d : D} {v : V} (hd : Dv X.K B F d v) : ∃ F', Ev B F H F' (upd H T (.tup [.int k, v])) s ∧ Dv X.K B F' (.tup [.int k, d]) (.ref T) := by
  have e := Ev.new o (.tup [.int k, v]) hT
  exact ⟨_, e, T, _, rfl, .inl (.inl upd_same), _, _, rfl, rfl, DvL.one (hd.ext (e.sameF o))⟩
theorem jd_enum1 {x : Str} : JD X.K B (Ite1 x) (enumD 1 (signsOf x)) F1 where
  go := fun i F H s _ _ hi => by
    rw [enumD_len] at hi
    show i < x.cps.size
    simpa [signsOf] using hi
  yld := fun i F H s v H' d _ o ⟨T, c, e1, e2, e3, e4⟩ hd => by
    subst e1 e3
    rw [enumD_get] at hd
    unfold signsOf at hd
    rw [List.getElem?_map, Array.getElem?_toList, e4] at hd
    cases hd
    rw [show (1 : Int) + (i : Int) = (i : Int) + 1 by omega]
    exact pair_new (X := X) o e2 rfl
  stop := fun i F H s _ _ hi => by
    rw [enumD_len] at hi
    show x.cps.size ≤ i
    simpa [signsOf] using hi
theorem jd_enumL {a : Addr} {ds : List D} {vs : List V} (h : F1 a = some (.lst vs)) (hv : DvL X.K B F1 ds vs) : JD X.K B (Ite X.K a) (enumD 0 ds) F1 where
  go := fun i F H s sf o hi => by
    rw [enumD_len] at hi
    have hi' : i < vs.length := by rw [hv.len]; exact hi
    exact ⟨vs, vs[i], SqL.of (o.sub _ _ (sf _ _ h)), by simp [hi']⟩
  yld := fun i F H s v H' d sf o ⟨T, y, e1, e2, e3, e4⟩ hd => by
    subst e1 e3
    have q := e4 vs (SqL.of (o.sub _ _ (sf _ _ h)))
    obtain ⟨d', hd', hy⟩ := hv.getV q
    rw [enumD_get, hd'] at hd
    cases hd
    rw [show (0 : Int) + (i : Int) = (i : Int) by omega]
    exact pair_new (X := X) o e2 (hy.ext sf)
  stop := fun i F H s sf o hi => by
    rw [enumD_len] at hi
    exact ⟨vs, SqL.of (o.sub _ _ (sf _ _ h)), by rw [hv.len]; exact hi⟩
end
section
variable {X : Cx} {S : Type} {B : Amb S} {e e2 : Expr} {ml : ML S} {p pos tpos : Pos} {elts : List Expr} {kk : Nat}
theorem it2_un {f : List D → Option (List D)} {env : DE} {s s' : S} {xs : List D} (h : mIt2 f ml env s = some (xs, s')) : ∃ x, ml env s = some (x, s') ∧ f x = some xs := by
  unfold mIt2 at h
  cases e1 : ml env s with
  | none => simp [e1] at h
  | some p =>
    cases e3 : f p.1 with
    | none => simp [e1, e3] at h
    | some z =>
      simp [e1, e3] at h
      obtain ⟨h1, h2⟩ := h
      exact ⟨p.1, by rw [← h2], by rw [e3, h1]⟩
theorem i_enum1 (hm : X.mg "enumerate" = none) (ha : PA X [e, e2] (tL X.K B ml)) (hg : Gl X "enumerate" := by rfl)
    (hs : starEach [e, e2] X.env = (false, eval e X.env) :: starEach [e2] X.env := by rfl) (hpl : (backTo pos (starEach [e2] X.env)).any (·.1) = false := by rfl) :
    PI X (.Tuple elts kk tpos) (.Call (.Name "enumerate" p) [e, e2] [] pos) (tI X.K B (mIt2 enum1Items ml)) := pi_w (pi_enum1 hg hm ha hs hpl) fun σ H R ⟨env, F, s, xs, s', E, o, hm, hq⟩ => by
  obtain ⟨ds, e1, e2⟩ := it2_un hm
  unfold enum1Items at e2
  split at e2
  · rename_i x
    split at e2
    · rename_i hx
      cases e2
      refine ⟨env, F, s, _, s', E, o, e1, fun vs F1 H1 v1 hv => ?_⟩
      obtain ⟨v, r, rfl, hv1, u, r2, rfl, hu, hr⟩ := hv
      have h1 : v = V.str x := hv1
      have h2 : u = V.int 1 := hu
      have h3 : r2 = [] := hr
      subst h1 h2 h3
      refine ⟨x, rfl, hq _ F1 H1 v1 jd_enum1 ?_⟩
      rw [enumD_len]
      unfold signsOf
      rw [List.length_map, Array.length_toList]
      exact hx
    · cases e2
  · cases e2
theorem i_enumL (hm : X.mg "enumerate" = none) (ha : PA X [e] (tL X.K B ml)) (hg : Gl X "enumerate" := by rfl) (hs : starEach [e] X.env = [(false, eval e X.env)] := by rfl) :
    PI X (.Tuple elts kk tpos) (.Call (.Name "enumerate" p) [e] [] pos) (tI X.K B (mIt2 enumLItems ml)) := pi_w (pi_bd (pi_enum hg hm ha hs)) fun σ H R ⟨env, F, s, xs, s', E, o, hm, hq⟩ => by
  obtain ⟨ds, e1, e2⟩ := it2_un hm
  unfold enumLItems at e2
  split at e2
  · rename_i ys
    cases e2
    refine ⟨env, F, s, _, s', E, o, e1, fun vs F1 H1 v1 hv => ?_⟩
    obtain ⟨v, rfl, a, us, rfl, hl, hv2⟩ := one_of hv
    refine ⟨a, us, rfl, SqL.of (v1.ok.sub _ _ hl), fun _ b2 => hq _ F1 H1 v1 (jd_enumL hl hv2) ?_⟩
    rw [enumD_len, ← hv2.len]
    exact b2 a us (SqL.of (v1.ok.sub _ _ hl))
  · cases e2
end
/-! sum, ord -/
def intsOf : List D → Option (List Int)
  | [] => some []
  | .int i :: ds => (intsOf ds).map (i :: ·)
  | _ :: _ => none
theorem intsOf_eq : ∀ {ds : List D} {ns : List Int}, intsOf ds = some ns → ds = ns.map D.int
  | [], ns, h => by cases h; rfl
  | d :: ds, ns, h => by
    cases d with
    | int i =>
      have h' : (intsOf ds).map (i :: ·) = some ns := h
      cases e : intsOf ds with
      | none => rw [e] at h'; cases h'
      | some z =>
        rw [e] at h'
        cases h'
        rw [List.map_cons, ← intsOf_eq e]
    | _ => cases h
def sumTD : List D → Option D
  | [.lst ds] => (intsOf ds).map fun ns => .int ns.sum
  | _ => none
def ordTD : List D → Option D
  | [.str x] => if x.length = 1 then some (.int (x.cps.getD 0 0 : Nat)) else none
  | _ => none
section
variable {S : Type} {B : Amb S} {K : PySem.W.Frag}
theorem sumTD_ok : CallD K B (rSum K) sumTD := fun F H s ds dz vs Q o hv hf hq => by
  unfold sumTD at hf
  split at hf
  · rename_i ys
    cases e : intsOf ys with
    | none => rw [e] at hf; cases hf
    | some ns =>
      rw [e] at hf
      cases hf
      rw [intsOf_eq e] at hv
      obtain ⟨v, rfl, a, us, rfl, hl, hv2⟩ := one_of hv
      rw [DvL.ints hv2] at hl
      exact ⟨a, ns, rfl, SqL.of (o.sub _ _ hl), hq _ F H o.refl rfl⟩
  · cases hf
theorem ordTD_ok : CallD K B (fun xs H Q => ∃ x, xs = [.str x] ∧ x.length = 1 ∧ Q (.int (x.cps.getD 0 0 : Nat)) H) ordTD := fun F H s ds dz vs Q o hv hf hq => by
  unfold ordTD at hf
  split at hf
  · rename_i x
    split at hf
    · rename_i h1
      cases hf
      obtain ⟨v, rfl, hx⟩ := one_of hv
      have hx' : v = V.str x := hx
      subst hx'
      exact ⟨x, rfl, h1, hq _ F H o.refl rfl⟩
    · cases hf
  · cases hf
end
end Dl

set_option Elab.async false
set_option linter.all false
set_option maxRecDepth 100000
set_option maxHeartbeats 1000000
/-! S8: text[::-1]. -/
namespace Dl
open PySem PyProof.Rows L2
def revStr (z : Str) : Str := ⟨z.cps.toList.reverse.toArray⟩
theorem revStr_eq (z : Str) (u : Tok) : Txt.sliceBy z none none (-1, u) = revStr z := by
  refine PySem.W.str_of_cps ?_
  rw [step_rev_list]
  show _ = z.cps.toList.reverse
  have hl : z.cps.toList.length = z.length := Array.length_toList
  refine List.ext_getElem (by rw [List.length_map, List.length_range, List.length_reverse, hl]) fun i h1 h2 => ?_
  rw [List.getElem_map, List.getElem_range, List.getElem_reverse]
  rw [List.length_map, List.length_range] at h1
  have h3 : z.length - 1 - i < z.cps.size := by
    show z.length - 1 - i < z.length
    omega
  rw [show z.cps.getD (z.length - 1 - i) 0 = z.cps[z.length - 1 - i] by simp [Array.getD, h3]]
  simp only [Array.getElem_toList, hl]
def tRevS (te : TE) : TE := fun σ H Q => te σ H fun x H1 => ∃ z, x = .str z ∧ z.length ≤ sizeLine ∧ Q (.str (revStr z)) H1
section
variable {X : Cx}
theorem pe_revS {e : Expr} {te : TE} {k : Nat} {p1 p2 p3 pos : Pos} (he : PE X e te) : PE X (.Subscript e (.Slice none none (some (.UnaryOp .USub (.Constant (.int 1) k p1) p2)) p3) pos) (tRevS te) := by
  refine ⟨fun pins s σ H Q I h => ?_⟩
  refine Subscript_ (thn (he.run pins s σ H _ I h) fun v s1 ⟨x, H1, I1, r1, z, ex, hz, q⟩ => ?_)
  subst ex
  obtain ⟨t, rfl⟩ := r1
  have hst : PO X (some (.UnaryOp .USub (.Constant (.int 1) k p1) p2)) (tPart (tUn (rU fun i => .int (-i)) (tC (.int 1)))) := po_some (pe_un un_neg pe_int)
  have hno : PO X none tNoPart := po_none
  refine wpAny_Slice (thn (hno.run pins s1 σ H1 (fun o H2 => o = none ∧ H2 = H1) I1 ⟨rfl, rfl⟩) fun vl s2 ⟨l, H2, I2, pl, el, e2⟩ => ?_)
  subst el e2
  refine thn (hno.run pins s2 σ H2 (fun o H3 => o = none ∧ H3 = H2) I2 ⟨rfl, rfl⟩) fun vu s3 ⟨u, H3, I3, pu, eu, e3⟩ => ?_
  subst eu e3
  refine thn (hst.run pins s3 σ H3 (fun o H4 => o = some (-1) ∧ H4 = H3) I3 ⟨1, rfl, -1, rfl, rfl, rfl⟩) fun vs s4 ⟨o, H4, I4, ps, eo, e4⟩ => ?_
  subst eo e4
  cases pl
  cases pu
  cases ps with
  | int i tk =>
    have I5 : Inv X pins σ H4 { s4 with heap := s4.heap.push { cls := .type "slice", data := .fields #[.none, .none, .int (-1) tk] } } := I4.kept (t' := s4.toks) fun b ob q => Heap.get?_push_of_some _ q
    show wpAny (model X.prog X.w) X.A (subscriptTail e (.Slice none none (some (.UnaryOp .USub (.Constant (.int 1) k p1) p2)) p3) (.str z t) (.ref s4.heap.objs.size)) (EP X pins σ Q) X.xe
      { s4 with heap := s4.heap.push { cls := .type "slice", data := .fields #[.none, .none, .int (-1) tk] } }
    refine tail_any (ops := [.ref s4.heap.objs.size, .str z t]) (typeIs_str _ _ _) (F.slot_str_getitem.lookup) ?_ (by with_unfolding_all rfl)
    refine wpAny_getItem_str_slice (l := none) (u := none) (st := some (-1, tk)) ⟨_, Heap.get?_push_size _ rfl, rfl, rfl⟩ rfl (post_val_or_str ⟨?_, fun t' c => ?_⟩)
    · exact Nat.le_trans (Txt.sliceBy_le z none none (-1, tk) (show (-1 : Int) ≠ 0 by decide)) hz
    · have e5 := revStr_eq z tk
      unfold Txt.sliceBy at e5
      refine ⟨.str (revStr z), H4, I5.tok _, ⟨t', ?_⟩, q⟩
      exact congrArg (fun y => Value.str y t') e5
end
def revS : D → Option D
  | .str z => if z.length ≤ sizeLine then some (.str (revStr z)) else none
  | _ => none
section
variable {X : Cx} {S : Type} {B : Amb S} {ma : ME S}
theorem d_revS {e : Expr} {k : Nat} {p1 p2 p3 pos : Pos} (he : PE X e (tD X.K B ma)) : PE X (.Subscript e (.Slice none none (some (.UnaryOp .USub (.Constant (.int 1) k p1) p2)) p3) pos) (tD X.K B (mU revS ma)) :=
  pe_w (pe_revS he) fun σ H Q ⟨env, F, s, d, s', E, o, hm, hq⟩ => by
    obtain ⟨x, e1, e2⟩ := un_un hm
    cases x with
    | str z =>
      have e2' : (if z.length ≤ sizeLine then some (D.str (revStr z)) else none) = some d := e2
      split at e2'
      · rename_i hz
        cases e2'
        exact ⟨env, F, s, .str z, s', E, o, e1, fun v F1 H1 v1 hx => ⟨z, hx, hz, hq _ F1 H1 v1 rfl⟩⟩
      · cases e2'
    | _ => cases e2
end
end Dl

set_option Elab.async false
set_option linter.all false
set_option maxRecDepth 100000
set_option maxHeartbeats 1000000
/-! D26: making an instance: __init__ with checks ahead and the fields last. -/
namespace Dl
open PySem L2
mutual
/-- nothing that hangs on who holds the hand -/
def noS : D → Bool
  | .hnd => false
  | .exn _ _ _ => false
  | .tup ds => noSL ds
  | .lst ds => noSL ds
  | .dct _ ds => noSL ds
  | .ins _ _ ds => noSL ds
  | .non => true
  | .bl _ => true
  | .int _ => true
  | .str _ => true
def noSL : List D → Bool
  | [] => true
  | d :: ds => noS d && noSL ds
end
section
variable {K : PySem.W.Frag} {S S' : Type} {B : Amb S} {B' : Amb S'} {F : Hp}
mutual
theorem dv_any : ∀ {d : D} {v : V}, noS d = true → Dv K B F d v → Dv K B' F d v
  | .non, _, _, h => h
  | .bl _, _, _, h => h
  | .int _, _, _, h => h
  | .str _, _, _, h => h
  | .hnd, _, n, _ => by cases n
  | .exn _ _ _, _, n, _ => by cases n
  | .tup _, _, n, ⟨a, vs, h1, h2, h3⟩ => ⟨a, vs, h1, h2, dvl_any n h3⟩
  | .lst _, _, n, ⟨a, vs, h1, h2, h3⟩ => ⟨a, vs, h1, h2, dvl_any n h3⟩
  | .dct _ _, _, n, ⟨a, kvs, h1, h2, h3, h4⟩ => ⟨a, kvs, h1, h2, h3, dvl_any n h4⟩
  | .ins _ _ _, _, n, ⟨a, dx, fs, h1, h2, h3, h4, h5⟩ => ⟨a, dx, fs, h1, h2, h3, h4, dvl_any n h5⟩
theorem dvl_any : ∀ {ds : List D} {vs : List V}, noSL ds = true → DvL K B F ds vs → DvL K B' F ds vs
  | [], _, _, h => h
  | d :: ds, _, n, ⟨v, r, h1, h2, h3⟩ => by
    have n' : (noS d && noSL ds) = true := n
    rw [Bool.and_eq_true] at n'
    exact ⟨v, r, h1, dv_any n'.1 h2, dvl_any n'.2 h3⟩
end
end
/-- the world within __init__: self is what is held -/
def InB {S : Type} (B : Amb S) (C x dx : Addr) : Amb S where
  at' := fun s H => B.at' s H ∧ ¬ B.own x ∧ ¬ B.own dx ∧ x ≠ dx ∧ H x = some (.ins C dx []) ∧ H dx = some (.own x)
  own := fun q => B.own q ∨ q = x ∨ q = dx
  hA := x
  there := fun s H q h ho => by
    obtain ⟨h1, _, _, _, h5, h6⟩ := h
    rcases ho with e | e | e
    · exact B.there s H q h1 e
    · rw [e, h5]; exact fun z => nomatch z
    · rw [e, h6]; exact fun z => nomatch z
  stay := fun s H H' ⟨h1, h2, h3, h4, h5, h6⟩ k => ⟨B.stay s H H' h1 fun p o hp => k p o (.inl hp), h2, h3, h4, k x _ (.inr (.inl rfl)) h5, k dx _ (.inr (.inr rfl)) h6⟩
  ex := B.ex
section
variable {K : PySem.W.Frag} {S : Type} {B : Amb S} {F H1 : Hp} {s : S} {C x dx : Addr}
/-- into __init__ -/
theorem in_ok (o : Ok B F H1 s) (hx : H1 x = none) (hd : H1 dx = none) (hne : dx ≠ x) : Ok (InB B C x dx) F (upd (upd H1 dx (.own x)) x (.ins C dx [])) s := by
  have fx : F x = none := by
    cases e : F x with
    | none => rfl
    | some u => rw [o.sub x u e] at hx; cases hx
  have fd : F dx = none := by
    cases e : F dx with
    | none => rfl
    | some u => rw [o.sub dx u e] at hd; cases hd
  have nx : ¬ B.own x := fun z => B.there s H1 x o.am z hx
  have nd : ¬ B.own dx := fun z => B.there s H1 dx o.am z hd
  have old : ∀ q u, H1 q = some u → upd (upd H1 dx (.own x)) x (.ins C dx []) q = some u := fun q u e => by
    rw [upd_ne (fun z => by rw [z, hx] at e; cases e), upd_ne (fun z => by rw [z, hd] at e; cases e)]
    exact e
  refine ⟨fun q u e => old q u (o.sub q u e), fun q hq => ?_, B.stay s H1 _ o.am fun q u hq e => old q u e, nx, nd, fun z => hne z.symm, upd_same, ?_⟩
  · rcases hq with z | z | z
    · exact o.ap q z
    · rw [z]; exact fx
    · rw [z]; exact fd
  · rw [upd_ne hne]
    exact upd_same
/-- out of it: the instance is frozen with its fields -/
theorem in_out (o : Ok B F H1 s) (hx : H1 x = none) (hd : H1 dx = none) (hne : dx ≠ x) {F' H' : Hp} {own' : Addr → Prop} {s' : S} {c : Str} (eC : C = He.ga K c) {no : Addr → Prop} (hno : ∀ p, ¬ no p)
    (v : Sv (InB B C x dx) F (upd (upd H1 dx (.own x)) x (.ins C dx [])) no F' H' own' s') {fvs : List (Str × V)} {ds : List D} (hn : noSL ds = true) (hv : DvL K (InB B C x dx) F' ds (fvs.map (·.2))) :
    Ev B F H1 (upd (upd F' dx (.own x)) x (.ins C dx fvs)) (upd H' x (.ins C dx fvs)) s' ∧ Dv K B (upd (upd F' dx (.own x)) x (.ins C dx fvs)) (.ins c (fvs.map (·.1)) ds) (.ref x) := by
  obtain ⟨a1, a2, a3, a4, a5, a6⟩ := v.ok.am
  have fx : F' x = none := v.ok.ap x (.inr (.inl rfl))
  have fd : F' dx = none := v.ok.ap dx (.inr (.inr rfl))
  have old : ∀ q u, H1 q = some u → upd (upd H1 dx (.own x)) x (.ins C dx []) q = some u := fun q u e => by
    rw [upd_ne (fun z => by rw [z, hx] at e; cases e), upd_ne (fun z => by rw [z, hd] at e; cases e)]
    exact e
  have same : Same F' (upd (upd F' dx (.own x)) x (.ins C dx fvs)) := fun q u e => by
    rw [upd_ne (fun z => by rw [z, fx] at e; cases e), upd_ne (fun z => by rw [z, fd] at e; cases e)]
    exact e
  refine ⟨⟨fun p hp => ?_, fun p u e hb => ?_, ⟨fun q u e => ?_, fun q hq => ?_, B.stay s' H' _ a1 fun q u hq e => ?_⟩⟩, ?_⟩
  · obtain ⟨u, e⟩ := Option.ne_none_iff_exists'.mp hp
    have px : p ≠ x := fun z => hp (by rw [z]; exact hx)
    have pd : p ≠ dx := fun z => hp (by rw [z]; exact hd)
    rw [upd_ne px, upd_ne pd]
    exact v.fs p (by rw [old p u e]; exact fun z => nomatch z) (hno p)
  · have px : p ≠ x := fun z => by rw [z, hx] at e; cases e
    have pd : p ≠ dx := fun z => by rw [z, hd] at e; cases e
    rw [upd_ne px]
    exact v.hs p u (old p u e) (fun z => z.elim hb fun z => z.elim px pd) (hno p)
  · by_cases px : q = x
    · subst px
      rw [upd_same] at e ⊢
      exact e
    · rw [upd_ne px] at e ⊢
      by_cases pd : q = dx
      · subst pd
        rw [upd_same] at e
        cases e
        exact a6
      · rw [upd_ne pd] at e
        exact v.ok.sub q u e
  · rw [upd_ne (fun z => a2 (by rw [← z]; exact hq)), upd_ne (fun z => a3 (by rw [← z]; exact hq))]
    exact v.ok.ap q (.inl hq)
  · rw [upd_ne (fun z => a2 (by rw [← z]; exact hq))]
    exact e
  · refine ⟨x, dx, fvs, rfl, by rw [← eC]; exact upd_same, ?_, rfl, ?_⟩
    · rw [upd_ne hne]
      exact upd_same
    · exact (dvl_any (B' := B) hn hv).ext same
end
end Dl

set_option Elab.async false
set_option linter.all false
set_option maxRecDepth 100000
set_option maxHeartbeats 1000000
/-! D27: the fields last; the def that makes. -/
namespace Dl
open PySem L2
/-- self.a = the value of slot i, one after another -/
def fldT (K : PySem.W.Frag) : List (Str × Nat) → TS
  | [] => fun Dn σ H => Dn.nx σ H
  | (a, i) :: r => tSeq (sFld K (tVar 0) (tVar i) a) (fldT K r)
section
variable {X : Cx} {st : Stmt} {sts : List Stmt} {a : Str} {i : Nat} {r : List (Str × Nat)}
theorem flds_nil : PSs X [] (fldT X.K []) := pss_w pss_nil fun _ _ _ h => h
theorem flds_cons (h1 : PS X st (sFld X.K (tVar 0) (tVar i) a)) (h2 : PSs X sts (fldT X.K r)) : PSs X (st :: sts) (fldT X.K ((a, i) :: r)) := pss_cons h1 h2
end
theorem putF_new {f : Str} {v : V} : ∀ {fs : List (Str × V)}, f ∉ fs.map (·.1) → putF f v fs = fs ++ [(f, v)]
  | [], _ => rfl
  | (g, x) :: r, h => by
    rw [List.map_cons, List.mem_cons, not_or] at h
    show (if g = f then _ else (g, x) :: putF f v r) = _
    rw [if_neg (fun z => h.1 z.symm), putF_new h.2]
    rfl
theorem upd_upd {H : Hp} {x : Addr} {A B : HO} : upd (upd H x A) x B = upd H x B := by
  funext q
  by_cases e : q = x
  · rw [e, upd_same, upd_same]
  · rw [upd_ne e, upd_ne e, upd_ne e]
theorem upd_self {H : Hp} {x : Addr} {A : HO} (h : H x = some A) : upd H x A = H := by
  funext q
  by_cases e : q = x
  · rw [e, upd_same, h]
  · rw [upd_ne e]
theorem fld_run {K : PySem.W.Frag} {C x dx : Addr} (c : Cls K C) {Dn : Ends} {σ : L2.St} (h0 : σ[0]? = some (some (.ref x))) : ∀ (fs : List (Str × Nat)) (done : List (Str × V)) (vs : List V) (H : Hp),
    (∀ q ∈ fs, NoAttr K C q.1) → (done.map (·.1) ++ fs.map (·.1)).Nodup → done.length + fs.length < 1000 → fs.map (fun q => σ[q.2]?) = vs.map (fun v => some (some v)) → H x = some (.ins C dx done) →
    Dn.nx σ (upd H x (.ins C dx (done ++ (fs.map (·.1)).zip vs))) → fldT K fs Dn σ H
  | [], done, vs, H, _, _, _, _, hx, q => by
    have e : upd H x (.ins C dx (done ++ (([] : List (Str × Nat)).map (·.1)).zip vs)) = H := by
      rw [List.map_nil, List.zip_nil_left, List.append_nil]
      exact upd_self hx
    rw [e] at q
    exact q
  | (a, i) :: r, done, vs, H, na, nd, hl, hv, hx, q => by
    match vs, hv with
    | v :: vs, hv =>
      rw [List.map_cons, List.map_cons, List.cons.injEq] at hv
      rw [List.map_cons] at nd
      have hn : a ∉ done.map (·.1) := fun z => by
        have := (List.nodup_append.mp nd).2.2 a z a (List.mem_cons_self ..)
        exact this rfl
      rw [List.length_cons] at hl
      refine ⟨v, hv.1, .ref x, h0, x, C, dx, done, rfl, hx, c, na _ (List.mem_cons_self ..), by omega, ?_⟩
      refine fld_run c h0 r (done ++ [(a, v)]) vs _ (fun p hp => na p (List.mem_cons_of_mem _ hp)) ?_ (by rw [List.length_append, List.length_singleton]; omega) hv.2 (by rw [upd_same, putF_new hn]) ?_
      · rw [List.map_append, List.append_assoc]
        exact nd
      · rw [upd_upd, List.append_assoc]
        exact q
/-! ### the body: what may raise first, then the fields -/
def iniT (K : PySem.W.Frag) {S : Type} (B : Amb S) (W : WX) (m : MSX S) (fs : List (Str × Nat)) : TS := tSeq (tSX K B W m) (fldT K fs)
section
variable {X : Cx} {S : Type} {B : Amb S} {W : WX} {m m' : MSX S} {st : Stmt} {sts : List Stmt} {fs : List (Str × Nat)}
theorem ini_nil (h : PSs X sts (fldT X.K fs)) : PSs X sts (iniT X.K B W (xS sNil) fs) := pss_w h fun Dn σ H ⟨env, F, s, out, E, o, hm, hq⟩ => by
  cases hm
  exact hq σ F H E (Sv.refl E o)
theorem ini_cons (h1 : PS X st (tSX X.K B W m)) (h2 : PSs X sts (iniT X.K B W m' fs)) : PSs X (st :: sts) (iniT X.K B W (xSeq m m') fs) := pss_w (pss_cons h1 h2) fun Dn σ H ⟨env, F, s, out, E, o, hm, hq⟩ => by
  unfold xSeq at hm
  cases e1 : m env s with
  | none => simp [e1] at hm
  | some o1 =>
    simp only [e1, Option.bind_some] at hm
    refine ⟨env, F, s, o1, E, o, e1, ?_⟩
    cases o1 with
    | ex c f ds env' s' => cases hm; exact hq
    | ok o1 =>
      cases o1 with
      | nx env' s' => exact fun σ' F' H' E' v => ⟨env', F', s', out, E', v.ok, hm, hq.back v⟩
      | rt d s' => cases hm; exact hq
      | bk env' s' => cases hm; exact hq
      | ct env' s' => cases hm; exact hq
end
def datsAt (env : DE) : List (Str × Nat) → Option (List D)
  | [] => some []
  | (_, i) :: r => (datAt env i).bind fun d => (datsAt env r).map (d :: ·)
/-- what comes of C(ds): an instance, or an error -/
def mMk {S : Type} (n : Nat) (c : Str) (m : MSX S) (fs : List (Str × Nat)) : List D → S → Option (RX S) := fun ds s => if noSL ds = true then (m (startE n (.hnd :: ds)) s).bind fun o => match o with
  | .ok (.nx env s') => (datsAt env fs).bind fun vals => if noSL vals = true ∧ isH env 0 = true then some (.val (.ins c (fs.map (·.1)) vals) s') else none
  | .ex c f ds _ s' => if noSL ds = true then some (.exc c f ds s') else none
  | _ => none
  else none
end Dl

set_option Elab.async false
set_option linter.all false
set_option maxRecDepth 100000
set_option maxHeartbeats 1000000
/-! D28: the def __init__, and C(..). -/
namespace Dl
open PySem L2
def spMk (K : PySem.W.Frag) {S : Type} (B : Amb S) (C : Addr) (n : Nat) (g : List D → S → Option (RX S)) : Sp := fun vs H Q E => ∃ x dx us H1 F s ds out, vs = V.ref x :: us ∧ us.length = n ∧ H1 x = none ∧ H1 dx = none ∧ dx ≠ x ∧ H = upd (upd H1 dx (.own x)) x (.ins C dx []) ∧
  DvL K B F ds us ∧ Ok B F H1 s ∧ g ds s = some out ∧ (match out with
  | .val d s' => ∀ F' H', Ev B F H1 F' H' s' → Dv K B F' d (.ref x) → Q .non H'
  | .exc c f ds s' => ∀ F' H' dd, Ev B F H1 F' H' s' → ExD K B F' f ds dd → E (.ref (He.ga K c)) dd H')
theorem dats_at {K : PySem.W.Frag} {S : Type} {B : Amb S} {F H : Hp} {σ : L2.St} {env : DE} (E : EnvOk K B F H σ env) : ∀ {fs : List (Str × Nat)} {vals : List D}, datsAt env fs = some vals → ∃ vs : List V, fs.map (fun q => σ[q.2]?) = vs.map (fun v => some (some v)) ∧ DvL K B F vals vs ∧ vs.length = fs.length
  | [], vals, h => by
    cases h
    exact ⟨[], rfl, rfl, rfl⟩
  | (a, i) :: r, vals, h => by
    unfold datsAt at h
    cases e1 : datAt env i with
    | none => rw [e1] at h; cases h
    | some d =>
      rw [e1, Option.bind_some] at h
      cases e2 : datsAt env r with
      | none => rw [e2] at h; cases h
      | some ds =>
        rw [e2] at h
        cases h
        obtain ⟨vs, v1, v2, v3⟩ := dats_at E e2
        obtain ⟨v, h1, h2⟩ := E.dat i d (datAt_eq e1)
        exact ⟨v :: vs, by rw [List.map_cons, List.map_cons, v1, h1], ⟨v, vs, rfl, h2, v2⟩, by rw [List.length_cons, List.length_cons, v3]⟩
theorem zip_fst {α β : Type} : ∀ {a : List α} {b : List β}, b.length = a.length → (a.zip b).map (·.1) = a ∧ (a.zip b).map (·.2) = b
  | [], [], _ => ⟨rfl, rfl⟩
  | [], _ :: _, h => by cases h
  | _ :: _, [], h => by cases h
  | x :: a, y :: b, h => by
    obtain ⟨h1, h2⟩ := zip_fst (a := a) (b := b) (by simpa using h)
    rw [List.zip_cons_cons, List.map_cons, List.map_cons, h1, h2]
    exact ⟨rfl, rfl⟩
theorem def_Mk {K : PySem.W.Frag} {S : Type} {B : Amb S} {C : Addr} {cn : Str} {N : List Str} {n : Nat} {m : MSX S} {fs : List (Str × Nat)} (c : Cls K C) (eC : C = He.ga K cn) (na : ∀ q ∈ fs, NoAttr K C q.1) (nd : (fs.map (·.1)).Nodup) (hz : fs.length < 1000)
    {vs : List V} {H : Hp} {Q : VK} {E : XK} (h : spMk K B C n (mMk N.length cn m fs) vs H Q E) : ∃ x dx, iniT K (InB B C x dx) (fun cls d _ H => E cls d H) m fs { nx := fun _ H' => Q .non H', rt := Q } (L2.start N vs) H := by
  obtain ⟨x, dx, us, H1, F, s, ds, out0, rfl, hl, hx, hd, hne, rfl, hv, o, hm, hq⟩ := h
  refine ⟨x, dx, ?_⟩
  unfold mMk at hm
  split at hm
  · rename_i hn
    have hvs : DvL K (InB B C x dx) F (.hnd :: ds) (V.ref x :: us) := ⟨_, _, rfl, rfl, dvl_any hn hv⟩
    obtain ⟨E0, o0⟩ := start_ok (H := upd (upd H1 dx (.own x)) x (.ins C dx [])) (N := N) hvs
    cases e1 : m (startE N.length (.hnd :: ds)) s with
    | none => rw [e1] at hm; cases hm
    | some out =>
      rw [e1, Option.bind_some] at hm
      refine ⟨_, F, s, out, E0, in_ok o hx hd hne, e1, ?_⟩
      cases out with
      | ex c' f xs env' s1 =>
        dsimp only at hm
        split at hm
        · rename_i hxs
          cases hm
          refine fun σ' F' H' dd _ v ⟨ws, hw, hv2⟩ => ?_
          obtain ⟨a1, a2, a3, a4, a5, a6⟩ := v.ok.am
          have r := in_out o hx hd hne eC o0 v (fvs := []) (ds := []) rfl rfl
          have r1 := r.1
          rw [upd_self a5] at r1
          have fx : F' x = none := v.ok.ap x (.inr (.inl rfl))
          have fd : F' dx = none := v.ok.ap dx (.inr (.inr rfl))
          have same : Same F' (upd (upd F' dx (.own x)) x (.ins C dx [])) := fun q u e => by
            rw [upd_ne (fun z => by rw [z, fx] at e; cases e), upd_ne (fun z => by rw [z, fd] at e; cases e)]
            exact e
          exact hq _ _ dd r1 ⟨ws, hw.imp id fun ⟨a, w, k1, k2, k3⟩ => ⟨a, w, k1, same a _ k2, k3⟩, (dvl_any (B' := B) hxs hv2).ext same⟩
        · cases hm
      | ok out =>
        cases out with
        | nx env' s1 =>
          dsimp only at hm
          cases e2 : datsAt env' fs with
          | none => rw [e2] at hm; cases hm
          | some vals =>
            rw [e2, Option.bind_some] at hm
            split at hm
            · rename_i hc
              cases hm
              refine fun σ' F' H' E' v => ?_
              obtain ⟨a1, a2, a3, a4, a5, a6⟩ := v.ok.am
              obtain ⟨ws, w1, w2, w3⟩ := dats_at E' e2
              obtain ⟨z1, z2⟩ := zip_fst (a := fs.map (·.1)) (b := ws) (by rw [w3, List.length_map])
              have h0 : σ'[0]? = some (some (.ref x)) := by
                obtain ⟨u, u1, u2⟩ := E'.dat 0 _ (isH_eq hc.2)
                rw [show u = V.ref x from u2] at u1
                exact u1
              have r := in_out o hx hd hne eC o0 v (fvs := (fs.map (·.1)).zip ws) (ds := vals) hc.1 (by rw [z2]; exact w2)
              rw [z1] at r
              exact fld_run c h0 fs [] ws H' na (by rw [List.map_nil, List.nil_append]; exact nd) (by rw [List.length_nil]; omega) w1 a5 (by
                rw [List.nil_append]
                exact hq _ _ r.1 r.2)
            · cases hm
        | rt d s1 => cases hm
        | bk env' s1 => cases hm
        | ct env' s1 => cases hm
  · cases hm
/-- C(..) where nothing is raised -/
def mMake {S : Type} (g : List D → S → Option (RX S)) (l : ML S) : ME S := fun env s => (l env s).bind fun p => (g p.1 p.2).bind fun r => match r with
  | .val d s' => some (d, s')
  | .exc _ _ _ _ => none
def DMk (P : Program) (w : World) (K : PySem.W.Frag) (mg : Str → Option Value) (base : Heap) {S : Type} (B : Amb S) (x : Str) (k : Nat) (ps : List Str) (g : List D → S → Option (RX S)) : Prop :=
  ∃ C f fd, mg x = some (.ref C) ∧ Mk K C f ∧ Binds K fd ("self" :: ps) [] ∧ FnOk P w K mg base (L2.CX P w) k f fd ("self" :: ps) (spMk K B C ps.length g)
section
variable {X : Cx} {S : Type} {B : Amb S} {e : Expr} {es : List Expr} {pos p : Pos} {ml : ML S} {k : Nat} {ps : List Str} {x : Str} {g : List D → S → Option (RX S)}
theorem passes0 : Passes (L2.CX X.prog X.w) X (fun _ _ _ => False) := fun pins σ H s e s' I c => passAt (W := W0) takes0 σ pins H s e s' I c
theorem d_make {j : Nat} (G : DMk X.prog X.w X.K X.mg X.base B x k ps g) (hr : Room j X.A) (ha : PA X (e :: es) (tL X.K B ml)) (hl : ∀ env s ds s', ml env s = some (ds, s') → ds.length = ps.length) (hj : k + 1 ≤ j := by decide)
    (hg : Gl X x := by rfl) (hdb : (x == ("__debug__" : Str)) = false := by decide) (he : starEach (e :: es) X.env = (false, eval e X.env) :: starEach es X.env := by rfl) (hpl : (backTo pos (starEach es X.env)).any (·.1) = false := by rfl) :
    PE X (.Call (.Name x p) (e :: es) [] pos) (tD X.K B (mMake g ml)) := by
  obtain ⟨C, f, fd, h1, M, h3, h4⟩ := G
  refine pe_w (pe_make (E := fun _ _ _ => False) M h4 (hr.mono hj) hg h1 h3 (.nil) passes0 ha hdb he hpl) fun σ H Q ⟨env, F, s, d, s', E, o, hm, hq⟩ => ?_
  unfold mMake at hm
  cases e1 : ml env s with
  | none => rw [e1] at hm; cases hm
  | some q =>
    obtain ⟨ds, s1⟩ := q
    rw [e1, Option.bind_some] at hm
    refine ⟨env, F, s, ds, s1, E, o, e1, fun vs F1 H1 v1 hv => fun y dy hy hdy hne => ?_⟩
    dsimp only at hm
    cases e2 : g ds s1 with
    | none => rw [e2] at hm; cases hm
    | some r =>
      rw [e2, Option.bind_some] at hm
      cases r with
      | val d1 s2 =>
        cases hm
        refine ⟨y, dy, vs ++ [], H1, F1, s1, ds, .val d s', rfl, by rw [List.append_nil, hv.len]; exact hl _ _ _ _ e1, hy, hdy, hne, rfl, by rw [List.append_nil]; exact hv, v1.ok, e2, fun F2 H2 v2 hd => ⟨rfl, hq _ F2 H2 (v1.trans v2) hd⟩⟩
      | exc c f ds s2 => cases hm
end
end Dl

set_option Elab.async false
set_option linter.all false
set_option maxRecDepth 100000
set_option maxHeartbeats 1000000
/-! D29: a class of our own: its facts, its __init__, its fields. -/
namespace Dl
open PySem L2
theorem says_split {fa fx : List He.Fa} {fn : List He.DefD} {K : PySem.W.Frag} (c : He.SaysD (fa ++ fx) fn K) : He.SaysD fa fn K ∧ ∀ q ∈ fx, q.ok K = true := by
  have c' : (((fa ++ fx).all fun f => f.ok K) && fn.all fun d => d.ok K, fn.map fun d => He.fnW K d.at_) = He.valD fn := c
  have c1 := congrArg (fun z : He.AlD => z.1) c'
  have c2 := congrArg (fun z : He.AlD => z.2) c'
  have c3 : (((fa ++ fx).all fun f => f.ok K) && fn.all fun d => d.ok K) = true := c1
  rw [List.all_append, Bool.and_eq_true, Bool.and_eq_true] at c3
  obtain ⟨⟨h1, h2⟩, h3⟩ := c3
  refine ⟨?_, List.all_eq_true.mp h2⟩
  show ((fa.all fun f => f.ok K) && fn.all fun d => d.ok K, fn.map fun d => He.fnW K d.at_) = He.valD fn
  rw [h1, h3]
  exact congrArg (fun z => (true, z)) c2
structure TxI (fn : List He.DefD) (gs fr : List Str) (is : List (Str × Int)) (ss : List (Str × Str)) (ts : List (Str × D)) (file : Str) (errs : List ErrD) (exms kits : List (Str × Str × Bool)) (kitb : List (Str × String × Bool)) (fx : List He.Fa) (K : PySem.W.Frag) (mg : Str → Option Value) : Prop where
  tx : TxE fn gs fr is ss ts file errs exms kits kitb K mg
  fx : ∀ q ∈ fx, q.ok K = true
theorem txI_of {fn : List He.DefD} {gs fr : List Str} {is : List (Str × Int)} {ss : List (Str × Str)} {ts : List (Str × D)} {file : Str} {errs : List ErrD} {exms kits : List (Str × Str × Bool)} {kitb : List (Str × String × Bool)} {fx : List He.Fa} {K : PySem.W.Frag} {h : Heap} {mg : Str → Option Value} (X : K.In h) (G : h.Ns mainGlobals mg)
    (c : SaysZ (faOf gs fr is ss ts ++ fx) fn ts file errs exms kits kitb K) (sd : ∀ d ∈ errs, ErrSide d) : TxI fn gs fr is ss ts file errs exms kits kitb fx K mg := by
  obtain ⟨⟨c1, c2⟩, c3⟩ := c
  obtain ⟨d1, d2⟩ := says_split c1
  exact ⟨txE_of X G ⟨⟨d1, c2⟩, c3⟩ sd, d2⟩
/-- the facts of a class with these fields -/
def clsFx (x : Str) (fields : List Str) : List He.Fa := .cls x :: .mkr x :: fields.map (.noat x)
section
variable {P : Program} {w : World} {K : PySem.W.Frag} {mg : Str → Option Value} {base : Heap} {S : Type} {B : Amb S}
theorem d_defMk {x qual : Str} {st : Stmt} {fd : FuncData} {N ps : List Str} {k : Nat} {m : MSX S} {fs : List (Str × Nat)} (Fn : FunD K "__init__" qual (defArgs st) (defBody st) (defScope st) [] [] (He.ma K (He.ga K x) "__init__") fd) (hm : mg x = some (.ref (He.ga K x)))
    (fx : ∀ q ∈ clsFx x (fs.map (·.1)), q.ok K = true) (nd : (fs.map (·.1)).Nodup) (hz : fs.length < 1000) (Sc : FnScope N ("self" :: ps) (defScope st))
    (bi : ∀ (kV doc pm : Value) (an : Option Addr) (cdv ct : Value) (us : List Value), us.length = (("self" : Str) :: ps).length → bindArgs (PySem.W.fnOf "__init__" qual (defArgs st) (defBody st) (defScope st) .none kV doc pm an cdv ct) ⟨us, []⟩ = pure ((("self" : Str) :: ps).zip us))
    (hb : ∀ (y dy : Addr) (cdv : Value) (A : Around) (outer : List Env) (s : Shared) (H : Hp) (E : XK), Room k (A.deeper (PyProof.Rows.envOfC qual (defScope st) s.heap.objs.size (He.ma K (He.ga K x) "__init__") cdv)) →
      Takes (cxOf (L2.CX P w) P w K mg base N qual (defScope st) (He.ma K (He.ga K x) "__init__") cdv A outer s H E) (fun cls d _ H => E cls d H) → PassesOwn (model P w) (A.deeper (PyProof.Rows.envOfC qual (defScope st) s.heap.objs.size (He.ma K (He.ga K x) "__init__") cdv)) (PyProof.Rows.envOfC qual (defScope st) s.heap.objs.size (He.ma K (He.ga K x) "__init__") cdv) (cxOf (L2.CX P w) P w K mg base N qual (defScope st) (He.ma K (He.ga K x) "__init__") cdv A outer s H E).xe →
      PSs (cxOf (L2.CX P w) P w K mg base N qual (defScope st) (He.ma K (He.ga K x) "__init__") cdv A outer s H E) (defBody st) (iniT K (InB B (He.ga K x) y dy) (fun cls d _ H => E cls d H) m fs)) : DMk P w K mg base B x (k + 1) ps (mMk N.length x m fs) := by
  have c : Cls K (He.ga K x) := He.cls_ok (fx _ (List.mem_cons_self ..))
  have M : Mk K (He.ga K x) (He.ma K (He.ga K x) "__init__") := He.mkr_ok (fx _ (List.mem_cons_of_mem _ (List.mem_cons_self ..)))
  have na : ∀ q ∈ fs, NoAttr K (He.ga K x) q.1 := fun q hq => He.noat_ok (fx _ (List.mem_cons_of_mem _ (List.mem_cons_of_mem _ (List.mem_map_of_mem (List.mem_map_of_mem hq)))))
  refine ⟨He.ga K x, _, fd, hm, M, Fn.bindsN bi, Fn.ok Sc (fun vs H Q E h => ?_) fun cdv A outer s H vs Q E hr h => ?_⟩
  · obtain ⟨y, dy, us, _, _, _, _, _, e, hl, _⟩ := h
    rw [e, List.length_cons, List.length_cons, hl]
  · obtain ⟨y, dy, t⟩ := def_Mk c rfl na nd hz h
    exact ⟨_, hb y dy cdv A outer s H E hr (takes_of rfl rfl rfl rfl) (passes_of rfl), t⟩
end
/-! fields of an instance -/
theorem look_ins {K : PySem.W.Frag} {S : Type} {B : Amb S} {F : Hp} {f : Str} {d : D} : ∀ {fs : List (Str × V)} {ds : List D}, DvL K B F ds (fs.map (·.2)) → ((fs.map (·.1)).zip ds).lookup f = some d → ∃ v, fs.lookup f = some v ∧ Dv K B F d v
  | [], ds, _, e => by cases ds <;> cases e
  | p :: fs, [], h, e => by cases e
  | p :: fs, d0 :: ds, ⟨v, r, e1, h1, h2⟩, e => by
    rw [List.map_cons, List.cons.injEq] at e1
    obtain ⟨g, u⟩ := p
    obtain ⟨rfl, rfl⟩ := e1
    rw [List.map_cons, List.zip_cons_cons, List.lookup_cons] at e
    rw [List.lookup_cons]
    cases c : f == g with
    | true =>
      rw [c] at e
      cases e
      exact ⟨_, rfl, h1⟩
    | false =>
      rw [c] at e
      exact look_ins h2 e
def mFldI {S : Type} (tbl : List (Str × Str)) (f : Str) (m : ME S) : ME S := fun env s => (m env s).bind fun p => match p.1 with
  | .ins c ks ds => if (c, f) ∈ tbl then ((ks.zip ds).lookup f).map fun d => (d, p.2) else none
  | _ => none
section
variable {X : Cx} {S : Type} {B : Amb S} {e : Expr} {pos : Pos} {ma : ME S} {f : Str}
theorem d_fldI {tbl : List (Str × Str)} (hT : ∀ q ∈ tbl, Cls X.K (He.ga X.K q.1) ∧ NoAttr X.K (He.ga X.K q.1) q.2) (he : PE X e (tD X.K B ma)) (hb : attributeBase e f X.env (eval e X.env) = eval e X.env := by rfl) : PE X (.Attribute e f pos) (tD X.K B (mFldI tbl f ma)) :=
  pe_w (pe_fld he hb) fun σ H Q ⟨env, F, s, d, s', E, o, hm, hq⟩ => by
    unfold mFldI at hm
    cases e1 : ma env s with
    | none => rw [e1] at hm; cases hm
    | some p =>
      obtain ⟨d1, s1⟩ := p
      rw [e1, Option.bind_some] at hm
      cases d1 with
      | ins c ks ds =>
        dsimp only at hm
        split at hm
        · rename_i ht
          cases e2 : (ks.zip ds).lookup f with
          | none => rw [e2] at hm; cases hm
          | some d2 =>
            rw [e2] at hm
            cases hm
            obtain ⟨t1, t2⟩ := hT _ ht
            refine ⟨env, F, s, _, s', E, o, e1, fun u F1 H1 v1 hx => ?_⟩
            obtain ⟨a, dx, fs, rfl, g1, g2, rfl, g3⟩ := hx
            obtain ⟨v, l1, l2⟩ := look_ins g3 e2
            exact ⟨a, _, dx, fs, v, rfl, v1.ok.sub _ _ g1, t1, t2, l1, hq v F1 H1 v1 l2⟩
        · cases hm
      | _ => cases hm
end
end Dl

set_option Elab.async false
set_option linter.all false
set_option maxRecDepth 100000
set_option maxHeartbeats 2000000
/-! S9: enumerate of a tuple. -/
namespace Sx
open PySem PySem.Spec PyProof.Rows L2
theorem meets_enumB {v : Value} {o : Obj} {H : Heap → Prop} (B : Begins v o H) :
    Meets (Builtin.«enumerate.__new__» ⟨[.type "enumerate", v], []⟩) (fun _ R s => H s.heap ∧
      R (.ok (.ret (.ref (s.heap.push o).objs.size))) { s with heap := (s.heap.push o).push { cls := .type "enumerate", data := .fields #[.none, .bool false, .ref s.heap.objs.size, rawInt 0, .none, .none] } }) :=
  .of_wp fun prog w A R s h => by
    obtain ⟨hp, g, d, tk, os⟩ := s
    obtain ⟨h1, h⟩ := h
    have hsub := sub_enumerate
    have it1 : ∀ {A' : Around} {E : Value → Shared → Prop} {Q : Value → Shared → Prop}, Q (.ref hp.objs.size) ⟨hp.push o, g, d, tk, os⟩ → wpAny (model prog w) A' (pyIter v) Q E ⟨hp, g, d, tk, os⟩ := fun q => B.iter prog w _ _ ⟨hp, g, d, tk, os⟩ _ h1 q
    wp_walk
    refine wpAny_stack_any fun st => wpAny_pure ?_
    split
    · rename_i c _ _ _ _ _
      cases (c == Value.type "enumerate")
      · wp_walk using it1
        exact ⟨_, rfl, h⟩
      · wp_walk using it1
        exact ⟨_, rfl, h⟩
    · wp_walk using it1
      exact ⟨_, rfl, h⟩
section
variable {prog : Program} {w : World} {A : Around} {E : Value → Shared → Prop} {s : Shared}
theorem call_enumT {l : Addr} {items : Array Value} {Q : Value → Shared → Prop} (hl : s.heap.IsTuple l items)
    (h : ∀ h', IsEnum h' (s.heap.objs.size + 1) s.heap.objs.size 0 .none → h'.IsTupleIter s.heap.objs.size l 0 → (∀ b o, s.heap.get? b = some o → h'.get? b = some o) → Q (.ref (s.heap.objs.size + 1)) { s with heap := h' }) :
    wpAny (model prog w) A (call (.type "enumerate") [.ref l]) Q E s := by
  have hz : (s.heap.push { cls := .type "tuple_iterator", data := .fields #[.ref l, .int 0 0] }).objs.size = s.heap.objs.size + 1 := Heap.size_push ..
  refine callType_new F.called_enumerate (by decide) (F.typeCall_enumerate_1 _) (F.newCall_enumerate_1 _) (fun obj => F.args_object_init_2 obj _) F.entry_enumerate_new (meets_enumB (begins_tuple l items)) ⟨hl, ?_⟩
  have he := Heap.get?_push_size (s.heap.push { cls := .type "tuple_iterator", data := .fields #[.ref l, .int 0 0] }) (o := { cls := .type "enumerate", data := .fields #[.none, .bool false, .ref s.heap.objs.size, rawInt 0, .none, .none] }) rfl
  rw [hz] at he
  show _ ∧ _
  rw [hz]
  exact ⟨⟨_, he, rfl⟩, h _ he ⟨_, Heap.get?_push_of_some _ (Heap.get?_push_size _ rfl), rfl, rfl⟩ fun b o y => Heap.get?_push_of_some _ (Heap.get?_push_of_some _ y)⟩
theorem draws_tup (hh : A.handled = none) (it l : Addr) (hne : l ≠ it) (items : Array Value) :
    Draws prog w A it [it, l] items.size (fun i v => items[i]? = some v) (fun i h => h.IsTupleIter it l i ∧ h.IsTuple l items) where
  live := fun _ _ ⟨⟨o, ho, _⟩, _⟩ => ⟨o, ho⟩
  frame := fun _ _ _ ⟨⟨o, ho, r⟩, ⟨o2, ho2, r2⟩⟩ hk => ⟨⟨o, hk it (by simp) o ho, r⟩, ⟨o2, hk l (by simp) o2 ho2, r2⟩⟩
  item := fun i s Q E hi ⟨h1, h2⟩ hQ => RZ.nextOf_tuple_item h1 h2 (x := items[i]) (by simp [hi]) fun h' hit' hs' => hQ _ h' s.toks (by simp [hi]) ⟨hit', by
    obtain ⟨o2, ho2, r2⟩ := h2
    exact ⟨o2, (hs'.2 l hne).trans ho2, r2⟩⟩ hs'
  done := fun s Q E ⟨h1, h2⟩ hE => RZ.nextOf_tuple_end hh h1 h2 (by simp) hE
end
end Sx

set_option Elab.async false
set_option linter.all false
set_option maxRecDepth 100000
set_option maxHeartbeats 1000000
/-! S10: the walk over enumerate(tuple). -/
namespace Sx
open PySem PySem.Spec PyProof.Rows L2
def Iett (K : PySem.W.Frag) (a : Addr) : It :=
  ⟨fun i H => ∃ (xs : List V) (x : V), SqT K H a xs ∧ xs[i]? = some x, fun i H v H' => ∃ T x, v = .ref T ∧ H T = none ∧ H' = upd H T (.tup [.int (i : Nat), x]) ∧ ∀ xs, SqT K H a xs → xs[i]? = some x, fun i H => ∃ xs : List V, SqT K H a xs ∧ xs.length ≤ i⟩
theorem turn_enumT {P : Program} {w : World} {K : PySem.W.Frag} {elts : List Expr} {kk : Nat} {tpos : Pos} (a e it : Addr) :
    Turn P w K (.Tuple elts kk tpos) (Iett K a) [e, it] e (fun i h => (∃ old, IsEnum h e it ((i : Nat) : Int) old) ∧ h.IsTupleIter it a i ∧ e ≠ it) where
  mem := List.mem_cons_self ..
  obj := fun i h ⟨⟨old, he⟩, ⟨o, ho, hc, hd⟩, _⟩ b hb => by
    rcases List.mem_cons.mp hb with z | z
    · rw [z]; exact ⟨_, he, fun v q => nomatch q⟩
    · rw [List.mem_singleton.mp z]; exact ⟨o, ho, fun v q => by rw [hd] at q; cases q⟩
  keep := fun i h h' ⟨⟨old, he⟩, ⟨o, ho, r⟩, hne⟩ k => ⟨⟨old, k e (by simp) _ he⟩, ⟨o, k it (by simp) o ho, r⟩, hne⟩
  item := fun X hP hw hK hc i pins s σ H E I hf ⟨⟨old, he⟩, hst, hne⟩ ⟨xs, x, hq, hx⟩ => by
    subst hP hw hK
    obtain ⟨its, rv, ht, hz⟩ := I.tuple hq
    obtain ⟨u, hu, ru⟩ := rv.get hx
    have ht' : s.heap.IsTuple a its.toArray := ht
    have nit : a ≠ it := fun z => by
      obtain ⟨o, o1, o2, _⟩ := hst
      obtain ⟨o', p1, p2, _⟩ := ht'
      rw [z, o1] at p1
      cases p1
      rw [o2] at p2
      injection p2 with z2
      exact absurd z2 (by decide)
    have nie : a ≠ e := fun z => by
      obtain ⟨o', p1, p2, _⟩ := ht'
      rw [z, show s.heap.get? e = _ from he] at p1
      cases p1
      injection p2 with z2
      exact absurd z2 (by decide)
    have D := draws_tup (prog := X.prog) (w := X.w) (A := X.A.in1) (I.ok.hd hc) it a nit its.toArray
    have hel : e < s.heap.objs.size := Heap.lt_size he
    have hil : it < s.heap.objs.size := Heap.lt_size hst.choose_spec.1
    have hi : i < its.toArray.size := by
      rw [List.size_toArray]
      exact (List.getElem?_eq_some_iff.mp hu).1
    refine wpAny_pyNext_enum_itemD D he ⟨hst, ht'⟩ hi hne (by simp [hne, nie.symm]) fun v h' tk hv ho ⟨hst2, _⟩ hT hsz hk => ?_
    have ev : v = u := by
      have q : its[i]? = some v := by simpa using hv
      rw [hu] at q
      exact (Option.some.inj q).symm
    subst ev
    refine ⟨_, rfl, wpAny_letOwnedTupleGo_enum (s := { s with heap := h', toks := tk + 1 }) ho fun h'' he' sb => ?_⟩
    have hT2 := (sb.2 _ (Nat.ne_of_gt hel)).trans hT
    have new : ObjOk X.prog X.w (upd H s.heap.objs.size (.tup [.int (i : Nat), x])) h'' s.heap.objs.size (.tup [.int (i : Nat), x]) :=
      ⟨by show 2 ≤ sizeLine; decide, [.int (i : Int) tk, v], .cons ⟨_, rfl⟩ (.cons ru .nil), ⟨_, hT2, rfl, _, rfl⟩⟩
    have I1 : Inv X pins σ (upd H s.heap.objs.size (.tup [.int (i : Nat), x])) { s with heap := h'', toks := tk + 1 } :=
      I.turnedNew (ch := [e, it]) (fun b ob hb q => (sb.2 b fun z => hb (z ▸ List.mem_cons_self)).trans (hk b ob (fun z => hb (z ▸ List.mem_cons_self)) (fun z => hb (z ▸ List.mem_cons_of_mem _ List.mem_cons_self)) q)) hf (Nat.le_refl _) new
    refine ⟨.ref s.heap.objs.size, _, I1, rfl, ⟨_, x, rfl, I.hok.fresh (Nat.le_refl _), rfl, fun ys hy => by rw [I.tuple_inj hy hq]; exact hx⟩, ⟨⟨v, ?_⟩, ?_, hne⟩, fun b hb => ?_⟩
    · rw [show ((i + 1 : Nat) : Int) = (i : Int) + 1 by omega]
      exact he'
    · obtain ⟨o, o1, o2⟩ := hst2
      exact ⟨o, (sb.2 it (Ne.symm hne)).trans o1, o2⟩
    · have hb' : b < s.heap.objs.size := by
        rcases List.mem_cons.mp hb with z | z
        · rw [z]; exact hel
        · rw [List.mem_singleton.mp z]; exact hil
      rw [upd_ne (Nat.ne_of_lt hb')]
      exact (hf b hb).1
  done := fun X hP hw hK hc i pins s σ H E I hf ⟨⟨old, he⟩, hst, hne⟩ ⟨xs, hq, hx⟩ => by
    subst hP hw hK
    obtain ⟨its, rv, ht, hz⟩ := I.tuple hq
    have ht' : s.heap.IsTuple a its.toArray := ht
    have nit : a ≠ it := fun z => by
      obtain ⟨o, o1, o2, _⟩ := hst
      obtain ⟨o', p1, p2, _⟩ := ht'
      rw [z, o1] at p1
      cases p1
      rw [o2] at p2
      injection p2 with z2
      exact absurd z2 (by decide)
    have hl := rv.length
    obtain ⟨f0, f1, f2, f3, f4, f5⟩ := hf it (by simp)
    -- the walk ends where no item stands: the iterator's own rule
    have D : Draws X.prog X.w X.A.in1 it [it, a] 0 (fun _ _ => True) (fun _ h => h.IsTupleIter it a i ∧ h.IsTuple a its.toArray) := {
      live := fun _ _ ⟨⟨o, ho, _⟩, _⟩ => ⟨o, ho⟩
      frame := fun _ _ _ ⟨⟨o, ho, r⟩, ⟨o2, ho2, r2⟩⟩ hk => ⟨⟨o, hk it (by simp) o ho, r⟩, ⟨o2, hk a (by simp) o2 ho2, r2⟩⟩
      item := fun j s Q E hj st hQ => absurd hj (Nat.not_lt_zero _)
      done := fun s Q E ⟨h1, h2⟩ hE => RZ.nextOf_tuple_end (I.ok.hd hc) h1 h2 (by simp; omega) hE }
    exact wpAny_pyNext_enum_endD D he ⟨hst, ht'⟩ fun h' eb => ⟨rfl, I.turned (t' := s.toks) (fun b o hb q => eb b o hb q) f0 f1 f3 f4 f5⟩
  self := fun A i s Q E ⟨⟨_, he⟩, _⟩ h => wpAny_pyIter_enum he h
def iEnumT (K : PySem.W.Frag) (ta : TA) : TI := fun σ H R => ta σ H fun vs H1 => ∃ a xs, vs = [.ref a] ∧ SqT K H1 a xs ∧ R (Iett K a) H1
theorem pi_enumT {X : Cx} {e : Expr} {ta : TA} {p pos tpos : Pos} {elts : List Expr} {kk : Nat} (hg : Gl X "enumerate") (hm : X.mg "enumerate" = none) (ha : PA X [e] ta) (hs : starEach [e] X.env = [(false, eval e X.env)] := by rfl) :
    PI X (.Tuple elts kk tpos) (.Call (.Name "enumerate" p) [e] [] pos) (iEnumT X.K ta) := ⟨fun pins s σ H R I h => by
  refine Call_ (ld_blt I hg hm boot_enumerate (callWith_type1 (thn (ha.run pos pins s σ H _ I h) fun us s1 ⟨vs, H1, I1, r1, a, xs, ex, hq, q⟩ => ?_) hs rfl))
  subst ex
  obtain rfl : us = [.ref a] := by
    cases r1 with
    | cons r rr =>
      cases rr
      cases r
      rfl
  obtain ⟨its, rv, ht, hz⟩ := I1.tuple hq
  have ht' : s1.heap.IsTuple a its.toArray := ht
  refine call_enumT ht' fun h' he hit hk => wpAny_pyIter_enum he ?_
  have I2 : Inv X pins σ H1 { s1 with heap := h' } := I1.kept (t' := s1.toks) hk
  refine ⟨s1.heap.objs.size + 1, [s1.heap.objs.size + 1, s1.heap.objs.size], _, _, H1, rfl, I2, turn_enumT a (s1.heap.objs.size + 1) s1.heap.objs.size, ⟨⟨.none, he⟩, hit, Nat.succ_ne_self _⟩, fun b hb => ?_, q⟩
  have hle : s1.heap.objs.size ≤ b := by
    rcases List.mem_cons.mp hb with z | z
    · rw [z]; exact Nat.le_succ _
    · rw [List.mem_singleton.mp z]; exact Nat.le_refl _
  exact I1.fpOk hle (I1.hok.fresh hle)⟩
end Sx
namespace Dl
open PySem L2 Sx
def enumTItems : List D → Option (List D)
  | [.tup ds] => some (enumD 0 ds)
  | _ => none
section
variable {X : Cx} {S : Type} {B : Amb S} {F1 : Hp}
theorem jd_enumT {a : Addr} {ds : List D} {vs : List V} (h : SqT X.K F1 a vs) (hv : DvL X.K B F1 ds vs) : JD X.K B (Iett X.K a) (enumD 0 ds) F1 where
  go := fun i F H s sf o hi => by
    rw [enumD_len] at hi
    have hi' : i < vs.length := by rw [hv.len]; exact hi
    exact ⟨vs, vs[i], sqT_ext (sf.trans o.sub) h, by simp [hi']⟩
  yld := fun i F H s v H' d sf o ⟨T, y, e1, e2, e3, e4⟩ hd => by
    subst e1 e3
    have q := e4 vs (sqT_ext (sf.trans o.sub) h)
    obtain ⟨d', hd', hy⟩ := hv.getV q
    rw [enumD_get, hd'] at hd
    cases hd
    rw [show (0 : Int) + (i : Int) = (i : Int) by omega]
    exact pair_new (X := X) o e2 (hy.ext sf)
  stop := fun i F H s sf o hi => by
    rw [enumD_len] at hi
    exact ⟨vs, sqT_ext (sf.trans o.sub) h, by rw [hv.len]; exact hi⟩
variable {e : Expr} {ml : ML S} {p pos tpos : Pos} {elts : List Expr} {kk : Nat}
theorem i_enumT (hm : X.mg "enumerate" = none) (ha : PA X [e] (tL X.K B ml)) (hg : Gl X "enumerate" := by rfl) (hs : starEach [e] X.env = [(false, eval e X.env)] := by rfl) :
    PI X (.Tuple elts kk tpos) (.Call (.Name "enumerate" p) [e] [] pos) (tI X.K B (mIt2 enumTItems ml)) := pi_w (pi_bd (pi_enumT hg hm ha hs)) fun σ H R ⟨env, F, s, xs, s', E, o, hm, hq⟩ => by
  obtain ⟨ds, e1, e2⟩ := it2_un hm
  unfold enumTItems at e2
  split at e2
  · rename_i ys
    cases e2
    refine ⟨env, F, s, _, s', E, o, e1, fun vs F1 H1 v1 hv => ?_⟩
    obtain ⟨v, rfl, a, us, rfl, hl, hv2⟩ := one_of hv
    have hl1 := sqT_ext v1.ok.sub hl
    refine ⟨a, us, rfl, hl1, fun b1 _ => hq _ F1 H1 v1 (jd_enumT hl hv2) ?_⟩
    rw [enumD_len, ← hv2.len]
    exact b1 a us hl1
  · cases e2
end
end Dl

set_option Elab.async false
/-! D30: all of the layer. -/

set_option Elab.async false
set_option linter.all false
set_option maxRecDepth 100000
set_option maxHeartbeats 4000000
/-! M2: versions and ranges by whole numbers. -/
namespace Dl
open PySem
open L2
/-- a version as one number: three places of seven digits -/
def OkV (x : Int) : Prop := 0 ≤ x ∧ x / 100000000000000 ≤ 1000000 ∧ x / 10000000 % 10000000 ≤ 1000000 ∧ x % 10000000 ≤ 1000000
def verL (x : Int) : List Int := [x / 100000000000000, x / 10000000 % 10000000, x % 10000000]
def verD (x : Int) : D := .tup ((verL x).map .int)
theorem verD_eq (x : Int) : verD x = .tup [.int (x / 100000000000000), .int (x / 10000000 % 10000000), .int (x % 10000000)] := rfl
def inR (l m : Int) : D → Bool
  | .int i => decide (l ≤ i) && decide (i ≤ m)
  | _ => false
def isV : D → Bool
  | .tup ds => ds.length == 3 && ds.all (inR 0 1000000)
  | _ => false
theorem inR_int {l m : Int} {d : D} (h : inR l m d = true) : ∃ i, d = .int i ∧ l ≤ i ∧ i ≤ m := by
  cases d with
  | int i =>
    unfold inR at h
    rw [Bool.and_eq_true, decide_eq_true_eq, decide_eq_true_eq] at h
    exact ⟨i, rfl, h⟩
  | _ => cases h
theorem isV_ver {d : D} (h : isV d = true) : ∃ x, OkV x ∧ d = verD x := by
  cases d with
  | tup ds =>
    unfold isV at h
    rw [Bool.and_eq_true, beq_iff_eq] at h
    obtain ⟨h1, h2⟩ := h
    match ds, h1, h2 with
    | [a, b, c], _, h2 =>
      simp only [List.all_cons, List.all_nil, Bool.and_true, Bool.and_eq_true] at h2
      obtain ⟨ha, hb, hc⟩ := h2
      obtain ⟨a, rfl, a0, a1⟩ := inR_int ha
      obtain ⟨b, rfl, b0, b1⟩ := inR_int hb
      obtain ⟨c, rfl, c0, c1⟩ := inR_int hc
      have e1 : (a * 100000000000000 + b * 10000000 + c) / 100000000000000 = a := by omega
      have e2 : (a * 100000000000000 + b * 10000000 + c) / 10000000 % 10000000 = b := by omega
      have e3 : (a * 100000000000000 + b * 10000000 + c) % 10000000 = c := by omega
      refine ⟨a * 100000000000000 + b * 10000000 + c, ⟨by omega, by omega, by omega, by omega⟩, ?_⟩
      rw [verD_eq, e1, e2, e3]
  | _ => cases h
theorem ver_isV {x : Int} (h : OkV x) : isV (verD x) = true := by
  obtain ⟨h0, h1, h2, h3⟩ := h
  show (true && (inR 0 1000000 (.int (x / 100000000000000)) && (inR 0 1000000 (.int (x / 10000000 % 10000000)) && (inR 0 1000000 (.int (x % 10000000)) && true)))) = true
  simp only [inR, Bool.and_eq_true, decide_eq_true_eq, true_and, and_true]
  omega
theorem ver_inj {x y : Int} (h : verD x = verD y) : x = y := by
  rw [verD_eq, verD_eq, D.tup.injEq] at h
  simp only [List.cons.injEq, D.int.injEq, and_true] at h
  omega
theorem ver_noH (x : Int) : noH (verD x) = true := rfl
/-! how they compare -/
def pv3 (a b c : Int) : PyData := .tuple [.int a, .int b, .int c]
theorem ver_py (x : Int) : toPy (verD x) = some (pv3 (x / 100000000000000) (x / 10000000 % 10000000) (x % 10000000)) := rfl
theorem lt3 (a b c a' b' c' : Int) : PySem.W.dataLt (pv3 a b c) (pv3 a' b' c') = (decide (a < a') || (!decide (a' < a) && (decide (b < b') || (!decide (b' < b) && decide (c < c'))))) := by
  show (decide ((1 : Int) < 1) || (!decide ((1 : Int) < 1) && (decide (a < a') || (!decide (a' < a) && (decide ((1 : Int) < 1) || (!decide ((1 : Int) < 1) && (decide (b < b') || (!decide (b' < b) && (decide ((1 : Int) < 1) || (!decide ((1 : Int) < 1) && (decide (c < c') || (!decide (c' < c) && (decide ((0 : Int) < 0) || (!decide ((0 : Int) < 0) && false))))))))))))))  = _
  simp
theorem lt_ver0 {x y : Int} (hx : OkV x) (hy : OkV y) : PySem.W.dataLt (pv3 (x / 100000000000000) (x / 10000000 % 10000000) (x % 10000000)) (pv3 (y / 100000000000000) (y / 10000000 % 10000000) (y % 10000000)) = decide (x < y) := by
  rw [lt3, Bool.eq_iff_iff]
  simp only [Bool.or_eq_true, Bool.and_eq_true, Bool.not_eq_true', decide_eq_true_eq, decide_eq_false_iff_not]
  unfold OkV at hx hy
  omega
section
variable {x y : Int}
theorem lt_ver (hx : OkV x) (hy : OkV y) : relD ltP (verD x) (verD y) = some (.bl (decide (x < y))) := by
  rw [← lt_ver0 hx hy]
  rfl
theorem le_ver (hx : OkV x) (hy : OkV y) : relD leP (verD x) (verD y) = some (.bl (decide (x ≤ y))) := by
  have e : decide (x ≤ y) = !decide (y < x) := by
    by_cases c : x ≤ y
    · simp [c, Int.not_lt.mpr c]
    · simp [c, Int.lt_of_not_ge c]
  rw [e, ← lt_ver0 hy hx]
  rfl
theorem max_ver (hx : OkV x) (hy : OkV y) : maxD [verD x, verD y] = some (if x < y then verD y else verD x) := by
  have e : maxD [verD x, verD y] = (if PySem.W.dataLt (pv3 (x / 100000000000000) (x / 10000000 % 10000000) (x % 10000000)) (pv3 (y / 100000000000000) (y / 10000000 % 10000000) (y % 10000000)) = true then some (verD y) else some (verD x)) := by
    show (if true = true then some (if PySem.W.dataLt (pv3 (x / 100000000000000) (x / 10000000 % 10000000) (x % 10000000)) (pv3 (y / 100000000000000) (y / 10000000 % 10000000) (y % 10000000)) = true then verD y else verD x) else none) = _
    rw [if_pos rfl]
    split <;> rfl
  rw [e, lt_ver0 hx hy]
  by_cases c : x < y
  · rw [if_pos c, if_pos (decide_eq_true c)]
  · rw [if_neg c, if_neg (by rw [decide_eq_false c]; exact Bool.false_ne_true)]
end
/-! stretches, ranges -/
abbrev Rng := List (Int × Option Int)
def hiD : Option Int → D
  | none => .non
  | some h => verD h
def strD (p : Int × Option Int) : D := .tup [verD p.1, hiD p.2]
def rngD (r : Rng) : D := .tup (r.map strD)
def OkS (p : Int × Option Int) : Prop := OkV p.1 ∧ ∀ h, p.2 = some h → OkV h ∧ p.1 < h
/-- each stretch begins behind the end of the one before it -/
def chain : Option (Option Int) → Rng → Bool
  | _, [] => true
  | none, (_, hi) :: r => chain (some hi) r
  | some none, _ :: _ => false
  | some (some h), (lo, hi) :: r => decide (h < lo) && chain (some hi) r
def OkR (r : Rng) : Prop := (∀ p ∈ r, OkS p) ∧ chain none r = true
def IsS (d : D) : Prop := ∃ p, OkS p ∧ d = strD p
def IsR (d : D) : Prop := ∃ r, OkR r ∧ d = rngD r
theorem hiD_inj {a b : Option Int} (h : hiD a = hiD b) : a = b := by
  cases a with
  | none => cases b with
    | none => rfl
    | some y => cases h
  | some x => cases b with
    | none => cases h
    | some y => rw [ver_inj (show verD x = verD y from h)]
theorem strD_inj {p q : Int × Option Int} (h : strD p = strD q) : p = q := by
  unfold strD at h
  rw [D.tup.injEq] at h
  simp only [List.cons.injEq, and_true] at h
  exact Prod.ext (ver_inj h.1) (hiD_inj h.2)
theorem rngD_inj : ∀ {r q : Rng}, r.map strD = q.map strD → r = q
  | [], [], _ => rfl
  | [], _ :: _, h => by cases h
  | _ :: _, [], h => by cases h
  | p :: r, p' :: q, h => by
    rw [List.map_cons, List.map_cons, List.cons.injEq] at h
    rw [strD_inj h.1, rngD_inj h.2]
theorem noH_hi (h : Option Int) : noH (hiD h) = true := by
  cases h <;> rfl
theorem noH_str (p : Int × Option Int) : noH (strD p) = true := by
  show (noH (verD p.1) && (noH (hiD p.2) && true)) = true
  rw [ver_noH, noH_hi]
  rfl
theorem noHL_map {α : Type} {f : α → D} (h : ∀ a, noH (f a) = true) : ∀ l : List α, noHL (l.map f) = true
  | [] => rfl
  | a :: l => by
    show (noH (f a) && noHL (l.map f)) = true
    rw [h, noHL_map h l]
    rfl
theorem noH_rng (r : Rng) : noH (rngD r) = true := noHL_map noH_str r
theorem all_strs : ∀ {ds : List D}, (∀ d ∈ ds, IsS d) → ∃ r : Rng, (∀ p ∈ r, OkS p) ∧ ds = r.map strD
  | [], _ => ⟨[], (fun _ h => by cases h), rfl⟩
  | d :: ds, h => by
    obtain ⟨p, hp, e⟩ := h d (List.mem_cons_self ..)
    obtain ⟨r, hr, e2⟩ := all_strs fun x hx => h x (List.mem_cons_of_mem _ hx)
    refine ⟨p :: r, fun q hq => ?_, by rw [e, e2]; rfl⟩
    rcases List.mem_cons.mp hq with z | z
    · rw [z]; exact hp
    · exact hr q z
/-! what a range holds -/
def inS (p : Int × Option Int) (v : Int) : Bool := decide (p.1 ≤ v) && (match p.2 with
  | none => true
  | some h => decide (v < h))
def has (r : Rng) (v : Int) : Bool := r.any fun p => inS p v
def bounds (r : Rng) : List Int := r.flatMap fun p => match p.2 with
  | none => [p.1]
  | some h => [p.1, h]
theorem mem_bounds {r : Rng} {b : Int} : b ∈ bounds r ↔ ∃ p ∈ r, b = p.1 ∨ p.2 = some b := by
  unfold bounds
  rw [List.mem_flatMap]
  constructor
  · rintro ⟨p, hp, hb⟩
    refine ⟨p, hp, ?_⟩
    cases e : p.2 with
    | none => rw [e] at hb; exact .inl (List.mem_singleton.mp hb)
    | some h =>
      rw [e] at hb
      rcases List.mem_cons.mp hb with z | z
      · exact .inl z
      · exact .inr (by rw [List.mem_singleton.mp z])
  · rintro ⟨p, hp, hb⟩
    refine ⟨p, hp, ?_⟩
    cases e : p.2 with
    | none =>
      rcases hb with z | z
      · rw [z]; exact List.mem_singleton.mpr rfl
      · rw [e] at z; cases z
    | some h =>
      rcases hb with z | z
      · rw [z]; exact List.mem_cons_self ..
      · rw [e] at z
        cases z
        exact List.mem_cons_of_mem _ (List.mem_singleton.mpr rfl)
/-- between the bounds nothing changes -/
theorem inS_const {p : Int × Option Int} {m v : Int} (h : m ≤ v) (h1 : ¬ (m < p.1 ∧ p.1 ≤ v)) (h2 : ∀ b, p.2 = some b → ¬ (m < b ∧ b ≤ v)) : inS p m = inS p v := by
  obtain ⟨lo, hi⟩ := p
  unfold inS
  rw [Bool.eq_iff_iff]
  cases hi with
  | none =>
    simp only [Bool.and_true, decide_eq_true_eq]
    dsimp only at h1
    omega
  | some b =>
    have := h2 b rfl
    simp only [Bool.and_eq_true, decide_eq_true_eq]
    dsimp only at h1
    omega
theorem has_const {r : Rng} {m v : Int} (h : m ≤ v) (hb : ∀ b ∈ bounds r, ¬ (m < b ∧ b ≤ v)) : has r m = has r v := by
  unfold has
  rw [Bool.eq_iff_iff, List.any_eq_true, List.any_eq_true]
  have g : ∀ p ∈ r, inS p m = inS p v := fun p hp => inS_const h (hb _ (mem_bounds.mpr ⟨p, hp, .inl rfl⟩)) fun b e => hb b (mem_bounds.mpr ⟨p, hp, .inr e⟩)
  constructor
  · rintro ⟨p, hp, e⟩
    exact ⟨p, hp, by rw [← g p hp]; exact e⟩
  · rintro ⟨p, hp, e⟩
    exact ⟨p, hp, by rw [g p hp]; exact e⟩
/-! ranges made of marks and flags -/
def madeR : Option Int → List (Int × Bool) → Rng
  | none, [] => []
  | some lo, [] => [(lo, none)]
  | none, (m, f) :: r => if f = true then madeR (some m) r else madeR none r
  | some lo, (m, f) :: r => if f = true then madeR (some lo) r else (lo, some m) :: madeR none r
/-- the flag of the last mark that is not above v -/
def flagAt (d : Bool) : List (Int × Bool) → Int → Bool
  | [], _ => d
  | (m, f) :: r, v => if v < m then d else flagAt f r v
def Asc (l : List (Int × Bool)) : Prop := l.Pairwise fun a b => a.1 < b.1
theorem flagAt_low {d : Bool} {v : Int} : ∀ {l : List (Int × Bool)}, (∀ q ∈ l, v < q.1) → flagAt d l v = d
  | [], _ => rfl
  | (m, f) :: r, h => by
    unfold flagAt
    rw [if_pos (h (m, f) (List.mem_cons_self ..))]
theorem made_has {v : Int} : ∀ {l : List (Int × Bool)}, Asc l → has (madeR none l) v = flagAt false l v ∧ ∀ lo, (∀ q ∈ l, lo < q.1) → has (madeR (some lo) l) v = (decide (lo ≤ v) && flagAt true l v)
  | [], _ => ⟨rfl, fun lo _ => by simp [madeR, has, inS, flagAt]⟩
  | (m, f) :: r, h => by
    have hr : ∀ q ∈ r, m < q.1 := fun q hq => (List.pairwise_cons.mp h).1 q hq
    obtain ⟨i1, i2⟩ := made_has (v := v) (List.pairwise_cons.mp h).2
    refine ⟨?_, fun lo hlo => ?_⟩
    · unfold madeR flagAt
      cases f with
      | true =>
        rw [if_pos rfl, i2 m hr]
        by_cases c : v < m
        · rw [if_pos c, decide_eq_false (by omega)]; rfl
        · rw [if_neg c, decide_eq_true (by omega)]; rfl
      | false =>
        rw [if_neg Bool.false_ne_true, i1]
        by_cases c : v < m
        · rw [if_pos c, flagAt_low fun q hq => Int.lt_trans c (hr q hq)]
        · rw [if_neg c]
    · have hm : lo < m := hlo (m, f) (List.mem_cons_self ..)
      unfold madeR flagAt
      cases f with
      | true =>
        rw [if_pos rfl, i2 lo fun q hq => hlo q (List.mem_cons_of_mem _ hq)]
        by_cases c : v < m
        · rw [if_pos c, flagAt_low fun q hq => Int.lt_trans c (hr q hq)]
        · rw [if_neg c]
      | false =>
        rw [if_neg Bool.false_ne_true]
        show (inS (lo, some m) v || has (madeR none r) v) = _
        rw [i1]
        unfold inS
        by_cases c : v < m
        · rw [if_pos c, flagAt_low fun q hq => Int.lt_trans c (hr q hq)]
          simp [c]
        · rw [if_neg c]
          have : lo ≤ v := by omega
          simp [c, this]
theorem flagAt_is {P : Int → Bool} {v : Int} : ∀ {l : List Int} {m : Int}, m ≤ v → (∀ a b, a ∈ m :: l → a ≤ b → (∀ x ∈ m :: l, ¬ (a < x ∧ x ≤ b)) → P a = P b) → (m :: l).Pairwise (· < ·) → flagAt (P m) (l.map fun x => (x, P x)) v = P v
  | [], m, h, hc, _ => hc m v (List.mem_cons_self ..) h fun x hx => by
    rw [List.mem_singleton.mp hx]
    omega
  | x :: l, m, h, hc, hp => by
    rw [List.pairwise_cons] at hp
    show (if v < x then P m else flagAt (P x) (l.map fun x => (x, P x)) v) = P v
    by_cases c : v < x
    · rw [if_pos c]
      refine hc m v (List.mem_cons_self ..) h fun y hy => ?_
      rcases List.mem_cons.mp hy with e | e
      · omega
      · rcases List.mem_cons.mp e with e | e
        · omega
        · have := (List.pairwise_cons.mp hp.2).1 y e
          omega
    · rw [if_neg c]
      refine flagAt_is (by omega) (fun a b ha hab hx => hc a b (List.mem_cons_of_mem _ ha) hab fun y hy => ?_) hp.2
      rcases List.mem_cons.mp hy with e | e
      · rw [e]
        have : m < a := hp.1 a ha
        omega
      · exact hx y e
/-- a made range holds a version just when its flags' rule says so, if nothing changes between the marks -/
theorem made_rule {P : Int → Bool} {l : List Int} {v : Int} (hs : (0 :: l).Pairwise (· < ·)) (h0 : 0 ≤ v) (hc : ∀ a b, 0 ≤ a → a ≤ b → (∀ x ∈ l, ¬ (a < x ∧ x ≤ b)) → P a = P b) : has (madeR none ((0 :: l).map fun x => (x, P x))) v = P v := by
  have ha : Asc ((0 :: l).map fun x => (x, P x)) := List.pairwise_map.mpr (hs.imp fun h => h)
  rw [(made_has ha).1]
  show (if v < 0 then false else flagAt (P 0) (l.map fun x => (x, P x)) v) = P v
  rw [if_neg (by omega)]
  refine flagAt_is h0 (fun a b ha hab hx => hc a b ?_ hab fun y hy => hx y (List.mem_cons_of_mem _ hy)) hs
  rcases List.mem_cons.mp ha with e | e
  · omega
  · have := (List.pairwise_cons.mp hs).1 a e
    omega
theorem made_nil : ∀ {l : List (Int × Bool)}, (madeR none l = [] ↔ ∀ q ∈ l, q.2 = false) ∧ ∀ lo, madeR (some lo) l ≠ []
  | [] => ⟨⟨fun _ _ h => (by cases h), fun _ => rfl⟩, fun lo h => (by cases h)⟩
  | (m, f) :: r => by
    obtain ⟨i1, i2⟩ := made_nil (l := r)
    unfold madeR
    cases f with
    | true =>
      refine ⟨⟨fun h => absurd (show madeR (some m) r = [] from h) (i2 m), fun h => ?_⟩, fun lo h => absurd (show madeR (some lo) r = [] from h) (i2 lo)⟩
      have := h (m, true) (List.mem_cons_self ..)
      cases this
    | false =>
      refine ⟨⟨fun h q hq => ?_, fun h => i1.mpr fun q hq => h q (List.mem_cons_of_mem _ hq)⟩, fun lo h => by cases h⟩
      rcases List.mem_cons.mp hq with e | e
      · rw [e]
      · exact i1.mp h q e
/-- a made range is a range -/
theorem made_ok : ∀ {l : List (Int × Bool)}, Asc l → (∀ q ∈ l, OkV q.1) → ((∀ p ∈ madeR none l, OkS p) ∧ (∀ h, (∀ q ∈ l, h < q.1) → chain (some (some h)) (madeR none l) = true) ∧ chain none (madeR none l) = true) ∧
    ∀ lo, OkV lo → (∀ q ∈ l, lo < q.1) → (∀ p ∈ madeR (some lo) l, OkS p) ∧ (∀ h, h < lo → chain (some (some h)) (madeR (some lo) l) = true) ∧ chain none (madeR (some lo) l) = true
  | [], _, _ => by
    refine ⟨⟨fun _ h => (by cases h), fun _ _ => rfl, rfl⟩, fun lo hlo _ => ⟨fun p hp => ?_, fun h hh => ?_, rfl⟩⟩
    · rw [List.mem_singleton.mp hp]
      exact ⟨hlo, fun _ h => by cases h⟩
    · show (decide (h < lo) && true) = true
      rw [decide_eq_true hh]; rfl
  | (m, f) :: r, ha, hv => by
    have hr : ∀ q ∈ r, m < q.1 := fun q hq => (List.pairwise_cons.mp ha).1 q hq
    have hm : OkV m := hv (m, f) (List.mem_cons_self ..)
    obtain ⟨⟨a1, a2, a3⟩, b⟩ := made_ok (List.pairwise_cons.mp ha).2 fun q hq => hv q (List.mem_cons_of_mem _ hq)
    unfold madeR
    cases f with
    | true =>
      obtain ⟨c1, c2, c3⟩ := b m hm hr
      refine ⟨⟨c1, fun h hh => c2 h (hh (m, true) (List.mem_cons_self ..)), c3⟩, fun lo hlo hl => ?_⟩
      exact b lo hlo fun q hq => hl q (List.mem_cons_of_mem _ hq)
    | false =>
      refine ⟨⟨a1, fun h hh => a2 h fun q hq => hh q (List.mem_cons_of_mem _ hq), a3⟩, fun lo hlo hl => ?_⟩
      have hlm : lo < m := hl (m, false) (List.mem_cons_self ..)
      refine ⟨fun p hp => ?_, fun h hh => ?_, ?_⟩
      · rcases List.mem_cons.mp (show p ∈ (lo, some m) :: madeR none r from hp) with e | e
        · rw [e]
          refine ⟨hlo, fun h z => ?_⟩
          cases z
          exact ⟨hm, hlm⟩
        · exact a1 p e
      · show (decide (h < lo) && chain (some (some m)) (madeR none r)) = true
        rw [decide_eq_true hh, a2 m hr]; rfl
      · exact a2 m hr
/-! what is outside -/
def outR : Option Int → Rng → Rng
  | none, [] => []
  | some b, [] => [(b, none)]
  | none, (_, hi) :: r => outR hi r
  | some b, (lo, hi) :: r => if b < lo then (b, some lo) :: outR hi r else outR hi r
theorem has_low {v : Int} {h : Int} : ∀ {r : Rng}, chain (some (some h)) r = true → (∀ p ∈ r, OkS p) → v ≤ h → has r v = false
  | [], _, _, _ => rfl
  | (lo, hi) :: r, hc, hk, hv => by
    unfold chain at hc
    rw [Bool.and_eq_true, decide_eq_true_eq] at hc
    obtain ⟨h1, h2⟩ := hc
    show (inS (lo, hi) v || has r v) = false
    have e : inS (lo, hi) v = false := by
      unfold inS
      rw [decide_eq_false (by dsimp only; omega)]; rfl
    rw [e, Bool.false_or]
    cases hi with
    | none =>
      cases r with
      | nil => rfl
      | cons _ _ => cases h2
    | some k =>
      have := ((hk (lo, some k) (List.mem_cons_self ..)).2 k rfl).2
      exact has_low h2 (fun p hp => hk p (List.mem_cons_of_mem _ hp)) (by dsimp only at this; omega)
theorem out_has {v : Int} : ∀ {r : Rng} {b : Int}, (∀ p ∈ r, OkS p) → chain none r = true → (∀ p, r.head? = some p → b ≤ p.1) → has (outR (some b) r) v = (decide (b ≤ v) && !has r v)
  | [], b, _, _, _ => by simp [outR, has, inS]
  | (lo, hi) :: r, b, hk, hc, hb => by
    have hbl : b ≤ lo := hb (lo, hi) rfl
    have hkr : ∀ p ∈ r, OkS p := fun p hp => hk p (List.mem_cons_of_mem _ hp)
    have hc' : chain (some hi) r = true := hc
    have ih : has (outR hi r) v = ((match hi with | none => false | some h => decide (h ≤ v)) && !has r v) := by
      cases hi with
      | none =>
        cases r with
        | nil => rfl
        | cons _ _ => cases hc'
      | some h =>
        have hcn : chain none r = true := by
          cases r with
          | nil => rfl
          | cons q r =>
            obtain ⟨l2, h2⟩ := q
            unfold chain at hc'
            rw [Bool.and_eq_true] at hc'
            exact hc'.2
        refine out_has hkr hcn fun p hp => ?_
        cases r with
        | nil => cases hp
        | cons q r =>
          cases hp
          obtain ⟨l2, h2⟩ := p
          unfold chain at hc'
          rw [Bool.and_eq_true, decide_eq_true_eq] at hc'
          exact Int.le_of_lt hc'.1
    have hfirst : has (outR (some b) ((lo, hi) :: r)) v = ((decide (b ≤ v) && decide (v < lo)) || has (outR hi r) v) := by
      show has (if b < lo then (b, some lo) :: outR hi r else outR hi r) v = _
      by_cases c : b < lo
      · rw [if_pos c]; rfl
      · rw [if_neg c]
        have : (decide (b ≤ v) && decide (v < lo)) = false := by
          rw [Bool.and_eq_false_iff, decide_eq_false_iff_not, decide_eq_false_iff_not]
          omega
        rw [this, Bool.false_or]
    rw [hfirst, ih]
    show _ = (decide (b ≤ v) && !(inS (lo, hi) v || has r v))
    cases hi with
    | none =>
      have e : r = [] := by
        cases r with
        | nil => rfl
        | cons _ _ => cases hc'
      subst e
      rw [Bool.eq_iff_iff]
      simp only [inS, has, List.any_nil, Bool.or_false, Bool.false_and, Bool.and_eq_true, Bool.not_eq_true', decide_eq_true_eq, Bool.and_true, decide_eq_false_iff_not]
      omega
    | some h =>
      have hlh : lo < h := ((hk (lo, some h) (List.mem_cons_self ..)).2 h rfl).2
      have hlow : v ≤ h → has r v = false := fun z => has_low hc' hkr z
      rw [Bool.eq_iff_iff]
      simp only [inS, Bool.or_eq_true, Bool.and_eq_true, Bool.not_eq_true', decide_eq_true_eq, Bool.or_eq_false_iff, Bool.and_eq_false_iff, decide_eq_false_iff_not]
      by_cases c : v ≤ h
      · rw [hlow c]
        simp only [and_true]
        omega
      · constructor
        · rintro (z | z)
          · omega
          · exact ⟨by omega, .inr (by omega), z.2⟩
        · rintro ⟨z1, z2, z3⟩
          exact .inr ⟨by omega, z3⟩
/-! two ranges' common part -/
def minH : Option Int → Option Int → Option Int
  | none, b => b
  | some a, none => some a
  | some a, some b => if a < b then some a else some b
def below (v : Int) : Option Int → Bool
  | none => true
  | some h => decide (v < h)
def bothR (one other : Rng) : Rng := one.flatMap fun p => other.flatMap fun q => if below (if p.1 < q.1 then q.1 else p.1) (minH p.2 q.2) = true then [(if p.1 < q.1 then q.1 else p.1, minH p.2 q.2)] else []
theorem both_nil {one other : Rng} (h1 : ∀ p ∈ one, OkS p) (h2 : ∀ p ∈ other, 0 ≤ p.1) : bothR one other = [] ↔ ∀ v, 0 ≤ v → ¬ (has one v = true ∧ has other v = true) := by
  unfold bothR
  rw [List.flatMap_eq_nil_iff]
  constructor
  · intro h v hv ⟨ha, hb⟩
    obtain ⟨p, hp, ep⟩ := List.any_eq_true.mp ha
    obtain ⟨q, hq, eq⟩ := List.any_eq_true.mp hb
    have := List.flatMap_eq_nil_iff.mp (h p hp) q hq
    obtain ⟨lo, hi⟩ := p
    obtain ⟨lo2, hi2⟩ := q
    have hb : below (if lo < lo2 then lo2 else lo) (minH hi hi2) = true := by
      unfold inS at ep eq
      rw [Bool.and_eq_true, decide_eq_true_eq] at ep eq
      cases hi with
      | none => cases hi2 with
        | none => rfl
        | some b =>
          have e2 := eq.2
          simp only [decide_eq_true_eq] at e2
          simp only [below, minH, decide_eq_true_eq]
          dsimp only at ep eq
          split <;> omega
      | some a => cases hi2 with
        | none =>
          have e2 := ep.2
          simp only [decide_eq_true_eq] at e2
          simp only [below, minH, decide_eq_true_eq]
          dsimp only at ep eq
          split <;> omega
        | some b =>
          have e1 := ep.2
          have e2 := eq.2
          simp only [decide_eq_true_eq] at e1 e2
          dsimp only at ep eq
          by_cases hab : a < b
          · simp only [minH, if_pos hab, below, decide_eq_true_eq]
            split <;> omega
          · simp only [minH, if_neg hab, below, decide_eq_true_eq]
            split <;> omega
    dsimp only at this
    rw [if_pos hb] at this
    cases this
  · intro h p hp
    rw [List.flatMap_eq_nil_iff]
    intro q hq
    by_cases hb : below (if p.1 < q.1 then q.1 else p.1) (minH p.2 q.2) = true
    · exfalso
      have o1 := (h1 p hp).1.1
      have o2 := h2 q hq
      refine h (if p.1 < q.1 then q.1 else p.1) (by split <;> assumption) ⟨List.any_eq_true.mpr ⟨p, hp, ?_⟩, List.any_eq_true.mpr ⟨q, hq, ?_⟩⟩
      all_goals
        obtain ⟨lo, hi⟩ := p
        obtain ⟨lo2, hi2⟩ := q
        dsimp only at hb ⊢
        generalize hz : (if lo < lo2 then lo2 else lo) = z at hb ⊢
        have z1 : lo ≤ z ∧ lo2 ≤ z := by
          rw [← hz]
          split <;> omega
        unfold inS
        rw [Bool.and_eq_true, decide_eq_true_eq]
        refine ⟨by dsimp only; omega, ?_⟩
        cases hi with
        | none => cases hi2 with
          | none => rfl
          | some b =>
            simp only [below, minH, decide_eq_true_eq] at hb ⊢
            try omega
        | some a => cases hi2 with
          | none =>
            simp only [below, minH, decide_eq_true_eq] at hb ⊢
            try omega
          | some b =>
            simp only [minH] at hb
            split at hb <;> simp only [below, decide_eq_true_eq] at hb ⊢ <;> omega
    · rw [if_neg hb]
theorem out_low {b : Int} (hb : 0 ≤ b) : ∀ {r : Rng}, (∀ p ∈ r, OkS p) → ∀ p ∈ outR (some b) r, 0 ≤ p.1 := by
  have g : ∀ (r : Rng) (o : Option Int), (∀ x, o = some x → 0 ≤ x) → (∀ p ∈ r, OkS p) → ∀ p ∈ outR o r, 0 ≤ p.1 := by
    intro r
    induction r with
    | nil =>
      intro o ho _ p hp
      cases o with
      | none => cases hp
      | some x => rw [List.mem_singleton.mp hp]; exact ho x rfl
    | cons q r ih =>
      obtain ⟨lo, hi⟩ := q
      intro o ho hk p hp
      have h3 : ∀ x, hi = some x → 0 ≤ x := fun x e => ((hk (lo, hi) (List.mem_cons_self ..)).2 x e).1.1
      have h4 := ih hi h3 fun p hp => hk p (List.mem_cons_of_mem _ hp)
      cases o with
      | none => exact h4 p hp
      | some x =>
        unfold outR at hp
        split at hp
        · rcases List.mem_cons.mp hp with e | e
          · rw [e]; exact ho x rfl
          · exact h4 p e
        · exact h4 p hp
  intro r hr
  exact g r (some b) (fun x e => by cases e; exact hb) hr
end Dl

set_option Elab.async false
set_option linter.all false
set_option maxRecDepth 100000
set_option maxHeartbeats 4000000
/-! M3: places, walks, sets of versions. -/
namespace Dl
open PySem
open L2
theorem rngOf_zero (lo : Int) : rngOf lo 0 = [] := rfl
theorem rngOf_succ (lo : Int) (n : Nat) : rngOf lo (n + 1) = .int lo :: rngOf (lo + 1) n := by
  unfold rngOf
  rw [List.range_succ_eq_map, List.map_cons, List.map_map]
  congr 1
  · show D.int (lo + ((0 : Nat) : Int)) = _
    rw [show lo + ((0 : Nat) : Int) = lo by omega]
  · refine List.map_congr_left fun i _ => ?_
    show D.int (lo + ((i + 1 : Nat) : Int)) = D.int (lo + 1 + (i : Int))
    rw [show lo + ((i + 1 : Nat) : Int) = lo + 1 + (i : Int) by omega]
theorem atI_natQ {α : Type} {l : List α} {n : Nat} : atI l (n : Int) = l[n]? := by
  by_cases h : n < l.length
  · rw [atI_nat h, List.getElem?_eq_getElem h]
  · unfold atI ixN
    rw [if_pos (by omega), if_neg (by omega), List.getElem?_eq_none (by omega)]
    rfl
section
variable {ds : List D} {a b : D} {l : List D} {n : Nat}
theorem ix_nat : ixD (.tup ds) (.int (n : Int)) = ds[n]? := atI_natQ
theorem ixl_nat : ixD (.lst ds) (.int (n : Int)) = ds[n]? := atI_natQ
theorem ix_0 : ixD (.tup (a :: l)) (.int 0) = some a := atI_natQ (n := 0)
theorem ix_1 : ixD (.tup (a :: b :: l)) (.int 1) = some b := atI_natQ (n := 1)
theorem neg_int {i : Int} : negD (.int i) = some (.int (-i)) := rfl
end
theorem isN_hi {h : Option Int} : isND (hiD h) .non = some (.bl h.isNone) := by cases h <;> rfl
theorem notN_hi {h : Option Int} : notND (hiD h) .non = some (.bl h.isSome) := by cases h <;> rfl
theorem rng1_nat {n : Nat} (h : n ≤ 16777216) : rng1D [.int (n : Int)] = some (rngOf 0 n) := by
  unfold rng1D
  dsimp only
  rw [if_pos ⟨by omega, by omega, by rw [sizeLine_eq]; omega⟩]
  rfl
/-! sets of versions -/
theorem ltI_ver {x y : Int} : ltI (verL x) (verL y) = true ↔ x < y := by
  show (if x / 100000000000000 < y / 100000000000000 then true else if y / 100000000000000 < x / 100000000000000 then false else
    if x / 10000000 % 10000000 < y / 10000000 % 10000000 then true else if y / 10000000 % 10000000 < x / 10000000 % 10000000 then false else
    if x % 10000000 < y % 10000000 then true else if y % 10000000 < x % 10000000 then false else false) = true ↔ x < y
  repeat' split
  all_goals first
    | (constructor <;> intro _ <;> first | rfl | omega)
    | (constructor <;> intro q <;> first | (cases q) | omega)
def unL : List Int → Int
  | [a, b, c] => a * 100000000000000 + b * 10000000 + c
  | _ => 0
theorem unL_ver (x : Int) : unL (verL x) = x := by
  show x / 100000000000000 * 100000000000000 + x / 10000000 % 10000000 * 10000000 + x % 10000000 = x
  omega
theorem rows_vers : ∀ ms : List Int, rowsOf (ms.map verD) = some (ms.map verL)
  | [] => rfl
  | m :: ms => by
    show (rowOf (verD m)).bind (fun r => (rowsOf (ms.map verD)).map (r :: ·)) = _
    rw [rows_vers ms]
    rfl
theorem insU_len (x : List Int) : ∀ l : List (List Int), (insU x l).length ≤ l.length + 1
  | [] => Nat.le_refl _
  | y :: ys => by
    unfold insU
    split
    · exact Nat.le_refl _
    · split
      · exact Nat.le_succ _
      · have := insU_len x ys
        show (insU x ys).length + 1 ≤ ys.length + 1 + 1
        omega
theorem ssetI_len : ∀ l : List (List Int), (ssetI l).length ≤ l.length
  | [] => Nat.le_refl _
  | y :: ys => by
    have h1 := insU_len y (ssetI ys)
    have h2 := ssetI_len ys
    show (insU y (ssetI ys)).length ≤ ys.length + 1
    omega
theorem ss_vers {ms : List Int} (h : ∀ x ∈ ms, OkV x) (hl : ms.length < 64) (h0 : ms ≠ []) : ssOk (ms.map verL) = true := by
  unfold ssOk
  rw [List.length_map, decide_eq_true hl, Bool.true_and]
  cases ms with
  | nil => exact absurd rfl h0
  | cons m ms =>
    show (decide (1 ≤ (verL m).length) && ((m :: ms).map verL).all fun q => decide (q.length = (verL m).length) && q.all fun i => decide (0 ≤ i) && decide (i < topI)) = true
    rw [Bool.and_eq_true]
    refine ⟨rfl, ?_⟩
    rw [List.all_map, List.all_eq_true]
    intro x hx
    obtain ⟨a0, a1, a2, a3⟩ := h x hx
    show (decide (3 = 3) && ([x / 100000000000000, x / 10000000 % 10000000, x % 10000000].all fun i => decide (0 ≤ i) && decide (i < topI))) = true
    have ht : topI = 1099511627776 := rfl
    simp only [List.all_cons, List.all_nil, Bool.and_true, Bool.and_eq_true, decide_eq_true_eq]
    refine ⟨trivial, ⟨?_, ?_⟩, ⟨?_, ?_⟩, ?_, ?_⟩ <;> omega
theorem sset_vers {ms : List Int} (h : ∀ x ∈ ms, OkV x) (hl : ms.length < 64) (h0 : ms ≠ []) : ∃ l : List Int, ssetD [.lst (ms.map verD)] = some (.lst (l.map verD)) ∧ l.Pairwise (· < ·) ∧ (∀ x, x ∈ l ↔ x ∈ ms) ∧ l.length ≤ ms.length := by
  have hm : ∀ r ∈ ssetI (ms.map verL), ∃ x ∈ ms, r = verL x := fun r hr => by
    obtain ⟨x, hx, e⟩ := List.mem_map.mp (mem_ssetI.mp hr)
    exact ⟨x, hx, e.symm⟩
  refine ⟨(ssetI (ms.map verL)).map unL, ?_, ?_, fun x => ?_, ?_⟩
  · show (match rowsOf (ms.map verD) with | some rs => if ssOk rs then some (D.lst ((ssetI rs).map fun (r : List Int) => .tup (r.map .int))) else none | none => none) = _
    rw [rows_vers]
    show (if ssOk (ms.map verL) = true then some (D.lst ((ssetI (ms.map verL)).map fun (r : List Int) => .tup (r.map .int))) else none) = _
    rw [if_pos (ss_vers h hl h0), List.map_map]
    congr 2
    refine List.map_congr_left fun r hr => ?_
    obtain ⟨x, _, e⟩ := hm r hr
    subst e
    show D.tup ((verL x).map .int) = verD (unL (verL x))
    rw [unL_ver]
    rfl
  · refine List.pairwise_map.mpr (List.Pairwise.imp_of_mem ?_ (up_ssetI (ms.map verL)))
    intro a b ha hb hlt
    obtain ⟨x, _, e⟩ := hm a ha
    obtain ⟨y, _, e2⟩ := hm b hb
    subst e e2
    rw [unL_ver, unL_ver]
    exact ltI_ver.mp hlt
  · constructor
    · intro hx
      obtain ⟨r, hr, e⟩ := List.mem_map.mp hx
      obtain ⟨y, hy, e2⟩ := hm r hr
      subst e e2
      rw [unL_ver]
      exact hy
    · intro hx
      exact List.mem_map.mpr ⟨verL x, mem_ssetI.mpr (List.mem_map_of_mem hx), unL_ver x⟩
  · rw [List.length_map]
    have := ssetI_len (ms.map verL)
    rw [List.length_map] at this
    exact this
end Dl

set_option Elab.async false
set_option linter.all false
set_option maxRecDepth 100000
set_option maxHeartbeats 4000000
/-! M4: a range is told by what it holds; common parts, what is outside. -/
namespace Dl
open PySem
open L2
def Gap (p q : Int × Option Int) : Prop := ∃ h, p.2 = some h ∧ h < q.1
theorem gap_of {r : Rng} : ∀ {prev : Option (Option Int)}, chain prev r = true → (∀ p ∈ r, OkS p) → r.Pairwise Gap ∧ ∀ hi, prev = some hi → ∀ q ∈ r, ∃ h, hi = some h ∧ h < q.1 := by
  induction r with
  | nil => exact fun _ _ => ⟨List.Pairwise.nil, fun _ _ _ h => by cases h⟩
  | cons p r ih =>
    intro prev hc hk
    obtain ⟨lo, hi⟩ := p
    have hkr : ∀ p ∈ r, OkS p := fun p hp => hk p (List.mem_cons_of_mem _ hp)
    have hc2 : chain (some hi) r = true := by
      match prev, hc with
      | none, hc => exact hc
      | some none, hc => cases hc
      | some (some h), hc =>
        unfold chain at hc
        rw [Bool.and_eq_true] at hc
        exact hc.2
    obtain ⟨i1, i2⟩ := ih hc2 hkr
    have hg : ∀ q ∈ r, Gap (lo, hi) q := fun q hq => i2 hi rfl q hq
    refine ⟨List.pairwise_cons.mpr ⟨hg, i1⟩, fun hi0 e q hq => ?_⟩
    match prev, hc, e with
    | some none, hc, _ => cases hc
    | some (some h), hc, e =>
      cases e
      unfold chain at hc
      rw [Bool.and_eq_true, decide_eq_true_eq] at hc
      rcases List.mem_cons.mp hq with z | z
      · rw [z]; exact ⟨h, rfl, hc.1⟩
      · obtain ⟨h2, e2, l2⟩ := hg q z
        have := ((hk (lo, hi) (List.mem_cons_self ..)).2 h2 e2).2
        dsimp only at this
        exact ⟨h, rfl, by omega⟩
theorem chain_of {r : Rng} : ∀ {prev : Option (Option Int)}, r.Pairwise Gap → (∀ hi, prev = some hi → ∀ q ∈ r, ∃ h, hi = some h ∧ h < q.1) → chain prev r = true := by
  induction r with
  | nil => intro prev _ _; cases prev <;> rfl
  | cons p r ih =>
    intro prev hp hq
    obtain ⟨lo, hi⟩ := p
    rw [List.pairwise_cons] at hp
    have h2 : chain (some hi) r = true := ih hp.2 fun hi0 e q hq => by
      cases e
      exact hp.1 q hq
    match prev, hq with
    | none, _ => exact h2
    | some hi0, hq =>
      obtain ⟨h, e, l⟩ := hq hi0 rfl (lo, hi) (List.mem_cons_self ..)
      subst e
      show (decide (h < lo) && chain (some hi) r) = true
      rw [decide_eq_true l, h2]
      rfl
theorem okR_iff {r : Rng} : OkR r ↔ (∀ p ∈ r, OkS p) ∧ r.Pairwise Gap := ⟨fun h => ⟨h.1, (gap_of h.2 h.1).1⟩, fun h => ⟨h.1, chain_of h.2 fun _ z => by cases z⟩⟩
theorem has_cons (p : Int × Option Int) (r : Rng) (v : Int) : has (p :: r) v = (inS p v || has r v) := rfl
/-- below its first stretch a range holds nothing -/
theorem has_under {r : Rng} {v : Int} (h : ∀ p ∈ r, v < p.1) : has r v = false := by
  unfold has
  rw [List.any_eq_false]
  intro p hp
  unfold inS
  rw [decide_eq_false (by have := h p hp; omega)]
  simp
theorem has_first {lo : Int} {hi : Option Int} {r : Rng} (h : OkS (lo, hi)) : has ((lo, hi) :: r) lo = true := by
  rw [has_cons]
  have : inS (lo, hi) lo = true := by
    unfold inS
    cases hi with
    | none => simp
    | some b =>
      have := (h.2 b rfl).2
      simp only [Bool.and_eq_true, decide_eq_true_eq]
      exact ⟨Int.le_refl _, this⟩
  rw [this]
  rfl
theorem uniq : ∀ {r q : Rng}, (∀ p ∈ r, OkS p) → r.Pairwise Gap → (∀ p ∈ q, OkS p) → q.Pairwise Gap → (∀ v, 0 ≤ v → has r v = has q v) → r = q
  | [], [], _, _, _, _, _ => rfl
  | [], (lo, hi) :: q, _, _, hk, _, h => by
    have h0 := hk (lo, hi) (List.mem_cons_self ..)
    have := h lo h0.1.1
    rw [has_first h0] at this
    cases this
  | (lo, hi) :: r, [], hk, _, _, _, h => by
    have h0 := hk (lo, hi) (List.mem_cons_self ..)
    have := h lo h0.1.1
    rw [has_first h0] at this
    cases this
  | (lo, hi) :: r, (lo', hi') :: q, hk, hp, hk', hp', h => by
    have h0 := hk (lo, hi) (List.mem_cons_self ..)
    have h0' := hk' (lo', hi') (List.mem_cons_self ..)
    rw [List.pairwise_cons] at hp hp'
    have lows : ∀ x ∈ r, lo < x.1 := fun x hx => by
      obtain ⟨b, e, l⟩ := hp.1 x hx
      have := (h0.2 b e).2
      dsimp only at this
      omega
    have lows' : ∀ x ∈ q, lo' < x.1 := fun x hx => by
      obtain ⟨b, e, l⟩ := hp'.1 x hx
      have := (h0'.2 b e).2
      dsimp only at this
      omega
    have el : lo = lo' := by
      rcases Int.lt_trichotomy lo lo' with c | c | c
      · have z := h lo h0.1.1
        rw [has_first h0] at z
        have : has ((lo', hi') :: q) lo = false := has_under fun x hx => by
          rcases List.mem_cons.mp hx with e | e
          · rw [e]; exact c
          · have := lows' x e; omega
        rw [this] at z
        cases z
      · exact c
      · have z := h lo' h0'.1.1
        rw [has_first h0'] at z
        have : has ((lo, hi) :: r) lo' = false := has_under fun x hx => by
          rcases List.mem_cons.mp hx with e | e
          · rw [e]; exact c
          · have := lows x e; omega
        rw [this] at z
        cases z
    subst el
    have atend : ∀ {b : Int} {r : Rng} {hi : Option Int}, hi = some b → (∀ x ∈ r, Gap (lo, hi) x) → has ((lo, hi) :: r) b = false := fun {b r hi} e hg => by
      subst e
      rw [has_cons]
      have e1 : inS (lo, some b) b = false := by
        unfold inS
        simp
      rw [e1, Bool.false_or]
      refine has_under fun x hx => ?_
      obtain ⟨b', e', l'⟩ := hg x hx
      cases e'
      exact l'
    have inside : ∀ {b : Int} {r : Rng} {hi : Option Int}, lo < b → (∀ c, hi = some c → b < c) → has ((lo, hi) :: r) b = true := fun {b r hi} hb hc => by
      rw [has_cons]
      have : inS (lo, hi) b = true := by
        unfold inS
        cases hi with
        | none => simp; omega
        | some c =>
          have := hc c rfl
          simp only [Bool.and_eq_true, decide_eq_true_eq]
          omega
      rw [this]
      rfl
    have eh : hi = hi' := by
      cases hi with
      | none =>
        cases hi' with
        | none => rfl
        | some b =>
          have hb := (h0'.2 b rfl)
          have z := h b hb.1.1
          rw [inside hb.2 (fun c e => by cases e), atend rfl hp'.1] at z
          cases z
      | some a =>
        have ha := (h0.2 a rfl)
        cases hi' with
        | none =>
          have z := h a ha.1.1
          have z1 := atend (b := a) (hi := some a) (r := r) rfl hp.1
          have z2 := inside (b := a) (r := q) (hi := none) ha.2 fun c e => by cases e
          rw [z1, z2] at z
          cases z
        | some b =>
          have hb := (h0'.2 b rfl)
          rcases Int.lt_trichotomy a b with c | c | c
          · have z := h a ha.1.1
            rw [atend rfl hp.1, inside ha.2 (fun c' e => by cases e; exact c)] at z
            cases z
          · rw [c]
          · have z := h b hb.1.1
            rw [atend rfl hp'.1, inside hb.2 (fun c' e => by cases e; exact c)] at z
            cases z
    subst eh
    have tail : r = q := by
      refine uniq (fun p hp => hk p (List.mem_cons_of_mem _ hp)) hp.2 (fun p hp => hk' p (List.mem_cons_of_mem _ hp)) hp'.2 fun v v0 => ?_
      cases hi with
      | none =>
        have e1 : r = [] := by
          cases r with
          | nil => rfl
          | cons x r =>
            obtain ⟨b, e, _⟩ := hp.1 x (List.mem_cons_self ..)
            cases e
        have e2 : q = [] := by
          cases q with
          | nil => rfl
          | cons x q =>
            obtain ⟨b, e, _⟩ := hp'.1 x (List.mem_cons_self ..)
            cases e
        rw [e1, e2]
      | some b =>
        have l1 : ∀ x ∈ r, b < x.1 := fun x hx => by
          obtain ⟨c, e, l⟩ := hp.1 x hx
          cases e
          exact l
        have l2 : ∀ x ∈ q, b < x.1 := fun x hx => by
          obtain ⟨c, e, l⟩ := hp'.1 x hx
          cases e
          exact l
        by_cases c : v ≤ b
        · rw [has_under fun x hx => by have := l1 x hx; omega, has_under fun x hx => by have := l2 x hx; omega]
        · have z := h v v0
          rw [has_cons, has_cons] at z
          have e1 : inS (lo, some b) v = false := by
            unfold inS
            rw [Bool.and_eq_false_iff]
            exact .inr (decide_eq_false (by omega))
          rw [e1, Bool.false_or, Bool.false_or] at z
          exact z
    rw [tail]
theorem okR_uniq {r q : Rng} (hr : OkR r) (hq : OkR q) (h : ∀ v, 0 ≤ v → has r v = has q v) : r = q := by
  rw [okR_iff] at hr hq
  exact uniq hr.1 hr.2 hq.1 hq.2 h
/-! common parts -/
theorem minH_l {a : Int} {b : Option Int} : ∃ e, minH (some a) b = some e ∧ e ≤ a := by
  cases b with
  | none => exact ⟨a, rfl, Int.le_refl _⟩
  | some b =>
    by_cases c : a < b
    · exact ⟨a, if_pos c, Int.le_refl _⟩
    · exact ⟨b, if_neg c, by omega⟩
theorem minH_r {b : Int} {a : Option Int} : ∃ e, minH a (some b) = some e ∧ e ≤ b := by
  cases a with
  | none => exact ⟨b, rfl, Int.le_refl _⟩
  | some a =>
    by_cases c : a < b
    · exact ⟨a, if_pos c, by omega⟩
    · exact ⟨b, if_neg c, Int.le_refl _⟩
def cut2 (p q : Int × Option Int) : Rng := if below (if p.1 < q.1 then q.1 else p.1) (minH p.2 q.2) = true then [(if p.1 < q.1 then q.1 else p.1, minH p.2 q.2)] else []
theorem bothR_eq (one other : Rng) : bothR one other = one.flatMap fun p => other.flatMap fun q => cut2 p q := rfl
theorem cut2_mem {p q x : Int × Option Int} (h : x ∈ cut2 p q) : x.1 = (if p.1 < q.1 then q.1 else p.1) ∧ x.2 = minH p.2 q.2 ∧ below x.1 x.2 = true := by
  unfold cut2 at h
  by_cases c : below (if p.1 < q.1 then q.1 else p.1) (minH p.2 q.2) = true
  · rw [if_pos c] at h
    rw [List.mem_singleton.mp h]
    exact ⟨rfl, rfl, c⟩
  · rw [if_neg c] at h
    cases h
theorem cut2_ok {p q x : Int × Option Int} (hp : OkS p) (hq : OkS q) (h : x ∈ cut2 p q) : OkS x := by
  obtain ⟨h1, h2, h3⟩ := cut2_mem h
  refine ⟨by rw [h1]; split; exact hq.1; exact hp.1, fun b e => ?_⟩
  rw [e] at h3
  refine ⟨?_, by simpa [below] using h3⟩
  rw [h2] at e
  cases hp2 : p.2 with
  | none =>
    rw [hp2] at e
    exact (hq.2 b e).1
  | some a =>
    cases hq2 : q.2 with
    | none =>
      rw [hp2, hq2] at e
      exact (hp.2 b (by rw [hp2]; exact e)).1
    | some c =>
      rw [hp2, hq2] at e
      have e' : (if a < c then some a else some c) = some b := e
      by_cases l : a < c
      · rw [if_pos l] at e'
        exact (hp.2 b (by rw [hp2]; exact e')).1
      · rw [if_neg l] at e'
        exact (hq.2 b (by rw [hq2]; exact e')).1
theorem cut2_in {p q : Int × Option Int} {v : Int} : (cut2 p q).any (fun x => inS x v) = (inS p v && inS q v) := by
  obtain ⟨lo, hi⟩ := p
  obtain ⟨lo2, hi2⟩ := q
  unfold cut2
  dsimp only
  generalize hz : (if lo < lo2 then lo2 else lo) = z
  have z1 : lo ≤ z ∧ lo2 ≤ z ∧ (z = lo ∨ z = lo2) := by
    rw [← hz]
    split <;> omega
  rw [Bool.eq_iff_iff]
  unfold inS
  cases hi with
  | none => cases hi2 with
    | none =>
      simp only [below, minH, if_true, List.any_cons, List.any_nil, Bool.or_false, Bool.and_true, decide_eq_true_eq, Bool.and_eq_true]
      omega
    | some b =>
      simp only [below, minH, decide_eq_true_eq]
      by_cases c : z < b
      · rw [if_pos c]
        simp only [List.any_cons, List.any_nil, Bool.or_false, Bool.and_true, decide_eq_true_eq, Bool.and_eq_true]
        omega
      · rw [if_neg c]
        simp only [List.any_nil, Bool.false_eq_true, Bool.and_true, Bool.and_eq_true, decide_eq_true_eq, false_iff]
        omega
  | some a => cases hi2 with
    | none =>
      simp only [below, minH, decide_eq_true_eq]
      by_cases c : z < a
      · rw [if_pos c]
        simp only [List.any_cons, List.any_nil, Bool.or_false, Bool.and_true, decide_eq_true_eq, Bool.and_eq_true]
        omega
      · rw [if_neg c]
        simp only [List.any_nil, Bool.false_eq_true, Bool.and_true, Bool.and_eq_true, decide_eq_true_eq, false_iff]
        omega
    | some b =>
      have hm : ∃ e, minH (some a) (some b) = some e ∧ e ≤ a ∧ e ≤ b ∧ (e = a ∨ e = b) := by
        by_cases c : a < b
        · exact ⟨a, if_pos c, by omega, by omega, .inl rfl⟩
        · exact ⟨b, if_neg c, by omega, by omega, .inr rfl⟩
      obtain ⟨e, he, h1, h2, h3⟩ := hm
      rw [he]
      simp only [below, decide_eq_true_eq]
      by_cases c : z < e
      · rw [if_pos c]
        simp only [List.any_cons, List.any_nil, Bool.or_false, decide_eq_true_eq, Bool.and_eq_true]
        omega
      · rw [if_neg c]
        simp only [List.any_nil, Bool.false_eq_true, Bool.and_eq_true, decide_eq_true_eq, false_iff]
        omega
theorem both_has (one other : Rng) (v : Int) : has (bothR one other) v = (has one v && has other v) := by
  rw [bothR_eq]
  unfold has
  rw [List.any_flatMap]
  have e : ∀ p : Int × Option Int, ((other.flatMap fun q => cut2 p q).any fun x => inS x v) = (inS p v && other.any fun q => inS q v) := fun p => by
    rw [List.any_flatMap]
    have e2 : (fun q => (cut2 p q).any fun x => inS x v) = fun q => (inS p v && inS q v) := funext fun q => cut2_in
    rw [e2]
    cases inS p v with
    | true => simp
    | false => simp
  have e3 : (fun p => (other.flatMap fun q => cut2 p q).any fun x => inS x v) = fun p => (inS p v && other.any fun q => inS q v) := funext e
  rw [e3]
  cases other.any fun q => inS q v with
  | true => simp
  | false => simp
theorem both_ok {one other : Rng} (h1 : OkR one) (h2 : OkR other) : OkR (bothR one other) := by
  rw [okR_iff] at h1 h2 ⊢
  rw [bothR_eq]
  refine ⟨fun x hx => ?_, ?_⟩
  · obtain ⟨p, hp, hx⟩ := List.mem_flatMap.mp hx
    obtain ⟨q, hq, hx⟩ := List.mem_flatMap.mp hx
    exact cut2_ok (h1.1 p hp) (h2.1 q hq) hx
  · rw [List.pairwise_flatMap]
    refine ⟨fun p hp => ?_, h1.2.imp fun {p p'} hg x hx y hy => ?_⟩
    · rw [List.pairwise_flatMap]
      refine ⟨fun q hq => ?_, h2.2.imp fun {q q'} hg x hx y hy => ?_⟩
      · unfold cut2
        by_cases c : below (if p.1 < q.1 then q.1 else p.1) (minH p.2 q.2) = true
        · rw [if_pos c]
          exact List.pairwise_singleton _ _
        · rw [if_neg c]
          exact List.Pairwise.nil
      · obtain ⟨b, e, l⟩ := hg
        obtain ⟨_, x2, _⟩ := cut2_mem hx
        obtain ⟨y1, _, _⟩ := cut2_mem hy
        rw [e] at x2
        obtain ⟨c, ec, lc⟩ := minH_r (b := b) (a := p.2)
        refine ⟨c, by rw [x2, ec], ?_⟩
        rw [y1]
        split <;> omega
    · obtain ⟨q, _, hx⟩ := List.mem_flatMap.mp hx
      obtain ⟨q', _, hy⟩ := List.mem_flatMap.mp hy
      obtain ⟨b, e, l⟩ := hg
      obtain ⟨_, x2, _⟩ := cut2_mem hx
      obtain ⟨y1, _, _⟩ := cut2_mem hy
      rw [e] at x2
      obtain ⟨c, ec, lc⟩ := minH_l (a := b) (b := q.2)
      refine ⟨c, by rw [x2, ec], ?_⟩
      rw [y1]
      split <;> omega
/-! what is outside -/
theorem out_ok0 : ∀ {r : Rng} {o : Option Int}, (∀ p ∈ r, OkS p) → r.Pairwise Gap → (∀ x, o = some x → OkV x ∧ ∀ p, r.head? = some p → x ≤ p.1) → (∀ p ∈ outR o r, OkS p) ∧ (outR o r).Pairwise Gap ∧ ∀ x, o = some x → ∀ p ∈ outR o r, x ≤ p.1
  | [], none, _, _, _ => ⟨fun _ h => (by cases h), List.Pairwise.nil, fun _ h => (by cases h)⟩
  | [], some b, _, _, ho => by
    refine ⟨fun p hp => ?_, List.pairwise_singleton _ _, fun x e p hp => ?_⟩
    · rw [List.mem_singleton.mp hp]
      exact ⟨(ho b rfl).1, fun _ h => by cases h⟩
    · cases e
      rw [List.mem_singleton.mp hp]
      exact Int.le_refl _
  | (lo, hi) :: r, o, hk, hp, ho => by
    rw [List.pairwise_cons] at hp
    have h0 := hk (lo, hi) (List.mem_cons_self ..)
    have hhi : ∀ x, hi = some x → OkV x ∧ ∀ p, r.head? = some p → x ≤ p.1 := fun x e => ⟨(h0.2 x e).1, fun p hpq => by
      obtain ⟨b, e2, l⟩ := hp.1 p (List.mem_of_mem_head? hpq)
      dsimp only at e2
      rw [e] at e2
      cases e2
      omega⟩
    obtain ⟨i1, i2, i3⟩ := out_ok0 (r := r) (o := hi) (fun p hp => hk p (List.mem_cons_of_mem _ hp)) hp.2 hhi
    have far : ∀ p ∈ outR hi r, lo < p.1 := fun p hpq => by
      cases hi with
      | none =>
        have e1 : r = [] := by
          cases r with
          | nil => rfl
          | cons x r =>
            obtain ⟨b, e, _⟩ := hp.1 x (List.mem_cons_self ..)
            cases e
        rw [e1] at hpq
        cases hpq
      | some b =>
        have := i3 b rfl p hpq
        have h3 := (h0.2 b rfl).2
        dsimp only at h3
        omega
    cases o with
    | none => exact ⟨i1, i2, fun _ h => by cases h⟩
    | some b =>
      obtain ⟨hb1, hb2⟩ := ho b rfl
      have hbl : b ≤ lo := hb2 (lo, hi) rfl
      show (∀ p ∈ (if b < lo then (b, some lo) :: outR hi r else outR hi r), OkS p) ∧ (if b < lo then (b, some lo) :: outR hi r else outR hi r).Pairwise Gap ∧ ∀ x, some b = some x → ∀ p ∈ (if b < lo then (b, some lo) :: outR hi r else outR hi r), x ≤ p.1
      by_cases c : b < lo
      · rw [if_pos c]
        refine ⟨fun p hpq => ?_, List.pairwise_cons.mpr ⟨fun q hq => ⟨lo, rfl, far q hq⟩, i2⟩, fun x e p hpq => ?_⟩
        · rcases List.mem_cons.mp hpq with e | e
          · rw [e]
            exact ⟨hb1, fun x e => by cases e; exact ⟨h0.1, c⟩⟩
          · exact i1 p e
        · cases e
          rcases List.mem_cons.mp hpq with e | e
          · rw [e]; exact Int.le_refl _
          · have := far p e; omega
      · rw [if_neg c]
        exact ⟨i1, i2, fun x e p hpq => by cases e; have := far p hpq; omega⟩
theorem out_ok {r : Rng} (h : OkR r) (h0 : OkV 0) : OkR (outR (some 0) r) := by
  rw [okR_iff] at h ⊢
  obtain ⟨i1, i2, _⟩ := out_ok0 (o := some 0) h.1 h.2 fun x e => by
    cases e
    exact ⟨h0, fun p hp => (h.1 p (List.mem_of_mem_head? hp)).1.1⟩
  exact ⟨i1, i2⟩
theorem out_rule {r : Rng} (h : OkR r) {v : Int} (v0 : 0 ≤ v) : has (outR (some 0) r) v = !has r v := by
  rw [out_has h.1 h.2 fun p hp => (h.1 p (List.mem_of_mem_head? hp)).1.1, decide_eq_true v0]
  rfl
end Dl

set_option Elab.async false
set_option linter.all false
set_option maxRecDepth 100000
set_option maxHeartbeats 4000000
/-! M5: texts cut at a separator of which the second sign is nowhere in the parts; numbers' texts. -/
namespace Dl
open PySem
open L2
open Txt
open TL
theorem free_of2 {s t : Nat} {S p rest : List Nat} (hts : t ≠ s) (h : t ∉ p) : ∀ i, i < p.length → pre (s :: t :: S) ((p ++ (s :: t :: S ++ rest)).drop i) = false := fun i hi => by
  have hlt : i + 1 < (p ++ (s :: t :: S ++ rest)).length := by
    rw [List.length_append, List.length_append, List.length_cons]
    omega
  have e : (p ++ (s :: t :: S ++ rest)).drop i = (p ++ (s :: t :: S ++ rest))[i] :: (p ++ (s :: t :: S ++ rest))[i + 1] :: (p ++ (s :: t :: S ++ rest)).drop (i + 1 + 1) := by
    rw [List.drop_eq_getElem_cons (by omega), List.drop_eq_getElem_cons hlt]
  have hne : (p ++ (s :: t :: S ++ rest))[i + 1] ≠ t := by
    by_cases c : i + 1 < p.length
    · rw [List.getElem_append_left c]
      exact fun z => h (z ▸ List.getElem_mem c)
    · have ei : i + 1 = p.length := by omega
      intro z
      have g : (p ++ (s :: t :: S ++ rest))[i + 1]? = some s := by
        rw [ei, List.getElem?_append_right (Nat.le_refl _), Nat.sub_self]
        rfl
      rw [List.getElem?_eq_getElem hlt, z] at g
      exact hts (Option.some.inj g)
  rw [e]
  unfold pre
  rw [Bool.eq_false_iff]
  intro z
  have z' := eq_of_beq z
  rw [List.length_cons, List.length_cons, List.take_succ_cons, List.take_succ_cons, List.cons.injEq, List.cons.injEq] at z'
  exact hne z'.2.1
theorem free_last2 {s t : Nat} {S p : List Nat} (h : t ∉ p) : ∀ i, i < p.length → pre (s :: t :: S) (p.drop i) = false := fun i hi => by
  rw [List.drop_eq_getElem_cons hi]
  unfold pre
  rw [Bool.eq_false_iff]
  intro z
  have z' := eq_of_beq z
  rw [List.length_cons, List.length_cons, List.take_succ_cons, List.cons.injEq] at z'
  by_cases c : i + 1 < p.length
  · rw [List.drop_eq_getElem_cons c, List.take_succ_cons, List.cons.injEq] at z'
    exact h (z'.2.1 ▸ List.getElem_mem c)
  · rw [List.drop_eq_nil_of_le (by omega)] at z'
    cases z'.2
theorem spl_join2 {s t : Nat} {S : List Nat} (hts : t ≠ s) : ∀ {parts : List (List Nat)}, parts ≠ [] → (∀ p ∈ parts, t ∉ p) → spl (s :: t :: S) 0 [] (joinL (s :: t :: S) parts) = parts
  | [], h, _ => absurd rfl h
  | [p], _, hp => by
    show spl (s :: t :: S) 0 [] p = [p]
    rw [spl_last (free_last2 (hp p (List.mem_singleton.mpr rfl))), List.nil_append]
  | p :: q :: r, _, hp => by
    show spl (s :: t :: S) 0 [] (p ++ (s :: t :: S ++ joinL (s :: t :: S) (q :: r))) = p :: q :: r
    rw [spl_part (by simp) (free_of2 hts (hp p (List.mem_cons_self ..))), List.nil_append, spl_join2 hts (by simp) fun z hz => hp z (List.mem_cons_of_mem _ hz)]
theorem split_join2 {y : Str} {s t : Nat} {S : List Nat} (hts : t ≠ s) (ey : tl y = s :: t :: S) (hk : y.cps.all (· < 256) = true) {parts : List Str} (hne : parts ≠ []) (hp : ∀ p ∈ parts, t ∉ tl p) : Txt.split (Txt.join y parts) y = parts := by
  refine map_tl_inj ?_
  rw [split_spl _ y (by rw [ey]; simp) (kind_ok hk), join_eq, tl_join, ey]
  refine spl_join2 hts (fun e => hne (List.map_eq_nil_iff.mp e)) fun p h => ?_
  obtain ⟨z, hz, rfl⟩ := List.mem_map.mp h
  exact hp z hz
end Dl

set_option Elab.async false
set_option linter.all false
set_option maxRecDepth 100000
set_option maxHeartbeats 4000000
/-! M6: the texts of whole numbers. -/
namespace Dl
open PySem
open L2
open Txt
open TL
def num (n : Nat) : Str := Str.ofString (toString ((n : Nat) : Int))
theorem num_tl (n : Nat) : tl (num n) = numL n := tl_num n
theorem num_digits {n c : Nat} (h : c ∈ tl (num n)) : 48 ≤ c ∧ c ≤ 57 := by
  rw [num_tl] at h
  exact numL_digits n c h
theorem tl_len (x : Str) : (tl x).length = x.length := by
  show x.cps.toList.length = x.cps.size
  rw [Array.length_toList]
theorem num_len {n : Nat} (h : n ≤ 1000000) : 1 ≤ (num n).length ∧ (num n).length ≤ 7 := by
  rw [← tl_len, num_tl]
  refine ⟨?_, numL_len (by decide) (by omega)⟩
  have := numL_ne n
  cases e : numL n with
  | nil => exact absurd e this
  | cons a l => rw [List.length_cons]; omega
theorem num_int {n : Nat} (h : n ≤ 1000000) : intText? (num n) = some (n : Int) := by
  refine int_num ?_
  rw [← num_tl, tl_len]
  have := (num_len h).2
  omega
theorem numL_head : ∀ (n : Nat), 0 < n → ∀ c, (numL n).head? = some c → c ≠ 48 := by
  intro n
  induction n using Nat.strongRecOn with
  | _ n ih =>
    intro h0 c hc
    by_cases h : n < 10
    · rw [numL_lt h] at hc
      cases hc
      omega
    · rw [numL_step (by omega)] at hc
      have e : (numL (n / 10) ++ [48 + n % 10]).head? = (numL (n / 10)).head? := by
        cases q : numL (n / 10) with
        | nil => exact absurd q (numL_ne _)
        | cons a l => rfl
      rw [e] at hc
      exact ih (n / 10) (by omega) (by omega) c hc
theorem num_inj {m n : Nat} (h : num m = num n) : m = n := numL_inj (by rw [← num_tl, ← num_tl, h])
theorem str_num {n : Nat} (h : n ≤ 1000000) : strCD [.int ((n : Nat) : Int)] = some (.str (num n)) := by
  show (if ((n : Nat) : Int).natAbs.log2 < 1920 then some (D.str (toString ((n : Nat) : Int))) else none) = _
  rw [if_pos]
  · rfl
  · rw [Int.natAbs_natCast]
    have : n.log2 < 20 := by
      by_cases e : n = 0
      · subst e; decide
      · exact (Nat.log2_lt e).mpr (by omega)
    omega
/-! texts compared -/
theorem eq_str {a b : Str} : relD eqP (.str a) (.str b) = some (.bl (a == b)) := rfl
theorem ne_str {a b : Str} : relD neP (.str a) (.str b) = some (.bl (!(a == b))) := rfl
theorem sign_in {c : Nat} {z : Str} : inD (.str ⟨#[c]⟩) (.str z) = some (.bl (decide (c ∈ z.cps.toList))) := by
  show some (D.bl (false != decide (c ∈ z.cps.toList))) = _
  rw [Bool.false_bne]
theorem items_str {x : Str} (h : x.length ≤ sizeLine) : strItems (.str x) = some ((tl x).map fun c => .str ⟨#[c]⟩) := by
  show (if x.length ≤ sizeLine then some (signsOf x) else none) = _
  rw [if_pos h]
  rfl
theorem len_str {x : Str} (h : x.length ≤ sizeLine) : lenD [.str x] = some (.int x.length) := by
  show (if x.length ≤ sizeLine then some (D.int x.length) else none) = _
  rw [if_pos h]
theorem ix_str0 {x : Str} {c : Nat} {l : List Nat} (h : x.length ≤ sizeLine) (e : tl x = c :: l) : ixD (.str x) (.int 0) = some (.str ⟨#[c]⟩) := by
  show (if x.length ≤ sizeLine then (atI x.cps.toList 0).map (fun c => D.str ⟨#[c]⟩) else none) = _
  rw [if_pos h]
  have e' : x.cps.toList = c :: l := e
  have : atI x.cps.toList ((0 : Nat) : Int) = some c := by
    rw [atI_natQ, e']
    rfl
  have this' : atI x.cps.toList 0 = some c := this
  rw [this']
  rfl
end Dl

set_option Elab.async false
set_option linter.all false
set_option maxRecDepth 100000
set_option maxHeartbeats 4000000
/-! M7: == of data without flags is equality. -/
namespace Dl
open PySem
open L2
open Txt
open TL
noncomputable instance decD : DecidableEq D := fun _ _ => Classical.propDecidable _
mutual
def noB : D → Bool
  | .non => true
  | .bl _ => false
  | .int _ => true
  | .str _ => true
  | .tup ds => noBL ds
  | .lst ds => noBL ds
  | .dct _ _ => false
  | .hnd => false
  | .exn _ _ _ => false
  | .ins _ _ _ => false
def noBL : List D → Bool
  | [] => true
  | d :: ds => noB d && noBL ds
end
mutual
def depD : D → Nat
  | .tup ds => depDL ds + 1
  | .lst ds => depDL ds + 1
  | .non => 0
  | .bl _ => 0
  | .int _ => 0
  | .str _ => 0
  | .dct _ _ => 0
  | .hnd => 0
  | .exn _ _ _ => 0
  | .ins _ _ _ => 0
def depDL : List D → Nat
  | [] => 0
  | d :: ds => max (depD d) (depDL ds)
end
theorem toPyL_cons {d : D} {ds : List D} : toPyL (d :: ds) = (match toPy d, toPyL ds with | some p, some ps => some (p :: ps) | _, _ => none) := rfl
mutual
theorem py_of : ∀ {d : D}, noB d = true → ∃ p, toPy d = some p
  | .non, _ => ⟨_, rfl⟩
  | .bl _, h => by cases h
  | .int _, _ => ⟨_, rfl⟩
  | .str _, _ => ⟨_, rfl⟩
  | .dct _ _, h => by cases h
  | .hnd, h => by cases h
  | .exn _ _ _, h => by cases h
  | .ins _ _ _, h => by cases h
  | .tup ds, h => by
    obtain ⟨ps, e⟩ := py_ofL (ds := ds) h
    exact ⟨.tuple ps, by show (toPyL ds).map PyData.tuple = _; rw [e]; rfl⟩
  | .lst ds, h => by
    obtain ⟨ps, e⟩ := py_ofL (ds := ds) h
    exact ⟨.list ps, by show (toPyL ds).map PyData.list = _; rw [e]; rfl⟩
theorem py_ofL : ∀ {ds : List D}, noBL ds = true → ∃ ps, toPyL ds = some ps
  | [], _ => ⟨_, rfl⟩
  | d :: ds, h => by
    have h' : (noB d && noBL ds) = true := h
    rw [Bool.and_eq_true] at h'
    obtain ⟨p, e1⟩ := py_of (d := d) h'.1
    obtain ⟨ps, e2⟩ := py_ofL (ds := ds) h'.2
    exact ⟨p :: ps, by rw [toPyL_cons, e1, e2]⟩
end
theorem toPy_tup {ds : List D} {p : PyData} (h : toPy (.tup ds) = some p) : ∃ ps, toPyL ds = some ps ∧ p = .tuple ps := by
  have h' : (toPyL ds).map PyData.tuple = some p := h
  cases e : toPyL ds with
  | none => rw [e] at h'; cases h'
  | some ps => rw [e] at h'; cases h'; exact ⟨ps, rfl, rfl⟩
theorem toPy_lst {ds : List D} {p : PyData} (h : toPy (.lst ds) = some p) : ∃ ps, toPyL ds = some ps ∧ p = .list ps := by
  have h' : (toPyL ds).map PyData.list = some p := h
  cases e : toPyL ds with
  | none => rw [e] at h'; cases h'
  | some ps => rw [e] at h'; cases h'; exact ⟨ps, rfl, rfl⟩
theorem toPy_cons {d : D} {ds : List D} {qs : List PyData} (h : toPyL (d :: ds) = some qs) : ∃ p ps, toPy d = some p ∧ toPyL ds = some ps ∧ qs = p :: ps := by
  rw [toPyL_cons] at h
  cases e : toPy d with
  | none => rw [e] at h; cases h
  | some q =>
    cases e2 : toPyL ds with
    | none => rw [e, e2] at h; cases h
    | some ps => rw [e, e2] at h; cases h; exact ⟨q, ps, rfl, rfl, rfl⟩
mutual
theorem dep_of : ∀ {d : D} {p : PyData}, toPy d = some p → p.depth = depD d
  | .non, _, h => by cases h; rfl
  | .bl _, _, h => by cases h; rfl
  | .int _, _, h => by cases h; rfl
  | .str _, _, h => by cases h; rfl
  | .hnd, _, h => by cases h
  | .exn _ _ _, _, h => by cases h
  | .ins _ _ _, _, h => by cases h
  | .dct _ _, _, h => by cases h
  | .tup ds, p, h => by
    obtain ⟨ps, e, rfl⟩ := toPy_tup h
    show PyData.depthAll ps + 1 = depDL ds + 1
    rw [dep_ofL e]
  | .lst ds, p, h => by
    obtain ⟨ps, e, rfl⟩ := toPy_lst h
    show PyData.depthAll ps + 1 = depDL ds + 1
    rw [dep_ofL e]
theorem dep_ofL : ∀ {ds : List D} {ps : List PyData}, toPyL ds = some ps → PyData.depthAll ps = depDL ds
  | [], _, h => by cases h; rfl
  | d :: ds, _, h => by
    obtain ⟨p, ps, e1, e2, rfl⟩ := toPy_cons h
    show max p.depth (PyData.depthAll ps) = max (depD d) (depDL ds)
    rw [dep_of e1, dep_ofL e2]
end
mutual
theorem plain_of : ∀ {d : D} {p : PyData}, toPy d = some p → p.plain = true
  | .non, _, h => by cases h; rfl
  | .bl _, _, h => by cases h; rfl
  | .int _, _, h => by cases h; rfl
  | .str _, _, h => by cases h; rfl
  | .hnd, _, h => by cases h
  | .exn _ _ _, _, h => by cases h
  | .ins _ _ _, _, h => by cases h
  | .dct _ _, _, h => by cases h
  | .tup ds, p, h => by
    obtain ⟨ps, e, rfl⟩ := toPy_tup h
    exact plain_ofL e
  | .lst ds, p, h => by
    obtain ⟨ps, e, rfl⟩ := toPy_lst h
    exact plain_ofL e
theorem plain_ofL : ∀ {ds : List D} {ps : List PyData}, toPyL ds = some ps → PyData.plainAll ps = true
  | [], _, h => by cases h; rfl
  | d :: ds, ps, h => by
    obtain ⟨p, ps, e1, e2, rfl⟩ := toPy_cons h
    show (p.plain && PyData.plainAll ps) = true
    rw [plain_of e1, plain_ofL e2]
    rfl
end
mutual
theorem eqv_iff : ∀ {x y : D} {a b : PyData}, toPy x = some a → toPy y = some b → noB x = true → noB y = true → (PyData.eqv a b = true ↔ x = y)
  | .non, y, a, b, ha, hb, _, hy => by
    cases ha
    cases y with
    | non => cases hb; simp [PyData.eqv]
    | bl _ => cases hy
    | int _ => cases hb; simp [PyData.eqv]
    | str _ => cases hb; simp [PyData.eqv]
    | tup es => obtain ⟨_, _, rfl⟩ := toPy_tup hb; simp [PyData.eqv]
    | lst es => obtain ⟨_, _, rfl⟩ := toPy_lst hb; simp [PyData.eqv]
    | dct _ _ => cases hy
    | hnd => cases hy
    | exn _ _ _ => cases hy
    | ins _ _ _ => cases hy
  | .bl _, _, _, _, _, _, h, _ => by cases h
  | .int _, y, a, b, ha, hb, _, hy => by
    cases ha
    cases y with
    | non => cases hb; simp [PyData.eqv]
    | bl _ => cases hy
    | int _ => cases hb; simp [PyData.eqv]
    | str _ => cases hb; simp [PyData.eqv]
    | tup es => obtain ⟨_, _, rfl⟩ := toPy_tup hb; simp [PyData.eqv]
    | lst es => obtain ⟨_, _, rfl⟩ := toPy_lst hb; simp [PyData.eqv]
    | dct _ _ => cases hy
    | hnd => cases hy
    | exn _ _ _ => cases hy
    | ins _ _ _ => cases hy
  | .str z, y, a, b, ha, hb, _, hy => by
    cases ha
    cases y with
    | non => cases hb; simp [PyData.eqv]
    | bl _ => cases hy
    | int _ => cases hb; simp [PyData.eqv]
    | str w =>
      cases hb
      show ((z == w) = true) ↔ _
      rw [beq_iff_eq, D.str.injEq]
    | tup es => obtain ⟨_, _, rfl⟩ := toPy_tup hb; simp [PyData.eqv]
    | lst es => obtain ⟨_, _, rfl⟩ := toPy_lst hb; simp [PyData.eqv]
    | dct _ _ => cases hy
    | hnd => cases hy
    | exn _ _ _ => cases hy
    | ins _ _ _ => cases hy
  | .tup ds, y, a, b, ha, hb, hx, hy => by
    obtain ⟨ps, e, rfl⟩ := toPy_tup ha
    cases y with
    | non => cases hb; simp [PyData.eqv]
    | bl _ => cases hy
    | int _ => cases hb; simp [PyData.eqv]
    | str _ => cases hb; simp [PyData.eqv]
    | tup es =>
      obtain ⟨qs, e2, rfl⟩ := toPy_tup hb
      show (PyData.eqvAll ps qs = true) ↔ _
      rw [D.tup.injEq]
      exact eqv_iffL e e2 hx hy
    | lst es => obtain ⟨_, _, rfl⟩ := toPy_lst hb; simp [PyData.eqv]
    | dct _ _ => cases hy
    | hnd => cases hy
    | exn _ _ _ => cases hy
    | ins _ _ _ => cases hy
  | .lst ds, y, a, b, ha, hb, hx, hy => by
    obtain ⟨ps, e, rfl⟩ := toPy_lst ha
    cases y with
    | non => cases hb; simp [PyData.eqv]
    | bl _ => cases hy
    | int _ => cases hb; simp [PyData.eqv]
    | str _ => cases hb; simp [PyData.eqv]
    | tup es => obtain ⟨_, _, rfl⟩ := toPy_tup hb; simp [PyData.eqv]
    | lst es =>
      obtain ⟨qs, e2, rfl⟩ := toPy_lst hb
      show (PyData.eqvAll ps qs = true) ↔ _
      rw [D.lst.injEq]
      exact eqv_iffL e e2 hx hy
    | dct _ _ => cases hy
    | hnd => cases hy
    | exn _ _ _ => cases hy
    | ins _ _ _ => cases hy
  | .dct _ _, _, _, _, h, _, _, _ => by cases h
  | .hnd, _, _, _, h, _, _, _ => by cases h
  | .exn _ _ _, _, _, _, h, _, _, _ => by cases h
  | .ins _ _ _, _, _, _, h, _, _, _ => by cases h
theorem eqv_iffL : ∀ {xs ys : List D} {as bs : List PyData}, toPyL xs = some as → toPyL ys = some bs → noBL xs = true → noBL ys = true → (PyData.eqvAll as bs = true ↔ xs = ys)
  | [], ys, as, bs, ha, hb, _, _ => by
    cases ha
    cases ys with
    | nil => cases hb; simp [PyData.eqvAll]
    | cons y ys =>
      obtain ⟨p, ps, _, _, rfl⟩ := toPy_cons hb
      simp [PyData.eqvAll]
  | x :: xs, ys, as, bs, ha, hb, hx, hy => by
    obtain ⟨p, ps, e1, e2, rfl⟩ := toPy_cons ha
    cases ys with
    | nil => cases hb; simp [PyData.eqvAll]
    | cons y ys =>
      obtain ⟨q, qs, f1, f2, rfl⟩ := toPy_cons hb
      have hx' : (noB x && noBL xs) = true := hx
      have hy' : (noB y && noBL ys) = true := hy
      rw [Bool.and_eq_true] at hx' hy'
      show ((PyData.eqv p q && PyData.eqvAll ps qs) = true) ↔ _
      rw [Bool.and_eq_true, eqv_iff e1 f1 hx'.1 hy'.1, eqv_iffL e2 f2 hx'.2 hy'.2, List.cons.injEq]
end
theorem relD_eq {x y : D} (hx : noB x = true) (hy : noB y = true) (hd : depD x ≤ 64 ∨ depD y ≤ 64) : relD eqP x y = some (.bl (decide (x = y))) := by
  obtain ⟨a, ea⟩ := py_of hx
  obtain ⟨b, eb⟩ := py_of hy
  unfold relD
  rw [ea, eb]
  show (eqP a b).map D.bl = _
  unfold eqP
  rw [if_pos ⟨plain_of ea, plain_of eb, by rw [dep_of ea, dep_of eb]; omega⟩]
  show some (D.bl (PyData.eqv a b)) = _
  congr 2
  rw [Bool.eq_iff_iff, decide_eq_true_eq]
  exact eqv_iff ea eb hx hy
theorem relD_ne {x y : D} (hx : noB x = true) (hy : noB y = true) (hd : depD x ≤ 64 ∨ depD y ≤ 64) : relD neP x y = some (.bl (!decide (x = y))) := by
  obtain ⟨a, ea⟩ := py_of hx
  obtain ⟨b, eb⟩ := py_of hy
  unfold relD
  rw [ea, eb]
  show (neP a b).map D.bl = _
  unfold neP
  rw [if_pos ⟨plain_of ea, plain_of eb, by rw [dep_of ea, dep_of eb]; omega⟩]
  show some (D.bl (!PyData.eqv a b)) = _
  congr 3
  rw [Bool.eq_iff_iff, decide_eq_true_eq]
  exact eqv_iff ea eb hx hy
theorem noBL_map {α : Type} {f : α → D} (h : ∀ a, noB (f a) = true) : ∀ l : List α, noBL (l.map f) = true
  | [] => rfl
  | a :: l => by
    show (noB (f a) && noBL (l.map f)) = true
    rw [h a, noBL_map h l]
    rfl
theorem depDL_map {α : Type} {f : α → D} {k : Nat} (h : ∀ a, depD (f a) ≤ k) : ∀ l : List α, depDL (l.map f) ≤ k
  | [] => Nat.zero_le _
  | a :: l => Nat.max_le.mpr ⟨h a, depDL_map h l⟩
theorem comp_map {S : Type} {α : Type} {g : D → DE → Option DE} {e : ME S} {env : DE} {s : S} {f k : α → D} : ∀ l : List α, (∀ a ∈ l, ∃ env1, g (f a) env = some env1 ∧ e env1 s = some (k a, s)) → compL g mYes e env (l.map f) s = some (l.map k, s)
  | [], _ => rfl
  | a :: l, h => by
    obtain ⟨env1, e1, e2⟩ := h a (List.mem_cons_self ..)
    have ih := comp_map (S := S) (g := g) (e := e) (env := env) (s := s) (f := f) (k := k) l fun x hx => h x (List.mem_cons_of_mem _ hx)
    rw [List.map_cons, List.map_cons]
    unfold compL
    have hy : mYes env1 s = some (true, s) := rfl
    simp only [e1, Option.bind_some, hy, if_true, e2, ih, Option.map_some]
end Dl

set_option Elab.async false
set_option linter.all false
set_option maxRecDepth 100000
set_option maxHeartbeats 4000000
namespace K41
open PySem
open L2
open Dl
def top (i : Nat) : Stmt := PySem.Challenge.pw_lockwright_k41_whole_locks_there_and_bac.main.body.getD i (.Pass ⟨0, 0, 0, 0⟩)
abbrev s_is_integer : Stmt := top 8
abbrev s_is_within : Stmt := top 9
abbrev s_is_name : Stmt := top 10
abbrev s_is_rising : Stmt := top 11
abbrev s_is_lot_of_names : Stmt := top 12
abbrev s_number_told : Stmt := top 13
abbrev s_is_version : Stmt := top 16
abbrev s_is_stretch : Stmt := top 17
abbrev s_is_range : Stmt := top 18
abbrev s_version_text : Stmt := top 19
abbrev s_version_told : Stmt := top 20
abbrev s_check_of : Stmt := top 24
abbrev s_triple_text : Stmt := top 25
abbrev s_lock_text : Stmt := top 26
abbrev s_triple_told : Stmt := top 27
abbrev s_read_lock : Stmt := top 28
abbrev s_ended : Stmt := top 29
abbrev s_locks_of : Stmt := top 30
abbrev s_is_wish : Stmt := top 35
abbrev s_are_locks : Stmt := top 36
abbrev s__law_hand : Stmt := top 39
abbrev s__law_draw : Stmt := top 40
abbrev s__law_any : Stmt := top 41
abbrev s__law_name : Stmt := top 42
abbrev s__law_installation : Stmt := top 43
abbrev s__law_check : Stmt := top 44
abbrev s__law_line : Stmt := top 45
abbrev s__law_text : Stmt := top 46
abbrev s__law_is_triple : Stmt := top 47
abbrev s__law_is_right : Stmt := top 48
abbrev s__law_unlike : Stmt := top 49
abbrev s_law : Stmt := top 50
def d_is_integer : He.DefD := ⟨("is_integer", none), "is_integer", "is_integer", defArgs s_is_integer, defBody s_is_integer, defScope s_is_integer, [], []⟩
def d_is_within : He.DefD := ⟨("is_within", none), "is_within", "is_within", defArgs s_is_within, defBody s_is_within, defScope s_is_within, [], []⟩
def d_is_name : He.DefD := ⟨("is_name", none), "is_name", "is_name", defArgs s_is_name, defBody s_is_name, defScope s_is_name, [], []⟩
def d_is_rising : He.DefD := ⟨("is_rising", none), "is_rising", "is_rising", defArgs s_is_rising, defBody s_is_rising, defScope s_is_rising, [], []⟩
def d_is_lot_of_names : He.DefD := ⟨("is_lot_of_names", none), "is_lot_of_names", "is_lot_of_names", defArgs s_is_lot_of_names, defBody s_is_lot_of_names, defScope s_is_lot_of_names, [], []⟩
def d_number_told : He.DefD := ⟨("number_told", none), "number_told", "number_told", defArgs s_number_told, defBody s_number_told, defScope s_number_told, [], []⟩
def d_is_version : He.DefD := ⟨("is_version", none), "is_version", "is_version", defArgs s_is_version, defBody s_is_version, defScope s_is_version, [], []⟩
def d_is_stretch : He.DefD := ⟨("is_stretch", none), "is_stretch", "is_stretch", defArgs s_is_stretch, defBody s_is_stretch, defScope s_is_stretch, [], []⟩
def d_is_range : He.DefD := ⟨("is_range", none), "is_range", "is_range", defArgs s_is_range, defBody s_is_range, defScope s_is_range, [], []⟩
def d_version_text : He.DefD := ⟨("version_text", none), "version_text", "version_text", defArgs s_version_text, defBody s_version_text, defScope s_version_text, [], []⟩
def d_version_told : He.DefD := ⟨("version_told", none), "version_told", "version_told", defArgs s_version_told, defBody s_version_told, defScope s_version_told, [], []⟩
def d_check_of : He.DefD := ⟨("check_of", none), "check_of", "check_of", defArgs s_check_of, defBody s_check_of, defScope s_check_of, [], []⟩
def d_triple_text : He.DefD := ⟨("triple_text", none), "triple_text", "triple_text", defArgs s_triple_text, defBody s_triple_text, defScope s_triple_text, [], []⟩
def d_lock_text : He.DefD := ⟨("lock_text", none), "lock_text", "lock_text", defArgs s_lock_text, defBody s_lock_text, defScope s_lock_text, [], []⟩
def d_triple_told : He.DefD := ⟨("triple_told", none), "triple_told", "triple_told", defArgs s_triple_told, defBody s_triple_told, defScope s_triple_told, [], []⟩
def d_read_lock : He.DefD := ⟨("read_lock", none), "read_lock", "read_lock", defArgs s_read_lock, defBody s_read_lock, defScope s_read_lock, [], []⟩
def d_ended : He.DefD := ⟨("ended", none), "ended", "ended", defArgs s_ended, defBody s_ended, defScope s_ended, [], []⟩
def d_locks_of : He.DefD := ⟨("locks_of", none), "locks_of", "locks_of", defArgs s_locks_of, defBody s_locks_of, defScope s_locks_of, [], []⟩
def d_is_wish : He.DefD := ⟨("is_wish", none), "is_wish", "is_wish", defArgs s_is_wish, defBody s_is_wish, defScope s_is_wish, [], []⟩
def d_are_locks : He.DefD := ⟨("are_locks", none), "are_locks", "are_locks", defArgs s_are_locks, defBody s_are_locks, defScope s_are_locks, [], []⟩
def d__law_hand : He.DefD := ⟨("_law_hand", none), "_law_hand", "_law_hand", defArgs s__law_hand, defBody s__law_hand, defScope s__law_hand, [], []⟩
def d__law_draw : He.DefD := ⟨("_law_draw", none), "_law_draw", "_law_draw", defArgs s__law_draw, defBody s__law_draw, defScope s__law_draw, [], []⟩
def d__law_any : He.DefD := ⟨("_law_any", none), "_law_any", "_law_any", defArgs s__law_any, defBody s__law_any, defScope s__law_any, [], []⟩
def d__law_name : He.DefD := ⟨("_law_name", none), "_law_name", "_law_name", defArgs s__law_name, defBody s__law_name, defScope s__law_name, [], []⟩
def d__law_installation : He.DefD := ⟨("_law_installation", none), "_law_installation", "_law_installation", defArgs s__law_installation, defBody s__law_installation, defScope s__law_installation, [], []⟩
def d__law_check : He.DefD := ⟨("_law_check", none), "_law_check", "_law_check", defArgs s__law_check, defBody s__law_check, defScope s__law_check, [], []⟩
def d__law_line : He.DefD := ⟨("_law_line", none), "_law_line", "_law_line", defArgs s__law_line, defBody s__law_line, defScope s__law_line, [], []⟩
def d__law_text : He.DefD := ⟨("_law_text", none), "_law_text", "_law_text", defArgs s__law_text, defBody s__law_text, defScope s__law_text, [], []⟩
def d__law_is_triple : He.DefD := ⟨("_law_is_triple", none), "_law_is_triple", "_law_is_triple", defArgs s__law_is_triple, defBody s__law_is_triple, defScope s__law_is_triple, [], []⟩
def d__law_is_right : He.DefD := ⟨("_law_is_right", none), "_law_is_right", "_law_is_right", defArgs s__law_is_right, defBody s__law_is_right, defScope s__law_is_right, [], []⟩
def d__law_unlike : He.DefD := ⟨("_law_unlike", none), "_law_unlike", "_law_unlike", defArgs s__law_unlike, defBody s__law_unlike, defScope s__law_unlike, [], []⟩
def d_law : He.DefD := ⟨("law", none), "law", "law", defArgs s_law, defBody s_law, defScope s_law, [], []⟩
abbrev i_Question : Stmt := (clsBody (top 37)).getD 0 (.Pass ⟨0, 0, 0, 0⟩)
def d_Question : He.DefD := ⟨("Question", some "__init__"), "__init__", "Question.__init__", defArgs i_Question, defBody i_Question, defScope i_Question, [], []⟩
def fns : List He.DefD := [d_is_integer, d_is_within, d_is_name, d_is_rising, d_is_lot_of_names, d_number_told, d_is_version, d_is_stretch, d_is_range, d_version_text, d_version_told, d_check_of, d_triple_text, d_lock_text, d_triple_told, d_read_lock, d_ended, d_locks_of, d_is_wish, d_are_locks, d__law_hand, d__law_draw, d__law_any, d__law_name, d__law_installation, d__law_check, d__law_line, d__law_text, d__law_is_triple, d__law_is_right, d__law_unlike, d_law, d_Question]
def gs : List Str := ("is_integer" : Str) :: ("is_within" : Str) :: ("is_name" : Str) :: ("is_rising" : Str) :: ("is_lot_of_names" : Str) :: ("number_told" : Str) :: ("is_version" : Str) :: ("is_stretch" : Str) :: ("is_range" : Str) :: ("version_text" : Str) :: ("version_told" : Str) :: ("check_of" : Str) :: ("triple_text" : Str) :: ("lock_text" : Str) :: ("triple_told" : Str) :: ("read_lock" : Str) :: ("ended" : Str) :: ("locks_of" : Str) :: ("is_wish" : Str) :: ("are_locks" : Str) :: ("_law_hand" : Str) :: ("_law_draw" : Str) :: ("_law_any" : Str) :: ("_law_name" : Str) :: ("_law_installation" : Str) :: ("_law_check" : Str) :: ("_law_line" : Str) :: ("_law_text" : Str) :: ("_law_is_triple" : Str) :: ("_law_is_right" : Str) :: ("_law_unlike" : Str) :: ("law" : Str) :: ("LockError" : Str) :: ("BadLine" : Str) :: ("BadQuestion" : Str) :: ("Question" : Str) :: []
def fr : List Str := ["abs", "all", "bool", "enumerate", "int", "isinstance", "len", "ord", "range", "set", "sorted", "str", "sum", "tuple", "ValueError", "super"]
def is : List (Str × Int) := [("MOST_SIGNS", 12), ("GREATEST", 1000000), ("BY", 99991), ("MOST_WANTED", 4), ("MOST_WISHES", 8), ("MOST_LOCKS", 40)]
def ss : List (Str × Str) := [("SMALL", "abcdefghijklmnopqrstuvwxyz"), ("FIGURES", "0123456789"), ("CHECK", "check ")]
def ts : List (Str × D) := []
abbrev i_BadLine : Stmt := (clsBody (top 2)).getD 0 (.Pass ⟨0, 0, 0, 0⟩)
def e_BadLine : ErrD := ⟨"BadLine", "number", "BadLine.__init__", defArgs i_BadLine, defBody i_BadLine, defScope i_BadLine⟩
abbrev i_BadQuestion : Stmt := (clsBody (top 3)).getD 0 (.Pass ⟨0, 0, 0, 0⟩)
def e_BadQuestion : ErrD := ⟨"BadQuestion", "part", "BadQuestion.__init__", defArgs i_BadQuestion, defBody i_BadQuestion, defScope i_BadQuestion⟩
def errs : List ErrD := [e_BadLine, e_BadQuestion]
def errsL : List (Str × Str) := [("BadLine", "number"), ("BadQuestion", "part")]
theorem side_BadLine : ErrSide e_BadLine := ⟨⟨rfl, rfl, rfl, rfl, by decide, by decide, by decide, fun _ _ _ _ _ _ _ _ _ _ _ _ => by first | rfl | with_unfolding_all rfl⟩, ⟨_, _, rfl⟩, ⟨_, _, _, _, _, _, _, _, _, _, rfl, rfl⟩, rfl⟩
theorem side_BadQuestion : ErrSide e_BadQuestion := ⟨⟨rfl, rfl, rfl, rfl, by decide, by decide, by decide, fun _ _ _ _ _ _ _ _ _ _ _ _ => by first | rfl | with_unfolding_all rfl⟩, ⟨_, _, rfl⟩, ⟨_, _, _, _, _, _, _, _, _, _, rfl, rfl⟩, rfl⟩
theorem errs_side : ∀ d ∈ errs, ErrSide d := fun d hd => by
  unfold errs at hd
  simp only [List.mem_cons, List.not_mem_nil, or_false] at hd
  rcases hd with e | e
  · rw [e]; exact side_BadLine
  · rw [e]; exact side_BadQuestion
def exms : List (Str × Str × Bool) := []
def kits : List (Str × Str × Bool) := []
def kitb : List (Str × String × Bool) := []
abbrev Txt (K : PySem.W.Frag) (mg : Str → Option Value) : Prop := TxE fns gs fr is ss ts "/claim/cut.py" errs exms kits kitb K mg
def fxs : List He.Fa := clsFx "Question" [("wishes" : Str), ("locks" : Str)] ++ ([])
theorem fx_Question {K : PySem.W.Frag} (I : ∀ q ∈ fxs, q.ok K = true) : ∀ q ∈ clsFx "Question" [("wishes" : Str), ("locks" : Str)], q.ok K = true := fun q hq => I q (List.mem_append_left _ hq)
def fldsI : List (Str × Str) := [("Question", "wishes"), ("Question", "locks")]
theorem flds_i {K : PySem.W.Frag} (I : ∀ q ∈ fxs, q.ok K = true) : ∀ q ∈ fldsI, Cls K (He.ga K q.1) ∧ NoAttr K (He.ga K q.1) q.2 := fun q hq => by
  unfold fldsI at hq
  simp only [List.mem_cons, List.not_mem_nil, or_false] at hq
  rcases hq with e | e
  · subst e; exact ⟨He.cls_ok (fx_Question I _ (List.mem_cons_self ..)), He.noat_ok (fx_Question I _ (List.mem_cons_of_mem _ (List.mem_cons_of_mem _ (List.mem_map_of_mem (List.Mem.head _)))))⟩
  · subst e; exact ⟨He.cls_ok (fx_Question I _ (List.mem_cons_self ..)), He.noat_ok (fx_Question I _ (List.mem_cons_of_mem _ (List.mem_cons_of_mem _ (List.mem_map_of_mem (List.Mem.tail _ (List.Mem.head _))))))⟩
section
variable {K : PySem.W.Frag} {mg : Str → Option Value}
theorem u_abs (T : Txt K mg) : mg "abs" = none := T.tx.free _ (List.Mem.head _)
theorem u_all (T : Txt K mg) : mg "all" = none := T.tx.free _ (List.Mem.tail _ (List.Mem.head _))
theorem u_bool (T : Txt K mg) : mg "bool" = none := T.tx.free _ (List.Mem.tail _ (List.Mem.tail _ (List.Mem.head _)))
theorem u_enumerate (T : Txt K mg) : mg "enumerate" = none := T.tx.free _ (List.Mem.tail _ (List.Mem.tail _ (List.Mem.tail _ (List.Mem.head _))))
theorem u_int (T : Txt K mg) : mg "int" = none := T.tx.free _ (List.Mem.tail _ (List.Mem.tail _ (List.Mem.tail _ (List.Mem.tail _ (List.Mem.head _)))))
theorem u_isinstance (T : Txt K mg) : mg "isinstance" = none := T.tx.free _ (List.Mem.tail _ (List.Mem.tail _ (List.Mem.tail _ (List.Mem.tail _ (List.Mem.tail _ (List.Mem.head _))))))
theorem u_len (T : Txt K mg) : mg "len" = none := T.tx.free _ (List.Mem.tail _ (List.Mem.tail _ (List.Mem.tail _ (List.Mem.tail _ (List.Mem.tail _ (List.Mem.tail _ (List.Mem.head _)))))))
theorem u_ord (T : Txt K mg) : mg "ord" = none := T.tx.free _ (List.Mem.tail _ (List.Mem.tail _ (List.Mem.tail _ (List.Mem.tail _ (List.Mem.tail _ (List.Mem.tail _ (List.Mem.tail _ (List.Mem.head _))))))))
theorem u_range (T : Txt K mg) : mg "range" = none := T.tx.free _ (List.Mem.tail _ (List.Mem.tail _ (List.Mem.tail _ (List.Mem.tail _ (List.Mem.tail _ (List.Mem.tail _ (List.Mem.tail _ (List.Mem.tail _ (List.Mem.head _)))))))))
theorem u_set (T : Txt K mg) : mg "set" = none := T.tx.free _ (List.Mem.tail _ (List.Mem.tail _ (List.Mem.tail _ (List.Mem.tail _ (List.Mem.tail _ (List.Mem.tail _ (List.Mem.tail _ (List.Mem.tail _ (List.Mem.tail _ (List.Mem.head _))))))))))
theorem u_sorted (T : Txt K mg) : mg "sorted" = none := T.tx.free _ (List.Mem.tail _ (List.Mem.tail _ (List.Mem.tail _ (List.Mem.tail _ (List.Mem.tail _ (List.Mem.tail _ (List.Mem.tail _ (List.Mem.tail _ (List.Mem.tail _ (List.Mem.tail _ (List.Mem.head _)))))))))))
theorem u_str (T : Txt K mg) : mg "str" = none := T.tx.free _ (List.Mem.tail _ (List.Mem.tail _ (List.Mem.tail _ (List.Mem.tail _ (List.Mem.tail _ (List.Mem.tail _ (List.Mem.tail _ (List.Mem.tail _ (List.Mem.tail _ (List.Mem.tail _ (List.Mem.tail _ (List.Mem.head _))))))))))))
theorem u_sum (T : Txt K mg) : mg "sum" = none := T.tx.free _ (List.Mem.tail _ (List.Mem.tail _ (List.Mem.tail _ (List.Mem.tail _ (List.Mem.tail _ (List.Mem.tail _ (List.Mem.tail _ (List.Mem.tail _ (List.Mem.tail _ (List.Mem.tail _ (List.Mem.tail _ (List.Mem.tail _ (List.Mem.head _)))))))))))))
theorem u_tuple (T : Txt K mg) : mg "tuple" = none := T.tx.free _ (List.Mem.tail _ (List.Mem.tail _ (List.Mem.tail _ (List.Mem.tail _ (List.Mem.tail _ (List.Mem.tail _ (List.Mem.tail _ (List.Mem.tail _ (List.Mem.tail _ (List.Mem.tail _ (List.Mem.tail _ (List.Mem.tail _ (List.Mem.tail _ (List.Mem.head _))))))))))))))
theorem u_ValueError (T : Txt K mg) : mg "ValueError" = none := T.tx.free _ (List.Mem.tail _ (List.Mem.tail _ (List.Mem.tail _ (List.Mem.tail _ (List.Mem.tail _ (List.Mem.tail _ (List.Mem.tail _ (List.Mem.tail _ (List.Mem.tail _ (List.Mem.tail _ (List.Mem.tail _ (List.Mem.tail _ (List.Mem.tail _ (List.Mem.tail _ (List.Mem.head _)))))))))))))))
theorem u_super (T : Txt K mg) : mg "super" = none := T.tx.free _ (List.Mem.tail _ (List.Mem.tail _ (List.Mem.tail _ (List.Mem.tail _ (List.Mem.tail _ (List.Mem.tail _ (List.Mem.tail _ (List.Mem.tail _ (List.Mem.tail _ (List.Mem.tail _ (List.Mem.tail _ (List.Mem.tail _ (List.Mem.tail _ (List.Mem.tail _ (List.Mem.tail _ (List.Mem.head _))))))))))))))))
theorem g_MOST_SIGNS (T : Txt K mg) : ∃ t, mg "MOST_SIGNS" = some (.int 12 t) := T.tx.gint ("MOST_SIGNS", 12) (List.Mem.head _)
theorem g_GREATEST (T : Txt K mg) : ∃ t, mg "GREATEST" = some (.int 1000000 t) := T.tx.gint ("GREATEST", 1000000) (List.Mem.tail _ (List.Mem.head _))
theorem g_BY (T : Txt K mg) : ∃ t, mg "BY" = some (.int 99991 t) := T.tx.gint ("BY", 99991) (List.Mem.tail _ (List.Mem.tail _ (List.Mem.head _)))
theorem g_MOST_WANTED (T : Txt K mg) : ∃ t, mg "MOST_WANTED" = some (.int 4 t) := T.tx.gint ("MOST_WANTED", 4) (List.Mem.tail _ (List.Mem.tail _ (List.Mem.tail _ (List.Mem.head _))))
theorem g_MOST_WISHES (T : Txt K mg) : ∃ t, mg "MOST_WISHES" = some (.int 8 t) := T.tx.gint ("MOST_WISHES", 8) (List.Mem.tail _ (List.Mem.tail _ (List.Mem.tail _ (List.Mem.tail _ (List.Mem.head _)))))
theorem g_MOST_LOCKS (T : Txt K mg) : ∃ t, mg "MOST_LOCKS" = some (.int 40 t) := T.tx.gint ("MOST_LOCKS", 40) (List.Mem.tail _ (List.Mem.tail _ (List.Mem.tail _ (List.Mem.tail _ (List.Mem.tail _ (List.Mem.head _))))))
theorem g_SMALL (T : Txt K mg) : ∃ t, mg "SMALL" = some (.str "abcdefghijklmnopqrstuvwxyz" t) := T.tx.gstr ("SMALL", "abcdefghijklmnopqrstuvwxyz") (List.Mem.head _)
theorem g_FIGURES (T : Txt K mg) : ∃ t, mg "FIGURES" = some (.str "0123456789" t) := T.tx.gstr ("FIGURES", "0123456789") (List.Mem.tail _ (List.Mem.head _))
theorem g_CHECK (T : Txt K mg) : ∃ t, mg "CHECK" = some (.str "check " t) := T.tx.gstr ("CHECK", "check ") (List.Mem.tail _ (List.Mem.tail _ (List.Mem.head _)))
theorem errs_fld (T : Txt K mg) : ∀ q ∈ errsL, XfC K (He.ga K q.1) ∧ PySem.W.findIn K (.ref (He.ga K q.1)) q.2 = some none := fun q hq => by
  have e : errsL = errs.map fun d => (d.x, d.f) := rfl
  rw [e] at hq
  obtain ⟨d, hd, ed⟩ := List.mem_map.mp hq
  subst ed
  exact ⟨(T.err d hd).2.1, (T.err d hd).1.noN⟩

end
section
variable {P : Program} {w : World} {K : PySem.W.Frag} {mg : Str → Option Value} {base : Heap} {p c a : Addr} {bp : Prop} {S : Type} {B : Amb S}
theorem sc_is_integer : FnScope ["thing"] ["thing"] (defScope s_is_integer) := ⟨rfl, rfl, rfl, by decide +kernel, rfl, by decide +kernel, by decide +kernel⟩
def f_is_integer : List D → S → Option (D × S) := mDef 1 (sRet (mAnd (mU (isiD .tInt) (mVar 0)) (mNot (mU (isiD .tBool) (mVar 0)))))
theorem ok_is_integer (T : Txt K mg) (Z : PySem.Er.Pg P "/claim/cut.py") (I : ∀ q ∈ fxs, q.ok K = true) : DOk P w K mg base (B) "is_integer" 1 ["thing"] f_is_integer := by
  obtain ⟨fd, Fn⟩ := T.tx.fns d_is_integer (List.Mem.head _)
  exact d_defD Fn (T.tx.glo _ (List.Mem.head _)) sc_is_integer (fun _ _ _ _ _ _ us hl => match us, hl with | [_], _ => rfl) (fun cdv A outer s H E hr => (s_one (s_ret (d_and (d_isi (u_isinstance T) (d_var (pv 0)) (pe_ty .tInt (u_int T) (by decide +kernel))) (d_one (d_not (d_isi (u_isinstance T) (d_var (pv 0)) (pe_ty .tBool (u_bool T) (by decide +kernel)))))))))
theorem sc_is_within : FnScope ["thing", "least", "most"] ["thing", "least", "most"] (defScope s_is_within) := ⟨rfl, rfl, rfl, by decide +kernel, rfl, by decide +kernel, by decide +kernel⟩
def f_is_within : List D → S → Option (D × S) := mDef 3 (sRet (mAnd (mCall f_is_integer (mCons (mVar 0) mNil)) (mChain (relD leP) (relD leP) (mVar 1) (mVar 0) (mVar 2))))
theorem ok_is_within (T : Txt K mg) (Z : PySem.Er.Pg P "/claim/cut.py") (I : ∀ q ∈ fxs, q.ok K = true) : DOk P w K mg base (B) "is_within" 2 ["thing", "least", "most"] f_is_within := by
  obtain ⟨fd, Fn⟩ := T.tx.fns d_is_within (List.Mem.tail _ (List.Mem.head _))
  exact d_defD Fn (T.tx.glo _ (List.Mem.tail _ (List.Mem.head _))) sc_is_within (fun _ _ _ _ _ _ us hl => match us, hl with | [_, _, _], _ => rfl) (fun cdv A outer s H E hr => (s_one (s_ret (d_and (d_callO (ok_is_integer T Z I) hr (l_cons (d_var (pv 0)) l_nil) (hl := (len_cons len_nil))) (d_one (d_chain (op_leP hr.units) (relD_ok _) (op_leP hr.units) (relD_ok _) (d_var (pv 1)) (d_var (pv 0)) (d_var (pv 2))))))))
theorem sc_is_name : FnScope ["thing", "sign"] ["thing"] (defScope s_is_name) := ⟨rfl, rfl, rfl, by decide +kernel, rfl, by decide +kernel, by decide +kernel⟩
def c_is_name_0 : ME (S) := (mB inD (mVar 1) (mC (.str "abcdefghijklmnopqrstuvwxyz")))
theorem c_is_name_0_eq (env : DE) (s : S) : c_is_name_0 env s = (mB inD (mVar 1) (mC (.str "abcdefghijklmnopqrstuvwxyz"))) env s := rfl
def f_is_name : List D → S → Option (D × S) := mDef 2 (sRet (mAnd (mU (isiD .tStr) (mVar 0)) (mAnd (mChain (relD leP) (relD leP) (mC (.int 1)) (mF lenD (mCons (mVar 0) mNil)) (mC (.int 12))) (mF allD (mCons (mComp (mIt strItems (mVar 0)) (gdName 1) mYes c_is_name_0 [1]) mNil)))))
theorem ok_is_name (T : Txt K mg) (Z : PySem.Er.Pg P "/claim/cut.py") (I : ∀ q ∈ fxs, q.ok K = true) : DOk P w K mg base (B) "is_name" 1 ["thing"] f_is_name := by
  obtain ⟨fd, Fn⟩ := T.tx.fns d_is_name (List.Mem.tail _ (List.Mem.tail _ (List.Mem.head _)))
  exact d_defD Fn (T.tx.glo _ (List.Mem.tail _ (List.Mem.tail _ (List.Mem.head _)))) sc_is_name (fun _ _ _ _ _ _ us hl => match us, hl with | [_], _ => rfl) (fun cdv A outer s H E hr => (s_one (s_ret (d_and (d_isi (u_isinstance T) (d_var (pv 0)) (pe_ty .tStr (u_str T) (by decide +kernel))) (d_and (d_chain (op_leP hr.units) (relD_ok _) (op_leP hr.units) (relD_ok _) d_int (d_callB call_len lenD_ok (u_len T) (by decide +kernel) (l_cons (d_var (pv 0)) l_nil)) (d_gint (g_MOST_SIGNS T))) (d_one (d_callB (cr_all rfl) allD_ok (u_all T) (by decide +kernel) (l_cons (d_lc rfl sc_is_name.nd (i_str (d_var (pv 0))) (blkOk_by (own := [("sign", 1)]) (by kernel_rfl)) (fun _ _ _ _ _ => (pg_name (i := 1) sc_is_name.nd rfl (by first | exact Or.inl rfl | exact Or.inr rfl))) (g_name 1) (fun _ _ _ _ _ => dts_nil) (fun _ _ _ _ _ => (d_cmp (op_inA hr.units) inD_ok (d_var (pv 1)) (d_gstr (g_SMALL T))))) l_nil))))))))
theorem sc_is_rising : FnScope ["things", "at"] ["things"] (defScope s_is_rising) := ⟨rfl, rfl, rfl, by decide +kernel, rfl, by decide +kernel, by decide +kernel⟩
def c_is_rising_0 : ME (S) := (mB (relD ltP) (mB ixD (mVar 0) (mVar 1)) (mB ixD (mVar 0) (mB addD (mVar 1) (mC (.int 1)))))
theorem c_is_rising_0_eq (env : DE) (s : S) : c_is_rising_0 env s = (mB (relD ltP) (mB ixD (mVar 0) (mVar 1)) (mB ixD (mVar 0) (mB addD (mVar 1) (mC (.int 1))))) env s := rfl
def f_is_rising : List D → S → Option (D × S) := mDef 2 (sRet (mF allD (mCons (mComp (mRng rng1D (mCons (mB subD (mF lenD (mCons (mVar 0) mNil)) (mC (.int 1))) mNil)) (gdName 1) mYes c_is_rising_0 [1]) mNil)))
theorem ok_is_rising (T : Txt K mg) (Z : PySem.Er.Pg P "/claim/cut.py") (I : ∀ q ∈ fxs, q.ok K = true) : DOk P w K mg base (B) "is_rising" 1 ["things"] f_is_rising := by
  obtain ⟨fd, Fn⟩ := T.tx.fns d_is_rising (List.Mem.tail _ (List.Mem.tail _ (List.Mem.tail _ (List.Mem.head _))))
  exact d_defD Fn (T.tx.glo _ (List.Mem.tail _ (List.Mem.tail _ (List.Mem.tail _ (List.Mem.head _))))) sc_is_rising (fun _ _ _ _ _ _ us hl => match us, hl with | [_], _ => rfl) (fun cdv A outer s H E hr => (s_one (s_ret (d_callB (cr_all rfl) allD_ok (u_all T) (by decide +kernel) (l_cons (d_lc rfl sc_is_rising.nd (i_rng1 (u_range T) (l_cons (d_op op_subA subD_ok (d_callB call_len lenD_ok (u_len T) (by decide +kernel) (l_cons (d_var (pv 0)) l_nil)) d_int) l_nil)) (blkOk_by (own := [("at", 1)]) (by kernel_rfl)) (fun _ _ _ _ _ => (pg_name (i := 1) sc_is_rising.nd rfl (by first | exact Or.inl rfl | exact Or.inr rfl))) (g_name 1) (fun _ _ _ _ _ => dts_nil) (fun _ _ _ _ _ => (d_cmp (op_ltP hr.units) (relD_ok _) (d_ix ix_seq ixD_ok (d_var (pv 0)) (d_var (pv 1))) (d_ix ix_seq ixD_ok (d_var (pv 0)) (d_op op_addA addD_ok (d_var (pv 1)) d_int))))) l_nil)))))
theorem sc_is_lot_of_names : FnScope ["thing", "most", "name"] ["thing", "most"] (defScope s_is_lot_of_names) := ⟨rfl, rfl, rfl, by decide +kernel, rfl, by decide +kernel, by decide +kernel⟩
def c_is_lot_of_names_0 : ME (S) := (mCall f_is_name (mCons (mVar 2) mNil))
theorem c_is_lot_of_names_0_eq (env : DE) (s : S) : c_is_lot_of_names_0 env s = (mCall f_is_name (mCons (mVar 2) mNil)) env s := rfl
def f_is_lot_of_names : List D → S → Option (D × S) := mDef 3 (sSeq (sIf (mOrT (mNotT (mIsT (mU (isiD .tTuple) (mVar 0)))) (mOrT (mIsT (mB (relD gtP) (mF lenD (mCons (mVar 0) mNil)) (mVar 1))) (mNotT (mIsT (mF allD (mCons (mComp (mIt tupItems (mVar 0)) (gdName 2) mYes c_is_lot_of_names_0 [2]) mNil)))))) (sRet (mC (.bl false))) sNil) (sRet (mCall f_is_rising (mCons (mVar 0) mNil))))
theorem ok_is_lot_of_names (T : Txt K mg) (Z : PySem.Er.Pg P "/claim/cut.py") (I : ∀ q ∈ fxs, q.ok K = true) : DOk P w K mg base (B) "is_lot_of_names" 2 ["thing", "most"] f_is_lot_of_names := by
  obtain ⟨fd, Fn⟩ := T.tx.fns d_is_lot_of_names (List.Mem.tail _ (List.Mem.tail _ (List.Mem.tail _ (List.Mem.tail _ (List.Mem.head _)))))
  exact d_defD Fn (T.tx.glo _ (List.Mem.tail _ (List.Mem.tail _ (List.Mem.tail _ (List.Mem.tail _ (List.Mem.head _)))))) sc_is_lot_of_names (fun _ _ _ _ _ _ us hl => match us, hl with | [_, _], _ => rfl) (fun cdv A outer s H E hr => (s_cons (s_if (dt_w (dw_or (dt_not (dt_val (d_isi (u_isinstance T) (d_var (pv 0)) (pe_ty .tTuple (u_tuple T) (by decide +kernel))))) (dw_or (dt_cmp (op_gtP hr.units) (relD_ok _) (d_callB call_len lenD_ok (u_len T) (by decide +kernel) (l_cons (d_var (pv 0)) l_nil)) (d_var (pv 1))) (dw_or1 (dt_not (dt_val (d_callB (cr_all rfl) allD_ok (u_all T) (by decide +kernel) (l_cons (d_lc rfl sc_is_lot_of_names.nd (i_tup (d_var (pv 0))) (blkOk_by (own := [("name", 2)]) (by kernel_rfl)) (fun _ _ _ _ _ => (pg_name (i := 2) sc_is_lot_of_names.nd rfl (by first | exact Or.inl rfl | exact Or.inr rfl))) (g_name 2) (fun _ _ _ _ _ => dts_nil) (fun _ _ _ _ _ => (d_callO (ok_is_name T Z I) hr (l_cons (d_var (pv 2)) l_nil) (hl := (len_cons len_nil))))) l_nil)))))))) (s_one (s_ret d_bl)) s_nil) (s_one (s_ret (d_callO (ok_is_rising T Z I) hr (l_cons (d_var (pv 0)) l_nil) (hl := (len_cons len_nil)))))))
theorem sc_number_told : FnScope ["word", "most", "sign"] ["word", "most"] (defScope s_number_told) := ⟨rfl, rfl, rfl, by decide +kernel, rfl, by decide +kernel, by decide +kernel⟩
def c_number_told_0 : ME (S) := (mB inD (mVar 2) (mC (.str "0123456789")))
theorem c_number_told_0_eq (env : DE) (s : S) : c_number_told_0 env s = (mB inD (mVar 2) (mC (.str "0123456789"))) env s := rfl
def f_number_told : List D → S → Option (D × S) := mDef 3 (sSeq (sIf (mOrT (mNotT (mIsT (mChain (relD leP) (relD leP) (mC (.int 1)) (mF lenD (mCons (mVar 0) mNil)) (mC (.int 12))))) (mNotT (mIsT (mF allD (mCons (mComp (mIt strItems (mVar 0)) (gdName 2) mYes c_number_told_0 [2]) mNil))))) (sRet (mC .non)) sNil) (sSeq (sIf (mOrT (mAndT (mIsT (mB (relD eqP) (mB ixD (mVar 0) (mC (.int 0))) (mC (.str "0")))) (mIsT (mB (relD neP) (mVar 0) (mC (.str "0"))))) (mIsT (mB (relD gtP) (mF intTD (mCons (mVar 0) mNil)) (mVar 1)))) (sRet (mC .non)) sNil) (sRet (mF intTD (mCons (mVar 0) mNil)))))
theorem ok_number_told (T : Txt K mg) (Z : PySem.Er.Pg P "/claim/cut.py") (I : ∀ q ∈ fxs, q.ok K = true) : DOk P w K mg base (B) "number_told" 1 ["word", "most"] f_number_told := by
  obtain ⟨fd, Fn⟩ := T.tx.fns d_number_told (List.Mem.tail _ (List.Mem.tail _ (List.Mem.tail _ (List.Mem.tail _ (List.Mem.tail _ (List.Mem.head _))))))
  exact d_defD Fn (T.tx.glo _ (List.Mem.tail _ (List.Mem.tail _ (List.Mem.tail _ (List.Mem.tail _ (List.Mem.tail _ (List.Mem.head _))))))) sc_number_told (fun _ _ _ _ _ _ us hl => match us, hl with | [_, _], _ => rfl) (fun cdv A outer s H E hr => (s_cons (s_if (dt_w (dw_or (dt_not (dt_chain (op_leP hr.units) (relD_ok _) (op_leP hr.units) (relD_ok _) d_int (d_callB call_len lenD_ok (u_len T) (by decide +kernel) (l_cons (d_var (pv 0)) l_nil)) (d_gint (g_MOST_SIGNS T)))) (dw_or1 (dt_not (dt_val (d_callB (cr_all rfl) allD_ok (u_all T) (by decide +kernel) (l_cons (d_lc rfl sc_number_told.nd (i_str (d_var (pv 0))) (blkOk_by (own := [("sign", 2)]) (by kernel_rfl)) (fun _ _ _ _ _ => (pg_name (i := 2) sc_number_told.nd rfl (by first | exact Or.inl rfl | exact Or.inr rfl))) (g_name 2) (fun _ _ _ _ _ => dts_nil) (fun _ _ _ _ _ => (d_cmp (op_inA hr.units) inD_ok (d_var (pv 2)) (d_gstr (g_FIGURES T))))) l_nil))))))) (s_one (s_ret d_non)) s_nil) (s_cons (s_if (dt_w (dw_or (dt_w (dw_and (dt_cmp (op_eqP hr.units) (relD_ok _) (d_ix ix_seq ixD_ok (d_var (pv 0)) d_int) d_str) (dw_and1 (dt_cmp (op_neP hr.units) (relD_ok _) (d_var (pv 0)) d_str)))) (dw_or1 (dt_cmp (op_gtP hr.units) (relD_ok _) (d_callTy (CallR.or call_int1 call_int_str) intTD_ok (u_int T) (by decide +kernel) (l_cons (d_var (pv 0)) l_nil)) (d_var (pv 1)))))) (s_one (s_ret d_non)) s_nil) (s_one (s_ret (d_callTy (CallR.or call_int1 call_int_str) intTD_ok (u_int T) (by decide +kernel) (l_cons (d_var (pv 0)) l_nil)))))))
theorem sc_is_version : FnScope ["thing", "number"] ["thing"] (defScope s_is_version) := ⟨rfl, rfl, rfl, by decide +kernel, rfl, by decide +kernel, by decide +kernel⟩
def c_is_version_0 : ME (S) := (mCall f_is_within (mCons (mVar 1) (mCons (mC (.int 0)) (mCons (mC (.int 1000000)) mNil))))
theorem c_is_version_0_eq (env : DE) (s : S) : c_is_version_0 env s = (mCall f_is_within (mCons (mVar 1) (mCons (mC (.int 0)) (mCons (mC (.int 1000000)) mNil)))) env s := rfl
def f_is_version : List D → S → Option (D × S) := mDef 2 (sRet (mAnd (mU (isiD .tTuple) (mVar 0)) (mAnd (mB (relD eqP) (mF lenD (mCons (mVar 0) mNil)) (mC (.int 3))) (mF allD (mCons (mComp (mIt tupItems (mVar 0)) (gdName 1) mYes c_is_version_0 [1]) mNil)))))
theorem ok_is_version (T : Txt K mg) (Z : PySem.Er.Pg P "/claim/cut.py") (I : ∀ q ∈ fxs, q.ok K = true) : DOk P w K mg base (B) "is_version" 3 ["thing"] f_is_version := by
  obtain ⟨fd, Fn⟩ := T.tx.fns d_is_version (List.Mem.tail _ (List.Mem.tail _ (List.Mem.tail _ (List.Mem.tail _ (List.Mem.tail _ (List.Mem.tail _ (List.Mem.head _)))))))
  exact d_defD Fn (T.tx.glo _ (List.Mem.tail _ (List.Mem.tail _ (List.Mem.tail _ (List.Mem.tail _ (List.Mem.tail _ (List.Mem.tail _ (List.Mem.head _)))))))) sc_is_version (fun _ _ _ _ _ _ us hl => match us, hl with | [_], _ => rfl) (fun cdv A outer s H E hr => (s_one (s_ret (d_and (d_isi (u_isinstance T) (d_var (pv 0)) (pe_ty .tTuple (u_tuple T) (by decide +kernel))) (d_and (d_cmp (op_eqP hr.units) (relD_ok _) (d_callB call_len lenD_ok (u_len T) (by decide +kernel) (l_cons (d_var (pv 0)) l_nil)) d_int) (d_one (d_callB (cr_all rfl) allD_ok (u_all T) (by decide +kernel) (l_cons (d_lc rfl sc_is_version.nd (i_tup (d_var (pv 0))) (blkOk_by (own := [("number", 1)]) (by kernel_rfl)) (fun _ _ _ _ _ => (pg_name (i := 1) sc_is_version.nd rfl (by first | exact Or.inl rfl | exact Or.inr rfl))) (g_name 1) (fun _ _ _ _ _ => dts_nil) (fun _ _ _ _ _ => (d_callO (ok_is_within T Z I) hr (l_cons (d_var (pv 1)) (l_cons d_int (l_cons (d_gint (g_GREATEST T)) l_nil))) (hl := (len_cons (len_cons (len_cons len_nil))))))) l_nil))))))))
theorem sc_is_stretch : FnScope ["thing"] ["thing"] (defScope s_is_stretch) := ⟨rfl, rfl, rfl, by decide +kernel, rfl, by decide +kernel, by decide +kernel⟩
def f_is_stretch : List D → S → Option (D × S) := mDef 1 (sSeq (sIf (mOrT (mNotT (mIsT (mU (isiD .tTuple) (mVar 0)))) (mOrT (mIsT (mB (relD neP) (mF lenD (mCons (mVar 0) mNil)) (mC (.int 2)))) (mNotT (mIsT (mCall f_is_version (mCons (mB ixD (mVar 0) (mC (.int 0))) mNil)))))) (sRet (mC (.bl false))) sNil) (sRet (mOr (mB isND (mB ixD (mVar 0) (mC (.int 1))) (mC .non)) (mAnd (mCall f_is_version (mCons (mB ixD (mVar 0) (mC (.int 1))) mNil)) (mB (relD ltP) (mB ixD (mVar 0) (mC (.int 0))) (mB ixD (mVar 0) (mC (.int 1))))))))
theorem ok_is_stretch (T : Txt K mg) (Z : PySem.Er.Pg P "/claim/cut.py") (I : ∀ q ∈ fxs, q.ok K = true) : DOk P w K mg base (B) "is_stretch" 4 ["thing"] f_is_stretch := by
  obtain ⟨fd, Fn⟩ := T.tx.fns d_is_stretch (List.Mem.tail _ (List.Mem.tail _ (List.Mem.tail _ (List.Mem.tail _ (List.Mem.tail _ (List.Mem.tail _ (List.Mem.tail _ (List.Mem.head _))))))))
  exact d_defD Fn (T.tx.glo _ (List.Mem.tail _ (List.Mem.tail _ (List.Mem.tail _ (List.Mem.tail _ (List.Mem.tail _ (List.Mem.tail _ (List.Mem.tail _ (List.Mem.head _))))))))) sc_is_stretch (fun _ _ _ _ _ _ us hl => match us, hl with | [_], _ => rfl) (fun cdv A outer s H E hr => (s_cons (s_if (dt_w (dw_or (dt_not (dt_val (d_isi (u_isinstance T) (d_var (pv 0)) (pe_ty .tTuple (u_tuple T) (by decide +kernel))))) (dw_or (dt_cmp (op_neP hr.units) (relD_ok _) (d_callB call_len lenD_ok (u_len T) (by decide +kernel) (l_cons (d_var (pv 0)) l_nil)) d_int) (dw_or1 (dt_not (dt_val (d_callO (ok_is_version T Z I) hr (l_cons (d_ix ix_seq ixD_ok (d_var (pv 0)) d_int) l_nil) (hl := (len_cons len_nil))))))))) (s_one (s_ret d_bl)) s_nil) (s_one (s_ret (d_or (d_cmp op_isN isND_ok (d_ix ix_seq ixD_ok (d_var (pv 0)) d_int) d_non) (d_one (d_and (d_callO (ok_is_version T Z I) hr (l_cons (d_ix ix_seq ixD_ok (d_var (pv 0)) d_int) l_nil) (hl := (len_cons len_nil))) (d_one (d_cmp (op_ltP hr.units) (relD_ok _) (d_ix ix_seq ixD_ok (d_var (pv 0)) d_int) (d_ix ix_seq ixD_ok (d_var (pv 0)) d_int))))))))))
theorem sc_is_range : FnScope ["thing", "at", "stretch"] ["thing"] (defScope s_is_range) := ⟨rfl, rfl, rfl, by decide +kernel, rfl, by decide +kernel, by decide +kernel⟩
def c_is_range_0 : ME (S) := (mCall f_is_stretch (mCons (mVar 2) mNil))
theorem c_is_range_0_eq (env : DE) (s : S) : c_is_range_0 env s = (mCall f_is_stretch (mCons (mVar 2) mNil)) env s := rfl
def b_is_range_0 : MS (S) := (sIf (mOrT (mIsT (mB isND (mB ixD (mB ixD (mVar 0) (mVar 1)) (mC (.int 1))) (mC .non))) (mNotT (mIsT (mB (relD ltP) (mB ixD (mB ixD (mVar 0) (mVar 1)) (mC (.int 1))) (mB ixD (mB ixD (mVar 0) (mB addD (mVar 1) (mC (.int 1)))) (mC (.int 0))))))) (sRet (mC (.bl false))) sNil)
theorem b_is_range_0_eq (env : DE) (s : S) : b_is_range_0 env s = (sIf (mOrT (mIsT (mB isND (mB ixD (mB ixD (mVar 0) (mVar 1)) (mC (.int 1))) (mC .non))) (mNotT (mIsT (mB (relD ltP) (mB ixD (mB ixD (mVar 0) (mVar 1)) (mC (.int 1))) (mB ixD (mB ixD (mVar 0) (mB addD (mVar 1) (mC (.int 1)))) (mC (.int 0))))))) (sRet (mC (.bl false))) sNil) env s := rfl
def f_is_range : List D → S → Option (D × S) := mDef 3 (sSeq (sIf (mOrT (mNotT (mIsT (mU (isiD .tTuple) (mVar 0)))) (mNotT (mIsT (mF allD (mCons (mComp (mIt tupItems (mVar 0)) (gdName 2) mYes c_is_range_0 [2]) mNil))))) (sRet (mC (.bl false))) sNil) (sSeq (sFor (mRng rng1D (mCons (mB subD (mF lenD (mCons (mVar 0) mNil)) (mC (.int 1))) mNil)) (gdName 1) b_is_range_0) (sRet (mC (.bl true)))))
theorem ok_is_range (T : Txt K mg) (Z : PySem.Er.Pg P "/claim/cut.py") (I : ∀ q ∈ fxs, q.ok K = true) : DOk P w K mg base (B) "is_range" 5 ["thing"] f_is_range := by
  obtain ⟨fd, Fn⟩ := T.tx.fns d_is_range (List.Mem.tail _ (List.Mem.tail _ (List.Mem.tail _ (List.Mem.tail _ (List.Mem.tail _ (List.Mem.tail _ (List.Mem.tail _ (List.Mem.tail _ (List.Mem.head _)))))))))
  exact d_defD Fn (T.tx.glo _ (List.Mem.tail _ (List.Mem.tail _ (List.Mem.tail _ (List.Mem.tail _ (List.Mem.tail _ (List.Mem.tail _ (List.Mem.tail _ (List.Mem.tail _ (List.Mem.head _)))))))))) sc_is_range (fun _ _ _ _ _ _ us hl => match us, hl with | [_], _ => rfl) (fun cdv A outer s H E hr => (s_cons (s_if (dt_w (dw_or (dt_not (dt_val (d_isi (u_isinstance T) (d_var (pv 0)) (pe_ty .tTuple (u_tuple T) (by decide +kernel))))) (dw_or1 (dt_not (dt_val (d_callB (cr_all rfl) allD_ok (u_all T) (by decide +kernel) (l_cons (d_lc rfl sc_is_range.nd (i_tup (d_var (pv 0))) (blkOk_by (own := [("stretch", 2)]) (by kernel_rfl)) (fun _ _ _ _ _ => (pg_name (i := 2) sc_is_range.nd rfl (by first | exact Or.inl rfl | exact Or.inr rfl))) (g_name 2) (fun _ _ _ _ _ => dts_nil) (fun _ _ _ _ _ => (d_callO (ok_is_stretch T Z I) hr (l_cons (d_var (pv 2)) l_nil) (hl := (len_cons len_nil))))) l_nil))))))) (s_one (s_ret d_bl)) s_nil) (s_cons (s_for PassesOwn.never rfl (i_rng1 (u_range T) (l_cons (d_op op_subA subD_ok (d_callB call_len lenD_ok (u_len T) (by decide +kernel) (l_cons (d_var (pv 0)) l_nil)) d_int) l_nil)) (pg_name (i := 1) sc_is_range.nd rfl (by first | exact Or.inl rfl | exact Or.inr rfl)) (g_name 1) (s_one (s_if (dt_w (dw_or (dt_cmp op_isN isND_ok (d_ix ix_seq ixD_ok (d_ix ix_seq ixD_ok (d_var (pv 0)) (d_var (pv 1))) d_int) d_non) (dw_or1 (dt_not (dt_cmp (op_ltP hr.units) (relD_ok _) (d_ix ix_seq ixD_ok (d_ix ix_seq ixD_ok (d_var (pv 0)) (d_var (pv 1))) d_int) (d_ix ix_seq ixD_ok (d_ix ix_seq ixD_ok (d_var (pv 0)) (d_op op_addA addD_ok (d_var (pv 1)) d_int)) d_int)))))) (s_one (s_ret d_bl)) s_nil))) (s_one (s_ret d_bl)))))
theorem sc_version_text : FnScope ["version", "number"] ["version"] (defScope s_version_text) := ⟨rfl, rfl, rfl, by decide +kernel, rfl, by decide +kernel, by decide +kernel⟩
def c_version_text_0 : ME (S) := (mF strCD (mCons (mVar 1) mNil))
theorem c_version_text_0_eq (env : DE) (s : S) : c_version_text_0 env s = (mF strCD (mCons (mVar 1) mNil)) env s := rfl
def f_version_text : List D → S → Option (D × S) := mDef 2 (sRet (mB joinD (mC (.str ".")) (mComp (mIt tupItems (mVar 0)) (gdName 1) mYes c_version_text_0 [1])))
theorem ok_version_text (T : Txt K mg) (Z : PySem.Er.Pg P "/claim/cut.py") (I : ∀ q ∈ fxs, q.ok K = true) : DOk P w K mg base (B) "version_text" 1 ["version"] f_version_text := by
  obtain ⟨fd, Fn⟩ := T.tx.fns d_version_text (List.Mem.tail _ (List.Mem.tail _ (List.Mem.tail _ (List.Mem.tail _ (List.Mem.tail _ (List.Mem.tail _ (List.Mem.tail _ (List.Mem.tail _ (List.Mem.tail _ (List.Mem.head _))))))))))
  exact d_defD Fn (T.tx.glo _ (List.Mem.tail _ (List.Mem.tail _ (List.Mem.tail _ (List.Mem.tail _ (List.Mem.tail _ (List.Mem.tail _ (List.Mem.tail _ (List.Mem.tail _ (List.Mem.tail _ (List.Mem.head _))))))))))) sc_version_text (fun _ _ _ _ _ _ us hl => match us, hl with | [_], _ => rfl) (fun cdv A outer s H E hr => (s_one (s_ret (d_join d_str (d_lc rfl sc_version_text.nd (i_tup (d_var (pv 0))) (blkOk_by (own := [("number", 1)]) (by kernel_rfl)) (fun _ _ _ _ _ => (pg_name (i := 1) sc_version_text.nd rfl (by first | exact Or.inl rfl | exact Or.inr rfl))) (g_name 1) (fun _ _ _ _ _ => dts_nil) (fun _ _ _ _ _ => (d_callTy (CallR.or call_str_int SkE.call_str_str) strCD_ok (u_str T) (by decide +kernel) (l_cons (d_var (pv 1)) l_nil))))))))
theorem sc_version_told : FnScope ["text", "numbers", "word"] ["text"] (defScope s_version_told) := ⟨rfl, rfl, rfl, by decide +kernel, rfl, by decide +kernel, by decide +kernel⟩
def c_version_told_0 : ME (S) := (mCall f_number_told (mCons (mVar 2) (mCons (mC (.int 1000000)) mNil)))
theorem c_version_told_0_eq (env : DE) (s : S) : c_version_told_0 env s = (mCall f_number_told (mCons (mVar 2) (mCons (mC (.int 1000000)) mNil))) env s := rfl
def f_version_told : List D → S → Option (D × S) := mDef 3 (sSeq (sAsg (gdName 1) (mF tupleCD (mCons (mComp (mIt lstItems (mB splitD (mVar 0) (mC (.str ".")))) (gdName 2) mYes c_version_told_0 [2]) mNil))) (sRet (mIf (mAndT (mIsT (mB (relD eqP) (mF lenD (mCons (mVar 1) mNil)) (mC (.int 3)))) (mIsT (mB ninD (mC .non) (mVar 1)))) (mVar 1) (mC .non))))
theorem ok_version_told (T : Txt K mg) (Z : PySem.Er.Pg P "/claim/cut.py") (I : ∀ q ∈ fxs, q.ok K = true) : DOk P w K mg base (B) "version_told" 2 ["text"] f_version_told := by
  obtain ⟨fd, Fn⟩ := T.tx.fns d_version_told (List.Mem.tail _ (List.Mem.tail _ (List.Mem.tail _ (List.Mem.tail _ (List.Mem.tail _ (List.Mem.tail _ (List.Mem.tail _ (List.Mem.tail _ (List.Mem.tail _ (List.Mem.tail _ (List.Mem.head _)))))))))))
  exact d_defD Fn (T.tx.glo _ (List.Mem.tail _ (List.Mem.tail _ (List.Mem.tail _ (List.Mem.tail _ (List.Mem.tail _ (List.Mem.tail _ (List.Mem.tail _ (List.Mem.tail _ (List.Mem.tail _ (List.Mem.tail _ (List.Mem.head _)))))))))))) sc_version_told (fun _ _ _ _ _ _ us hl => match us, hl with | [_], _ => rfl) (fun cdv A outer s H E hr => (s_cons (s_set (i := 1) sc_version_told.nd (d_callTy call_tuple_of tupleCD_ok (u_tuple T) (by decide +kernel) (l_cons (d_lc rfl sc_version_told.nd (i_lst (d_split (d_var (pv 0)) d_str)) (blkOk_by (own := [("word", 2)]) (by kernel_rfl)) (fun _ _ _ _ _ => (pg_name (i := 2) sc_version_told.nd rfl (by first | exact Or.inl rfl | exact Or.inr rfl))) (g_name 2) (fun _ _ _ _ _ => dts_nil) (fun _ _ _ _ _ => (d_callO (ok_number_told T Z I) hr (l_cons (d_var (pv 2)) (l_cons (d_gint (g_GREATEST T)) l_nil)) (hl := (len_cons (len_cons len_nil)))))) l_nil))) (s_one (s_ret (d_if (dt_w (dw_and (dt_cmp (op_eqP hr.units) (relD_ok _) (d_callB call_len lenD_ok (u_len T) (by decide +kernel) (l_cons (d_var (pv 1)) l_nil)) d_int) (dw_and1 (dt_cmp (op_ninA hr.units) ninD_ok d_non (d_var (pv 1)))))) (d_var (pv 1)) d_non)))))
theorem sc_check_of : FnScope ["text", "place", "sign"] ["text"] (defScope s_check_of) := ⟨rfl, rfl, rfl, by decide +kernel, rfl, by decide +kernel, by decide +kernel⟩
def c_check_of_0 : ME (S) := (mB mulD (mF ordTD (mCons (mVar 2) mNil)) (mVar 1))
theorem c_check_of_0_eq (env : DE) (s : S) : c_check_of_0 env s = (mB mulD (mF ordTD (mCons (mVar 2) mNil)) (mVar 1)) env s := rfl
def f_check_of : List D → S → Option (D × S) := mDef 3 (sRet (mB modD (mF sumTD (mCons (mComp (mIt2 enum1Items (mCons (mVar 0) (mCons (mC (.int 1)) mNil))) (gdTup 2 (gdCons (gdName 1) (gdCons (gdName 2) gdNil))) mYes c_check_of_0 [1, 2]) mNil)) (mC (.int 99991))))
theorem ok_check_of (T : Txt K mg) (Z : PySem.Er.Pg P "/claim/cut.py") (I : ∀ q ∈ fxs, q.ok K = true) : DOk P w K mg base (B) "check_of" 1 ["text"] f_check_of := by
  obtain ⟨fd, Fn⟩ := T.tx.fns d_check_of (List.Mem.tail _ (List.Mem.tail _ (List.Mem.tail _ (List.Mem.tail _ (List.Mem.tail _ (List.Mem.tail _ (List.Mem.tail _ (List.Mem.tail _ (List.Mem.tail _ (List.Mem.tail _ (List.Mem.tail _ (List.Mem.head _))))))))))))
  exact d_defD Fn (T.tx.glo _ (List.Mem.tail _ (List.Mem.tail _ (List.Mem.tail _ (List.Mem.tail _ (List.Mem.tail _ (List.Mem.tail _ (List.Mem.tail _ (List.Mem.tail _ (List.Mem.tail _ (List.Mem.tail _ (List.Mem.tail _ (List.Mem.head _))))))))))))) sc_check_of (fun _ _ _ _ _ _ us hl => match us, hl with | [_], _ => rfl) (fun cdv A outer s H E hr => (s_one (s_ret (d_op op_mod modD_ok (d_callB (cr_sum rfl) sumTD_ok (u_sum T) (by decide +kernel) (l_cons (d_lc rfl sc_check_of.nd (i_enum1 (u_enumerate T) (l_cons (d_var (pv 0)) (l_cons d_int l_nil))) (blkOk_by (own := [("place", 1), ("sign", 2)]) (by kernel_rfl)) (fun _ _ _ _ _ => (pg_tup (n := 2) rfl (pgs_cons (pg_name (i := 1) sc_check_of.nd rfl (by first | exact Or.inl rfl | exact Or.inr rfl)) (pgs_cons (pg_name (i := 2) sc_check_of.nd rfl (by first | exact Or.inl rfl | exact Or.inr rfl)) pgs_nil)))) (g_tup (g_cons (g_name 1) (g_cons (g_name 2) g_nil))) (fun _ _ _ _ _ => dts_nil) (fun _ _ _ _ _ => (d_op op_mulA mulD_ok (d_callB call_ord ordTD_ok (u_ord T) (by decide +kernel) (l_cons (d_var (pv 2)) l_nil)) (d_var (pv 1))))) l_nil)) (d_gint (g_BY T))))))
theorem sc_triple_text : FnScope ["triple"] ["triple"] (defScope s_triple_text) := ⟨rfl, rfl, rfl, by decide +kernel, rfl, by decide +kernel, by decide +kernel⟩
def f_triple_text : List D → S → Option (D × S) := mDef 1 (sRet (mB joinD (mC (.str " ")) (mB addD (mF tupD (mCons (mB ixD (mVar 0) (mC (.int 0))) (mCons (mCall f_version_text (mCons (mB ixD (mVar 0) (mC (.int 1))) mNil)) mNil))) (mB ixD (mVar 0) (mC (.int 2))))))
theorem ok_triple_text (T : Txt K mg) (Z : PySem.Er.Pg P "/claim/cut.py") (I : ∀ q ∈ fxs, q.ok K = true) : DOk P w K mg base (B) "triple_text" 2 ["triple"] f_triple_text := by
  obtain ⟨fd, Fn⟩ := T.tx.fns d_triple_text (List.Mem.tail _ (List.Mem.tail _ (List.Mem.tail _ (List.Mem.tail _ (List.Mem.tail _ (List.Mem.tail _ (List.Mem.tail _ (List.Mem.tail _ (List.Mem.tail _ (List.Mem.tail _ (List.Mem.tail _ (List.Mem.tail _ (List.Mem.head _)))))))))))))
  exact d_defD Fn (T.tx.glo _ (List.Mem.tail _ (List.Mem.tail _ (List.Mem.tail _ (List.Mem.tail _ (List.Mem.tail _ (List.Mem.tail _ (List.Mem.tail _ (List.Mem.tail _ (List.Mem.tail _ (List.Mem.tail _ (List.Mem.tail _ (List.Mem.tail _ (List.Mem.head _)))))))))))))) sc_triple_text (fun _ _ _ _ _ _ us hl => match us, hl with | [_], _ => rfl) (fun cdv A outer s H E hr => (s_one (s_ret (d_join d_str (d_op op_addA addD_ok (d_tup (l_cons (d_ix ix_seq ixD_ok (d_var (pv 0)) d_int) (l_cons (d_callO (ok_version_text T Z I) hr (l_cons (d_ix ix_seq ixD_ok (d_var (pv 0)) d_int) l_nil) (hl := (len_cons len_nil))) l_nil))) (d_ix ix_seq ixD_ok (d_var (pv 0)) d_int))))))
theorem sc_lock_text : FnScope ["installation", "text", "triple"] ["installation"] (defScope s_lock_text) := ⟨rfl, rfl, rfl, by decide +kernel, rfl, by decide +kernel, by decide +kernel⟩
def c_lock_text_0 : ME (S) := (mB addD (mCall f_triple_text (mCons (mVar 2) mNil)) (mC (.str "\n")))
theorem c_lock_text_0_eq (env : DE) (s : S) : c_lock_text_0 env s = (mB addD (mCall f_triple_text (mCons (mVar 2) mNil)) (mC (.str "\n"))) env s := rfl
def f_lock_text : List D → S → Option (D × S) := mDef 3 (sSeq (sAsg (gdName 1) (mB joinD (mC (.str "")) (mComp (mIt tupItems (mVar 0)) (gdName 2) mYes c_lock_text_0 [2]))) (sRet (mB addD (mB addD (mB addD (mVar 1) (mC (.str "check "))) (mF strCD (mCons (mCall f_check_of (mCons (mVar 1) mNil)) mNil))) (mC (.str "\n")))))
theorem ok_lock_text (T : Txt K mg) (Z : PySem.Er.Pg P "/claim/cut.py") (I : ∀ q ∈ fxs, q.ok K = true) : DOk P w K mg base (B) "lock_text" 3 ["installation"] f_lock_text := by
  obtain ⟨fd, Fn⟩ := T.tx.fns d_lock_text (List.Mem.tail _ (List.Mem.tail _ (List.Mem.tail _ (List.Mem.tail _ (List.Mem.tail _ (List.Mem.tail _ (List.Mem.tail _ (List.Mem.tail _ (List.Mem.tail _ (List.Mem.tail _ (List.Mem.tail _ (List.Mem.tail _ (List.Mem.tail _ (List.Mem.head _))))))))))))))
  exact d_defD Fn (T.tx.glo _ (List.Mem.tail _ (List.Mem.tail _ (List.Mem.tail _ (List.Mem.tail _ (List.Mem.tail _ (List.Mem.tail _ (List.Mem.tail _ (List.Mem.tail _ (List.Mem.tail _ (List.Mem.tail _ (List.Mem.tail _ (List.Mem.tail _ (List.Mem.tail _ (List.Mem.head _))))))))))))))) sc_lock_text (fun _ _ _ _ _ _ us hl => match us, hl with | [_], _ => rfl) (fun cdv A outer s H E hr => (s_cons (s_set (i := 1) sc_lock_text.nd (d_join d_str (d_lc rfl sc_lock_text.nd (i_tup (d_var (pv 0))) (blkOk_by (own := [("triple", 2)]) (by kernel_rfl)) (fun _ _ _ _ _ => (pg_name (i := 2) sc_lock_text.nd rfl (by first | exact Or.inl rfl | exact Or.inr rfl))) (g_name 2) (fun _ _ _ _ _ => dts_nil) (fun _ _ _ _ _ => (d_op op_addA addD_ok (d_callO (ok_triple_text T Z I) hr (l_cons (d_var (pv 2)) l_nil) (hl := (len_cons len_nil))) d_str))))) (s_one (s_ret (d_op op_addA addD_ok (d_op op_addA addD_ok (d_op op_addA addD_ok (d_var (pv 1)) (d_gstr (g_CHECK T))) (d_callTy (CallR.or call_str_int SkE.call_str_str) strCD_ok (u_str T) (by decide +kernel) (l_cons (d_callO (ok_check_of T Z I) hr (l_cons (d_var (pv 1)) l_nil) (hl := (len_cons len_nil))) l_nil))) d_str)))))
theorem sc_triple_told : FnScope ["line", "words", "version", "features", "word"] ["line"] (defScope s_triple_told) := ⟨rfl, rfl, rfl, by decide +kernel, rfl, by decide +kernel, by decide +kernel⟩
def c_triple_told_0 : ME (S) := (mCall f_is_name (mCons (mVar 4) mNil))
theorem c_triple_told_0_eq (env : DE) (s : S) : c_triple_told_0 env s = (mCall f_is_name (mCons (mVar 4) mNil)) env s := rfl
def f_triple_told : List D → S → Option (D × S) := mDef 5 (sSeq (sAsg (gdName 1) (mB splitD (mVar 0) (mC (.str " ")))) (sSeq (sIf (mOrT (mIsT (mB (relD ltP) (mF lenD (mCons (mVar 1) mNil)) (mC (.int 2)))) (mNotT (mIsT (mCall f_is_name (mCons (mB ixD (mVar 1) (mC (.int 0))) mNil))))) (sRet (mC .non)) sNil) (sSeq (sPar 2 3 (mCall f_version_told (mCons (mB ixD (mVar 1) (mC (.int 1))) mNil)) (mF tupleCD (mCons (mSl slL (mVar 1) (mPart (mC (.int 2))) mNoPart) mNil))) (sSeq (sIf (mOrT (mIsT (mB isND (mVar 2) (mC .non))) (mOrT (mNotT (mIsT (mF allD (mCons (mComp (mIt tupItems (mVar 3)) (gdName 4) mYes c_triple_told_0 [4]) mNil)))) (mNotT (mIsT (mCall f_is_rising (mCons (mVar 3) mNil)))))) (sRet (mC .non)) sNil) (sRet (mF tupD (mCons (mB ixD (mVar 1) (mC (.int 0))) (mCons (mVar 2) (mCons (mVar 3) mNil)))))))))
theorem ok_triple_told (T : Txt K mg) (Z : PySem.Er.Pg P "/claim/cut.py") (I : ∀ q ∈ fxs, q.ok K = true) : DOk P w K mg base (B) "triple_told" 3 ["line"] f_triple_told := by
  obtain ⟨fd, Fn⟩ := T.tx.fns d_triple_told (List.Mem.tail _ (List.Mem.tail _ (List.Mem.tail _ (List.Mem.tail _ (List.Mem.tail _ (List.Mem.tail _ (List.Mem.tail _ (List.Mem.tail _ (List.Mem.tail _ (List.Mem.tail _ (List.Mem.tail _ (List.Mem.tail _ (List.Mem.tail _ (List.Mem.tail _ (List.Mem.head _)))))))))))))))
  exact d_defD Fn (T.tx.glo _ (List.Mem.tail _ (List.Mem.tail _ (List.Mem.tail _ (List.Mem.tail _ (List.Mem.tail _ (List.Mem.tail _ (List.Mem.tail _ (List.Mem.tail _ (List.Mem.tail _ (List.Mem.tail _ (List.Mem.tail _ (List.Mem.tail _ (List.Mem.tail _ (List.Mem.tail _ (List.Mem.head _)))))))))))))))) sc_triple_told (fun _ _ _ _ _ _ us hl => match us, hl with | [_], _ => rfl) (fun cdv A outer s H E hr => (s_cons (s_set (i := 1) sc_triple_told.nd (d_split (d_var (pv 0)) d_str)) (s_cons (s_if (dt_w (dw_or (dt_cmp (op_ltP hr.units) (relD_ok _) (d_callB call_len lenD_ok (u_len T) (by decide +kernel) (l_cons (d_var (pv 1)) l_nil)) d_int) (dw_or1 (dt_not (dt_val (d_callO (ok_is_name T Z I) hr (l_cons (d_ix ix_seq ixD_ok (d_var (pv 1)) d_int) l_nil) (hl := (len_cons len_nil)))))))) (s_one (s_ret d_non)) s_nil) (s_cons (s_par (i := 2) (j := 3) rfl sc_triple_told.nd (l_cons (d_callO (ok_version_told T Z I) hr (l_cons (d_ix ix_seq ixD_ok (d_var (pv 1)) d_int) l_nil) (hl := (len_cons len_nil))) (l_cons (d_callTy call_tuple_of tupleCD_ok (u_tuple T) (by decide +kernel) (l_cons (d_sl sl_list slL_ok (d_var (pv 1)) (do_some d_int) do_none) l_nil)) l_nil))) (s_cons (s_if (dt_w (dw_or (dt_cmp op_isN isND_ok (d_var (pv 2)) d_non) (dw_or (dt_not (dt_val (d_callB (cr_all rfl) allD_ok (u_all T) (by decide +kernel) (l_cons (d_lc rfl sc_triple_told.nd (i_tup (d_var (pv 3))) (blkOk_by (own := [("word", 4)]) (by kernel_rfl)) (fun _ _ _ _ _ => (pg_name (i := 4) sc_triple_told.nd rfl (by first | exact Or.inl rfl | exact Or.inr rfl))) (g_name 4) (fun _ _ _ _ _ => dts_nil) (fun _ _ _ _ _ => (d_callO (ok_is_name T Z I) hr (l_cons (d_var (pv 4)) l_nil) (hl := (len_cons len_nil))))) l_nil)))) (dw_or1 (dt_not (dt_val (d_callO (ok_is_rising T Z I) hr (l_cons (d_var (pv 3)) l_nil) (hl := (len_cons len_nil))))))))) (s_one (s_ret d_non)) s_nil) (s_one (s_ret (d_tup (l_cons (d_ix ix_seq ixD_ok (d_var (pv 1)) d_int) (l_cons (d_var (pv 2)) (l_cons (d_var (pv 3)) l_nil)))))))))))
theorem sc_ended : FnScope ["rows", "at", "line", "taken", "found"] ["rows", "at", "line", "taken", "found"] (defScope s_ended) := ⟨rfl, rfl, rfl, by decide +kernel, rfl, by decide +kernel, by decide +kernel⟩
def f_ended : List D → S → Option (RX (S)) := mDefX 5 (xSeq (xIf (mOrT (mIsT (mB (relD neP) (mSl slS (mVar 2) mNoPart (mPart (mF lenD (mCons (mC (.str "check ")) mNil)))) (mC (.str "check ")))) (mIsT (mB (relD neP) (mCall f_number_told (mCons (mSl slS (mVar 2) (mPart (mF lenD (mCons (mC (.str "check ")) mNil))) mNoPart) (mCons (mC (.int 99991)) mNil))) (mCall f_check_of (mCons (mVar 3) mNil))))) (xRaise "BadLine" "number" (mB addD (mVar 1) (mC (.int 1)))) (xS sNil)) (xSeq (xIf (mOrT (mIsT (mB (relD ltP) (mB addD (mVar 1) (mC (.int 2))) (mF lenD (mCons (mVar 0) mNil)))) (mIsT (mB (relD neP) (mB ixD (mVar 0) (mU negD (mC (.int 1)))) (mC (.str ""))))) (xRaise "BadLine" "number" (mB addD (mVar 1) (mC (.int 2)))) (xS sNil)) (xS (sRet (mF tupleCD (mCons (mVar 4) mNil))))))
theorem ok_ended (T : Txt K mg) (Z : PySem.Er.Pg P "/claim/cut.py") (I : ∀ q ∈ fxs, q.ok K = true) : DOkX P w K mg base (B) "ended" 2 ["rows", "at", "line", "taken", "found"] f_ended := by
  obtain ⟨fd, Fn⟩ := T.tx.fns d_ended (List.Mem.tail _ (List.Mem.tail _ (List.Mem.tail _ (List.Mem.tail _ (List.Mem.tail _ (List.Mem.tail _ (List.Mem.tail _ (List.Mem.tail _ (List.Mem.tail _ (List.Mem.tail _ (List.Mem.tail _ (List.Mem.tail _ (List.Mem.tail _ (List.Mem.tail _ (List.Mem.tail _ (List.Mem.tail _ (List.Mem.head _)))))))))))))))))
  exact d_defX Fn (T.tx.glo _ (List.Mem.tail _ (List.Mem.tail _ (List.Mem.tail _ (List.Mem.tail _ (List.Mem.tail _ (List.Mem.tail _ (List.Mem.tail _ (List.Mem.tail _ (List.Mem.tail _ (List.Mem.tail _ (List.Mem.tail _ (List.Mem.tail _ (List.Mem.tail _ (List.Mem.tail _ (List.Mem.tail _ (List.Mem.tail _ (List.Mem.head _)))))))))))))))))) sc_ended (fun _ _ _ _ _ _ us hl => match us, hl with | [_, _, _, _, _], _ => rfl) (fun cdv A outer s H E hr tk hp => (x_cons (x_if (dt_w (dw_or (dt_cmp (op_neP hr.units) (relD_ok _) (d_sl sl_str slS_ok (d_var (pv 2)) do_none (do_some (d_callB call_len lenD_ok (u_len T) (by decide +kernel) (l_cons (d_gstr (g_CHECK T)) l_nil)))) (d_gstr (g_CHECK T))) (dw_or1 (dt_cmp (op_neP hr.units) (relD_ok _) (d_callO (ok_number_told T Z I) hr (l_cons (d_sl sl_str slS_ok (d_var (pv 2)) (do_some (d_callB call_len lenD_ok (u_len T) (by decide +kernel) (l_cons (d_gstr (g_CHECK T)) l_nil))) do_none) (l_cons (d_gint (g_BY T)) l_nil)) (hl := (len_cons (len_cons len_nil)))) (d_callO (ok_check_of T Z I) hr (l_cons (d_var (pv 3)) l_nil) (hl := (len_cons len_nil))))))) (x_one (x_raise rfl tk (T.err e_BadLine (List.Mem.head _)).1 Z (T.tx.glo _ (List.Mem.tail _ (List.Mem.tail _ (List.Mem.tail _ (List.Mem.tail _ (List.Mem.tail _ (List.Mem.tail _ (List.Mem.tail _ (List.Mem.tail _ (List.Mem.tail _ (List.Mem.tail _ (List.Mem.tail _ (List.Mem.tail _ (List.Mem.tail _ (List.Mem.tail _ (List.Mem.tail _ (List.Mem.tail _ (List.Mem.tail _ (List.Mem.tail _ (List.Mem.tail _ (List.Mem.tail _ (List.Mem.tail _ (List.Mem.tail _ (List.Mem.tail _ (List.Mem.tail _ (List.Mem.tail _ (List.Mem.tail _ (List.Mem.tail _ (List.Mem.tail _ (List.Mem.tail _ (List.Mem.tail _ (List.Mem.tail _ (List.Mem.tail _ (List.Mem.tail _ (List.Mem.head _))))))))))))))))))))))))))))))))))) hr (d_op op_addA addD_ok (d_var (pv 1)) d_int))) (x_ss s_nil)) (x_cons (x_if (dt_w (dw_or (dt_cmp (op_ltP hr.units) (relD_ok _) (d_op op_addA addD_ok (d_var (pv 1)) d_int) (d_callB call_len lenD_ok (u_len T) (by decide +kernel) (l_cons (d_var (pv 0)) l_nil))) (dw_or1 (dt_cmp (op_neP hr.units) (relD_ok _) (d_ix ix_seq ixD_ok (d_var (pv 0)) (d_un un_neg negD_ok d_int)) d_str)))) (x_one (x_raise rfl tk (T.err e_BadLine (List.Mem.head _)).1 Z (T.tx.glo _ (List.Mem.tail _ (List.Mem.tail _ (List.Mem.tail _ (List.Mem.tail _ (List.Mem.tail _ (List.Mem.tail _ (List.Mem.tail _ (List.Mem.tail _ (List.Mem.tail _ (List.Mem.tail _ (List.Mem.tail _ (List.Mem.tail _ (List.Mem.tail _ (List.Mem.tail _ (List.Mem.tail _ (List.Mem.tail _ (List.Mem.tail _ (List.Mem.tail _ (List.Mem.tail _ (List.Mem.tail _ (List.Mem.tail _ (List.Mem.tail _ (List.Mem.tail _ (List.Mem.tail _ (List.Mem.tail _ (List.Mem.tail _ (List.Mem.tail _ (List.Mem.tail _ (List.Mem.tail _ (List.Mem.tail _ (List.Mem.tail _ (List.Mem.tail _ (List.Mem.tail _ (List.Mem.head _))))))))))))))))))))))))))))))))))) hr (d_op op_addA addD_ok (d_var (pv 1)) d_int))) (x_ss s_nil)) (x_ss (s_one (s_ret (d_callTy call_tuple_of tupleCD_ok (u_tuple T) (by decide +kernel) (l_cons (d_var (pv 4)) l_nil))))))))
theorem sc_read_lock : FnScope ["text", "rows", "found", "taken", "at", "line", "triple"] ["text"] (defScope s_read_lock) := ⟨rfl, rfl, rfl, by decide +kernel, rfl, by decide +kernel, by decide +kernel⟩
def b_read_lock_0 : MSX (S) := (xSeq (xS (sAsg (gdName 6) (mCall f_triple_told (mCons (mVar 5) mNil)))) (xSeq (xIf (mIsT (mB isND (mVar 6) (mC .non))) (xFrz 2 (xRet (xCall f_ended (mCons (mVar 1) (mCons (mVar 4) (mCons (mVar 5) (mCons (mVar 3) (mCons (mVar 2) mNil)))))))) (xS sNil)) (xSeq (xIf (mAndT (mIsT (mB (relD gtP) (mLenO 2) (mC (.int 0)))) (mNotT (mIsT (mB (relD ltP) (mB ixD (mIxO 2 (mU negD (mC (.int 1)))) (mC (.int 0))) (mB ixD (mVar 6) (mC (.int 0))))))) (xRaise "BadLine" "number" (mB addD (mVar 4) (mC (.int 1)))) (xS sNil)) (xS (sSeq (sApp 2 (mVar 6)) (sAug 3 iaddD (mB addD (mVar 5) (mC (.str "\n")))))))))
theorem b_read_lock_0_eq (env : DE) (s : S) : b_read_lock_0 env s = (xSeq (xS (sAsg (gdName 6) (mCall f_triple_told (mCons (mVar 5) mNil)))) (xSeq (xIf (mIsT (mB isND (mVar 6) (mC .non))) (xFrz 2 (xRet (xCall f_ended (mCons (mVar 1) (mCons (mVar 4) (mCons (mVar 5) (mCons (mVar 3) (mCons (mVar 2) mNil)))))))) (xS sNil)) (xSeq (xIf (mAndT (mIsT (mB (relD gtP) (mLenO 2) (mC (.int 0)))) (mNotT (mIsT (mB (relD ltP) (mB ixD (mIxO 2 (mU negD (mC (.int 1)))) (mC (.int 0))) (mB ixD (mVar 6) (mC (.int 0))))))) (xRaise "BadLine" "number" (mB addD (mVar 4) (mC (.int 1)))) (xS sNil)) (xS (sSeq (sApp 2 (mVar 6)) (sAug 3 iaddD (mB addD (mVar 5) (mC (.str "\n"))))))))) env s := rfl
def f_read_lock : List D → S → Option (RX (S)) := mDefX 7 (xSeq (xIf (mNotT (mIsT (mU (isiD .tStr) (mVar 0)))) (xRaise "BadLine" "number" (mC (.int 0))) (xS sNil)) (xSeq (xS (sAsg (gdName 1) (mB splitD (mVar 0) (mC (.str "\n"))))) (xSeq (xS (sOwn 2 mNil)) (xSeq (xS (sAsg (gdName 3) (mC (.str "")))) (xSeq (xFor (mIt2 enumLItems (mCons (mSl slL (mVar 1) mNoPart (mPart (mU negD (mC (.int 1))))) mNil)) (gdTup 2 (gdCons (gdName 4) (gdCons (gdName 5) gdNil))) b_read_lock_0) (xRaise "BadLine" "number" (mF lenD (mCons (mVar 1) mNil))))))))
theorem ok_read_lock (T : Txt K mg) (Z : PySem.Er.Pg P "/claim/cut.py") (I : ∀ q ∈ fxs, q.ok K = true) : DOkX P w K mg base (B) "read_lock" 4 ["text"] f_read_lock := by
  obtain ⟨fd, Fn⟩ := T.tx.fns d_read_lock (List.Mem.tail _ (List.Mem.tail _ (List.Mem.tail _ (List.Mem.tail _ (List.Mem.tail _ (List.Mem.tail _ (List.Mem.tail _ (List.Mem.tail _ (List.Mem.tail _ (List.Mem.tail _ (List.Mem.tail _ (List.Mem.tail _ (List.Mem.tail _ (List.Mem.tail _ (List.Mem.tail _ (List.Mem.head _))))))))))))))))
  exact d_defX Fn (T.tx.glo _ (List.Mem.tail _ (List.Mem.tail _ (List.Mem.tail _ (List.Mem.tail _ (List.Mem.tail _ (List.Mem.tail _ (List.Mem.tail _ (List.Mem.tail _ (List.Mem.tail _ (List.Mem.tail _ (List.Mem.tail _ (List.Mem.tail _ (List.Mem.tail _ (List.Mem.tail _ (List.Mem.tail _ (List.Mem.head _))))))))))))))))) sc_read_lock (fun _ _ _ _ _ _ us hl => match us, hl with | [_], _ => rfl) (fun cdv A outer s H E hr tk hp => (x_cons (x_if (dt_not (dt_val (d_isi (u_isinstance T) (d_var (pv 0)) (pe_ty .tStr (u_str T) (by decide +kernel))))) (x_one (x_raise rfl tk (T.err e_BadLine (List.Mem.head _)).1 Z (T.tx.glo _ (List.Mem.tail _ (List.Mem.tail _ (List.Mem.tail _ (List.Mem.tail _ (List.Mem.tail _ (List.Mem.tail _ (List.Mem.tail _ (List.Mem.tail _ (List.Mem.tail _ (List.Mem.tail _ (List.Mem.tail _ (List.Mem.tail _ (List.Mem.tail _ (List.Mem.tail _ (List.Mem.tail _ (List.Mem.tail _ (List.Mem.tail _ (List.Mem.tail _ (List.Mem.tail _ (List.Mem.tail _ (List.Mem.tail _ (List.Mem.tail _ (List.Mem.tail _ (List.Mem.tail _ (List.Mem.tail _ (List.Mem.tail _ (List.Mem.tail _ (List.Mem.tail _ (List.Mem.tail _ (List.Mem.tail _ (List.Mem.tail _ (List.Mem.tail _ (List.Mem.tail _ (List.Mem.head _))))))))))))))))))))))))))))))))))) hr d_int)) (x_ss s_nil)) (x_cons (x_s (s_set (i := 1) sc_read_lock.nd (d_split (d_var (pv 0)) d_str))) (x_cons (x_s (s_own (i := 2) sc_read_lock.nd l_nil)) (x_cons (x_s (s_set (i := 3) sc_read_lock.nd d_str)) (x_cons (x_for hp rfl (i_enumL (u_enumerate T) (l_cons (d_sl sl_list slL_ok (d_var (pv 1)) do_none (do_some (d_un un_neg negD_ok d_int))) l_nil)) (pg_tup (n := 2) rfl (pgs_cons (pg_name (i := 4) sc_read_lock.nd rfl (by first | exact Or.inl rfl | exact Or.inr rfl)) (pgs_cons (pg_name (i := 5) sc_read_lock.nd rfl (by first | exact Or.inl rfl | exact Or.inr rfl)) pgs_nil))) (g_tup (g_cons (g_name 4) (g_cons (g_name 5) g_nil))) (x_cons (x_s (s_set (i := 6) sc_read_lock.nd (d_callO (ok_triple_told T Z I) hr (l_cons (d_var (pv 5)) l_nil) (hl := (len_cons len_nil))))) (x_cons (x_if (dt_cmp op_isN isND_ok (d_var (pv 6)) d_non) (x_frz 2 (x_one (x_ret (dx_call (ok_ended T Z I) tk hr (l_cons (d_var (pv 1)) (l_cons (d_var (pv 4)) (l_cons (d_var (pv 5)) (l_cons (d_var (pv 3)) (l_cons (d_var (pv 2)) l_nil))))) (hl := (len_cons (len_cons (len_cons (len_cons (len_cons len_nil)))))))))) (x_ss s_nil)) (x_cons (x_if (dt_w (dw_and (dt_cmp (op_gtP hr.units) (relD_ok _) (d_lenO (u_len T) (pv 2)) d_int) (dw_and1 (dt_not (dt_cmp (op_ltP hr.units) (relD_ok _) (d_ix ix_seq ixD_ok (d_ixO (pv 2) (d_un un_neg negD_ok d_int)) d_int) (d_ix ix_seq ixD_ok (d_var (pv 6)) d_int)))))) (x_one (x_raise rfl tk (T.err e_BadLine (List.Mem.head _)).1 Z (T.tx.glo _ (List.Mem.tail _ (List.Mem.tail _ (List.Mem.tail _ (List.Mem.tail _ (List.Mem.tail _ (List.Mem.tail _ (List.Mem.tail _ (List.Mem.tail _ (List.Mem.tail _ (List.Mem.tail _ (List.Mem.tail _ (List.Mem.tail _ (List.Mem.tail _ (List.Mem.tail _ (List.Mem.tail _ (List.Mem.tail _ (List.Mem.tail _ (List.Mem.tail _ (List.Mem.tail _ (List.Mem.tail _ (List.Mem.tail _ (List.Mem.tail _ (List.Mem.tail _ (List.Mem.tail _ (List.Mem.tail _ (List.Mem.tail _ (List.Mem.tail _ (List.Mem.tail _ (List.Mem.tail _ (List.Mem.tail _ (List.Mem.tail _ (List.Mem.tail _ (List.Mem.tail _ (List.Mem.head _))))))))))))))))))))))))))))))))))) hr (d_op op_addA addD_ok (d_var (pv 4)) d_int))) (x_ss s_nil)) (x_ss (s_cons (s_app (pv 2) (d_var (pv 6))) (s_one (s_aug (i := 3) sc_read_lock.nd iop_addA iaddD_ok (d_op op_addA addD_ok (d_var (pv 5)) d_str))))))))) (x_one (x_raise rfl tk (T.err e_BadLine (List.Mem.head _)).1 Z (T.tx.glo _ (List.Mem.tail _ (List.Mem.tail _ (List.Mem.tail _ (List.Mem.tail _ (List.Mem.tail _ (List.Mem.tail _ (List.Mem.tail _ (List.Mem.tail _ (List.Mem.tail _ (List.Mem.tail _ (List.Mem.tail _ (List.Mem.tail _ (List.Mem.tail _ (List.Mem.tail _ (List.Mem.tail _ (List.Mem.tail _ (List.Mem.tail _ (List.Mem.tail _ (List.Mem.tail _ (List.Mem.tail _ (List.Mem.tail _ (List.Mem.tail _ (List.Mem.tail _ (List.Mem.tail _ (List.Mem.tail _ (List.Mem.tail _ (List.Mem.tail _ (List.Mem.tail _ (List.Mem.tail _ (List.Mem.tail _ (List.Mem.tail _ (List.Mem.tail _ (List.Mem.tail _ (List.Mem.head _))))))))))))))))))))))))))))))))))) hr (d_callB call_len lenD_ok (u_len T) (by decide +kernel) (l_cons (d_var (pv 1)) l_nil))))))))))
theorem sc_locks_of : FnScope ["installation", "name", "version", "features"] ["installation"] (defScope s_locks_of) := ⟨rfl, rfl, rfl, by decide +kernel, rfl, by decide +kernel, by decide +kernel⟩
def c_locks_of_0 : ME (S) := (mF tupD (mCons (mVar 1) (mCons (mVar 2) mNil)))
theorem c_locks_of_0_eq (env : DE) (s : S) : c_locks_of_0 env s = (mF tupD (mCons (mVar 1) (mCons (mVar 2) mNil))) env s := rfl
def f_locks_of : List D → S → Option (D × S) := mDef 4 (sRet (mF tupleCD (mCons (mComp (mIt tupItems (mVar 0)) (gdTup 3 (gdCons (gdName 1) (gdCons (gdName 2) (gdCons (gdName 3) gdNil)))) mYes c_locks_of_0 [1, 2, 3]) mNil)))
theorem ok_locks_of (T : Txt K mg) (Z : PySem.Er.Pg P "/claim/cut.py") (I : ∀ q ∈ fxs, q.ok K = true) : DOk P w K mg base (B) "locks_of" 1 ["installation"] f_locks_of := by
  obtain ⟨fd, Fn⟩ := T.tx.fns d_locks_of (List.Mem.tail _ (List.Mem.tail _ (List.Mem.tail _ (List.Mem.tail _ (List.Mem.tail _ (List.Mem.tail _ (List.Mem.tail _ (List.Mem.tail _ (List.Mem.tail _ (List.Mem.tail _ (List.Mem.tail _ (List.Mem.tail _ (List.Mem.tail _ (List.Mem.tail _ (List.Mem.tail _ (List.Mem.tail _ (List.Mem.tail _ (List.Mem.head _))))))))))))))))))
  exact d_defD Fn (T.tx.glo _ (List.Mem.tail _ (List.Mem.tail _ (List.Mem.tail _ (List.Mem.tail _ (List.Mem.tail _ (List.Mem.tail _ (List.Mem.tail _ (List.Mem.tail _ (List.Mem.tail _ (List.Mem.tail _ (List.Mem.tail _ (List.Mem.tail _ (List.Mem.tail _ (List.Mem.tail _ (List.Mem.tail _ (List.Mem.tail _ (List.Mem.tail _ (List.Mem.head _))))))))))))))))))) sc_locks_of (fun _ _ _ _ _ _ us hl => match us, hl with | [_], _ => rfl) (fun cdv A outer s H E hr => (s_one (s_ret (d_callTy call_tuple_of tupleCD_ok (u_tuple T) (by decide +kernel) (l_cons (d_lc rfl sc_locks_of.nd (i_tup (d_var (pv 0))) (blkOk_by (own := [("name", 1), ("version", 2), ("features", 3)]) (by kernel_rfl)) (fun _ _ _ _ _ => (pg_tup (n := 3) rfl (pgs_cons (pg_name (i := 1) sc_locks_of.nd rfl (by first | exact Or.inl rfl | exact Or.inr rfl)) (pgs_cons (pg_name (i := 2) sc_locks_of.nd rfl (by first | exact Or.inl rfl | exact Or.inr rfl)) (pgs_cons (pg_name (i := 3) sc_locks_of.nd rfl (by first | exact Or.inl rfl | exact Or.inr rfl)) pgs_nil))))) (g_tup (g_cons (g_name 1) (g_cons (g_name 2) (g_cons (g_name 3) g_nil)))) (fun _ _ _ _ _ => dts_nil) (fun _ _ _ _ _ => (d_tup (l_cons (d_var (pv 1)) (l_cons (d_var (pv 2)) l_nil))))) l_nil)))))
theorem sc_is_wish : FnScope ["thing"] ["thing"] (defScope s_is_wish) := ⟨rfl, rfl, rfl, by decide +kernel, rfl, by decide +kernel, by decide +kernel⟩
def f_is_wish : List D → S → Option (D × S) := mDef 1 (sSeq (sIf (mOrT (mNotT (mIsT (mU (isiD .tTuple) (mVar 0)))) (mOrT (mIsT (mB (relD neP) (mF lenD (mCons (mVar 0) mNil)) (mC (.int 3)))) (mNotT (mIsT (mCall f_is_name (mCons (mB ixD (mVar 0) (mC (.int 0))) mNil)))))) (sRet (mC (.bl false))) sNil) (sRet (mAnd (mCall f_is_range (mCons (mB ixD (mVar 0) (mC (.int 1))) mNil)) (mCall f_is_lot_of_names (mCons (mB ixD (mVar 0) (mC (.int 2))) (mCons (mC (.int 4)) mNil))))))
theorem ok_is_wish (T : Txt K mg) (Z : PySem.Er.Pg P "/claim/cut.py") (I : ∀ q ∈ fxs, q.ok K = true) : DOk P w K mg base (B) "is_wish" 6 ["thing"] f_is_wish := by
  obtain ⟨fd, Fn⟩ := T.tx.fns d_is_wish (List.Mem.tail _ (List.Mem.tail _ (List.Mem.tail _ (List.Mem.tail _ (List.Mem.tail _ (List.Mem.tail _ (List.Mem.tail _ (List.Mem.tail _ (List.Mem.tail _ (List.Mem.tail _ (List.Mem.tail _ (List.Mem.tail _ (List.Mem.tail _ (List.Mem.tail _ (List.Mem.tail _ (List.Mem.tail _ (List.Mem.tail _ (List.Mem.tail _ (List.Mem.head _)))))))))))))))))))
  exact d_defD Fn (T.tx.glo _ (List.Mem.tail _ (List.Mem.tail _ (List.Mem.tail _ (List.Mem.tail _ (List.Mem.tail _ (List.Mem.tail _ (List.Mem.tail _ (List.Mem.tail _ (List.Mem.tail _ (List.Mem.tail _ (List.Mem.tail _ (List.Mem.tail _ (List.Mem.tail _ (List.Mem.tail _ (List.Mem.tail _ (List.Mem.tail _ (List.Mem.tail _ (List.Mem.tail _ (List.Mem.head _)))))))))))))))))))) sc_is_wish (fun _ _ _ _ _ _ us hl => match us, hl with | [_], _ => rfl) (fun cdv A outer s H E hr => (s_cons (s_if (dt_w (dw_or (dt_not (dt_val (d_isi (u_isinstance T) (d_var (pv 0)) (pe_ty .tTuple (u_tuple T) (by decide +kernel))))) (dw_or (dt_cmp (op_neP hr.units) (relD_ok _) (d_callB call_len lenD_ok (u_len T) (by decide +kernel) (l_cons (d_var (pv 0)) l_nil)) d_int) (dw_or1 (dt_not (dt_val (d_callO (ok_is_name T Z I) hr (l_cons (d_ix ix_seq ixD_ok (d_var (pv 0)) d_int) l_nil) (hl := (len_cons len_nil))))))))) (s_one (s_ret d_bl)) s_nil) (s_one (s_ret (d_and (d_callO (ok_is_range T Z I) hr (l_cons (d_ix ix_seq ixD_ok (d_var (pv 0)) d_int) l_nil) (hl := (len_cons len_nil))) (d_one (d_callO (ok_is_lot_of_names T Z I) hr (l_cons (d_ix ix_seq ixD_ok (d_var (pv 0)) d_int) (l_cons (d_gint (g_MOST_WANTED T)) l_nil)) (hl := (len_cons (len_cons len_nil))))))))))
theorem sc_are_locks : FnScope ["thing", "pair"] ["thing"] (defScope s_are_locks) := ⟨rfl, rfl, rfl, by decide +kernel, rfl, by decide +kernel, by decide +kernel⟩
def c_are_locks_0 : ME (S) := (mAnd (mU (isiD .tTuple) (mVar 1)) (mAnd (mB (relD eqP) (mF lenD (mCons (mVar 1) mNil)) (mC (.int 2))) (mCall f_is_name (mCons (mB ixD (mVar 1) (mC (.int 0))) mNil))))
theorem c_are_locks_0_eq (env : DE) (s : S) : c_are_locks_0 env s = (mAnd (mU (isiD .tTuple) (mVar 1)) (mAnd (mB (relD eqP) (mF lenD (mCons (mVar 1) mNil)) (mC (.int 2))) (mCall f_is_name (mCons (mB ixD (mVar 1) (mC (.int 0))) mNil)))) env s := rfl
def c_are_locks_1 : ME (S) := (mCall f_is_version (mCons (mB ixD (mVar 1) (mC (.int 1))) mNil))
theorem c_are_locks_1_eq (env : DE) (s : S) : c_are_locks_1 env s = (mCall f_is_version (mCons (mB ixD (mVar 1) (mC (.int 1))) mNil)) env s := rfl
def c_are_locks_2 : ME (S) := (mB ixD (mVar 1) (mC (.int 0)))
theorem c_are_locks_2_eq (env : DE) (s : S) : c_are_locks_2 env s = (mB ixD (mVar 1) (mC (.int 0))) env s := rfl
def f_are_locks : List D → S → Option (D × S) := mDef 2 (sSeq (sIf (mOrT (mNotT (mIsT (mU (isiD .tTuple) (mVar 0)))) (mIsT (mB (relD gtP) (mF lenD (mCons (mVar 0) mNil)) (mC (.int 40))))) (sRet (mC (.bl false))) sNil) (sSeq (sIf (mNotT (mIsT (mF allD (mCons (mComp (mIt tupItems (mVar 0)) (gdName 1) mYes c_are_locks_0 [1]) mNil)))) (sRet (mC (.bl false))) sNil) (sRet (mAnd (mF allD (mCons (mComp (mIt tupItems (mVar 0)) (gdName 1) mYes c_are_locks_1 [1]) mNil)) (mCall f_is_rising (mCons (mComp (mIt tupItems (mVar 0)) (gdName 1) mYes c_are_locks_2 [1]) mNil))))))
theorem ok_are_locks (T : Txt K mg) (Z : PySem.Er.Pg P "/claim/cut.py") (I : ∀ q ∈ fxs, q.ok K = true) : DOk P w K mg base (B) "are_locks" 4 ["thing"] f_are_locks := by
  obtain ⟨fd, Fn⟩ := T.tx.fns d_are_locks (List.Mem.tail _ (List.Mem.tail _ (List.Mem.tail _ (List.Mem.tail _ (List.Mem.tail _ (List.Mem.tail _ (List.Mem.tail _ (List.Mem.tail _ (List.Mem.tail _ (List.Mem.tail _ (List.Mem.tail _ (List.Mem.tail _ (List.Mem.tail _ (List.Mem.tail _ (List.Mem.tail _ (List.Mem.tail _ (List.Mem.tail _ (List.Mem.tail _ (List.Mem.tail _ (List.Mem.head _))))))))))))))))))))
  exact d_defD Fn (T.tx.glo _ (List.Mem.tail _ (List.Mem.tail _ (List.Mem.tail _ (List.Mem.tail _ (List.Mem.tail _ (List.Mem.tail _ (List.Mem.tail _ (List.Mem.tail _ (List.Mem.tail _ (List.Mem.tail _ (List.Mem.tail _ (List.Mem.tail _ (List.Mem.tail _ (List.Mem.tail _ (List.Mem.tail _ (List.Mem.tail _ (List.Mem.tail _ (List.Mem.tail _ (List.Mem.tail _ (List.Mem.head _))))))))))))))))))))) sc_are_locks (fun _ _ _ _ _ _ us hl => match us, hl with | [_], _ => rfl) (fun cdv A outer s H E hr => (s_cons (s_if (dt_w (dw_or (dt_not (dt_val (d_isi (u_isinstance T) (d_var (pv 0)) (pe_ty .tTuple (u_tuple T) (by decide +kernel))))) (dw_or1 (dt_cmp (op_gtP hr.units) (relD_ok _) (d_callB call_len lenD_ok (u_len T) (by decide +kernel) (l_cons (d_var (pv 0)) l_nil)) (d_gint (g_MOST_LOCKS T)))))) (s_one (s_ret d_bl)) s_nil) (s_cons (s_if (dt_not (dt_val (d_callB (cr_all rfl) allD_ok (u_all T) (by decide +kernel) (l_cons (d_lc rfl sc_are_locks.nd (i_tup (d_var (pv 0))) (blkOk_by (own := [("pair", 1)]) (by kernel_rfl)) (fun _ _ _ _ _ => (pg_name (i := 1) sc_are_locks.nd rfl (by first | exact Or.inl rfl | exact Or.inr rfl))) (g_name 1) (fun _ _ _ _ _ => dts_nil) (fun _ _ _ _ _ => (d_and (d_isi (u_isinstance T) (d_var (pv 1)) (pe_ty .tTuple (u_tuple T) (by decide +kernel))) (d_and (d_cmp (op_eqP hr.units) (relD_ok _) (d_callB call_len lenD_ok (u_len T) (by decide +kernel) (l_cons (d_var (pv 1)) l_nil)) d_int) (d_one (d_callO (ok_is_name T Z I) hr (l_cons (d_ix ix_seq ixD_ok (d_var (pv 1)) d_int) l_nil) (hl := (len_cons len_nil)))))))) l_nil)))) (s_one (s_ret d_bl)) s_nil) (s_one (s_ret (d_and (d_callB (cr_all rfl) allD_ok (u_all T) (by decide +kernel) (l_cons (d_lc rfl sc_are_locks.nd (i_tup (d_var (pv 0))) (blkOk_by (own := [("pair", 1)]) (by kernel_rfl)) (fun _ _ _ _ _ => (pg_name (i := 1) sc_are_locks.nd rfl (by first | exact Or.inl rfl | exact Or.inr rfl))) (g_name 1) (fun _ _ _ _ _ => dts_nil) (fun _ _ _ _ _ => (d_callO (ok_is_version T Z I) hr (l_cons (d_ix ix_seq ixD_ok (d_var (pv 1)) d_int) l_nil) (hl := (len_cons len_nil))))) l_nil)) (d_one (d_callO (ok_is_rising T Z I) hr (l_cons (d_lc rfl sc_are_locks.nd (i_tup (d_var (pv 0))) (blkOk_by (own := [("pair", 1)]) (by kernel_rfl)) (fun _ _ _ _ _ => (pg_name (i := 1) sc_are_locks.nd rfl (by first | exact Or.inl rfl | exact Or.inr rfl))) (g_name 1) (fun _ _ _ _ _ => dts_nil) (fun _ _ _ _ _ => (d_ix ix_seq ixD_ok (d_var (pv 1)) d_int))) l_nil) (hl := (len_cons len_nil))))))))))
theorem sc__law_hand : FnScope ["_law_script", "_law_cells", "_law_cell"] ["_law_script"] (defScope s__law_hand) := ⟨rfl, rfl, rfl, by decide +kernel, rfl, by decide +kernel, by decide +kernel⟩
def c__law_hand_0 : ME (List Int) := (mF absD (mCons (mF intCD (mCons (mVar 2) mNil)) mNil))
theorem c__law_hand_0_eq (env : DE) (s : List Int) : c__law_hand_0 env s = (mF absD (mCons (mF intCD (mCons (mVar 2) mNil)) mNil)) env s := rfl
def f__law_hand : List D → List Int → Option (D × List Int) := mDef 3 (sSeq (sAsg (gdName 1) (mComp (mIt lstItems (mScr 0 63)) (gdName 2) mYes c__law_hand_0 [2])) (sRet (mDisp ["cells", "at", "left", "seed", "turn"] (mCons (mVar 1) (mCons (mC (.int 0)) (mCons (mC (.int 0)) (mCons (mB addD (mC (.int 40961)) (mF lenD (mCons (mVar 1) mNil))) (mCons (mC (.int 0)) mNil))))))))
theorem ok__law_hand (T : Txt K mg) (Z : PySem.Er.Pg P "/claim/cut.py") (I : ∀ q ∈ fxs, q.ok K = true) : DOk P w K mg base (ScrB K a bp) "_law_hand" 1 ["_law_script"] f__law_hand := by
  obtain ⟨fd, Fn⟩ := T.tx.fns d__law_hand (List.Mem.tail _ (List.Mem.tail _ (List.Mem.tail _ (List.Mem.tail _ (List.Mem.tail _ (List.Mem.tail _ (List.Mem.tail _ (List.Mem.tail _ (List.Mem.tail _ (List.Mem.tail _ (List.Mem.tail _ (List.Mem.tail _ (List.Mem.tail _ (List.Mem.tail _ (List.Mem.tail _ (List.Mem.tail _ (List.Mem.tail _ (List.Mem.tail _ (List.Mem.tail _ (List.Mem.tail _ (List.Mem.head _)))))))))))))))))))))
  exact d_defD Fn (T.tx.glo _ (List.Mem.tail _ (List.Mem.tail _ (List.Mem.tail _ (List.Mem.tail _ (List.Mem.tail _ (List.Mem.tail _ (List.Mem.tail _ (List.Mem.tail _ (List.Mem.tail _ (List.Mem.tail _ (List.Mem.tail _ (List.Mem.tail _ (List.Mem.tail _ (List.Mem.tail _ (List.Mem.tail _ (List.Mem.tail _ (List.Mem.tail _ (List.Mem.tail _ (List.Mem.tail _ (List.Mem.tail _ (List.Mem.head _)))))))))))))))))))))) sc__law_hand (fun _ _ _ _ _ _ us hl => match us, hl with | [_], _ => rfl) (fun cdv A outer s H E hr => (s_cons (s_setLc (i := 1) rfl sc__law_hand.nd rfl rfl (sw_true rfl rfl rfl (by decide +kernel)) (i_lst (d_scr (pv 0))) (blkOk_by (own := [("_law_cell", 2)]) (by kernel_rfl)) (fun _ _ _ _ _ => (pg_name (i := 2) sc__law_hand.nd rfl (by first | exact Or.inl rfl | exact Or.inr rfl))) (g_name 2) (fun _ _ _ _ _ => dts_nil) (fun _ _ _ _ _ => (d_callB call_abs absD_ok (u_abs T) (by decide +kernel) (l_cons (d_callTy call_int1 intCD_ok (u_int T) (by decide +kernel) (l_cons (d_var (pv 2)) l_nil)) l_nil)))) (s_one (s_ret (d_disp (pd_cons (d_var (pv 1)) (pd_cons d_int (pd_cons d_int (pd_cons (d_op op_addA addD_ok d_int (d_callB call_len lenD_ok (u_len T) (by decide +kernel) (l_cons (d_var (pv 1)) l_nil))) (pd_cons d_int pd_nil))))) (by simp))))))
theorem sc__law_draw : FnScope ["_law_hand_here", "_law_many", "_law_number", "_law_cell", "_law_digit"] ["_law_hand_here", "_law_many"] (defScope s__law_draw) := ⟨rfl, rfl, rfl, by decide +kernel, rfl, by decide +kernel, by decide +kernel⟩
def f__law_draw : List D → Hand → Option (D × Hand) := mDef 5 (sSeq (sIf (mAndT (mIsT (mB (relD eqP) (mHx 0 2) (mC (.int 0)))) (mIsT (mB (relD ltP) (mHx 0 1) (mHlen 0)))) (sSeq (sAsg (gdName 3) (mHcell 0 (mHx 0 1))) (sSeq (sHput 0 1 (mB addD (mHx 0 1) (mC (.int 1)))) (sSeq (sHput 0 3 (mB modD (mF intCD (mCons (mB addD (mB addD (mB mulD (mHx 0 3) (mC (.int 69621))) (mVar 3)) (mC (.int 11))) mNil)) (mC (.int 2147483629)))) (sHput 0 2 (mIf (mIsT (mB (relD geP) (mVar 3) (mB powD (mC (.int 10)) (mC (.int 18))))) (mVar 3) (mC (.int 0))))))) sNil) (sSeq (sIf (mIsT (mB (relD gtP) (mHx 0 2) (mC (.int 0)))) (sSeq (sAsg (gdName 4) (mB modD (mF intCD (mCons (mHx 0 2) mNil)) (mVar 1))) (sSeq (sHput 0 2 (mB divD (mHx 0 2) (mVar 1))) (sRet (mVar 4)))) sNil) (sSeq (sHput 0 4 (mB addD (mHx 0 4) (mC (.int 1)))) (sSeq (sAsg (gdName 2) (mB modD (mF intCD (mCons (mB mulD (mF intCD (mCons (mB addD (mHx 0 3) (mB mulD (mC (.int 7927)) (mHx 0 4))) mNil)) (mC (.int 48271))) mNil)) (mC (.int 2147483647)))) (sSeq (sAsg (gdName 2) (mB modD (mF intCD (mCons (mB mulD (mVar 2) (mB addD (mB divD (mVar 2) (mC (.int 1013))) (mC (.int 69623)))) mNil)) (mC (.int 2147483587)))) (sSeq (sAsg (gdName 2) (mB modD (mF intCD (mCons (mB addD (mB mulD (mVar 2) (mB addD (mB divD (mVar 2) (mC (.int 2011))) (mC (.int 40693)))) (mHx 0 4)) mNil)) (mC (.int 2147483399)))) (sRet (mB modD (mF intCD (mCons (mB divD (mVar 2) (mC (.int 32))) mNil)) (mVar 1)))))))))
theorem ok__law_draw (T : Txt K mg) (Z : PySem.Er.Pg P "/claim/cut.py") (I : ∀ q ∈ fxs, q.ok K = true) : DOk P w K mg base (HandK p c) "_law_draw" 1 ["_law_hand_here", "_law_many"] f__law_draw := by
  obtain ⟨fd, Fn⟩ := T.tx.fns d__law_draw (List.Mem.tail _ (List.Mem.tail _ (List.Mem.tail _ (List.Mem.tail _ (List.Mem.tail _ (List.Mem.tail _ (List.Mem.tail _ (List.Mem.tail _ (List.Mem.tail _ (List.Mem.tail _ (List.Mem.tail _ (List.Mem.tail _ (List.Mem.tail _ (List.Mem.tail _ (List.Mem.tail _ (List.Mem.tail _ (List.Mem.tail _ (List.Mem.tail _ (List.Mem.tail _ (List.Mem.tail _ (List.Mem.tail _ (List.Mem.head _))))))))))))))))))))))
  exact d_defD Fn (T.tx.glo _ (List.Mem.tail _ (List.Mem.tail _ (List.Mem.tail _ (List.Mem.tail _ (List.Mem.tail _ (List.Mem.tail _ (List.Mem.tail _ (List.Mem.tail _ (List.Mem.tail _ (List.Mem.tail _ (List.Mem.tail _ (List.Mem.tail _ (List.Mem.tail _ (List.Mem.tail _ (List.Mem.tail _ (List.Mem.tail _ (List.Mem.tail _ (List.Mem.tail _ (List.Mem.tail _ (List.Mem.tail _ (List.Mem.tail _ (List.Mem.head _))))))))))))))))))))))) sc__law_draw (fun _ _ _ _ _ _ us hl => match us, hl with | [_, _], _ => rfl) (fun cdv A outer s H E hr => (s_cons (s_if (dt_w (dw_and (dt_cmp (op_eqP hr.units) (relD_ok _) (dk_hx rfl hr.units (pv 0)) d_int) (dw_and1 (dt_cmp (op_ltP hr.units) (relD_ok _) (dk_hx rfl hr.units (pv 0)) (dk_hlen (u_len T) hr.units (pv 0)))))) (s_cons (s_set (i := 3) sc__law_draw.nd (dk_hcell hr.units (pv 0) (dk_hx rfl hr.units (pv 0)))) (s_cons (sk_hput rfl (pv 0) (d_op op_addA addD_ok (dk_hx rfl hr.units (pv 0)) d_int) (fun ho hk => pg_sub ho hk (set_dict (Nat.lt_of_le_of_lt (Nat.add_le_add_left (by decide) _) hr.units)))) (s_cons (sk_hput rfl (pv 0) (d_op op_mod modD_ok (d_callTy call_int1 intCD_ok (u_int T) (by decide +kernel) (l_cons (d_op op_addA addD_ok (d_op op_addA addD_ok (d_op op_mulA mulD_ok (dk_hx rfl hr.units (pv 0)) d_int) (d_var (pv 3))) d_int) l_nil)) d_int) (fun ho hk => pg_sub ho hk (set_dict (Nat.lt_of_le_of_lt (Nat.add_le_add_left (by decide) _) hr.units)))) (s_one (sk_hput rfl (pv 0) (d_if (dt_cmp (op_geP hr.units) (relD_ok _) (d_var (pv 3)) (d_op op_pow powD_ok d_int d_int)) (d_var (pv 3)) d_int) (fun ho hk => pg_sub ho hk (set_dict (Nat.lt_of_le_of_lt (Nat.add_le_add_left (by decide) _) hr.units)))))))) s_nil) (s_cons (s_if (dt_cmp (op_gtP hr.units) (relD_ok _) (dk_hx rfl hr.units (pv 0)) d_int) (s_cons (s_set (i := 4) sc__law_draw.nd (d_op op_mod modD_ok (d_callTy call_int1 intCD_ok (u_int T) (by decide +kernel) (l_cons (dk_hx rfl hr.units (pv 0)) l_nil)) (d_var (pv 1)))) (s_cons (sk_hput rfl (pv 0) (d_op op_fdivW divD_ok (dk_hx rfl hr.units (pv 0)) (d_var (pv 1))) (fun ho hk => pg_sub ho hk (set_dict (Nat.lt_of_le_of_lt (Nat.add_le_add_left (by decide) _) hr.units)))) (s_one (s_ret (d_var (pv 4)))))) s_nil) (s_cons (sk_hput rfl (pv 0) (d_op op_addA addD_ok (dk_hx rfl hr.units (pv 0)) d_int) (fun ho hk => pg_sub ho hk (set_dict (Nat.lt_of_le_of_lt (Nat.add_le_add_left (by decide) _) hr.units)))) (s_cons (s_set (i := 2) sc__law_draw.nd (d_op op_mod modD_ok (d_callTy call_int1 intCD_ok (u_int T) (by decide +kernel) (l_cons (d_op op_mulA mulD_ok (d_callTy call_int1 intCD_ok (u_int T) (by decide +kernel) (l_cons (d_op op_addA addD_ok (dk_hx rfl hr.units (pv 0)) (d_op op_mulA mulD_ok d_int (dk_hx rfl hr.units (pv 0)))) l_nil)) d_int) l_nil)) d_int)) (s_cons (s_set (i := 2) sc__law_draw.nd (d_op op_mod modD_ok (d_callTy call_int1 intCD_ok (u_int T) (by decide +kernel) (l_cons (d_op op_mulA mulD_ok (d_var (pv 2)) (d_op op_addA addD_ok (d_op op_fdivW divD_ok (d_var (pv 2)) d_int) d_int)) l_nil)) d_int)) (s_cons (s_set (i := 2) sc__law_draw.nd (d_op op_mod modD_ok (d_callTy call_int1 intCD_ok (u_int T) (by decide +kernel) (l_cons (d_op op_addA addD_ok (d_op op_mulA mulD_ok (d_var (pv 2)) (d_op op_addA addD_ok (d_op op_fdivW divD_ok (d_var (pv 2)) d_int) d_int)) (dk_hx rfl hr.units (pv 0))) l_nil)) d_int)) (s_one (s_ret (d_op op_mod modD_ok (d_callTy call_int1 intCD_ok (u_int T) (by decide +kernel) (l_cons (d_op op_fdivW divD_ok (d_var (pv 2)) d_int) l_nil)) (d_var (pv 1))))))))))))
theorem sc__law_any : FnScope ["_law_hand_here", "_law_things"] ["_law_hand_here", "_law_things"] (defScope s__law_any) := ⟨rfl, rfl, rfl, by decide +kernel, rfl, by decide +kernel, by decide +kernel⟩
def f__law_any : List D → Hand → Option (D × Hand) := mDef 2 (sRet (mB ixD (mVar 1) (mCall f__law_draw (mCons (mVar 0) (mCons (mF lenD (mCons (mVar 1) mNil)) mNil)))))
theorem ok__law_any (T : Txt K mg) (Z : PySem.Er.Pg P "/claim/cut.py") (I : ∀ q ∈ fxs, q.ok K = true) : DOk P w K mg base (HandK p c) "_law_any" 2 ["_law_hand_here", "_law_things"] f__law_any := by
  obtain ⟨fd, Fn⟩ := T.tx.fns d__law_any (List.Mem.tail _ (List.Mem.tail _ (List.Mem.tail _ (List.Mem.tail _ (List.Mem.tail _ (List.Mem.tail _ (List.Mem.tail _ (List.Mem.tail _ (List.Mem.tail _ (List.Mem.tail _ (List.Mem.tail _ (List.Mem.tail _ (List.Mem.tail _ (List.Mem.tail _ (List.Mem.tail _ (List.Mem.tail _ (List.Mem.tail _ (List.Mem.tail _ (List.Mem.tail _ (List.Mem.tail _ (List.Mem.tail _ (List.Mem.tail _ (List.Mem.head _)))))))))))))))))))))))
  exact d_defD Fn (T.tx.glo _ (List.Mem.tail _ (List.Mem.tail _ (List.Mem.tail _ (List.Mem.tail _ (List.Mem.tail _ (List.Mem.tail _ (List.Mem.tail _ (List.Mem.tail _ (List.Mem.tail _ (List.Mem.tail _ (List.Mem.tail _ (List.Mem.tail _ (List.Mem.tail _ (List.Mem.tail _ (List.Mem.tail _ (List.Mem.tail _ (List.Mem.tail _ (List.Mem.tail _ (List.Mem.tail _ (List.Mem.tail _ (List.Mem.tail _ (List.Mem.tail _ (List.Mem.head _)))))))))))))))))))))))) sc__law_any (fun _ _ _ _ _ _ us hl => match us, hl with | [_, _], _ => rfl) (fun cdv A outer s H E hr => (s_one (s_ret (d_ix ix_seq ixD_ok (d_var (pv 1)) (d_callO (ok__law_draw T Z I) hr (l_cons (d_var (pv 0)) (l_cons (d_callB call_len lenD_ok (u_len T) (by decide +kernel) (l_cons (d_var (pv 1)) l_nil)) l_nil)) (hl := (len_cons (len_cons len_nil))))))))
theorem sc__law_name : FnScope ["_law_hand_here", "_law_letters", "_law_k"] ["_law_hand_here"] (defScope s__law_name) := ⟨rfl, rfl, rfl, by decide +kernel, rfl, by decide +kernel, by decide +kernel⟩
def c__law_name_0 : ME (Hand) := (mB ixD (mVar 1) (mCall f__law_draw (mCons (mVar 0) (mCons (mC (.int 26)) mNil))))
theorem c__law_name_0_eq (env : DE) (s : Hand) : c__law_name_0 env s = (mB ixD (mVar 1) (mCall f__law_draw (mCons (mVar 0) (mCons (mC (.int 26)) mNil)))) env s := rfl
def f__law_name : List D → Hand → Option (D × Hand) := mDef 3 (sSeq (sAsg (gdName 1) (mC (.str "abcdefghijklmnopqrstuvwxyz"))) (sSeq (sIf (mIsT (mB (relD eqP) (mCall f__law_draw (mCons (mVar 0) (mCons (mC (.int 9)) mNil))) (mC (.int 0)))) (sRet (mCall f__law_any (mCons (mVar 0) (mCons (mF lstD (mCons (mC (.str "check")) (mCons (mC (.str "edition")) (mCons (mC (.str "done")) (mCons (mC (.str "a")) (mCons (mC (.str "zz")) (mCons (mC (.str "checkcheckab")) mNil))))))) mNil)))) sNil) (sRet (mB joinD (mC (.str "")) (mComp (mRng rng1D (mCons (mB addD (mC (.int 1)) (mCall f__law_any (mCons (mVar 0) (mCons (mF lstD (mCons (mC (.int 0)) (mCons (mC (.int 0)) (mCons (mC (.int 1)) (mCons (mC (.int 2)) (mCons (mC (.int 4)) (mCons (mC (.int 11)) mNil))))))) mNil)))) mNil)) (gdName 2) mYes c__law_name_0 [2])))))
theorem ok__law_name (T : Txt K mg) (Z : PySem.Er.Pg P "/claim/cut.py") (I : ∀ q ∈ fxs, q.ok K = true) : DOk P w K mg base (HandK p c) "_law_name" 3 ["_law_hand_here"] f__law_name := by
  obtain ⟨fd, Fn⟩ := T.tx.fns d__law_name (List.Mem.tail _ (List.Mem.tail _ (List.Mem.tail _ (List.Mem.tail _ (List.Mem.tail _ (List.Mem.tail _ (List.Mem.tail _ (List.Mem.tail _ (List.Mem.tail _ (List.Mem.tail _ (List.Mem.tail _ (List.Mem.tail _ (List.Mem.tail _ (List.Mem.tail _ (List.Mem.tail _ (List.Mem.tail _ (List.Mem.tail _ (List.Mem.tail _ (List.Mem.tail _ (List.Mem.tail _ (List.Mem.tail _ (List.Mem.tail _ (List.Mem.tail _ (List.Mem.head _))))))))))))))))))))))))
  exact d_defD Fn (T.tx.glo _ (List.Mem.tail _ (List.Mem.tail _ (List.Mem.tail _ (List.Mem.tail _ (List.Mem.tail _ (List.Mem.tail _ (List.Mem.tail _ (List.Mem.tail _ (List.Mem.tail _ (List.Mem.tail _ (List.Mem.tail _ (List.Mem.tail _ (List.Mem.tail _ (List.Mem.tail _ (List.Mem.tail _ (List.Mem.tail _ (List.Mem.tail _ (List.Mem.tail _ (List.Mem.tail _ (List.Mem.tail _ (List.Mem.tail _ (List.Mem.tail _ (List.Mem.tail _ (List.Mem.head _))))))))))))))))))))))))) sc__law_name (fun _ _ _ _ _ _ us hl => match us, hl with | [_], _ => rfl) (fun cdv A outer s H E hr => (s_cons (s_set (i := 1) sc__law_name.nd d_str) (s_cons (s_if (dt_cmp (op_eqP hr.units) (relD_ok _) (d_callO (ok__law_draw T Z I) hr (l_cons (d_var (pv 0)) (l_cons d_int l_nil)) (hl := (len_cons (len_cons len_nil)))) d_int) (s_one (s_ret (d_callO (ok__law_any T Z I) hr (l_cons (d_var (pv 0)) (l_cons (d_lst (l_cons d_str (l_cons d_str (l_cons d_str (l_cons d_str (l_cons d_str (l_cons d_str l_nil))))))) l_nil)) (hl := (len_cons (len_cons len_nil)))))) s_nil) (s_one (s_ret (d_join d_str (d_lc rfl sc__law_name.nd (i_rng1 (u_range T) (l_cons (d_op op_addA addD_ok d_int (d_callO (ok__law_any T Z I) hr (l_cons (d_var (pv 0)) (l_cons (d_lst (l_cons d_int (l_cons d_int (l_cons d_int (l_cons d_int (l_cons d_int (l_cons d_int l_nil))))))) l_nil)) (hl := (len_cons (len_cons len_nil))))) l_nil)) (blkOk_by (own := [("_law_k", 2)]) (by kernel_rfl)) (fun _ _ _ _ _ => (pg_name (i := 2) sc__law_name.nd rfl (by first | exact Or.inl rfl | exact Or.inr rfl))) (g_name 2) (fun _ _ _ _ _ => dts_nil) (fun _ _ _ _ _ => (d_ix ix_seq ixD_ok (d_var (pv 1)) (d_callO (ok__law_draw T Z I) hr (l_cons (d_var (pv 0)) (l_cons d_int l_nil)) (hl := (len_cons (len_cons len_nil)))))))))))))
theorem sc__law_installation : FnScope ["_law_hand_here", "_law_found", "_law_name_here", "_law_numbers", "_law_features", "_law_k"] ["_law_hand_here"] (defScope s__law_installation) := ⟨rfl, rfl, rfl, by decide +kernel, rfl, by decide +kernel, by decide +kernel⟩
def c__law_installation_0 : ME (Hand) := (mCall f__law_name (mCons (mVar 0) mNil))
theorem c__law_installation_0_eq (env : DE) (s : Hand) : c__law_installation_0 env s = (mCall f__law_name (mCons (mVar 0) mNil)) env s := rfl
def c__law_installation_1 : ME (Hand) := (mCall f__law_any (mCons (mVar 0) (mCons (mF lstD (mCons (mC (.int 0)) (mCons (mC (.int 1)) (mCons (mC (.int 9)) (mCons (mC (.int 10)) (mCons (mC (.int 1000000)) (mCons (mCall f__law_draw (mCons (mVar 0) (mCons (mC (.int 1000001)) mNil))) mNil))))))) mNil)))
theorem c__law_installation_1_eq (env : DE) (s : Hand) : c__law_installation_1 env s = (mCall f__law_any (mCons (mVar 0) (mCons (mF lstD (mCons (mC (.int 0)) (mCons (mC (.int 1)) (mCons (mC (.int 9)) (mCons (mC (.int 10)) (mCons (mC (.int 1000000)) (mCons (mCall f__law_draw (mCons (mVar 0) (mCons (mC (.int 1000001)) mNil))) mNil))))))) mNil))) env s := rfl
def c__law_installation_2 : ME (Hand) := (mCall f__law_name (mCons (mVar 0) mNil))
theorem c__law_installation_2_eq (env : DE) (s : Hand) : c__law_installation_2 env s = (mCall f__law_name (mCons (mVar 0) mNil)) env s := rfl
def b__law_installation_0 : MS (Hand) := (sSeq (sAsg (gdName 3) (mComp (mRng rng1D (mCons (mC (.int 3)) mNil)) (gdName 5) mYes c__law_installation_1 [5])) (sSeq (sAsg (gdName 4) (mF ssetTD (mCons (mComp (mRng rng1D (mCons (mCall f__law_any (mCons (mVar 0) (mCons (mF lstD (mCons (mC (.int 0)) (mCons (mC (.int 0)) (mCons (mC (.int 0)) (mCons (mC (.int 0)) (mCons (mC (.int 1)) (mCons (mC (.int 2)) (mCons (mC (.int 3)) (mCons (mC (.int 9)) mNil))))))))) mNil))) mNil)) (gdName 5) mYes c__law_installation_2 [5]) mNil))) (sApp 1 (mF tupD (mCons (mVar 2) (mCons (mF tupleCD (mCons (mVar 3) mNil)) (mCons (mF tupleCD (mCons (mVar 4) mNil)) mNil)))))))
theorem b__law_installation_0_eq (env : DE) (s : Hand) : b__law_installation_0 env s = (sSeq (sAsg (gdName 3) (mComp (mRng rng1D (mCons (mC (.int 3)) mNil)) (gdName 5) mYes c__law_installation_1 [5])) (sSeq (sAsg (gdName 4) (mF ssetTD (mCons (mComp (mRng rng1D (mCons (mCall f__law_any (mCons (mVar 0) (mCons (mF lstD (mCons (mC (.int 0)) (mCons (mC (.int 0)) (mCons (mC (.int 0)) (mCons (mC (.int 0)) (mCons (mC (.int 1)) (mCons (mC (.int 2)) (mCons (mC (.int 3)) (mCons (mC (.int 9)) mNil))))))))) mNil))) mNil)) (gdName 5) mYes c__law_installation_2 [5]) mNil))) (sApp 1 (mF tupD (mCons (mVar 2) (mCons (mF tupleCD (mCons (mVar 3) mNil)) (mCons (mF tupleCD (mCons (mVar 4) mNil)) mNil))))))) env s := rfl
def f__law_installation : List D → Hand → Option (D × Hand) := mDef 6 (sSeq (sOwn 1 mNil) (sSeq (sFor (mIt lstItems (mF ssetTD (mCons (mComp (mRng rng1D (mCons (mCall f__law_any (mCons (mVar 0) (mCons (mF lstD (mCons (mC (.int 0)) (mCons (mC (.int 1)) (mCons (mC (.int 1)) (mCons (mC (.int 2)) (mCons (mC (.int 2)) (mCons (mC (.int 3)) (mCons (mC (.int 3)) (mCons (mC (.int 4)) (mCons (mC (.int 4)) (mCons (mC (.int 5)) (mCons (mC (.int 6)) (mCons (mC (.int 60)) mNil))))))))))))) mNil))) mNil)) (gdName 5) mYes c__law_installation_0 [5]) mNil))) (gdName 2) b__law_installation_0) (sRet (mTupO 1))))
theorem ok__law_installation (T : Txt K mg) (Z : PySem.Er.Pg P "/claim/cut.py") (I : ∀ q ∈ fxs, q.ok K = true) : DOk P w K mg base (HandK p c) "_law_installation" 4 ["_law_hand_here"] f__law_installation := by
  obtain ⟨fd, Fn⟩ := T.tx.fns d__law_installation (List.Mem.tail _ (List.Mem.tail _ (List.Mem.tail _ (List.Mem.tail _ (List.Mem.tail _ (List.Mem.tail _ (List.Mem.tail _ (List.Mem.tail _ (List.Mem.tail _ (List.Mem.tail _ (List.Mem.tail _ (List.Mem.tail _ (List.Mem.tail _ (List.Mem.tail _ (List.Mem.tail _ (List.Mem.tail _ (List.Mem.tail _ (List.Mem.tail _ (List.Mem.tail _ (List.Mem.tail _ (List.Mem.tail _ (List.Mem.tail _ (List.Mem.tail _ (List.Mem.tail _ (List.Mem.head _)))))))))))))))))))))))))
  exact d_defD Fn (T.tx.glo _ (List.Mem.tail _ (List.Mem.tail _ (List.Mem.tail _ (List.Mem.tail _ (List.Mem.tail _ (List.Mem.tail _ (List.Mem.tail _ (List.Mem.tail _ (List.Mem.tail _ (List.Mem.tail _ (List.Mem.tail _ (List.Mem.tail _ (List.Mem.tail _ (List.Mem.tail _ (List.Mem.tail _ (List.Mem.tail _ (List.Mem.tail _ (List.Mem.tail _ (List.Mem.tail _ (List.Mem.tail _ (List.Mem.tail _ (List.Mem.tail _ (List.Mem.tail _ (List.Mem.tail _ (List.Mem.head _)))))))))))))))))))))))))) sc__law_installation (fun _ _ _ _ _ _ us hl => match us, hl with | [_], _ => rfl) (fun cdv A outer s H E hr => (s_cons (s_own (i := 1) sc__law_installation.nd l_nil) (s_cons (s_for PassesOwn.never rfl (i_lst (d_ssetT rfl (u_sorted T) (u_set T) (l_cons (d_lc rfl sc__law_installation.nd (i_rng1 (u_range T) (l_cons (d_callO (ok__law_any T Z I) hr (l_cons (d_var (pv 0)) (l_cons (d_lst (l_cons d_int (l_cons d_int (l_cons d_int (l_cons d_int (l_cons d_int (l_cons d_int (l_cons d_int (l_cons d_int (l_cons d_int (l_cons d_int (l_cons d_int (l_cons d_int l_nil))))))))))))) l_nil)) (hl := (len_cons (len_cons len_nil)))) l_nil)) (blkOk_by (own := [("_law_k", 5)]) (by kernel_rfl)) (fun _ _ _ _ _ => (pg_name (i := 5) sc__law_installation.nd rfl (by first | exact Or.inl rfl | exact Or.inr rfl))) (g_name 5) (fun _ _ _ _ _ => dts_nil) (fun _ _ _ _ _ => (d_callO (ok__law_name T Z I) hr (l_cons (d_var (pv 0)) l_nil) (hl := (len_cons len_nil))))) l_nil))) (pg_name (i := 2) sc__law_installation.nd rfl (by first | exact Or.inl rfl | exact Or.inr rfl)) (g_name 2) (s_cons (s_setLc (i := 3) rfl sc__law_installation.nd rfl rfl (sw_true rfl rfl rfl (by decide +kernel)) (i_rng1 (u_range T) (l_cons d_int l_nil)) (blkOk_by (own := [("_law_k", 5)]) (by kernel_rfl)) (fun _ _ _ _ _ => (pg_name (i := 5) sc__law_installation.nd rfl (by first | exact Or.inl rfl | exact Or.inr rfl))) (g_name 5) (fun _ _ _ _ _ => dts_nil) (fun _ _ _ _ _ => (d_callO (ok__law_any T Z I) hr (l_cons (d_var (pv 0)) (l_cons (d_lst (l_cons d_int (l_cons d_int (l_cons d_int (l_cons d_int (l_cons d_int (l_cons (d_callO (ok__law_draw T Z I) hr (l_cons (d_var (pv 0)) (l_cons d_int l_nil)) (hl := (len_cons (len_cons len_nil)))) l_nil))))))) l_nil)) (hl := (len_cons (len_cons len_nil)))))) (s_cons (s_set (i := 4) sc__law_installation.nd (d_ssetT rfl (u_sorted T) (u_set T) (l_cons (d_lc rfl sc__law_installation.nd (i_rng1 (u_range T) (l_cons (d_callO (ok__law_any T Z I) hr (l_cons (d_var (pv 0)) (l_cons (d_lst (l_cons d_int (l_cons d_int (l_cons d_int (l_cons d_int (l_cons d_int (l_cons d_int (l_cons d_int (l_cons d_int l_nil))))))))) l_nil)) (hl := (len_cons (len_cons len_nil)))) l_nil)) (blkOk_by (own := [("_law_k", 5)]) (by kernel_rfl)) (fun _ _ _ _ _ => (pg_name (i := 5) sc__law_installation.nd rfl (by first | exact Or.inl rfl | exact Or.inr rfl))) (g_name 5) (fun _ _ _ _ _ => dts_nil) (fun _ _ _ _ _ => (d_callO (ok__law_name T Z I) hr (l_cons (d_var (pv 0)) l_nil) (hl := (len_cons len_nil))))) l_nil))) (s_one (s_app (pv 1) (d_tup (l_cons (d_var (pv 2)) (l_cons (d_callTy call_tuple_of tupleCD_ok (u_tuple T) (by decide +kernel) (l_cons (d_var (pv 3)) l_nil)) (l_cons (d_callTy call_tuple_of tupleCD_ok (u_tuple T) (by decide +kernel) (l_cons (d_var (pv 4)) l_nil)) l_nil))))))))) (s_one (s_ret (d_tupO (u_tuple T) (pv 1)))))))
theorem sc__law_check : FnScope ["_law_text_here", "_law_sign", "_law_tail", "_law_total"] ["_law_text_here"] (defScope s__law_check) := ⟨rfl, rfl, rfl, by decide +kernel, rfl, by decide +kernel, by decide +kernel⟩
def b__law_check_0 : MS (Hand) := (sSeq (sAsg (gdName 2) (mB addD (mVar 2) (mF ordTD (mCons (mVar 1) mNil)))) (sAsg (gdName 3) (mB addD (mVar 3) (mVar 2))))
theorem b__law_check_0_eq (env : DE) (s : Hand) : b__law_check_0 env s = (sSeq (sAsg (gdName 2) (mB addD (mVar 2) (mF ordTD (mCons (mVar 1) mNil)))) (sAsg (gdName 3) (mB addD (mVar 3) (mVar 2)))) env s := rfl
def f__law_check : List D → Hand → Option (D × Hand) := mDef 4 (sSeq (sAsg (gdTup 2 (gdCons (gdName 2) (gdCons (gdName 3) gdNil))) (mF tupD (mCons (mC (.int 0)) (mCons (mC (.int 0)) mNil)))) (sSeq (sFor (mIt strItems (mU revS (mVar 0))) (gdName 1) b__law_check_0) (sRet (mB modD (mF intCD (mCons (mVar 3) mNil)) (mC (.int 99991))))))
theorem ok__law_check (T : Txt K mg) (Z : PySem.Er.Pg P "/claim/cut.py") (I : ∀ q ∈ fxs, q.ok K = true) : DOk P w K mg base (HandK p c) "_law_check" 1 ["_law_text_here"] f__law_check := by
  obtain ⟨fd, Fn⟩ := T.tx.fns d__law_check (List.Mem.tail _ (List.Mem.tail _ (List.Mem.tail _ (List.Mem.tail _ (List.Mem.tail _ (List.Mem.tail _ (List.Mem.tail _ (List.Mem.tail _ (List.Mem.tail _ (List.Mem.tail _ (List.Mem.tail _ (List.Mem.tail _ (List.Mem.tail _ (List.Mem.tail _ (List.Mem.tail _ (List.Mem.tail _ (List.Mem.tail _ (List.Mem.tail _ (List.Mem.tail _ (List.Mem.tail _ (List.Mem.tail _ (List.Mem.tail _ (List.Mem.tail _ (List.Mem.tail _ (List.Mem.tail _ (List.Mem.head _))))))))))))))))))))))))))
  exact d_defD Fn (T.tx.glo _ (List.Mem.tail _ (List.Mem.tail _ (List.Mem.tail _ (List.Mem.tail _ (List.Mem.tail _ (List.Mem.tail _ (List.Mem.tail _ (List.Mem.tail _ (List.Mem.tail _ (List.Mem.tail _ (List.Mem.tail _ (List.Mem.tail _ (List.Mem.tail _ (List.Mem.tail _ (List.Mem.tail _ (List.Mem.tail _ (List.Mem.tail _ (List.Mem.tail _ (List.Mem.tail _ (List.Mem.tail _ (List.Mem.tail _ (List.Mem.tail _ (List.Mem.tail _ (List.Mem.tail _ (List.Mem.tail _ (List.Mem.head _))))))))))))))))))))))))))) sc__law_check (fun _ _ _ _ _ _ us hl => match us, hl with | [_], _ => rfl) (fun cdv A outer s H E hr => (s_cons (s_asg (g_tup (g_cons (g_name 2) (g_cons (g_name 3) g_nil))) (d_tup (l_cons d_int (l_cons d_int l_nil))) (pg_tup (n := 2) rfl (pgs_cons (pg_name (i := 2) sc__law_check.nd rfl (by first | exact Or.inl rfl | exact Or.inr rfl)) (pgs_cons (pg_name (i := 3) sc__law_check.nd rfl (by first | exact Or.inl rfl | exact Or.inr rfl)) pgs_nil)))) (s_cons (s_for PassesOwn.never rfl (i_str (d_revS (d_var (pv 0)))) (pg_name (i := 1) sc__law_check.nd rfl (by first | exact Or.inl rfl | exact Or.inr rfl)) (g_name 1) (s_cons (s_set (i := 2) sc__law_check.nd (d_op op_addA addD_ok (d_var (pv 2)) (d_callB call_ord ordTD_ok (u_ord T) (by decide +kernel) (l_cons (d_var (pv 1)) l_nil)))) (s_one (s_set (i := 3) sc__law_check.nd (d_op op_addA addD_ok (d_var (pv 3)) (d_var (pv 2))))))) (s_one (s_ret (d_op op_mod modD_ok (d_callTy call_int1 intCD_ok (u_int T) (by decide +kernel) (l_cons (d_var (pv 3)) l_nil)) d_int))))))
theorem sc__law_line : FnScope ["_law_triple", "_law_line_here", "_law_name_here", "_law_version", "_law_features", "_law_feature"] ["_law_triple"] (defScope s__law_line) := ⟨rfl, rfl, rfl, by decide +kernel, rfl, by decide +kernel, by decide +kernel⟩
def c__law_line_0 : ME (Hand) := (mB addD (mC (.str " ")) (mVar 5))
theorem c__law_line_0_eq (env : DE) (s : Hand) : c__law_line_0 env s = (mB addD (mC (.str " ")) (mVar 5)) env s := rfl
def f__law_line : List D → Hand → Option (D × Hand) := mDef 6 (sSeq (sAsg (gdTup 3 (gdCons (gdName 2) (gdCons (gdName 3) (gdCons (gdName 4) gdNil)))) (mVar 0)) (sSeq (sAsg (gdName 1) (mB addD (mB addD (mB addD (mB addD (mB addD (mB addD (mVar 2) (mC (.str " "))) (mF strCD (mCons (mB ixD (mVar 3) (mC (.int 0))) mNil))) (mC (.str "."))) (mF strCD (mCons (mB ixD (mVar 3) (mC (.int 1))) mNil))) (mC (.str "."))) (mF strCD (mCons (mB ixD (mVar 3) (mC (.int 2))) mNil)))) (sRet (mB addD (mB addD (mVar 1) (mB joinD (mC (.str "")) (mComp (mIt tupItems (mVar 4)) (gdName 5) mYes c__law_line_0 [5]))) (mC (.str "\n"))))))
theorem ok__law_line (T : Txt K mg) (Z : PySem.Er.Pg P "/claim/cut.py") (I : ∀ q ∈ fxs, q.ok K = true) : DOk P w K mg base (HandK p c) "_law_line" 1 ["_law_triple"] f__law_line := by
  obtain ⟨fd, Fn⟩ := T.tx.fns d__law_line (List.Mem.tail _ (List.Mem.tail _ (List.Mem.tail _ (List.Mem.tail _ (List.Mem.tail _ (List.Mem.tail _ (List.Mem.tail _ (List.Mem.tail _ (List.Mem.tail _ (List.Mem.tail _ (List.Mem.tail _ (List.Mem.tail _ (List.Mem.tail _ (List.Mem.tail _ (List.Mem.tail _ (List.Mem.tail _ (List.Mem.tail _ (List.Mem.tail _ (List.Mem.tail _ (List.Mem.tail _ (List.Mem.tail _ (List.Mem.tail _ (List.Mem.tail _ (List.Mem.tail _ (List.Mem.tail _ (List.Mem.tail _ (List.Mem.head _)))))))))))))))))))))))))))
  exact d_defD Fn (T.tx.glo _ (List.Mem.tail _ (List.Mem.tail _ (List.Mem.tail _ (List.Mem.tail _ (List.Mem.tail _ (List.Mem.tail _ (List.Mem.tail _ (List.Mem.tail _ (List.Mem.tail _ (List.Mem.tail _ (List.Mem.tail _ (List.Mem.tail _ (List.Mem.tail _ (List.Mem.tail _ (List.Mem.tail _ (List.Mem.tail _ (List.Mem.tail _ (List.Mem.tail _ (List.Mem.tail _ (List.Mem.tail _ (List.Mem.tail _ (List.Mem.tail _ (List.Mem.tail _ (List.Mem.tail _ (List.Mem.tail _ (List.Mem.tail _ (List.Mem.head _)))))))))))))))))))))))))))) sc__law_line (fun _ _ _ _ _ _ us hl => match us, hl with | [_], _ => rfl) (fun cdv A outer s H E hr => (s_cons (s_asg (g_tup (g_cons (g_name 2) (g_cons (g_name 3) (g_cons (g_name 4) g_nil)))) (d_var (pv 0)) (pg_tup (n := 3) rfl (pgs_cons (pg_name (i := 2) sc__law_line.nd rfl (by first | exact Or.inl rfl | exact Or.inr rfl)) (pgs_cons (pg_name (i := 3) sc__law_line.nd rfl (by first | exact Or.inl rfl | exact Or.inr rfl)) (pgs_cons (pg_name (i := 4) sc__law_line.nd rfl (by first | exact Or.inl rfl | exact Or.inr rfl)) pgs_nil))))) (s_cons (s_set (i := 1) sc__law_line.nd (d_op op_addA addD_ok (d_op op_addA addD_ok (d_op op_addA addD_ok (d_op op_addA addD_ok (d_op op_addA addD_ok (d_op op_addA addD_ok (d_var (pv 2)) d_str) (d_callTy (CallR.or call_str_int SkE.call_str_str) strCD_ok (u_str T) (by decide +kernel) (l_cons (d_ix ix_seq ixD_ok (d_var (pv 3)) d_int) l_nil))) d_str) (d_callTy (CallR.or call_str_int SkE.call_str_str) strCD_ok (u_str T) (by decide +kernel) (l_cons (d_ix ix_seq ixD_ok (d_var (pv 3)) d_int) l_nil))) d_str) (d_callTy (CallR.or call_str_int SkE.call_str_str) strCD_ok (u_str T) (by decide +kernel) (l_cons (d_ix ix_seq ixD_ok (d_var (pv 3)) d_int) l_nil)))) (s_one (s_ret (d_op op_addA addD_ok (d_op op_addA addD_ok (d_var (pv 1)) (d_join d_str (d_lc rfl sc__law_line.nd (i_tup (d_var (pv 4))) (blkOk_by (own := [("_law_feature", 5)]) (by kernel_rfl)) (fun _ _ _ _ _ => (pg_name (i := 5) sc__law_line.nd rfl (by first | exact Or.inl rfl | exact Or.inr rfl))) (g_name 5) (fun _ _ _ _ _ => dts_nil) (fun _ _ _ _ _ => (d_op op_addA addD_ok d_str (d_var (pv 5))))))) d_str))))))
theorem sc__law_text : FnScope ["_law_installation_here", "_law_body", "_law_triple"] ["_law_installation_here"] (defScope s__law_text) := ⟨rfl, rfl, rfl, by decide +kernel, rfl, by decide +kernel, by decide +kernel⟩
def c__law_text_0 : ME (Hand) := (mCall f__law_line (mCons (mVar 2) mNil))
theorem c__law_text_0_eq (env : DE) (s : Hand) : c__law_text_0 env s = (mCall f__law_line (mCons (mVar 2) mNil)) env s := rfl
def f__law_text : List D → Hand → Option (D × Hand) := mDef 3 (sSeq (sAsg (gdName 1) (mB joinD (mC (.str "")) (mComp (mIt tupItems (mVar 0)) (gdName 2) mYes c__law_text_0 [2]))) (sRet (mB addD (mB addD (mB addD (mVar 1) (mC (.str "check "))) (mF strCD (mCons (mCall f__law_check (mCons (mVar 1) mNil)) mNil))) (mC (.str "\n")))))
theorem ok__law_text (T : Txt K mg) (Z : PySem.Er.Pg P "/claim/cut.py") (I : ∀ q ∈ fxs, q.ok K = true) : DOk P w K mg base (HandK p c) "_law_text" 2 ["_law_installation_here"] f__law_text := by
  obtain ⟨fd, Fn⟩ := T.tx.fns d__law_text (List.Mem.tail _ (List.Mem.tail _ (List.Mem.tail _ (List.Mem.tail _ (List.Mem.tail _ (List.Mem.tail _ (List.Mem.tail _ (List.Mem.tail _ (List.Mem.tail _ (List.Mem.tail _ (List.Mem.tail _ (List.Mem.tail _ (List.Mem.tail _ (List.Mem.tail _ (List.Mem.tail _ (List.Mem.tail _ (List.Mem.tail _ (List.Mem.tail _ (List.Mem.tail _ (List.Mem.tail _ (List.Mem.tail _ (List.Mem.tail _ (List.Mem.tail _ (List.Mem.tail _ (List.Mem.tail _ (List.Mem.tail _ (List.Mem.tail _ (List.Mem.head _))))))))))))))))))))))))))))
  exact d_defD Fn (T.tx.glo _ (List.Mem.tail _ (List.Mem.tail _ (List.Mem.tail _ (List.Mem.tail _ (List.Mem.tail _ (List.Mem.tail _ (List.Mem.tail _ (List.Mem.tail _ (List.Mem.tail _ (List.Mem.tail _ (List.Mem.tail _ (List.Mem.tail _ (List.Mem.tail _ (List.Mem.tail _ (List.Mem.tail _ (List.Mem.tail _ (List.Mem.tail _ (List.Mem.tail _ (List.Mem.tail _ (List.Mem.tail _ (List.Mem.tail _ (List.Mem.tail _ (List.Mem.tail _ (List.Mem.tail _ (List.Mem.tail _ (List.Mem.tail _ (List.Mem.tail _ (List.Mem.head _))))))))))))))))))))))))))))) sc__law_text (fun _ _ _ _ _ _ us hl => match us, hl with | [_], _ => rfl) (fun cdv A outer s H E hr => (s_cons (s_set (i := 1) sc__law_text.nd (d_join d_str (d_lc rfl sc__law_text.nd (i_tup (d_var (pv 0))) (blkOk_by (own := [("_law_triple", 2)]) (by kernel_rfl)) (fun _ _ _ _ _ => (pg_name (i := 2) sc__law_text.nd rfl (by first | exact Or.inl rfl | exact Or.inr rfl))) (g_name 2) (fun _ _ _ _ _ => dts_nil) (fun _ _ _ _ _ => (d_callO (ok__law_line T Z I) hr (l_cons (d_var (pv 2)) l_nil) (hl := (len_cons len_nil))))))) (s_one (s_ret (d_op op_addA addD_ok (d_op op_addA addD_ok (d_op op_addA addD_ok (d_var (pv 1)) d_str) (d_callTy (CallR.or call_str_int SkE.call_str_str) strCD_ok (u_str T) (by decide +kernel) (l_cons (d_callO (ok__law_check T Z I) hr (l_cons (d_var (pv 1)) l_nil) (hl := (len_cons len_nil))) l_nil))) d_str)))))
theorem sc__law_is_triple : FnScope ["_law_thing", "_law_feature", "_law_number"] ["_law_thing"] (defScope s__law_is_triple) := ⟨rfl, rfl, rfl, by decide +kernel, rfl, by decide +kernel, by decide +kernel⟩
def c__law_is_triple_0 : ME (Hand) := (mAnd (mU (isiD .tInt) (mVar 2)) (mNot (mU (isiD .tBool) (mVar 2))))
theorem c__law_is_triple_0_eq (env : DE) (s : Hand) : c__law_is_triple_0 env s = (mAnd (mU (isiD .tInt) (mVar 2)) (mNot (mU (isiD .tBool) (mVar 2)))) env s := rfl
def c__law_is_triple_1 : ME (Hand) := (mU (isiD .tStr) (mVar 1))
theorem c__law_is_triple_1_eq (env : DE) (s : Hand) : c__law_is_triple_1 env s = (mU (isiD .tStr) (mVar 1)) env s := rfl
def f__law_is_triple : List D → Hand → Option (D × Hand) := mDef 3 (sSeq (sIf (mOrT (mNotT (mIsT (mU (isiD .tTuple) (mVar 0)))) (mOrT (mIsT (mB (relD neP) (mF lenD (mCons (mVar 0) mNil)) (mC (.int 3)))) (mNotT (mIsT (mU (isiD .tStr) (mB ixD (mVar 0) (mC (.int 0)))))))) (sRet (mC (.bl false))) sNil) (sSeq (sIf (mOrT (mNotT (mIsT (mU (isiD .tTuple) (mB ixD (mVar 0) (mC (.int 1)))))) (mOrT (mIsT (mB (relD neP) (mF lenD (mCons (mB ixD (mVar 0) (mC (.int 1))) mNil)) (mC (.int 3)))) (mNotT (mIsT (mU (isiD .tTuple) (mB ixD (mVar 0) (mC (.int 2)))))))) (sRet (mC (.bl false))) sNil) (sSeq (sIf (mNotT (mIsT (mF allD (mCons (mComp (mIt tupItems (mB ixD (mVar 0) (mC (.int 1)))) (gdName 2) mYes c__law_is_triple_0 [2]) mNil)))) (sRet (mC (.bl false))) sNil) (sRet (mF allD (mCons (mComp (mIt tupItems (mB ixD (mVar 0) (mC (.int 2)))) (gdName 1) mYes c__law_is_triple_1 [1]) mNil))))))
theorem ok__law_is_triple (T : Txt K mg) (Z : PySem.Er.Pg P "/claim/cut.py") (I : ∀ q ∈ fxs, q.ok K = true) : DOk P w K mg base (HandK p c) "_law_is_triple" 1 ["_law_thing"] f__law_is_triple := by
  obtain ⟨fd, Fn⟩ := T.tx.fns d__law_is_triple (List.Mem.tail _ (List.Mem.tail _ (List.Mem.tail _ (List.Mem.tail _ (List.Mem.tail _ (List.Mem.tail _ (List.Mem.tail _ (List.Mem.tail _ (List.Mem.tail _ (List.Mem.tail _ (List.Mem.tail _ (List.Mem.tail _ (List.Mem.tail _ (List.Mem.tail _ (List.Mem.tail _ (List.Mem.tail _ (List.Mem.tail _ (List.Mem.tail _ (List.Mem.tail _ (List.Mem.tail _ (List.Mem.tail _ (List.Mem.tail _ (List.Mem.tail _ (List.Mem.tail _ (List.Mem.tail _ (List.Mem.tail _ (List.Mem.tail _ (List.Mem.tail _ (List.Mem.head _)))))))))))))))))))))))))))))
  exact d_defD Fn (T.tx.glo _ (List.Mem.tail _ (List.Mem.tail _ (List.Mem.tail _ (List.Mem.tail _ (List.Mem.tail _ (List.Mem.tail _ (List.Mem.tail _ (List.Mem.tail _ (List.Mem.tail _ (List.Mem.tail _ (List.Mem.tail _ (List.Mem.tail _ (List.Mem.tail _ (List.Mem.tail _ (List.Mem.tail _ (List.Mem.tail _ (List.Mem.tail _ (List.Mem.tail _ (List.Mem.tail _ (List.Mem.tail _ (List.Mem.tail _ (List.Mem.tail _ (List.Mem.tail _ (List.Mem.tail _ (List.Mem.tail _ (List.Mem.tail _ (List.Mem.tail _ (List.Mem.tail _ (List.Mem.head _)))))))))))))))))))))))))))))) sc__law_is_triple (fun _ _ _ _ _ _ us hl => match us, hl with | [_], _ => rfl) (fun cdv A outer s H E hr => (s_cons (s_if (dt_w (dw_or (dt_not (dt_val (d_isi (u_isinstance T) (d_var (pv 0)) (pe_ty .tTuple (u_tuple T) (by decide +kernel))))) (dw_or (dt_cmp (op_neP hr.units) (relD_ok _) (d_callB call_len lenD_ok (u_len T) (by decide +kernel) (l_cons (d_var (pv 0)) l_nil)) d_int) (dw_or1 (dt_not (dt_val (d_isi (u_isinstance T) (d_ix ix_seq ixD_ok (d_var (pv 0)) d_int) (pe_ty .tStr (u_str T) (by decide +kernel))))))))) (s_one (s_ret d_bl)) s_nil) (s_cons (s_if (dt_w (dw_or (dt_not (dt_val (d_isi (u_isinstance T) (d_ix ix_seq ixD_ok (d_var (pv 0)) d_int) (pe_ty .tTuple (u_tuple T) (by decide +kernel))))) (dw_or (dt_cmp (op_neP hr.units) (relD_ok _) (d_callB call_len lenD_ok (u_len T) (by decide +kernel) (l_cons (d_ix ix_seq ixD_ok (d_var (pv 0)) d_int) l_nil)) d_int) (dw_or1 (dt_not (dt_val (d_isi (u_isinstance T) (d_ix ix_seq ixD_ok (d_var (pv 0)) d_int) (pe_ty .tTuple (u_tuple T) (by decide +kernel))))))))) (s_one (s_ret d_bl)) s_nil) (s_cons (s_if (dt_not (dt_val (d_callB (cr_all rfl) allD_ok (u_all T) (by decide +kernel) (l_cons (d_lc rfl sc__law_is_triple.nd (i_tup (d_ix ix_seq ixD_ok (d_var (pv 0)) d_int)) (blkOk_by (own := [("_law_number", 2)]) (by kernel_rfl)) (fun _ _ _ _ _ => (pg_name (i := 2) sc__law_is_triple.nd rfl (by first | exact Or.inl rfl | exact Or.inr rfl))) (g_name 2) (fun _ _ _ _ _ => dts_nil) (fun _ _ _ _ _ => (d_and (d_isi (u_isinstance T) (d_var (pv 2)) (pe_ty .tInt (u_int T) (by decide +kernel))) (d_one (d_not (d_isi (u_isinstance T) (d_var (pv 2)) (pe_ty .tBool (u_bool T) (by decide +kernel)))))))) l_nil)))) (s_one (s_ret d_bl)) s_nil) (s_one (s_ret (d_callB (cr_all rfl) allD_ok (u_all T) (by decide +kernel) (l_cons (d_lc rfl sc__law_is_triple.nd (i_tup (d_ix ix_seq ixD_ok (d_var (pv 0)) d_int)) (blkOk_by (own := [("_law_feature", 1)]) (by kernel_rfl)) (fun _ _ _ _ _ => (pg_name (i := 1) sc__law_is_triple.nd rfl (by first | exact Or.inl rfl | exact Or.inr rfl))) (g_name 1) (fun _ _ _ _ _ => dts_nil) (fun _ _ _ _ _ => (d_isi (u_isinstance T) (d_var (pv 1)) (pe_ty .tStr (u_str T) (by decide +kernel))))) l_nil))))))))
theorem sc_Question : FnScope ["self", "wishes", "locks", "at", "wish"] ["self", "wishes", "locks"] (defScope i_Question) := ⟨rfl, rfl, rfl, by decide +kernel, rfl, by decide +kernel, by decide +kernel⟩
def b_Question_0 : MSX (S) := (xIf (mNotT (mIsT (mCall f_is_wish (mCons (mVar 4) mNil)))) (xRaise "BadQuestion" "part" (mF tupD (mCons (mC (.str "wish")) (mCons (mVar 3) mNil)))) (xS sNil))
theorem b_Question_0_eq (env : DE) (s : S) : b_Question_0 env s = (xIf (mNotT (mIsT (mCall f_is_wish (mCons (mVar 4) mNil)))) (xRaise "BadQuestion" "part" (mF tupD (mCons (mC (.str "wish")) (mCons (mVar 3) mNil)))) (xS sNil)) env s := rfl
def m_Question : MSX S := (xSeq (xIf (mOrT (mNotT (mIsT (mU (isiD .tTuple) (mVar 1)))) (mIsT (mB (relD gtP) (mF lenD (mCons (mVar 1) mNil)) (mC (.int 8))))) (xRaise "BadQuestion" "part" (mC (.str "wishes"))) (xS sNil)) (xSeq (xFor (mIt2 enumTItems (mCons (mVar 1) mNil)) (gdTup 2 (gdCons (gdName 3) (gdCons (gdName 4) gdNil))) b_Question_0) (xSeq (xIf (mNotT (mIsT (mCall f_are_locks (mCons (mVar 2) mNil)))) (xRaise "BadQuestion" "part" (mC (.str "locks"))) (xS sNil)) (xS sNil))))
def f_Question : List D → S → Option (RX (S)) := mMk 5 "Question" m_Question [("wishes", 1), ("locks", 2)]
theorem ok_Question (T : Txt K mg) (Z : PySem.Er.Pg P "/claim/cut.py") (I : ∀ q ∈ fxs, q.ok K = true) : DMk P w K mg base (B) "Question" 7 ["wishes", "locks"] f_Question := by
  obtain ⟨fd, Fn⟩ := T.tx.fns d_Question (List.Mem.tail _ (List.Mem.tail _ (List.Mem.tail _ (List.Mem.tail _ (List.Mem.tail _ (List.Mem.tail _ (List.Mem.tail _ (List.Mem.tail _ (List.Mem.tail _ (List.Mem.tail _ (List.Mem.tail _ (List.Mem.tail _ (List.Mem.tail _ (List.Mem.tail _ (List.Mem.tail _ (List.Mem.tail _ (List.Mem.tail _ (List.Mem.tail _ (List.Mem.tail _ (List.Mem.tail _ (List.Mem.tail _ (List.Mem.tail _ (List.Mem.tail _ (List.Mem.tail _ (List.Mem.tail _ (List.Mem.tail _ (List.Mem.tail _ (List.Mem.tail _ (List.Mem.tail _ (List.Mem.tail _ (List.Mem.tail _ (List.Mem.tail _ (List.Mem.head _)))))))))))))))))))))))))))))))))
  exact d_defMk (fs := [("wishes", 1), ("locks", 2)]) Fn (T.tx.glo _ (List.Mem.tail _ (List.Mem.tail _ (List.Mem.tail _ (List.Mem.tail _ (List.Mem.tail _ (List.Mem.tail _ (List.Mem.tail _ (List.Mem.tail _ (List.Mem.tail _ (List.Mem.tail _ (List.Mem.tail _ (List.Mem.tail _ (List.Mem.tail _ (List.Mem.tail _ (List.Mem.tail _ (List.Mem.tail _ (List.Mem.tail _ (List.Mem.tail _ (List.Mem.tail _ (List.Mem.tail _ (List.Mem.tail _ (List.Mem.tail _ (List.Mem.tail _ (List.Mem.tail _ (List.Mem.tail _ (List.Mem.tail _ (List.Mem.tail _ (List.Mem.tail _ (List.Mem.tail _ (List.Mem.tail _ (List.Mem.tail _ (List.Mem.tail _ (List.Mem.tail _ (List.Mem.tail _ (List.Mem.tail _ (List.Mem.head _))))))))))))))))))))))))))))))))))))) (fx_Question I) (by decide +kernel) (by decide) sc_Question (fun _ _ _ _ _ _ us hl => match us, hl with | [_, _, _], _ => rfl) (fun y dy cdv A outer s H E hr tk hp => (ini_cons (x_if (dt_w (dw_or (dt_not (dt_val (d_isi (u_isinstance T) (d_var (pv 1)) (pe_ty .tTuple (u_tuple T) (by decide +kernel))))) (dw_or1 (dt_cmp (op_gtP hr.units) (relD_ok _) (d_callB call_len lenD_ok (u_len T) (by decide +kernel) (l_cons (d_var (pv 1)) l_nil)) (d_gint (g_MOST_WISHES T)))))) (x_one (x_raise rfl tk (T.err e_BadQuestion (List.Mem.tail _ (List.Mem.head _))).1 Z (T.tx.glo _ (List.Mem.tail _ (List.Mem.tail _ (List.Mem.tail _ (List.Mem.tail _ (List.Mem.tail _ (List.Mem.tail _ (List.Mem.tail _ (List.Mem.tail _ (List.Mem.tail _ (List.Mem.tail _ (List.Mem.tail _ (List.Mem.tail _ (List.Mem.tail _ (List.Mem.tail _ (List.Mem.tail _ (List.Mem.tail _ (List.Mem.tail _ (List.Mem.tail _ (List.Mem.tail _ (List.Mem.tail _ (List.Mem.tail _ (List.Mem.tail _ (List.Mem.tail _ (List.Mem.tail _ (List.Mem.tail _ (List.Mem.tail _ (List.Mem.tail _ (List.Mem.tail _ (List.Mem.tail _ (List.Mem.tail _ (List.Mem.tail _ (List.Mem.tail _ (List.Mem.tail _ (List.Mem.tail _ (List.Mem.head _)))))))))))))))))))))))))))))))))))) hr d_str)) (x_ss s_nil)) (ini_cons (x_for hp rfl (i_enumT (u_enumerate T) (l_cons (d_var (pv 1)) l_nil)) (pg_tup (n := 2) rfl (pgs_cons (pg_name (i := 3) sc_Question.nd rfl (by first | exact Or.inl rfl | exact Or.inr rfl)) (pgs_cons (pg_name (i := 4) sc_Question.nd rfl (by first | exact Or.inl rfl | exact Or.inr rfl)) pgs_nil))) (g_tup (g_cons (g_name 3) (g_cons (g_name 4) g_nil))) (x_one (x_if (dt_not (dt_val (d_callO (ok_is_wish T Z I) hr (l_cons (d_var (pv 4)) l_nil) (hl := (len_cons len_nil))))) (x_one (x_raise rfl tk (T.err e_BadQuestion (List.Mem.tail _ (List.Mem.head _))).1 Z (T.tx.glo _ (List.Mem.tail _ (List.Mem.tail _ (List.Mem.tail _ (List.Mem.tail _ (List.Mem.tail _ (List.Mem.tail _ (List.Mem.tail _ (List.Mem.tail _ (List.Mem.tail _ (List.Mem.tail _ (List.Mem.tail _ (List.Mem.tail _ (List.Mem.tail _ (List.Mem.tail _ (List.Mem.tail _ (List.Mem.tail _ (List.Mem.tail _ (List.Mem.tail _ (List.Mem.tail _ (List.Mem.tail _ (List.Mem.tail _ (List.Mem.tail _ (List.Mem.tail _ (List.Mem.tail _ (List.Mem.tail _ (List.Mem.tail _ (List.Mem.tail _ (List.Mem.tail _ (List.Mem.tail _ (List.Mem.tail _ (List.Mem.tail _ (List.Mem.tail _ (List.Mem.tail _ (List.Mem.tail _ (List.Mem.head _)))))))))))))))))))))))))))))))))))) hr (d_tup (l_cons d_str (l_cons (d_var (pv 3)) l_nil))))) (x_ss s_nil)))) (ini_cons (x_if (dt_not (dt_val (d_callO (ok_are_locks T Z I) hr (l_cons (d_var (pv 2)) l_nil) (hl := (len_cons len_nil))))) (x_one (x_raise rfl tk (T.err e_BadQuestion (List.Mem.tail _ (List.Mem.head _))).1 Z (T.tx.glo _ (List.Mem.tail _ (List.Mem.tail _ (List.Mem.tail _ (List.Mem.tail _ (List.Mem.tail _ (List.Mem.tail _ (List.Mem.tail _ (List.Mem.tail _ (List.Mem.tail _ (List.Mem.tail _ (List.Mem.tail _ (List.Mem.tail _ (List.Mem.tail _ (List.Mem.tail _ (List.Mem.tail _ (List.Mem.tail _ (List.Mem.tail _ (List.Mem.tail _ (List.Mem.tail _ (List.Mem.tail _ (List.Mem.tail _ (List.Mem.tail _ (List.Mem.tail _ (List.Mem.tail _ (List.Mem.tail _ (List.Mem.tail _ (List.Mem.tail _ (List.Mem.tail _ (List.Mem.tail _ (List.Mem.tail _ (List.Mem.tail _ (List.Mem.tail _ (List.Mem.tail _ (List.Mem.tail _ (List.Mem.head _)))))))))))))))))))))))))))))))))))) hr d_str)) (x_ss s_nil)) (ini_nil (flds_cons (ps_fld (pv 0) (pv 1) (by rfl)) (flds_cons (ps_fld (pv 0) (pv 2) (by rfl)) flds_nil)))))))
theorem sc__law_is_right : FnScope ["_law_installation_here", "_law_text_here", "_law_back", "_law_locks", "_law_due", "_law_triple", "_law_pair"] ["_law_installation_here"] (defScope s__law_is_right) := ⟨rfl, rfl, rfl, by decide +kernel, rfl, by decide +kernel, by decide +kernel⟩
def c__law_is_right_0 : ME (Hand) := (mCall f__law_is_triple (mCons (mVar 5) mNil))
theorem c__law_is_right_0_eq (env : DE) (s : Hand) : c__law_is_right_0 env s = (mCall f__law_is_triple (mCons (mVar 5) mNil)) env s := rfl
def c__law_is_right_1 : ME (Hand) := (mF tupD (mCons (mB ixD (mVar 5) (mC (.int 0))) (mCons (mB ixD (mVar 5) (mC (.int 1))) mNil)))
theorem c__law_is_right_1_eq (env : DE) (s : Hand) : c__law_is_right_1 env s = (mF tupD (mCons (mB ixD (mVar 5) (mC (.int 0))) (mCons (mB ixD (mVar 5) (mC (.int 1))) mNil))) env s := rfl
def c__law_is_right_2 : ME (Hand) := (mU (isiD .tTuple) (mVar 6))
theorem c__law_is_right_2_eq (env : DE) (s : Hand) : c__law_is_right_2 env s = (mU (isiD .tTuple) (mVar 6)) env s := rfl
def f__law_is_right : List D → Hand → Option (D × Hand) := mDef 7 (sSeq (sAsg (gdName 1) (mCall f_lock_text (mCons (mVar 0) mNil))) (sSeq (sIf (mOrT (mNotT (mIsT (mU (isiD .tStr) (mVar 1)))) (mIsT (mB (relD neP) (mVar 1) (mCall f__law_text (mCons (mVar 0) mNil))))) (sRet (mC (.bl false))) sNil) (sSeq (sAsg (gdName 2) (mCallX f_read_lock (mCons (mVar 1) mNil))) (sSeq (sIf (mOrT (mNotT (mIsT (mU (isiD .tTuple) (mVar 2)))) (mOrT (mNotT (mIsT (mF allD (mCons (mComp (mIt tupItems (mVar 2)) (gdName 5) mYes c__law_is_right_0 [5]) mNil)))) (mIsT (mB (relD neP) (mVar 2) (mVar 0))))) (sRet (mC (.bl false))) sNil) (sSeq (sAsg (gdName 3) (mCall f_locks_of (mCons (mVar 0) mNil))) (sSeq (sAsg (gdName 4) (mF tupleCD (mCons (mComp (mIt tupItems (mVar 0)) (gdName 5) mYes c__law_is_right_1 [5]) mNil))) (sSeq (sIf (mOrT (mNotT (mIsT (mU (isiD .tTuple) (mVar 3)))) (mOrT (mNotT (mIsT (mF allD (mCons (mComp (mIt tupItems (mVar 3)) (gdName 6) mYes c__law_is_right_2 [6]) mNil)))) (mIsT (mB (relD neP) (mVar 3) (mVar 4))))) (sRet (mC (.bl false))) sNil) (sRet (mOr (mB (relD gtP) (mF lenD (mCons (mVar 3) mNil)) (mC (.int 40))) (mB (relD eqP) (mFldI fldsI "locks" (mMake f_Question (mCons (mF tupD mNil) (mCons (mVar 3) mNil)))) (mVar 4)))))))))))
theorem ok__law_is_right (T : Txt K mg) (Z : PySem.Er.Pg P "/claim/cut.py") (I : ∀ q ∈ fxs, q.ok K = true) : DOk P w K mg base (HandK p c) "_law_is_right" 9 ["_law_installation_here"] f__law_is_right := by
  obtain ⟨fd, Fn⟩ := T.tx.fns d__law_is_right (List.Mem.tail _ (List.Mem.tail _ (List.Mem.tail _ (List.Mem.tail _ (List.Mem.tail _ (List.Mem.tail _ (List.Mem.tail _ (List.Mem.tail _ (List.Mem.tail _ (List.Mem.tail _ (List.Mem.tail _ (List.Mem.tail _ (List.Mem.tail _ (List.Mem.tail _ (List.Mem.tail _ (List.Mem.tail _ (List.Mem.tail _ (List.Mem.tail _ (List.Mem.tail _ (List.Mem.tail _ (List.Mem.tail _ (List.Mem.tail _ (List.Mem.tail _ (List.Mem.tail _ (List.Mem.tail _ (List.Mem.tail _ (List.Mem.tail _ (List.Mem.tail _ (List.Mem.tail _ (List.Mem.head _))))))))))))))))))))))))))))))
  exact d_defD Fn (T.tx.glo _ (List.Mem.tail _ (List.Mem.tail _ (List.Mem.tail _ (List.Mem.tail _ (List.Mem.tail _ (List.Mem.tail _ (List.Mem.tail _ (List.Mem.tail _ (List.Mem.tail _ (List.Mem.tail _ (List.Mem.tail _ (List.Mem.tail _ (List.Mem.tail _ (List.Mem.tail _ (List.Mem.tail _ (List.Mem.tail _ (List.Mem.tail _ (List.Mem.tail _ (List.Mem.tail _ (List.Mem.tail _ (List.Mem.tail _ (List.Mem.tail _ (List.Mem.tail _ (List.Mem.tail _ (List.Mem.tail _ (List.Mem.tail _ (List.Mem.tail _ (List.Mem.tail _ (List.Mem.tail _ (List.Mem.head _))))))))))))))))))))))))))))))) sc__law_is_right (fun _ _ _ _ _ _ us hl => match us, hl with | [_], _ => rfl) (fun cdv A outer s H E hr => (s_cons (s_set (i := 1) sc__law_is_right.nd (d_callO (ok_lock_text T Z I) hr (l_cons (d_var (pv 0)) l_nil) (hl := (len_cons len_nil)))) (s_cons (s_if (dt_w (dw_or (dt_not (dt_val (d_isi (u_isinstance T) (d_var (pv 1)) (pe_ty .tStr (u_str T) (by decide +kernel))))) (dw_or1 (dt_cmp (op_neP hr.units) (relD_ok _) (d_var (pv 1)) (d_callO (ok__law_text T Z I) hr (l_cons (d_var (pv 0)) l_nil) (hl := (len_cons len_nil))))))) (s_one (s_ret d_bl)) s_nil) (s_cons (s_set (i := 2) sc__law_is_right.nd (d_callX (ok_read_lock T Z I) hr (l_cons (d_var (pv 1)) l_nil) (hl := (len_cons len_nil)))) (s_cons (s_if (dt_w (dw_or (dt_not (dt_val (d_isi (u_isinstance T) (d_var (pv 2)) (pe_ty .tTuple (u_tuple T) (by decide +kernel))))) (dw_or (dt_not (dt_val (d_callB (cr_all rfl) allD_ok (u_all T) (by decide +kernel) (l_cons (d_lc rfl sc__law_is_right.nd (i_tup (d_var (pv 2))) (blkOk_by (own := [("_law_triple", 5)]) (by kernel_rfl)) (fun _ _ _ _ _ => (pg_name (i := 5) sc__law_is_right.nd rfl (by first | exact Or.inl rfl | exact Or.inr rfl))) (g_name 5) (fun _ _ _ _ _ => dts_nil) (fun _ _ _ _ _ => (d_callO (ok__law_is_triple T Z I) hr (l_cons (d_var (pv 5)) l_nil) (hl := (len_cons len_nil))))) l_nil)))) (dw_or1 (dt_cmp (op_neP hr.units) (relD_ok _) (d_var (pv 2)) (d_var (pv 0))))))) (s_one (s_ret d_bl)) s_nil) (s_cons (s_set (i := 3) sc__law_is_right.nd (d_callO (ok_locks_of T Z I) hr (l_cons (d_var (pv 0)) l_nil) (hl := (len_cons len_nil)))) (s_cons (s_set (i := 4) sc__law_is_right.nd (d_callTy call_tuple_of tupleCD_ok (u_tuple T) (by decide +kernel) (l_cons (d_lc rfl sc__law_is_right.nd (i_tup (d_var (pv 0))) (blkOk_by (own := [("_law_triple", 5)]) (by kernel_rfl)) (fun _ _ _ _ _ => (pg_name (i := 5) sc__law_is_right.nd rfl (by first | exact Or.inl rfl | exact Or.inr rfl))) (g_name 5) (fun _ _ _ _ _ => dts_nil) (fun _ _ _ _ _ => (d_tup (l_cons (d_ix ix_seq ixD_ok (d_var (pv 5)) d_int) (l_cons (d_ix ix_seq ixD_ok (d_var (pv 5)) d_int) l_nil))))) l_nil))) (s_cons (s_if (dt_w (dw_or (dt_not (dt_val (d_isi (u_isinstance T) (d_var (pv 3)) (pe_ty .tTuple (u_tuple T) (by decide +kernel))))) (dw_or (dt_not (dt_val (d_callB (cr_all rfl) allD_ok (u_all T) (by decide +kernel) (l_cons (d_lc rfl sc__law_is_right.nd (i_tup (d_var (pv 3))) (blkOk_by (own := [("_law_pair", 6)]) (by kernel_rfl)) (fun _ _ _ _ _ => (pg_name (i := 6) sc__law_is_right.nd rfl (by first | exact Or.inl rfl | exact Or.inr rfl))) (g_name 6) (fun _ _ _ _ _ => dts_nil) (fun _ _ _ _ _ => (d_isi (u_isinstance T) (d_var (pv 6)) (pe_ty .tTuple (u_tuple T) (by decide +kernel))))) l_nil)))) (dw_or1 (dt_cmp (op_neP hr.units) (relD_ok _) (d_var (pv 3)) (d_var (pv 4))))))) (s_one (s_ret d_bl)) s_nil) (s_one (s_ret (d_or (d_cmp (op_gtP hr.units) (relD_ok _) (d_callB call_len lenD_ok (u_len T) (by decide +kernel) (l_cons (d_var (pv 3)) l_nil)) d_int) (d_one (d_cmp (op_eqP hr.units) (relD_ok _) (d_fldI (flds_i I) (d_make (ok_Question T Z I) hr (l_cons (d_tup l_nil) (l_cons (d_var (pv 3)) l_nil)) (hl := (len_cons (len_cons len_nil))))) (d_var (pv 4)))))))))))))))
theorem sc__law_unlike : FnScope ["_law_hand_here", "_law_installation_here", "_law_at", "_law_number", "_law_later", "_law_other", "_law_triples", "_law_name_here", "_law_version", "_law_features", "_law_k", "_law_word", "_law_one", "_law_triple"] ["_law_hand_here", "_law_installation_here"] (defScope s__law_unlike) := ⟨rfl, rfl, rfl, by decide +kernel, rfl, by decide +kernel, by decide +kernel⟩
def c__law_unlike_0 : ME (Hand) := (mVar 12)
theorem c__law_unlike_0_eq (env : DE) (s : Hand) : c__law_unlike_0 env s = (mVar 12) env s := rfl
def c__law_unlike_1 : ME (Hand) := (mB addD (mB addD (mSl slT (mVar 1) mNoPart (mPart (mVar 2))) (mF tupD (mCons (mVar 13) mNil))) (mSl slT (mVar 1) (mPart (mB addD (mVar 2) (mC (.int 1)))) mNoPart))
theorem c__law_unlike_1_eq (env : DE) (s : Hand) : c__law_unlike_1 env s = (mB addD (mB addD (mSl slT (mVar 1) mNoPart (mPart (mVar 2))) (mF tupD (mCons (mVar 13) mNil))) (mSl slT (mVar 1) (mPart (mB addD (mVar 2) (mC (.int 1)))) mNoPart)) env s := rfl
def f__law_unlike : List D → Hand → Option (D × Hand) := mDef 14 (sSeq (sIf (mIsT (mB (relD eqP) (mF lenD (mCons (mVar 1) mNil)) (mC (.int 0)))) (sRet (mF tupD (mCons (mF tupD (mCons (mC (.str "a")) (mCons (mF tupD (mCons (mC (.int 0)) (mCons (mC (.int 0)) (mCons (mC (.int 0)) mNil)))) (mCons (mF tupD mNil) mNil)))) mNil))) sNil) (sSeq (sAsg (gdName 2) (mCall f__law_draw (mCons (mVar 0) (mCons (mF lenD (mCons (mVar 1) mNil)) mNil)))) (sSeq (sAsg (gdTup 3 (gdCons (gdName 7) (gdCons (gdName 8) (gdCons (gdName 9) gdNil)))) (mB ixD (mVar 1) (mVar 2))) (sSeq (sAsg (gdTup 2 (gdCons (gdName 10) (gdCons (gdName 11) gdNil))) (mF tupD (mCons (mCall f__law_draw (mCons (mVar 0) (mCons (mC (.int 3)) mNil))) (mCons (mCall f__law_any (mCons (mVar 0) (mCons (mF lstD (mCons (mC (.str "zzz")) (mCons (mC (.str "check")) (mCons (mC (.str "a")) mNil)))) mNil))) mNil)))) (sSeq (sAsg (gdName 3) (mCall f__law_any (mCons (mVar 0) (mCons (mF lstD (mCons (mC (.int 0)) (mCons (mC (.int 1)) (mCons (mC (.int 10)) (mCons (mC (.int 1000000)) (mCons (mB divD (mB ixD (mVar 8) (mVar 10)) (mC (.int 10))) mNil)))))) mNil)))) (sSeq (sAsg (gdName 3) (mIf (mIsT (mB (relD eqP) (mVar 3) (mB ixD (mVar 8) (mVar 10)))) (mB modD (mB addD (mVar 3) (mC (.int 1))) (mC (.int 1000001))) (mVar 3))) (sSeq (sAsg (gdName 4) (mB addD (mB addD (mSl slT (mVar 8) mNoPart (mPart (mVar 10))) (mF tupD (mCons (mVar 3) mNil))) (mSl slT (mVar 8) (mPart (mB addD (mVar 10) (mC (.int 1)))) mNoPart))) (sSeq (sAsg (gdName 5) (mIf (mIsT (mB ninD (mVar 11) (mVar 9))) (mF tupleCD (mCons (mF ssetTD (mCons (mB addD (mVar 9) (mF tupD (mCons (mVar 11) mNil))) mNil)) mNil)) (mF tupleCD (mCons (mComp (mIt tupItems (mVar 9)) (gdName 12) (mIsT (mB (relD neP) (mVar 12) (mVar 11))) c__law_unlike_0 [12]) mNil)))) (sSeq (sAsg (gdName 6) (mF lstD (mCons (mF tupD (mCons (mVar 7) (mCons (mVar 4) (mCons (mVar 9) mNil)))) (mCons (mF tupD (mCons (mVar 7) (mCons (mVar 8) (mCons (mVar 5) mNil)))) (mCons (mF tupD (mCons (mVar 7) (mCons (mU revT (mVar 8)) (mCons (mVar 9) mNil)))) mNil))))) (sRet (mCall f__law_any (mCons (mVar 0) (mCons (mB addD (mComp (mIt lstItems (mVar 6)) (gdName 13) mYes c__law_unlike_1 [13]) (mF lstD (mCons (mB addD (mSl slT (mVar 1) mNoPart (mPart (mVar 2))) (mSl slT (mVar 1) (mPart (mB addD (mVar 2) (mC (.int 1)))) mNoPart)) mNil))) mNil)))))))))))))
theorem ok__law_unlike (T : Txt K mg) (Z : PySem.Er.Pg P "/claim/cut.py") (I : ∀ q ∈ fxs, q.ok K = true) : DOk P w K mg base (HandK p c) "_law_unlike" 3 ["_law_hand_here", "_law_installation_here"] f__law_unlike := by
  obtain ⟨fd, Fn⟩ := T.tx.fns d__law_unlike (List.Mem.tail _ (List.Mem.tail _ (List.Mem.tail _ (List.Mem.tail _ (List.Mem.tail _ (List.Mem.tail _ (List.Mem.tail _ (List.Mem.tail _ (List.Mem.tail _ (List.Mem.tail _ (List.Mem.tail _ (List.Mem.tail _ (List.Mem.tail _ (List.Mem.tail _ (List.Mem.tail _ (List.Mem.tail _ (List.Mem.tail _ (List.Mem.tail _ (List.Mem.tail _ (List.Mem.tail _ (List.Mem.tail _ (List.Mem.tail _ (List.Mem.tail _ (List.Mem.tail _ (List.Mem.tail _ (List.Mem.tail _ (List.Mem.tail _ (List.Mem.tail _ (List.Mem.tail _ (List.Mem.tail _ (List.Mem.head _)))))))))))))))))))))))))))))))
  exact d_defD Fn (T.tx.glo _ (List.Mem.tail _ (List.Mem.tail _ (List.Mem.tail _ (List.Mem.tail _ (List.Mem.tail _ (List.Mem.tail _ (List.Mem.tail _ (List.Mem.tail _ (List.Mem.tail _ (List.Mem.tail _ (List.Mem.tail _ (List.Mem.tail _ (List.Mem.tail _ (List.Mem.tail _ (List.Mem.tail _ (List.Mem.tail _ (List.Mem.tail _ (List.Mem.tail _ (List.Mem.tail _ (List.Mem.tail _ (List.Mem.tail _ (List.Mem.tail _ (List.Mem.tail _ (List.Mem.tail _ (List.Mem.tail _ (List.Mem.tail _ (List.Mem.tail _ (List.Mem.tail _ (List.Mem.tail _ (List.Mem.tail _ (List.Mem.head _)))))))))))))))))))))))))))))))) sc__law_unlike (fun _ _ _ _ _ _ us hl => match us, hl with | [_, _], _ => rfl) (fun cdv A outer s H E hr => (s_cons (s_if (dt_cmp (op_eqP hr.units) (relD_ok _) (d_callB call_len lenD_ok (u_len T) (by decide +kernel) (l_cons (d_var (pv 1)) l_nil)) d_int) (s_one (s_ret (d_tup (l_cons (d_tup (l_cons d_str (l_cons (d_tup (l_cons d_int (l_cons d_int (l_cons d_int l_nil)))) (l_cons (d_tup l_nil) l_nil)))) l_nil)))) s_nil) (s_cons (s_set (i := 2) sc__law_unlike.nd (d_callO (ok__law_draw T Z I) hr (l_cons (d_var (pv 0)) (l_cons (d_callB call_len lenD_ok (u_len T) (by decide +kernel) (l_cons (d_var (pv 1)) l_nil)) l_nil)) (hl := (len_cons (len_cons len_nil))))) (s_cons (s_asg (g_tup (g_cons (g_name 7) (g_cons (g_name 8) (g_cons (g_name 9) g_nil)))) (d_ix ix_seq ixD_ok (d_var (pv 1)) (d_var (pv 2))) (pg_tup (n := 3) rfl (pgs_cons (pg_name (i := 7) sc__law_unlike.nd rfl (by first | exact Or.inl rfl | exact Or.inr rfl)) (pgs_cons (pg_name (i := 8) sc__law_unlike.nd rfl (by first | exact Or.inl rfl | exact Or.inr rfl)) (pgs_cons (pg_name (i := 9) sc__law_unlike.nd rfl (by first | exact Or.inl rfl | exact Or.inr rfl)) pgs_nil))))) (s_cons (s_asg (g_tup (g_cons (g_name 10) (g_cons (g_name 11) g_nil))) (d_tup (l_cons (d_callO (ok__law_draw T Z I) hr (l_cons (d_var (pv 0)) (l_cons d_int l_nil)) (hl := (len_cons (len_cons len_nil)))) (l_cons (d_callO (ok__law_any T Z I) hr (l_cons (d_var (pv 0)) (l_cons (d_lst (l_cons d_str (l_cons d_str (l_cons d_str l_nil)))) l_nil)) (hl := (len_cons (len_cons len_nil)))) l_nil))) (pg_tup (n := 2) rfl (pgs_cons (pg_name (i := 10) sc__law_unlike.nd rfl (by first | exact Or.inl rfl | exact Or.inr rfl)) (pgs_cons (pg_name (i := 11) sc__law_unlike.nd rfl (by first | exact Or.inl rfl | exact Or.inr rfl)) pgs_nil)))) (s_cons (s_set (i := 3) sc__law_unlike.nd (d_callO (ok__law_any T Z I) hr (l_cons (d_var (pv 0)) (l_cons (d_lst (l_cons d_int (l_cons d_int (l_cons d_int (l_cons d_int (l_cons (d_op op_fdivW divD_ok (d_ix ix_seq ixD_ok (d_var (pv 8)) (d_var (pv 10))) d_int) l_nil)))))) l_nil)) (hl := (len_cons (len_cons len_nil))))) (s_cons (s_set (i := 3) sc__law_unlike.nd (d_if (dt_cmp (op_eqP hr.units) (relD_ok _) (d_var (pv 3)) (d_ix ix_seq ixD_ok (d_var (pv 8)) (d_var (pv 10)))) (d_op op_mod modD_ok (d_op op_addA addD_ok (d_var (pv 3)) d_int) d_int) (d_var (pv 3)))) (s_cons (s_set (i := 4) sc__law_unlike.nd (d_op op_addA addD_ok (d_op op_addA addD_ok (d_sl sl_tupA slT_ok (d_var (pv 8)) do_none (do_some (d_var (pv 10)))) (d_tup (l_cons (d_var (pv 3)) l_nil))) (d_sl sl_tupA slT_ok (d_var (pv 8)) (do_some (d_op op_addA addD_ok (d_var (pv 10)) d_int)) do_none))) (s_cons (s_set (i := 5) sc__law_unlike.nd (d_if (dt_cmp (op_ninA hr.units) ninD_ok (d_var (pv 11)) (d_var (pv 9))) (d_callTy call_tuple_of tupleCD_ok (u_tuple T) (by decide +kernel) (l_cons (d_ssetT rfl (u_sorted T) (u_set T) (l_cons (d_op op_addA addD_ok (d_var (pv 9)) (d_tup (l_cons (d_var (pv 11)) l_nil))) l_nil)) l_nil)) (d_callTy call_tuple_of tupleCD_ok (u_tuple T) (by decide +kernel) (l_cons (d_lc rfl sc__law_unlike.nd (i_tup (d_var (pv 9))) (blkOk_by (own := [("_law_one", 12)]) (by kernel_rfl)) (fun _ _ _ _ _ => (pg_name (i := 12) sc__law_unlike.nd rfl (by first | exact Or.inl rfl | exact Or.inr rfl))) (g_name 12) (fun _ _ _ _ _ => (dts_one (dt_cmp (op_neP hr.units) (relD_ok _) (d_var (pv 12)) (d_var (pv 11))))) (fun _ _ _ _ _ => (d_var (pv 12)))) l_nil)))) (s_cons (s_set (i := 6) sc__law_unlike.nd (d_lst (l_cons (d_tup (l_cons (d_var (pv 7)) (l_cons (d_var (pv 4)) (l_cons (d_var (pv 9)) l_nil)))) (l_cons (d_tup (l_cons (d_var (pv 7)) (l_cons (d_var (pv 8)) (l_cons (d_var (pv 5)) l_nil)))) (l_cons (d_tup (l_cons (d_var (pv 7)) (l_cons (d_revT (d_var (pv 8))) (l_cons (d_var (pv 9)) l_nil)))) l_nil))))) (s_one (s_ret (d_callO (ok__law_any T Z I) hr (l_cons (d_var (pv 0)) (l_cons (d_op op_addA addD_ok (d_lc rfl sc__law_unlike.nd (i_lst (d_var (pv 6))) (blkOk_by (own := [("_law_triple", 13)]) (by kernel_rfl)) (fun _ _ _ _ _ => (pg_name (i := 13) sc__law_unlike.nd rfl (by first | exact Or.inl rfl | exact Or.inr rfl))) (g_name 13) (fun _ _ _ _ _ => dts_nil) (fun _ _ _ _ _ => (d_op op_addA addD_ok (d_op op_addA addD_ok (d_sl sl_tupA slT_ok (d_var (pv 1)) do_none (do_some (d_var (pv 2)))) (d_tup (l_cons (d_var (pv 13)) l_nil))) (d_sl sl_tupA slT_ok (d_var (pv 1)) (do_some (d_op op_addA addD_ok (d_var (pv 2)) d_int)) do_none)))) (d_lst (l_cons (d_op op_addA addD_ok (d_sl sl_tupA slT_ok (d_var (pv 1)) do_none (do_some (d_var (pv 2)))) (d_sl sl_tupA slT_ok (d_var (pv 1)) (do_some (d_op op_addA addD_ok (d_var (pv 2)) d_int)) do_none)) l_nil))) l_nil)) (hl := (len_cons (len_cons len_nil))))))))))))))))
theorem sc_law : FnScope ["_law_script", "_law_hand_here", "_law_turn", "_law_one", "_law_other"] ["_law_script"] (defScope s_law) := ⟨rfl, rfl, rfl, by decide +kernel, rfl, by decide +kernel, by decide +kernel⟩
def b_law_0 : MS (Hand) := (sSeq (sAsg (gdName 3) (mCall f__law_installation (mCons (mVar 1) mNil))) (sSeq (sAsg (gdName 4) (mCall f__law_unlike (mCons (mVar 1) (mCons (mVar 3) mNil)))) (sSeq (sIf (mOrT (mNotT (mIsT (mCall f__law_is_right (mCons (mVar 3) mNil)))) (mNotT (mIsT (mCall f__law_is_right (mCons (mVar 4) mNil))))) (sRet (mC (.bl false))) sNil) (sIf (mIsT (mB (relD neP) (mB (relD eqP) (mCall f_lock_text (mCons (mVar 3) mNil)) (mCall f_lock_text (mCons (mVar 4) mNil))) (mB (relD eqP) (mVar 3) (mVar 4)))) (sRet (mC (.bl false))) sNil))))
theorem b_law_0_eq (env : DE) (s : Hand) : b_law_0 env s = (sSeq (sAsg (gdName 3) (mCall f__law_installation (mCons (mVar 1) mNil))) (sSeq (sAsg (gdName 4) (mCall f__law_unlike (mCons (mVar 1) (mCons (mVar 3) mNil)))) (sSeq (sIf (mOrT (mNotT (mIsT (mCall f__law_is_right (mCons (mVar 3) mNil)))) (mNotT (mIsT (mCall f__law_is_right (mCons (mVar 4) mNil))))) (sRet (mC (.bl false))) sNil) (sIf (mIsT (mB (relD neP) (mB (relD eqP) (mCall f_lock_text (mCons (mVar 3) mNil)) (mCall f_lock_text (mCons (mVar 4) mNil))) (mB (relD eqP) (mVar 3) (mVar 4)))) (sRet (mC (.bl false))) sNil)))) env s := rfl
def m_law : MS Hand := (sSeq (sFor (mRng rng1D (mCons (mC (.int 2)) mNil)) (gdName 2) b_law_0) (sRet (mC (.bl true))))
theorem ok_law (T : Txt K mg) (hlaw : LawOkK 5 1 m_law f__law_hand) : ∃ fd, (∀ (s : Shared) (v : Value), BindsTo s fd ⟨[v], []⟩ [("_law_script", v)]) ∧ ∀ (P : Program) (w : World) (base : Heap) (Z : PySem.Er.Pg P "/claim/cut.py") (I : ∀ q ∈ fxs, q.ok K = true), FnOk P w K mg base CX0 10 (He.fAd K ("law", none)) fd ["_law_script"] (spLaw K) := by
  obtain ⟨fd, Fn⟩ := T.tx.fns d_law (List.Mem.tail _ (List.Mem.tail _ (List.Mem.tail _ (List.Mem.tail _ (List.Mem.tail _ (List.Mem.tail _ (List.Mem.tail _ (List.Mem.tail _ (List.Mem.tail _ (List.Mem.tail _ (List.Mem.tail _ (List.Mem.tail _ (List.Mem.tail _ (List.Mem.tail _ (List.Mem.tail _ (List.Mem.tail _ (List.Mem.tail _ (List.Mem.tail _ (List.Mem.tail _ (List.Mem.tail _ (List.Mem.tail _ (List.Mem.tail _ (List.Mem.tail _ (List.Mem.tail _ (List.Mem.tail _ (List.Mem.tail _ (List.Mem.tail _ (List.Mem.tail _ (List.Mem.tail _ (List.Mem.tail _ (List.Mem.tail _ (List.Mem.head _))))))))))))))))))))))))))))))))
  refine ⟨fd, fun s v => (FunD.bindsA (ps := ["_law_script"]) Fn fun _ _ _ _ _ _ us hl => match us, hl with | [_], _ => rfl) s [v] rfl, ?_⟩
  exact fun P w base Z I => law_fnK Fn sc_law (by decide) (by decide) hlaw rfl (fun a bp cdv A outer s H E hr => s_set (i := 1) sc_law.nd (d_callO (ok__law_hand T Z I) hr (l_cons (d_var (pv 0)) l_nil))) (fun p c cdv A outer s H E hr => (s_cons (s_for PassesOwn.never rfl (i_rng1 (u_range T) (l_cons d_int l_nil)) (pg_name (i := 2) sc_law.nd rfl (by first | exact Or.inl rfl | exact Or.inr rfl)) (g_name 2) (s_cons (s_set (i := 3) sc_law.nd (d_callO (ok__law_installation T Z I) hr (l_cons (d_var (pv 1)) l_nil) (hl := (len_cons len_nil)))) (s_cons (s_set (i := 4) sc_law.nd (d_callO (ok__law_unlike T Z I) hr (l_cons (d_var (pv 1)) (l_cons (d_var (pv 3)) l_nil)) (hl := (len_cons (len_cons len_nil))))) (s_cons (s_if (dt_w (dw_or (dt_not (dt_val (d_callO (ok__law_is_right T Z I) hr (l_cons (d_var (pv 3)) l_nil) (hl := (len_cons len_nil))))) (dw_or1 (dt_not (dt_val (d_callO (ok__law_is_right T Z I) hr (l_cons (d_var (pv 4)) l_nil) (hl := (len_cons len_nil)))))))) (s_one (s_ret d_bl)) s_nil) (s_one (s_if (dt_cmp (op_neP hr.units) (relD_ok _) (d_cmp (op_eqP hr.units) (relD_ok _) (d_callO (ok_lock_text T Z I) hr (l_cons (d_var (pv 3)) l_nil) (hl := (len_cons len_nil))) (d_callO (ok_lock_text T Z I) hr (l_cons (d_var (pv 4)) l_nil) (hl := (len_cons len_nil)))) (d_cmp (op_eqP hr.units) (relD_ok _) (d_var (pv 3)) (d_var (pv 4)))) (s_one (s_ret d_bl)) s_nil)))))) (s_one (s_ret d_bl))))
end
end K41

set_option Elab.async false
set_option linter.all false
set_option maxRecDepth 100000
set_option maxHeartbeats 4000000
namespace K41
open PySem
open L2
open Dl
/-! draws -/
theorem log_lt {m : Int} (h0 : 0 < m) (h : m < 2 ^ 62) : m.natAbs.log2 < 9000 := by
  have : m.natAbs < 2 ^ 62 := by omega
  have h2 : m.natAbs.log2 < 62 := (Nat.log2_lt (by omega)).mpr this
  omega
theorem leaf {m x : Int} (h0 : 0 < m) : (∃ n, D.int (x % m) = D.int n ∧ 0 ≤ n ∧ n < m) = True :=
  eq_true ⟨_, rfl, Int.emod_nonneg x (Int.ne_of_gt h0), Int.emod_lt_of_pos x h0⟩
theorem draw_ok {s : Hand} {m : Int} (h0 : 0 < m) (h : m < 2 ^ 62) : OW (f__law_draw [.hnd, .int m] s) fun p => ∃ n, p.1 = .int n ∧ 0 ≤ n ∧ n < m := by
  have hl := log_lt h0 h
  unfold f__law_draw
  simp only [mDef_eq, outD_nx, outD_rt, startE, sNil, sSeq, thenS_nx, thenS_rt, thenS_bk, thenS_ct, sAsg, sIf, sRet, sRetN, sDrop, sBrk, sCnt, sFor, sOwn, ownAt, sApp, sExt, sPut, sFrz, sPar, mIxO, mLenO, mTupO, mVar, mC, mU, mB, mNil, mCons, mF, mIsT, mAndT, mOrT, mNotT, mAnd, mOr, mNot, mIf, mChain, mPart, mNoPart, mSl, mCall, mIt, mRng, mComp, mYes, gdName, gdTup, gdCons, gdNil, wipeE, tupItems_tup, lstItems_lst, bl_bl, int_int, mHx_eq, mHlen_eq, mHcell_eq, sHput_eq, isH_hnd, hget1, hget2, hget3, hget4, hset1, hset2, hset3, hset4, eq_int, ne_int, lt_int, gt_int, le_int, ge_int, eq_bl, add_int, add_tup, add_lst, sub_int, neg_int, isN_hi, notN_hi, mul_int, div_int, mod_int, pow_int, abs_int, intC_int, len_tup, len_lst, tup_D, lst_D, rt_D, Bool.not_not, Bool.not_true, Bool.not_false, true_and, and_true, false_and, and_false, or_true, true_or, or_false, false_or, List.length_cons, List.length_nil, List.length_append, List.length_map, List.map_cons, List.map_nil, List.replicate_succ, List.replicate_zero, List.cons_append, List.nil_append, List.append_nil, List.set_cons_zero, List.set_cons_succ, List.getElem?_cons_zero, List.getElem?_cons_succ, Option.bind_some, Option.map_some, Option.bind_none, Option.map_none, OW_some, OW_bind, OW_map, OW_if, Bool.false_eq_true, if_true, if_false, ↓reduceIte, Nat.reduceAdd, Nat.reduceSub, Nat.zero_add, Nat.sub_self, Function.comp]
  by_cases c : s.pos < s.cells.length
  · simp only [atI_nat c, OW_some, mulI_r (j := 69621) (by decide), mulI_l (i := 7927) (by decide), mulI_r (j := 48271) (by decide), modI_ok (j := 2147483629) (by decide), modI_ok (j := 2147483647) (by decide), modI_ok (j := 2147483587) (by decide), modI_ok (j := 2147483399) (by decide),
      mulI_mod (c := 2147483647) (by decide) (by decide), mulI_mod (c := 2147483587) (by decide) (by decide), modI_ok h0, divI_ok h0 hl, pow_10_18, divI_ok (j := 1013) (by decide) (by decide +kernel), divI_ok (j := 2011) (by decide) (by decide +kernel), divI_ok (j := 32) (by decide) (by decide +kernel), leaf h0, ite_self]
    have e : (0 : Int) ≤ (s.pos : Int) + 1 := by omega
    simp only [e, if_true, ite_self]
  · have e : decide ((s.pos : Int) < (s.cells.length : Int)) = false := decide_eq_false (by omega)
    simp only [e, OW_some, mulI_r (j := 69621) (by decide), mulI_l (i := 7927) (by decide), mulI_r (j := 48271) (by decide), modI_ok (j := 2147483629) (by decide), modI_ok (j := 2147483647) (by decide), modI_ok (j := 2147483587) (by decide), modI_ok (j := 2147483399) (by decide),
      mulI_mod (c := 2147483647) (by decide) (by decide), mulI_mod (c := 2147483587) (by decide) (by decide), modI_ok h0, divI_ok h0 hl, pow_10_18, divI_ok (j := 1013) (by decide) (by decide +kernel), divI_ok (j := 2011) (by decide) (by decide +kernel), divI_ok (j := 32) (by decide) (by decide +kernel), leaf h0, ite_self, Bool.false_eq_true, if_false]
theorem draw_then {s : Hand} {m : Int} {Q : D × Hand → Prop} (h0 : 0 < m) (h : m < 2 ^ 62) (g : ∀ n s', 0 ≤ n → n < m → Q (.int n, s')) : OW (f__law_draw [.hnd, .int m] s) Q := OW.mono (draw_ok h0 h) fun p ⟨n, e, h1, h2⟩ => by
  obtain ⟨d, s'⟩ := p
  dsimp only at e
  subst e
  exact g n s' h1 h2
theorem any_then {s : Hand} {xs : List D} {Q : D × Hand → Prop} (h0 : 0 < xs.length) (h : xs.length < 1000000) (g : ∀ d s', d ∈ xs → Q (d, s')) : OW (f__law_any [.hnd, .lst xs] s) Q := by
  unfold f__law_any
  simp only [mDef_eq, outD_nx, outD_rt, startE, sNil, sSeq, thenS_nx, thenS_rt, thenS_bk, thenS_ct, sAsg, sIf, sRet, sRetN, sDrop, sBrk, sCnt, sFor, sOwn, ownAt, sApp, sExt, sPut, sFrz, sPar, mIxO, mLenO, mTupO, mVar, mC, mU, mB, mNil, mCons, mF, mIsT, mAndT, mOrT, mNotT, mAnd, mOr, mNot, mIf, mChain, mPart, mNoPart, mSl, mCall, mIt, mRng, mComp, mYes, gdName, gdTup, gdCons, gdNil, wipeE, tupItems_tup, lstItems_lst, bl_bl, int_int, mHx_eq, mHlen_eq, mHcell_eq, sHput_eq, isH_hnd, hget1, hget2, hget3, hget4, hset1, hset2, hset3, hset4, eq_int, ne_int, lt_int, gt_int, le_int, ge_int, eq_bl, add_int, add_tup, add_lst, sub_int, neg_int, isN_hi, notN_hi, mul_int, div_int, mod_int, pow_int, abs_int, intC_int, len_tup, len_lst, tup_D, lst_D, rt_D, Bool.not_not, Bool.not_true, Bool.not_false, true_and, and_true, false_and, and_false, or_true, true_or, or_false, false_or, List.length_cons, List.length_nil, List.length_append, List.length_map, List.map_cons, List.map_nil, List.replicate_succ, List.replicate_zero, List.cons_append, List.nil_append, List.append_nil, List.set_cons_zero, List.set_cons_succ, List.getElem?_cons_zero, List.getElem?_cons_succ, Option.bind_some, Option.map_some, Option.bind_none, Option.map_none, OW_some, OW_bind, OW_map, OW_if, Bool.false_eq_true, if_true, if_false, ↓reduceIte, Nat.reduceAdd, Nat.reduceSub, Nat.zero_add, Nat.sub_self, Function.comp]
  refine draw_then (by omega) (by omega) fun n s' n0 n1 => ?_
  obtain ⟨k, rfl⟩ : ∃ k : Nat, n = (k : Int) := ⟨n.toNat, by omega⟩
  have hk : k < xs.length := by omega
  have e : ixD (.lst xs) (.int (k : Int)) = some xs[k] := by
    rw [ixl_nat, List.getElem?_eq_getElem hk]
  simp only [OW_eq e, mDef_eq, outD_nx, outD_rt, startE, sNil, sSeq, thenS_nx, thenS_rt, thenS_bk, thenS_ct, sAsg, sIf, sRet, sRetN, sDrop, sBrk, sCnt, sFor, sOwn, ownAt, sApp, sExt, sPut, sFrz, sPar, mIxO, mLenO, mTupO, mVar, mC, mU, mB, mNil, mCons, mF, mIsT, mAndT, mOrT, mNotT, mAnd, mOr, mNot, mIf, mChain, mPart, mNoPart, mSl, mCall, mIt, mRng, mComp, mYes, gdName, gdTup, gdCons, gdNil, wipeE, tupItems_tup, lstItems_lst, bl_bl, int_int, mHx_eq, mHlen_eq, mHcell_eq, sHput_eq, isH_hnd, hget1, hget2, hget3, hget4, hset1, hset2, hset3, hset4, eq_int, ne_int, lt_int, gt_int, le_int, ge_int, eq_bl, add_int, add_tup, add_lst, sub_int, neg_int, isN_hi, notN_hi, mul_int, div_int, mod_int, pow_int, abs_int, intC_int, len_tup, len_lst, tup_D, lst_D, rt_D, Bool.not_not, Bool.not_true, Bool.not_false, true_and, and_true, false_and, and_false, or_true, true_or, or_false, false_or, List.length_cons, List.length_nil, List.length_append, List.length_map, List.map_cons, List.map_nil, List.replicate_succ, List.replicate_zero, List.cons_append, List.nil_append, List.append_nil, List.set_cons_zero, List.set_cons_succ, List.getElem?_cons_zero, List.getElem?_cons_succ, Option.bind_some, Option.map_some, Option.bind_none, Option.map_none, OW_some, OW_bind, OW_map, OW_if, Bool.false_eq_true, if_true, if_false, ↓reduceIte, Nat.reduceAdd, Nat.reduceSub, Nat.zero_add, Nat.sub_self, Function.comp]
  exact g _ _ (List.getElem_mem hk)
end K41

set_option Elab.async false
set_option linter.all false
set_option maxRecDepth 100000
set_option maxHeartbeats 4000000
namespace K41
open PySem
open L2
open Dl
open Txt
open TL
theorem tl_inj {a b : Str} (h : tl a = tl b) : a = b := PySem.W.str_of_cps h
theorem strs_map : ∀ l : List Str, strsOf (l.map D.str) = some l
  | [] => rfl
  | x :: l => by
    show (strsOf (l.map D.str)).map (x :: ·) = _
    rw [strs_map l]
    rfl
theorem join_D {y : Str} {l : List Str} (h : (l.map (·.length)).sum + l.length * y.length ≤ 16777216) : joinD (.str y) (.lst (l.map D.str)) = some (.str (Txt.join y l)) := by
  show ((seqItems (.lst (l.map D.str))).bind fun ds => (strsOf ds).bind fun ys => joinS y ys) = _
  show ((strsOf (l.map D.str)).bind fun ys => joinS y ys) = _
  rw [strs_map]
  show joinS y l = _
  unfold joinS
  rw [if_pos h]
theorem joinL_len (S : List Nat) : ∀ l : List (List Nat), (joinL S l).length ≤ (l.map List.length).sum + l.length * S.length
  | [] => Nat.zero_le _
  | [p] => by
    show p.length ≤ p.length + 0 + 1 * S.length
    omega
  | p :: q :: r => by
    have := joinL_len S (q :: r)
    show (p ++ (S ++ joinL S (q :: r))).length ≤ p.length + ((q :: r).map List.length).sum + ((q :: r).length + 1) * S.length
    rw [List.length_append, List.length_append, Nat.add_mul, Nat.one_mul]
    omega
theorem join_len (y : Str) (l : List Str) : (Txt.join y l).length ≤ (l.map (·.length)).sum + l.length * y.length := by
  rw [join_eq, ← tl_len, tl_join]
  have := joinL_len (tl y) (l.map tl)
  rw [List.map_map, List.length_map, tl_len] at this
  have e : (List.length ∘ tl) = fun x : Str => x.length := funext fun x => tl_len x
  rw [e] at this
  exact this
theorem comp_then {g : D → DE → Option DE} {e : ME Hand} {env : DE} {P : D → Prop} : ∀ {xs : List D} {s : Hand}, (∀ x ∈ xs, ∃ env1, g x env = some env1 ∧ ∀ s, OW (e env1 s) fun p => P p.1) → OW (compL g mYes e env xs s) fun p => p.1.length = xs.length ∧ ∀ d ∈ p.1, P d
  | [], s, _ => by
    show OW (some _) _
    rw [OW_some]
    exact ⟨rfl, fun _ h => by cases h⟩
  | x :: xs, s, h => by
    obtain ⟨env1, h1, h2⟩ := h x (List.mem_cons_self ..)
    unfold compL
    rw [h1]
    show OW (if true = true then (e env1 s).bind fun q => (compL g mYes e env xs q.2).map fun r => (q.1 :: r.1, r.2) else compL g mYes e env xs s) _
    rw [if_pos rfl, OW_bind]
    refine OW.mono (h2 s) fun q hq => ?_
    rw [OW_map]
    refine OW.mono (comp_then (s := q.2) fun y hy => h y (List.mem_cons_of_mem _ hy)) fun r hr => ?_
    refine ⟨by rw [List.length_cons, List.length_cons, hr.1], fun d hd => ?_⟩
    rcases List.mem_cons.mp hd with z | z
    · rw [z]; exact hq
    · exact hr.2 d z
theorem sum_le {l : List Str} {k : Nat} (h : ∀ x ∈ l, x.length ≤ k) : (l.map (·.length)).sum ≤ k * l.length := by
  induction l with
  | nil => exact Nat.le_refl _
  | cons x l ih =>
    have h1 := h x (List.mem_cons_self ..)
    have h2 := ih fun y hy => h y (List.mem_cons_of_mem _ hy)
    rw [List.map_cons, List.sum_cons, List.length_cons, Nat.mul_add, Nat.mul_one]
    omega

/-! names -/
def Low (l : List Nat) : Prop := ∀ c ∈ l, 97 ≤ c ∧ c ≤ 122
def NameOk (w : Str) : Prop := 1 ≤ w.length ∧ w.length ≤ 12 ∧ Low (tl w)
theorem letters_tl : ("abcdefghijklmnopqrstuvwxyz" : Str).cps.toList = (List.range 26).map (· + 97) := by decide +kernel
theorem letters_len : ("abcdefghijklmnopqrstuvwxyz" : Str).length = 26 := by decide +kernel
theorem letter {k : Nat} (h : k < 26) : ixD (.str "abcdefghijklmnopqrstuvwxyz") (.int (k : Int)) = some (.str ⟨#[k + 97]⟩) := by
  show (if ("abcdefghijklmnopqrstuvwxyz" : Str).length ≤ sizeLine then (atI ("abcdefghijklmnopqrstuvwxyz" : Str).cps.toList (k : Int)).map (fun c => D.str ⟨#[c]⟩) else none) = _
  rw [if_pos (by rw [letters_len, sizeLine_eq]; omega), atI_natQ, letters_tl, List.getElem?_map, List.getElem?_range h]
  rfl
theorem joinL_nil : ∀ l : List (List Nat), joinL [] l = l.flatten
  | [] => rfl
  | [p] => by
    show p = p ++ []
    rw [List.append_nil]
  | p :: q :: r => by
    show p ++ ([] ++ joinL [] (q :: r)) = _
    rw [joinL_nil (q :: r)]
    rfl
theorem nil_tl : tl ("" : Str) = [] := by decide +kernel
theorem nil_len : ("" : Str).length = 0 := by decide +kernel
def isLet (d : D) : Prop := ∃ c, d = .str ⟨#[c]⟩ ∧ 97 ≤ c ∧ c ≤ 122
theorem lets_of : ∀ {ds : List D}, (∀ d ∈ ds, isLet d) → ∃ l : List Nat, ds = (l.map fun c => (⟨#[c]⟩ : Str)).map D.str ∧ Low l ∧ l.length = ds.length
  | [], _ => ⟨[], rfl, fun _ h => (by cases h), rfl⟩
  | d :: ds, h => by
    obtain ⟨c, e, c1, c2⟩ := h d (List.mem_cons_self ..)
    obtain ⟨l, e2, h2, h3⟩ := lets_of fun x hx => h x (List.mem_cons_of_mem _ hx)
    refine ⟨c :: l, by rw [e, e2]; rfl, fun x hx => ?_, by rw [List.length_cons, List.length_cons, h3]⟩
    rcases List.mem_cons.mp hx with z | z
    · rw [z]; exact ⟨c1, c2⟩
    · exact h2 x z
theorem flat_one : ∀ l : List Nat, ((l.map fun c => (⟨#[c]⟩ : Str)).map tl).flatten = l
  | [] => rfl
  | c :: l => by
    show [c] ++ ((l.map fun c => (⟨#[c]⟩ : Str)).map tl).flatten = _
    rw [flat_one l]
    rfl
theorem join_lets (l : List Nat) : tl (Txt.join ("" : Str) (l.map fun c => (⟨#[c]⟩ : Str))) = l := by
  rw [join_eq, tl_join, nil_tl, joinL_nil, flat_one]
def lowB (l : List Nat) : Bool := l.all fun c => decide (97 ≤ c ∧ c ≤ 122)
theorem low_of {l : List Nat} (h : lowB l = true) : Low l := fun c hc => of_decide_eq_true (List.all_eq_true.mp h c hc)
theorem name_ok {s : Hand} : OW (f__law_name [.hnd] s) fun p => ∃ w, p.1 = .str w ∧ NameOk w := by
  have hs : ∀ n : Nat, n ≤ 40 → ((n ≤ sizeLine) = True) := fun n h => eq_true (by rw [sizeLine_eq]; omega)
  unfold f__law_name
  simp only [mDef_eq, outD_nx, outD_rt, startE, sNil, sSeq, thenS_nx, thenS_rt, thenS_bk, thenS_ct, sAsg, sIf, sRet, sRetN, sDrop, sBrk, sCnt, sFor, sOwn, ownAt, sApp, sExt, sPut, sFrz, sPar, mIxO, mLenO, mTupO, mVar, mC, mU, mB, mNil, mCons, mF, mIsT, mAndT, mOrT, mNotT, mAnd, mOr, mNot, mIf, mChain, mPart, mNoPart, mSl, mCall, mIt, mRng, mComp, mYes, gdName, gdTup, gdCons, gdNil, wipeE, tupItems_tup, lstItems_lst, bl_bl, int_int, mHx_eq, mHlen_eq, mHcell_eq, sHput_eq, isH_hnd, hget1, hget2, hget3, hget4, hset1, hset2, hset3, hset4, eq_int, ne_int, lt_int, gt_int, le_int, ge_int, eq_bl, add_int, add_tup, add_lst, sub_int, neg_int, isN_hi, notN_hi, mul_int, div_int, mod_int, pow_int, abs_int, intC_int, len_tup, len_lst, tup_D, lst_D, rt_D, Bool.not_not, Bool.not_true, Bool.not_false, true_and, and_true, false_and, and_false, or_true, true_or, or_false, false_or, List.length_cons, List.length_nil, List.length_append, List.length_map, List.map_cons, List.map_nil, List.replicate_succ, List.replicate_zero, List.cons_append, List.nil_append, List.append_nil, List.set_cons_zero, List.set_cons_succ, List.getElem?_cons_zero, List.getElem?_cons_succ, Option.bind_some, Option.map_some, Option.bind_none, Option.map_none, OW_some, OW_bind, OW_map, OW_if, Bool.false_eq_true, if_true, if_false, ↓reduceIte, Nat.reduceAdd, Nat.reduceSub, Nat.zero_add, Nat.sub_self, Function.comp]
  refine draw_then (by omega) (by omega) fun n s1 n0 n1 => ?_
  simp only [mDef_eq, outD_nx, outD_rt, startE, sNil, sSeq, thenS_nx, thenS_rt, thenS_bk, thenS_ct, sAsg, sIf, sRet, sRetN, sDrop, sBrk, sCnt, sFor, sOwn, ownAt, sApp, sExt, sPut, sFrz, sPar, mIxO, mLenO, mTupO, mVar, mC, mU, mB, mNil, mCons, mF, mIsT, mAndT, mOrT, mNotT, mAnd, mOr, mNot, mIf, mChain, mPart, mNoPart, mSl, mCall, mIt, mRng, mComp, mYes, gdName, gdTup, gdCons, gdNil, wipeE, tupItems_tup, lstItems_lst, bl_bl, int_int, mHx_eq, mHlen_eq, mHcell_eq, sHput_eq, isH_hnd, hget1, hget2, hget3, hget4, hset1, hset2, hset3, hset4, eq_int, ne_int, lt_int, gt_int, le_int, ge_int, eq_bl, add_int, add_tup, add_lst, sub_int, neg_int, isN_hi, notN_hi, mul_int, div_int, mod_int, pow_int, abs_int, intC_int, len_tup, len_lst, tup_D, lst_D, rt_D, Bool.not_not, Bool.not_true, Bool.not_false, true_and, and_true, false_and, and_false, or_true, true_or, or_false, false_or, List.length_cons, List.length_nil, List.length_append, List.length_map, List.map_cons, List.map_nil, List.replicate_succ, List.replicate_zero, List.cons_append, List.nil_append, List.append_nil, List.set_cons_zero, List.set_cons_succ, List.getElem?_cons_zero, List.getElem?_cons_succ, Option.bind_some, Option.map_some, Option.bind_none, Option.map_none, OW_some, OW_bind, OW_map, OW_if, Bool.false_eq_true, if_true, if_false, ↓reduceIte, Nat.reduceAdd, Nat.reduceSub, Nat.zero_add, Nat.sub_self, Function.comp, hs 6 (by omega)]
  by_cases c : (n == 0) = true
  · rw [if_pos c]
    refine any_then (by simp) (by simp) fun d s2 hd => ?_
    simp only [List.mem_cons, List.not_mem_nil, or_false] at hd
    rcases hd with e | e | e | e | e | e <;> exact ⟨_, e, by decide +kernel, by decide +kernel, low_of (by decide +kernel)⟩
  · rw [if_neg c]
    refine any_then (by simp) (by simp) fun d s2 hd => ?_
    have hk : ∃ k : Nat, d = .int (k : Int) ∧ k ≤ 11 := by
      simp only [List.mem_cons, List.not_mem_nil, or_false] at hd
      rcases hd with e | e | e | e | e | e
      · exact ⟨0, e, by omega⟩
      · exact ⟨0, e, by omega⟩
      · exact ⟨1, e, by omega⟩
      · exact ⟨2, e, by omega⟩
      · exact ⟨4, e, by omega⟩
      · exact ⟨11, e, by omega⟩
    obtain ⟨k, e, hk⟩ := hk
    subst e
    have hr : rng1D [.int (1 + (k : Int))] = some (rngOf 0 (k + 1)) := by
      rw [show 1 + (k : Int) = ((k + 1 : Nat) : Int) by omega]
      exact rng1_nat (by omega)
    simp only [mDef_eq, outD_nx, outD_rt, startE, sNil, sSeq, thenS_nx, thenS_rt, thenS_bk, thenS_ct, sAsg, sIf, sRet, sRetN, sDrop, sBrk, sCnt, sFor, sOwn, ownAt, sApp, sExt, sPut, sFrz, sPar, mIxO, mLenO, mTupO, mVar, mC, mU, mB, mNil, mCons, mF, mIsT, mAndT, mOrT, mNotT, mAnd, mOr, mNot, mIf, mChain, mPart, mNoPart, mSl, mCall, mIt, mRng, mComp, mYes, gdName, gdTup, gdCons, gdNil, wipeE, tupItems_tup, lstItems_lst, bl_bl, int_int, mHx_eq, mHlen_eq, mHcell_eq, sHput_eq, isH_hnd, hget1, hget2, hget3, hget4, hset1, hset2, hset3, hset4, eq_int, ne_int, lt_int, gt_int, le_int, ge_int, eq_bl, add_int, add_tup, add_lst, sub_int, neg_int, isN_hi, notN_hi, mul_int, div_int, mod_int, pow_int, abs_int, intC_int, len_tup, len_lst, tup_D, lst_D, rt_D, Bool.not_not, Bool.not_true, Bool.not_false, true_and, and_true, false_and, and_false, or_true, true_or, or_false, false_or, List.length_cons, List.length_nil, List.length_append, List.length_map, List.map_cons, List.map_nil, List.replicate_succ, List.replicate_zero, List.cons_append, List.nil_append, List.append_nil, List.set_cons_zero, List.set_cons_succ, List.getElem?_cons_zero, List.getElem?_cons_succ, Option.bind_some, Option.map_some, Option.bind_none, Option.map_none, OW_some, OW_bind, OW_map, OW_if, Bool.false_eq_true, if_true, if_false, ↓reduceIte, Nat.reduceAdd, Nat.reduceSub, Nat.zero_add, Nat.sub_self, Function.comp, OW_eq hr]
    refine OW.mono (comp_then (P := isLet) fun x hx => ⟨_, rfl, fun s => ?_⟩) fun p hp => ?_
    · rw [c__law_name_0_eq]
      simp only [mDef_eq, outD_nx, outD_rt, startE, sNil, sSeq, thenS_nx, thenS_rt, thenS_bk, thenS_ct, sAsg, sIf, sRet, sRetN, sDrop, sBrk, sCnt, sFor, sOwn, ownAt, sApp, sExt, sPut, sFrz, sPar, mIxO, mLenO, mTupO, mVar, mC, mU, mB, mNil, mCons, mF, mIsT, mAndT, mOrT, mNotT, mAnd, mOr, mNot, mIf, mChain, mPart, mNoPart, mSl, mCall, mIt, mRng, mComp, mYes, gdName, gdTup, gdCons, gdNil, wipeE, tupItems_tup, lstItems_lst, bl_bl, int_int, mHx_eq, mHlen_eq, mHcell_eq, sHput_eq, isH_hnd, hget1, hget2, hget3, hget4, hset1, hset2, hset3, hset4, eq_int, ne_int, lt_int, gt_int, le_int, ge_int, eq_bl, add_int, add_tup, add_lst, sub_int, neg_int, isN_hi, notN_hi, mul_int, div_int, mod_int, pow_int, abs_int, intC_int, len_tup, len_lst, tup_D, lst_D, rt_D, Bool.not_not, Bool.not_true, Bool.not_false, true_and, and_true, false_and, and_false, or_true, true_or, or_false, false_or, List.length_cons, List.length_nil, List.length_append, List.length_map, List.map_cons, List.map_nil, List.replicate_succ, List.replicate_zero, List.cons_append, List.nil_append, List.append_nil, List.set_cons_zero, List.set_cons_succ, List.getElem?_cons_zero, List.getElem?_cons_succ, Option.bind_some, Option.map_some, Option.bind_none, Option.map_none, OW_some, OW_bind, OW_map, OW_if, Bool.false_eq_true, if_true, if_false, ↓reduceIte, Nat.reduceAdd, Nat.reduceSub, Nat.zero_add, Nat.sub_self, Function.comp]
      refine draw_then (by omega) (by omega) fun m s3 m0 m1 => ?_
      obtain ⟨j, rfl⟩ : ∃ j : Nat, m = (j : Int) := ⟨m.toNat, by omega⟩
      have hj : j < 26 := by omega
      simp only [OW_eq (letter hj), mDef_eq, outD_nx, outD_rt, startE, sNil, sSeq, thenS_nx, thenS_rt, thenS_bk, thenS_ct, sAsg, sIf, sRet, sRetN, sDrop, sBrk, sCnt, sFor, sOwn, ownAt, sApp, sExt, sPut, sFrz, sPar, mIxO, mLenO, mTupO, mVar, mC, mU, mB, mNil, mCons, mF, mIsT, mAndT, mOrT, mNotT, mAnd, mOr, mNot, mIf, mChain, mPart, mNoPart, mSl, mCall, mIt, mRng, mComp, mYes, gdName, gdTup, gdCons, gdNil, wipeE, tupItems_tup, lstItems_lst, bl_bl, int_int, mHx_eq, mHlen_eq, mHcell_eq, sHput_eq, isH_hnd, hget1, hget2, hget3, hget4, hset1, hset2, hset3, hset4, eq_int, ne_int, lt_int, gt_int, le_int, ge_int, eq_bl, add_int, add_tup, add_lst, sub_int, neg_int, isN_hi, notN_hi, mul_int, div_int, mod_int, pow_int, abs_int, intC_int, len_tup, len_lst, tup_D, lst_D, rt_D, Bool.not_not, Bool.not_true, Bool.not_false, true_and, and_true, false_and, and_false, or_true, true_or, or_false, false_or, List.length_cons, List.length_nil, List.length_append, List.length_map, List.map_cons, List.map_nil, List.replicate_succ, List.replicate_zero, List.cons_append, List.nil_append, List.append_nil, List.set_cons_zero, List.set_cons_succ, List.getElem?_cons_zero, List.getElem?_cons_succ, Option.bind_some, Option.map_some, Option.bind_none, Option.map_none, OW_some, OW_bind, OW_map, OW_if, Bool.false_eq_true, if_true, if_false, ↓reduceIte, Nat.reduceAdd, Nat.reduceSub, Nat.zero_add, Nat.sub_self, Function.comp]
      exact ⟨_, rfl, by omega, by omega⟩
    · obtain ⟨ds, s4⟩ := p
      obtain ⟨hl, hP⟩ := hp
      dsimp only at hl hP ⊢
      obtain ⟨l, e, h1, h2⟩ := lets_of hP
      rw [rng_len] at hl
      have hsum := sum_le (l := l.map fun c => (⟨#[c]⟩ : Str)) (k := 1) fun x hx => by
        obtain ⟨c, _, e⟩ := List.mem_map.mp hx
        rw [← e]
        exact Nat.le_refl _
      rw [List.length_map] at hsum
      have hj := join_D (y := ("" : Str)) (l := l.map fun c => (⟨#[c]⟩ : Str)) (by rw [List.length_map, nil_len]; omega)
      rw [e, OW_eq hj]
      have ht := join_lets l
      have hw : (Txt.join ("" : Str) (l.map fun c => (⟨#[c]⟩ : Str))).length = l.length := by rw [← tl_len, ht]
      exact ⟨_, rfl, by rw [hw]; omega, by rw [hw]; omega, by rw [ht]; exact h1⟩
end K41

set_option Elab.async false
set_option linter.all false
set_option maxRecDepth 100000
set_option maxHeartbeats 4000000
namespace K41
open PySem
open L2
open Dl
open Txt
open TL
/-! installations -/
structure Trip where
  w : Str
  v : List Nat
  fs : List Str
def Trip.D (t : Trip) : D := .tup [.str t.w, .tup (t.v.map fun (n : Nat) => Dl.D.int ((n : Nat) : Int)), .tup (t.fs.map Dl.D.str)]
def instD (l : List Trip) : D := .tup (l.map Trip.D)
def TripOk (t : Trip) : Prop := NameOk t.w ∧ t.v.length = 3 ∧ (∀ n ∈ t.v, n ≤ 1000000) ∧ UpS t.fs ∧ t.fs.length ≤ 10 ∧ ∀ f ∈ t.fs, NameOk f
def InstOk (l : List Trip) : Prop := UpS (l.map Trip.w) ∧ l.length ≤ 60 ∧ ∀ t ∈ l, TripOk t
theorem insT_len (x : Str) : ∀ l : List Str, (insT x l).length ≤ l.length + 1
  | [] => Nat.le_refl _
  | y :: l => by
    unfold insT
    have := insT_len x l
    split
    · exact Nat.le_refl _
    · split
      · exact Nat.le_succ _
      · rw [List.length_cons, List.length_cons]; omega
theorem ssT_len : ∀ l : List Str, (ssT l).length ≤ l.length
  | [] => Nat.le_refl _
  | y :: l => by
    have := insT_len y (ssT l)
    have := ssT_len l
    show (insT y (ssT l)).length ≤ l.length + 1
    omega
def isName (d : D) : Prop := ∃ w, d = .str w ∧ NameOk w
theorem names_of : ∀ {ds : List D}, (∀ d ∈ ds, isName d) → ∃ l : List Str, ds = l.map D.str ∧ (∀ w ∈ l, NameOk w) ∧ l.length = ds.length
  | [], _ => ⟨[], rfl, fun _ h => (by cases h), rfl⟩
  | d :: ds, h => by
    obtain ⟨w, e, hw⟩ := h d (List.mem_cons_self ..)
    obtain ⟨l, e2, h2, h3⟩ := names_of fun x hx => h x (List.mem_cons_of_mem _ hx)
    refine ⟨w :: l, by rw [e, e2]; rfl, fun x hx => ?_, by rw [List.length_cons, List.length_cons, h3]⟩
    rcases List.mem_cons.mp hx with z | z
    · rw [z]; exact hw
    · exact h2 x z
theorem strsOf_map : ∀ l : List Str, strsOf (l.map D.str) = some l := strs_map
theorem sset_D {l : List Str} (h : l.length < 64) : ssetTD [.lst (l.map D.str)] = some (.lst ((ssT l).map D.str)) := by
  show (match strsOf (l.map D.str) with
    | some ws => if ws.length < 64 then some (D.lst ((ssT ws).map .str)) else none
    | none => none) = _
  rw [strsOf_map]
  exact if_pos h
def isNum (d : D) : Prop := ∃ n : Nat, d = .int (n : Int) ∧ n ≤ 1000000
theorem nums_of : ∀ {ds : List D}, (∀ d ∈ ds, isNum d) → ∃ l : List Nat, ds = l.map (fun (n : Nat) => D.int (n : Int)) ∧ (∀ n ∈ l, n ≤ 1000000) ∧ l.length = ds.length
  | [], _ => ⟨[], rfl, fun _ h => (by cases h), rfl⟩
  | d :: ds, h => by
    obtain ⟨w, e, hw⟩ := h d (List.mem_cons_self ..)
    obtain ⟨l, e2, h2, h3⟩ := nums_of fun x hx => h x (List.mem_cons_of_mem _ hx)
    refine ⟨w :: l, by rw [e, e2]; rfl, fun x hx => ?_, by rw [List.length_cons, List.length_cons, h3]⟩
    rcases List.mem_cons.mp hx with z | z
    · rw [z]; exact hw
    · exact h2 x z
theorem inst_loop : ∀ (ws : List Str) (done : List Trip) (e2 e3 e4 e5 : Option Slot) (s : Hand), (∀ w ∈ ws, NameOk w) → UpS (done.map Trip.w ++ ws) → (∀ t ∈ done, TripOk t ∧ t.fs.length ≤ 9) → done.length + ws.length ≤ 60 →
    OW (loopS (gdName 2) b__law_installation_0 (ws.map D.str) [some (.dat .hnd), some (.own (done.map Trip.D)), e2, e3, e4, e5] s)
      fun o => ∃ (l : List Trip) (e2 e3 e4 e5 : Option Slot) (s' : Hand), InstOk l ∧ (∀ t ∈ l, t.fs.length ≤ 9) ∧ o = .nx [some (.dat .hnd), some (.own (l.map Trip.D)), e2, e3, e4, e5] s'
  | [], done, e2, e3, e4, e5, s, _, hu, hd, hz => by
    show OW (some _) _
    rw [OW_some]
    rw [List.append_nil] at hu
    exact ⟨done, e2, e3, e4, e5, s, ⟨hu, by rw [List.length_nil] at hz; omega, fun t h => (hd t h).1⟩, fun t h => (hd t h).2, rfl⟩
  | w :: ws, done, e2, e3, e4, e5, s, hw, hu, hd, hz => by
    rw [List.length_cons] at hz
    rw [List.map_cons]
    unfold loopS
    have hs : ∀ n : Nat, n ≤ 40 → ((n ≤ sizeLine) = True) := fun n h => eq_true (by rw [sizeLine_eq]; omega)
    have hr : rng1D [.int 3] = some (rngOf 0 3) := rng1_nat (n := 3) (by omega)
    have et : ∀ l : List D, tupleCD [.lst l] = some (.tup l) := fun _ => rfl
    simp only [mDef_eq, outD_nx, outD_rt, startE, sNil, sSeq, thenS_nx, thenS_rt, thenS_bk, thenS_ct, sAsg, sIf, sRet, sRetN, sDrop, sBrk, sCnt, sFor, sOwn, ownAt, sApp, sExt, sPut, sFrz, sPar, mIxO, mLenO, mTupO, mVar, mC, mU, mB, mNil, mCons, mF, mIsT, mAndT, mOrT, mNotT, mAnd, mOr, mNot, mIf, mChain, mPart, mNoPart, mSl, mCall, mIt, mRng, mComp, mYes, gdName, gdTup, gdCons, gdNil, wipeE, tupItems_tup, lstItems_lst, bl_bl, int_int, mHx_eq, mHlen_eq, mHcell_eq, sHput_eq, isH_hnd, hget1, hget2, hget3, hget4, hset1, hset2, hset3, hset4, eq_int, ne_int, lt_int, gt_int, le_int, ge_int, eq_bl, add_int, add_tup, add_lst, sub_int, neg_int, isN_hi, notN_hi, mul_int, div_int, mod_int, pow_int, abs_int, intC_int, len_tup, len_lst, tup_D, lst_D, rt_D, Bool.not_not, Bool.not_true, Bool.not_false, true_and, and_true, false_and, and_false, or_true, true_or, or_false, false_or, List.length_cons, List.length_nil, List.length_append, List.length_map, List.map_cons, List.map_nil, List.replicate_succ, List.replicate_zero, List.cons_append, List.nil_append, List.append_nil, List.set_cons_zero, List.set_cons_succ, List.getElem?_cons_zero, List.getElem?_cons_succ, Option.bind_some, Option.map_some, Option.bind_none, Option.map_none, OW_some, OW_bind, OW_map, OW_if, Bool.false_eq_true, if_true, if_false, ↓reduceIte, Nat.reduceAdd, Nat.reduceSub, Nat.zero_add, Nat.sub_self, Function.comp, b__law_installation_0_eq, OW_eq hr]
    refine OW.mono (comp_then (P := isNum) fun x hx => ⟨_, rfl, fun s => ?_⟩) fun p hp => ?_
    · rw [c__law_installation_1_eq]
      simp only [mDef_eq, outD_nx, outD_rt, startE, sNil, sSeq, thenS_nx, thenS_rt, thenS_bk, thenS_ct, sAsg, sIf, sRet, sRetN, sDrop, sBrk, sCnt, sFor, sOwn, ownAt, sApp, sExt, sPut, sFrz, sPar, mIxO, mLenO, mTupO, mVar, mC, mU, mB, mNil, mCons, mF, mIsT, mAndT, mOrT, mNotT, mAnd, mOr, mNot, mIf, mChain, mPart, mNoPart, mSl, mCall, mIt, mRng, mComp, mYes, gdName, gdTup, gdCons, gdNil, wipeE, tupItems_tup, lstItems_lst, bl_bl, int_int, mHx_eq, mHlen_eq, mHcell_eq, sHput_eq, isH_hnd, hget1, hget2, hget3, hget4, hset1, hset2, hset3, hset4, eq_int, ne_int, lt_int, gt_int, le_int, ge_int, eq_bl, add_int, add_tup, add_lst, sub_int, neg_int, isN_hi, notN_hi, mul_int, div_int, mod_int, pow_int, abs_int, intC_int, len_tup, len_lst, tup_D, lst_D, rt_D, Bool.not_not, Bool.not_true, Bool.not_false, true_and, and_true, false_and, and_false, or_true, true_or, or_false, false_or, List.length_cons, List.length_nil, List.length_append, List.length_map, List.map_cons, List.map_nil, List.replicate_succ, List.replicate_zero, List.cons_append, List.nil_append, List.append_nil, List.set_cons_zero, List.set_cons_succ, List.getElem?_cons_zero, List.getElem?_cons_succ, Option.bind_some, Option.map_some, Option.bind_none, Option.map_none, OW_some, OW_bind, OW_map, OW_if, Bool.false_eq_true, if_true, if_false, ↓reduceIte, Nat.reduceAdd, Nat.reduceSub, Nat.zero_add, Nat.sub_self, Function.comp, hs 6 (by omega)]
      refine draw_then (by omega) (by omega) fun m s3 m0 m1 => ?_
      refine any_then (by simp) (by simp) fun d s4 hd => ?_
      simp only [List.mem_cons, List.not_mem_nil, or_false] at hd
      rcases hd with e | e | e | e | e | e
      · exact ⟨0, e, by omega⟩
      · exact ⟨1, e, by omega⟩
      · exact ⟨9, e, by omega⟩
      · exact ⟨10, e, by omega⟩
      · exact ⟨1000000, e, by omega⟩
      · exact ⟨m.toNat, by rw [show ((m.toNat : Nat) : Int) = m by omega]; exact e, by omega⟩
    · obtain ⟨ds, s2⟩ := p
      obtain ⟨hl, hP⟩ := hp
      dsimp only at hl hP ⊢
      obtain ⟨v, ev, hv1, hv2⟩ := nums_of hP
      subst ev
      rw [List.length_map, rng_len] at hl
      simp only [hs 8 (by omega)]
      refine any_then (by simp) (by simp) fun d s3 hd3 => ?_
      have hk : ∃ k : Nat, d = .int (k : Int) ∧ k ≤ 9 := by
        simp only [List.mem_cons, List.not_mem_nil, or_false] at hd3
        rcases hd3 with e | e | e | e | e | e | e | e
        · exact ⟨0, e, by omega⟩
        · exact ⟨0, e, by omega⟩
        · exact ⟨0, e, by omega⟩
        · exact ⟨0, e, by omega⟩
        · exact ⟨1, e, by omega⟩
        · exact ⟨2, e, by omega⟩
        · exact ⟨3, e, by omega⟩
        · exact ⟨9, e, by omega⟩
      obtain ⟨k, e, hk⟩ := hk
      subst e
      simp only [mDef_eq, outD_nx, outD_rt, startE, sNil, sSeq, thenS_nx, thenS_rt, thenS_bk, thenS_ct, sAsg, sIf, sRet, sRetN, sDrop, sBrk, sCnt, sFor, sOwn, ownAt, sApp, sExt, sPut, sFrz, sPar, mIxO, mLenO, mTupO, mVar, mC, mU, mB, mNil, mCons, mF, mIsT, mAndT, mOrT, mNotT, mAnd, mOr, mNot, mIf, mChain, mPart, mNoPart, mSl, mCall, mIt, mRng, mComp, mYes, gdName, gdTup, gdCons, gdNil, wipeE, tupItems_tup, lstItems_lst, bl_bl, int_int, mHx_eq, mHlen_eq, mHcell_eq, sHput_eq, isH_hnd, hget1, hget2, hget3, hget4, hset1, hset2, hset3, hset4, eq_int, ne_int, lt_int, gt_int, le_int, ge_int, eq_bl, add_int, add_tup, add_lst, sub_int, neg_int, isN_hi, notN_hi, mul_int, div_int, mod_int, pow_int, abs_int, intC_int, len_tup, len_lst, tup_D, lst_D, rt_D, Bool.not_not, Bool.not_true, Bool.not_false, true_and, and_true, false_and, and_false, or_true, true_or, or_false, false_or, List.length_cons, List.length_nil, List.length_append, List.length_map, List.map_cons, List.map_nil, List.replicate_succ, List.replicate_zero, List.cons_append, List.nil_append, List.append_nil, List.set_cons_zero, List.set_cons_succ, List.getElem?_cons_zero, List.getElem?_cons_succ, Option.bind_some, Option.map_some, Option.bind_none, Option.map_none, OW_some, OW_bind, OW_map, OW_if, Bool.false_eq_true, if_true, if_false, ↓reduceIte, Nat.reduceAdd, Nat.reduceSub, Nat.zero_add, Nat.sub_self, Function.comp, OW_eq (rng1_nat (n := k) (by omega))]
      refine OW.mono (comp_then (P := isName) fun x hx => ⟨_, rfl, fun s => ?_⟩) fun p hp => ?_
      · rw [c__law_installation_2_eq]
        simp only [mDef_eq, outD_nx, outD_rt, startE, sNil, sSeq, thenS_nx, thenS_rt, thenS_bk, thenS_ct, sAsg, sIf, sRet, sRetN, sDrop, sBrk, sCnt, sFor, sOwn, ownAt, sApp, sExt, sPut, sFrz, sPar, mIxO, mLenO, mTupO, mVar, mC, mU, mB, mNil, mCons, mF, mIsT, mAndT, mOrT, mNotT, mAnd, mOr, mNot, mIf, mChain, mPart, mNoPart, mSl, mCall, mIt, mRng, mComp, mYes, gdName, gdTup, gdCons, gdNil, wipeE, tupItems_tup, lstItems_lst, bl_bl, int_int, mHx_eq, mHlen_eq, mHcell_eq, sHput_eq, isH_hnd, hget1, hget2, hget3, hget4, hset1, hset2, hset3, hset4, eq_int, ne_int, lt_int, gt_int, le_int, ge_int, eq_bl, add_int, add_tup, add_lst, sub_int, neg_int, isN_hi, notN_hi, mul_int, div_int, mod_int, pow_int, abs_int, intC_int, len_tup, len_lst, tup_D, lst_D, rt_D, Bool.not_not, Bool.not_true, Bool.not_false, true_and, and_true, false_and, and_false, or_true, true_or, or_false, false_or, List.length_cons, List.length_nil, List.length_append, List.length_map, List.map_cons, List.map_nil, List.replicate_succ, List.replicate_zero, List.cons_append, List.nil_append, List.append_nil, List.set_cons_zero, List.set_cons_succ, List.getElem?_cons_zero, List.getElem?_cons_succ, Option.bind_some, Option.map_some, Option.bind_none, Option.map_none, OW_some, OW_bind, OW_map, OW_if, Bool.false_eq_true, if_true, if_false, ↓reduceIte, Nat.reduceAdd, Nat.reduceSub, Nat.zero_add, Nat.sub_self, Function.comp]
        exact name_ok
      · obtain ⟨ds, s4⟩ := p
        obtain ⟨hl4, hP4⟩ := hp
        dsimp only at hl4 hP4 ⊢
        obtain ⟨fs, ef, hf1, hf2⟩ := names_of hP4
        subst ef
        rw [List.length_map, rng_len] at hl4
        have hsz : (done.length < sizeLine) = True := eq_true (by rw [sizeLine_eq]; omega)
        simp only [OW_eq (sset_D (l := fs) (by omega)), mDef_eq, outD_nx, outD_rt, startE, sNil, sSeq, thenS_nx, thenS_rt, thenS_bk, thenS_ct, sAsg, sIf, sRet, sRetN, sDrop, sBrk, sCnt, sFor, sOwn, ownAt, sApp, sExt, sPut, sFrz, sPar, mIxO, mLenO, mTupO, mVar, mC, mU, mB, mNil, mCons, mF, mIsT, mAndT, mOrT, mNotT, mAnd, mOr, mNot, mIf, mChain, mPart, mNoPart, mSl, mCall, mIt, mRng, mComp, mYes, gdName, gdTup, gdCons, gdNil, wipeE, tupItems_tup, lstItems_lst, bl_bl, int_int, mHx_eq, mHlen_eq, mHcell_eq, sHput_eq, isH_hnd, hget1, hget2, hget3, hget4, hset1, hset2, hset3, hset4, eq_int, ne_int, lt_int, gt_int, le_int, ge_int, eq_bl, add_int, add_tup, add_lst, sub_int, neg_int, isN_hi, notN_hi, mul_int, div_int, mod_int, pow_int, abs_int, intC_int, len_tup, len_lst, tup_D, lst_D, rt_D, Bool.not_not, Bool.not_true, Bool.not_false, true_and, and_true, false_and, and_false, or_true, true_or, or_false, false_or, List.length_cons, List.length_nil, List.length_append, List.length_map, List.map_cons, List.map_nil, List.replicate_succ, List.replicate_zero, List.cons_append, List.nil_append, List.append_nil, List.set_cons_zero, List.set_cons_succ, List.getElem?_cons_zero, List.getElem?_cons_succ, Option.bind_some, Option.map_some, Option.bind_none, Option.map_none, OW_some, OW_bind, OW_map, OW_if, Bool.false_eq_true, if_true, if_false, ↓reduceIte, Nat.reduceAdd, Nat.reduceSub, Nat.zero_add, Nat.sub_self, Function.comp, OW_eq (et _), hs 3 (by omega), hsz]
        have hlen := ssT_len fs
        have ht : TripOk ⟨w, v, ssT fs⟩ := ⟨hw w (List.mem_cons_self ..), hl, hv1, up_ssT fs, by show (ssT fs).length ≤ 10; omega, fun f hf => hf1 f (mem_ssT.mp hf)⟩
        have ih := inst_loop ws (done ++ [⟨w, v, ssT fs⟩]) (some (.dat (.str w))) (some (.dat (.lst (v.map fun (n : Nat) => D.int (n : Int))))) (some (.dat (.lst ((ssT fs).map D.str)))) e5 s4 (fun x hx => hw x (List.mem_cons_of_mem _ hx)) (by
          rw [List.map_append, List.append_assoc]
          exact hu) (fun t h => by
          rcases List.mem_append.mp h with z | z
          · exact hd t z
          · rw [List.mem_singleton.mp z]; exact ⟨ht, by show (ssT fs).length ≤ 9; omega⟩) (by rw [List.length_append, List.length_singleton]; omega)
        rw [List.map_append] at ih
        exact ih
end K41

set_option Elab.async false
set_option linter.all false
set_option maxRecDepth 100000
set_option maxHeartbeats 4000000
namespace K41
open PySem
open L2
open Dl
open Txt
open TL
theorem inst_ok {s : Hand} : OW (f__law_installation [.hnd] s) fun p => ∃ l, p.1 = instD l ∧ InstOk l ∧ ∀ t ∈ l, t.fs.length ≤ 9 := by
  have hs : ∀ n : Nat, n ≤ 40 → ((n ≤ sizeLine) = True) := fun n h => eq_true (by rw [sizeLine_eq]; omega)
  unfold f__law_installation
  simp only [mDef_eq, outD_nx, outD_rt, startE, sNil, sSeq, thenS_nx, thenS_rt, thenS_bk, thenS_ct, sAsg, sIf, sRet, sRetN, sDrop, sBrk, sCnt, sFor, sOwn, ownAt, sApp, sExt, sPut, sFrz, sPar, mIxO, mLenO, mTupO, mVar, mC, mU, mB, mNil, mCons, mF, mIsT, mAndT, mOrT, mNotT, mAnd, mOr, mNot, mIf, mChain, mPart, mNoPart, mSl, mCall, mIt, mRng, mComp, mYes, gdName, gdTup, gdCons, gdNil, wipeE, tupItems_tup, lstItems_lst, bl_bl, int_int, mHx_eq, mHlen_eq, mHcell_eq, sHput_eq, isH_hnd, hget1, hget2, hget3, hget4, hset1, hset2, hset3, hset4, eq_int, ne_int, lt_int, gt_int, le_int, ge_int, eq_bl, add_int, add_tup, add_lst, sub_int, neg_int, isN_hi, notN_hi, mul_int, div_int, mod_int, pow_int, abs_int, intC_int, len_tup, len_lst, tup_D, lst_D, rt_D, Bool.not_not, Bool.not_true, Bool.not_false, true_and, and_true, false_and, and_false, or_true, true_or, or_false, false_or, List.length_cons, List.length_nil, List.length_append, List.length_map, List.map_cons, List.map_nil, List.replicate_succ, List.replicate_zero, List.cons_append, List.nil_append, List.append_nil, List.set_cons_zero, List.set_cons_succ, List.getElem?_cons_zero, List.getElem?_cons_succ, Option.bind_some, Option.map_some, Option.bind_none, Option.map_none, OW_some, OW_bind, OW_map, OW_if, Bool.false_eq_true, if_true, if_false, ↓reduceIte, Nat.reduceAdd, Nat.reduceSub, Nat.zero_add, Nat.sub_self, Function.comp, hs 0 (by omega), hs 12 (by omega)]
  refine any_then (by simp) (by simp) fun d s1 hd => ?_
  have hk : ∃ k : Nat, d = .int (k : Int) ∧ k ≤ 60 := by
    simp only [List.mem_cons, List.not_mem_nil, or_false] at hd
    rcases hd with e | e | e | e | e | e | e | e | e | e | e | e
    · exact ⟨0, e, by omega⟩
    · exact ⟨1, e, by omega⟩
    · exact ⟨1, e, by omega⟩
    · exact ⟨2, e, by omega⟩
    · exact ⟨2, e, by omega⟩
    · exact ⟨3, e, by omega⟩
    · exact ⟨3, e, by omega⟩
    · exact ⟨4, e, by omega⟩
    · exact ⟨4, e, by omega⟩
    · exact ⟨5, e, by omega⟩
    · exact ⟨6, e, by omega⟩
    · exact ⟨60, e, by omega⟩
  obtain ⟨k, e, hk⟩ := hk
  subst e
  simp only [mDef_eq, outD_nx, outD_rt, startE, sNil, sSeq, thenS_nx, thenS_rt, thenS_bk, thenS_ct, sAsg, sIf, sRet, sRetN, sDrop, sBrk, sCnt, sFor, sOwn, ownAt, sApp, sExt, sPut, sFrz, sPar, mIxO, mLenO, mTupO, mVar, mC, mU, mB, mNil, mCons, mF, mIsT, mAndT, mOrT, mNotT, mAnd, mOr, mNot, mIf, mChain, mPart, mNoPart, mSl, mCall, mIt, mRng, mComp, mYes, gdName, gdTup, gdCons, gdNil, wipeE, tupItems_tup, lstItems_lst, bl_bl, int_int, mHx_eq, mHlen_eq, mHcell_eq, sHput_eq, isH_hnd, hget1, hget2, hget3, hget4, hset1, hset2, hset3, hset4, eq_int, ne_int, lt_int, gt_int, le_int, ge_int, eq_bl, add_int, add_tup, add_lst, sub_int, neg_int, isN_hi, notN_hi, mul_int, div_int, mod_int, pow_int, abs_int, intC_int, len_tup, len_lst, tup_D, lst_D, rt_D, Bool.not_not, Bool.not_true, Bool.not_false, true_and, and_true, false_and, and_false, or_true, true_or, or_false, false_or, List.length_cons, List.length_nil, List.length_append, List.length_map, List.map_cons, List.map_nil, List.replicate_succ, List.replicate_zero, List.cons_append, List.nil_append, List.append_nil, List.set_cons_zero, List.set_cons_succ, List.getElem?_cons_zero, List.getElem?_cons_succ, Option.bind_some, Option.map_some, Option.bind_none, Option.map_none, OW_some, OW_bind, OW_map, OW_if, Bool.false_eq_true, if_true, if_false, ↓reduceIte, Nat.reduceAdd, Nat.reduceSub, Nat.zero_add, Nat.sub_self, Function.comp, OW_eq (rng1_nat (n := k) (by omega))]
  refine OW.mono (comp_then (P := isName) fun x hx => ⟨_, rfl, fun s => ?_⟩) fun p hp => ?_
  · rw [c__law_installation_0_eq]
    simp only [mDef_eq, outD_nx, outD_rt, startE, sNil, sSeq, thenS_nx, thenS_rt, thenS_bk, thenS_ct, sAsg, sIf, sRet, sRetN, sDrop, sBrk, sCnt, sFor, sOwn, ownAt, sApp, sExt, sPut, sFrz, sPar, mIxO, mLenO, mTupO, mVar, mC, mU, mB, mNil, mCons, mF, mIsT, mAndT, mOrT, mNotT, mAnd, mOr, mNot, mIf, mChain, mPart, mNoPart, mSl, mCall, mIt, mRng, mComp, mYes, gdName, gdTup, gdCons, gdNil, wipeE, tupItems_tup, lstItems_lst, bl_bl, int_int, mHx_eq, mHlen_eq, mHcell_eq, sHput_eq, isH_hnd, hget1, hget2, hget3, hget4, hset1, hset2, hset3, hset4, eq_int, ne_int, lt_int, gt_int, le_int, ge_int, eq_bl, add_int, add_tup, add_lst, sub_int, neg_int, isN_hi, notN_hi, mul_int, div_int, mod_int, pow_int, abs_int, intC_int, len_tup, len_lst, tup_D, lst_D, rt_D, Bool.not_not, Bool.not_true, Bool.not_false, true_and, and_true, false_and, and_false, or_true, true_or, or_false, false_or, List.length_cons, List.length_nil, List.length_append, List.length_map, List.map_cons, List.map_nil, List.replicate_succ, List.replicate_zero, List.cons_append, List.nil_append, List.append_nil, List.set_cons_zero, List.set_cons_succ, List.getElem?_cons_zero, List.getElem?_cons_succ, Option.bind_some, Option.map_some, Option.bind_none, Option.map_none, OW_some, OW_bind, OW_map, OW_if, Bool.false_eq_true, if_true, if_false, ↓reduceIte, Nat.reduceAdd, Nat.reduceSub, Nat.zero_add, Nat.sub_self, Function.comp]
    exact name_ok
  · obtain ⟨ds, s2⟩ := p
    obtain ⟨hl, hP⟩ := hp
    dsimp only at hl hP ⊢
    obtain ⟨ws, ew, hw1, hw2⟩ := names_of hP
    subst ew
    rw [List.length_map, rng_len] at hl
    have hlen := ssT_len ws
    simp only [OW_eq (sset_D (l := ws) (by omega)), mDef_eq, outD_nx, outD_rt, startE, sNil, sSeq, thenS_nx, thenS_rt, thenS_bk, thenS_ct, sAsg, sIf, sRet, sRetN, sDrop, sBrk, sCnt, sFor, sOwn, ownAt, sApp, sExt, sPut, sFrz, sPar, mIxO, mLenO, mTupO, mVar, mC, mU, mB, mNil, mCons, mF, mIsT, mAndT, mOrT, mNotT, mAnd, mOr, mNot, mIf, mChain, mPart, mNoPart, mSl, mCall, mIt, mRng, mComp, mYes, gdName, gdTup, gdCons, gdNil, wipeE, tupItems_tup, lstItems_lst, bl_bl, int_int, mHx_eq, mHlen_eq, mHcell_eq, sHput_eq, isH_hnd, hget1, hget2, hget3, hget4, hset1, hset2, hset3, hset4, eq_int, ne_int, lt_int, gt_int, le_int, ge_int, eq_bl, add_int, add_tup, add_lst, sub_int, neg_int, isN_hi, notN_hi, mul_int, div_int, mod_int, pow_int, abs_int, intC_int, len_tup, len_lst, tup_D, lst_D, rt_D, Bool.not_not, Bool.not_true, Bool.not_false, true_and, and_true, false_and, and_false, or_true, true_or, or_false, false_or, List.length_cons, List.length_nil, List.length_append, List.length_map, List.map_cons, List.map_nil, List.replicate_succ, List.replicate_zero, List.cons_append, List.nil_append, List.append_nil, List.set_cons_zero, List.set_cons_succ, List.getElem?_cons_zero, List.getElem?_cons_succ, Option.bind_some, Option.map_some, Option.bind_none, Option.map_none, OW_some, OW_bind, OW_map, OW_if, Bool.false_eq_true, if_true, if_false, ↓reduceIte, Nat.reduceAdd, Nat.reduceSub, Nat.zero_add, Nat.sub_self, Function.comp]
    have hl := inst_loop (ssT ws) [] none none none none s2 (fun w hw => hw1 w (mem_ssT.mp hw)) (by
      rw [List.map_nil, List.nil_append]
      exact up_ssT ws) (fun _ h => by cases h) (by rw [List.length_nil]; omega)
    refine OW.mono hl fun o ⟨l, e2, e3, e4, e5, s', ok, ok9, e⟩ => ?_
    subst e
    simp only [mDef_eq, outD_nx, outD_rt, startE, sNil, sSeq, thenS_nx, thenS_rt, thenS_bk, thenS_ct, sAsg, sIf, sRet, sRetN, sDrop, sBrk, sCnt, sFor, sOwn, ownAt, sApp, sExt, sPut, sFrz, sPar, mIxO, mLenO, mTupO, mVar, mC, mU, mB, mNil, mCons, mF, mIsT, mAndT, mOrT, mNotT, mAnd, mOr, mNot, mIf, mChain, mPart, mNoPart, mSl, mCall, mIt, mRng, mComp, mYes, gdName, gdTup, gdCons, gdNil, wipeE, tupItems_tup, lstItems_lst, bl_bl, int_int, mHx_eq, mHlen_eq, mHcell_eq, sHput_eq, isH_hnd, hget1, hget2, hget3, hget4, hset1, hset2, hset3, hset4, eq_int, ne_int, lt_int, gt_int, le_int, ge_int, eq_bl, add_int, add_tup, add_lst, sub_int, neg_int, isN_hi, notN_hi, mul_int, div_int, mod_int, pow_int, abs_int, intC_int, len_tup, len_lst, tup_D, lst_D, rt_D, Bool.not_not, Bool.not_true, Bool.not_false, true_and, and_true, false_and, and_false, or_true, true_or, or_false, false_or, List.length_cons, List.length_nil, List.length_append, List.length_map, List.map_cons, List.map_nil, List.replicate_succ, List.replicate_zero, List.cons_append, List.nil_append, List.append_nil, List.set_cons_zero, List.set_cons_succ, List.getElem?_cons_zero, List.getElem?_cons_succ, Option.bind_some, Option.map_some, Option.bind_none, Option.map_none, OW_some, OW_bind, OW_map, OW_if, Bool.false_eq_true, if_true, if_false, ↓reduceIte, Nat.reduceAdd, Nat.reduceSub, Nat.zero_add, Nat.sub_self, Function.comp]
    exact ⟨l, rfl, ok, ok9⟩
end K41

set_option Elab.async false
set_option linter.all false
set_option maxRecDepth 100000
set_option maxHeartbeats 4000000
namespace K41
open PySem
open L2
open Dl
open Txt
open TL
theorem fig_tl : ("0123456789" : Str).cps.toList = [48, 49, 50, 51, 52, 53, 54, 55, 56, 57] := by decide +kernel
theorem fig_in {c : Nat} (h : 48 ≤ c ∧ c ≤ 57) : decide (c ∈ ("0123456789" : Str).cps.toList) = true := by
  rw [fig_tl, decide_eq_true_eq]
  simp only [List.mem_cons, List.not_mem_nil, or_false]
  omega
theorem num0 : num 0 = ("0" : Str) := by decide +kernel
theorem one_sign (c : Nat) : ((⟨#[c]⟩ : Str) == ("0" : Str)) = (c == 48) := by
  have e : ("0" : Str) = ⟨#[48]⟩ := by decide +kernel
  rw [e, Bool.eq_iff_iff, beq_iff_eq, beq_iff_eq]
  constructor
  · intro h
    have := congrArg (fun x : Str => x.cps.toList) h
    simpa using this
  · intro h
    rw [h]
theorem bls_true {l : List D} : ∀ {k : List Nat}, (∀ c ∈ k, 48 ≤ c ∧ c ≤ 57) → allD [.lst ((k.map fun c => D.str ⟨#[c]⟩).map fun _ => D.bl true)] = some (.bl true) := fun {k} h => by
  have e : (k.map fun c => D.str ⟨#[c]⟩).map (fun _ => D.bl true) = (k.map fun c => D.str ⟨#[c]⟩).map (fun x => D.bl ((fun _ => true) x)) := rfl
  rw [e, all_map]
  simp
theorem pure_number {n m : Nat} {s : Hand} (hn : n ≤ m) (hm : m ≤ 1000000) : f_number_told [.str (num n), .int (m : Int)] s = some (.int (n : Int), s) := by
  obtain ⟨l1, l7⟩ := num_len (n := n) (by omega)
  have hsz : (num n).length ≤ sizeLine := by rw [sizeLine_eq]; omega
  have hi : intTD [.str (num n)] = some (.int (n : Int)) := by
    show (if (num n).length ≤ 640 then (PySem.intText? (num n)).map D.int else none) = _
    rw [if_pos (by omega), num_int (by omega)]
    rfl
  have hd : ∀ c ∈ tl (num n), 48 ≤ c ∧ c ≤ 57 := fun c hc => num_digits hc
  obtain ⟨c0, t0, e0⟩ : ∃ c l, tl (num n) = c :: l := by
    cases e : tl (num n) with
    | nil =>
      have := tl_len (num n)
      rw [e] at this
      simp at this
      omega
    | cons c l => exact ⟨c, l, rfl⟩
  have hix := ix_str0 hsz e0
  have hz : (c0 == 48) = true → num n = ("0" : Str) := fun h => by
    have hc : c0 = 48 := by simpa using h
    by_cases z : n = 0
    · rw [z, num0]
    · exact absurd hc (numL_head n (by omega) c0 (by rw [← num_tl, e0]; rfl))
  have ec : compL (gdName 2) mYes c_number_told_0 [some (.dat (.str (num n))), some (.dat (.int (m : Int))), none] ((tl (num n)).map fun c => D.str ⟨#[c]⟩) s = some (((tl (num n)).map fun c => D.str ⟨#[c]⟩).map fun _ => .bl true, s) := by
    refine comp_pure fun x hx => ⟨_, rfl, ?_⟩
    obtain ⟨c, hc, ex⟩ := List.mem_map.mp hx
    subst ex
    rw [c_number_told_0_eq]
    refine eq_of_OW ?_
    simp only [mDef_eq, outD_nx, outD_rt, startE, sNil, sSeq, thenS_nx, thenS_rt, thenS_bk, thenS_ct, sAsg, sIf, sRet, sRetN, sDrop, sBrk, sCnt, sFor, sOwn, ownAt, sApp, sExt, sPut, sFrz, sPar, mIxO, mLenO, mTupO, mVar, mC, mU, mB, mNil, mCons, mF, mIsT, mAndT, mOrT, mNotT, mAnd, mOr, mNot, mIf, mChain, mPart, mNoPart, mSl, mCall, mIt, mRng, mComp, mYes, gdName, gdTup, gdCons, gdNil, wipeE, tupItems_tup, lstItems_lst, bl_bl, int_int, mHx_eq, mHlen_eq, mHcell_eq, sHput_eq, isH_hnd, hget1, hget2, hget3, hget4, hset1, hset2, hset3, hset4, eq_int, ne_int, lt_int, gt_int, le_int, ge_int, eq_bl, add_int, add_tup, add_lst, sub_int, neg_int, isN_hi, notN_hi, mul_int, div_int, mod_int, pow_int, abs_int, intC_int, len_tup, len_lst, tup_D, lst_D, rt_D, Bool.not_not, Bool.not_true, Bool.not_false, true_and, and_true, false_and, and_false, or_true, true_or, or_false, false_or, List.length_cons, List.length_nil, List.length_append, List.length_map, List.map_cons, List.map_nil, List.replicate_succ, List.replicate_zero, List.cons_append, List.nil_append, List.append_nil, List.set_cons_zero, List.set_cons_succ, List.getElem?_cons_zero, List.getElem?_cons_succ, Option.bind_some, Option.map_some, Option.bind_none, Option.map_none, OW_some, OW_bind, OW_map, OW_if, Bool.false_eq_true, if_true, if_false, ↓reduceIte, Nat.reduceAdd, Nat.reduceSub, Nat.zero_add, Nat.sub_self, Function.comp, OW_eq (sign_in (c := c) (z := ("0123456789" : Str))), fig_in (hd c hc)]
  have d1 : decide ((1 : Int) ≤ ((num n).length : Int)) = true := decide_eq_true (by omega)
  have d2 : decide (((num n).length : Int) ≤ 12) = true := decide_eq_true (by omega)
  have d3 : decide ((m : Int) < (n : Int)) = false := decide_eq_false (by omega)
  have ea := bls_true (l := []) hd
  refine eq_of_OW ?_
  unfold f_number_told
  simp only [mDef_eq, outD_nx, outD_rt, startE, sNil, sSeq, thenS_nx, thenS_rt, thenS_bk, thenS_ct, sAsg, sIf, sRet, sRetN, sDrop, sBrk, sCnt, sFor, sOwn, ownAt, sApp, sExt, sPut, sFrz, sPar, mIxO, mLenO, mTupO, mVar, mC, mU, mB, mNil, mCons, mF, mIsT, mAndT, mOrT, mNotT, mAnd, mOr, mNot, mIf, mChain, mPart, mNoPart, mSl, mCall, mIt, mRng, mComp, mYes, gdName, gdTup, gdCons, gdNil, wipeE, tupItems_tup, lstItems_lst, bl_bl, int_int, mHx_eq, mHlen_eq, mHcell_eq, sHput_eq, isH_hnd, hget1, hget2, hget3, hget4, hset1, hset2, hset3, hset4, eq_int, ne_int, lt_int, gt_int, le_int, ge_int, eq_bl, add_int, add_tup, add_lst, sub_int, neg_int, isN_hi, notN_hi, mul_int, div_int, mod_int, pow_int, abs_int, intC_int, len_tup, len_lst, tup_D, lst_D, rt_D, Bool.not_not, Bool.not_true, Bool.not_false, true_and, and_true, false_and, and_false, or_true, true_or, or_false, false_or, List.length_cons, List.length_nil, List.length_append, List.length_map, List.map_cons, List.map_nil, List.replicate_succ, List.replicate_zero, List.cons_append, List.nil_append, List.append_nil, List.set_cons_zero, List.set_cons_succ, List.getElem?_cons_zero, List.getElem?_cons_succ, Option.bind_some, Option.map_some, Option.bind_none, Option.map_none, OW_some, OW_bind, OW_map, OW_if, Bool.false_eq_true, if_true, if_false, ↓reduceIte, Nat.reduceAdd, Nat.reduceSub, Nat.zero_add, Nat.sub_self, Function.comp, OW_eq (len_str hsz), OW_eq (items_str hsz), OW_eq ec, OW_eq ea, d1, d2, OW_eq hix, OW_eq hi, d3, OW_eq (eq_str (a := ⟨#[c0]⟩) (b := ("0" : Str))), one_sign, OW_eq (ne_str (a := num n) (b := ("0" : Str)))]
  cases hc : c0 == 48 with
  | false => simp only [mDef_eq, outD_nx, outD_rt, startE, sNil, sSeq, thenS_nx, thenS_rt, thenS_bk, thenS_ct, sAsg, sIf, sRet, sRetN, sDrop, sBrk, sCnt, sFor, sOwn, ownAt, sApp, sExt, sPut, sFrz, sPar, mIxO, mLenO, mTupO, mVar, mC, mU, mB, mNil, mCons, mF, mIsT, mAndT, mOrT, mNotT, mAnd, mOr, mNot, mIf, mChain, mPart, mNoPart, mSl, mCall, mIt, mRng, mComp, mYes, gdName, gdTup, gdCons, gdNil, wipeE, tupItems_tup, lstItems_lst, bl_bl, int_int, mHx_eq, mHlen_eq, mHcell_eq, sHput_eq, isH_hnd, hget1, hget2, hget3, hget4, hset1, hset2, hset3, hset4, eq_int, ne_int, lt_int, gt_int, le_int, ge_int, eq_bl, add_int, add_tup, add_lst, sub_int, neg_int, isN_hi, notN_hi, mul_int, div_int, mod_int, pow_int, abs_int, intC_int, len_tup, len_lst, tup_D, lst_D, rt_D, Bool.not_not, Bool.not_true, Bool.not_false, true_and, and_true, false_and, and_false, or_true, true_or, or_false, false_or, List.length_cons, List.length_nil, List.length_append, List.length_map, List.map_cons, List.map_nil, List.replicate_succ, List.replicate_zero, List.cons_append, List.nil_append, List.append_nil, List.set_cons_zero, List.set_cons_succ, List.getElem?_cons_zero, List.getElem?_cons_succ, Option.bind_some, Option.map_some, Option.bind_none, Option.map_none, OW_some, OW_bind, OW_map, OW_if, Bool.false_eq_true, if_true, if_false, ↓reduceIte, Nat.reduceAdd, Nat.reduceSub, Nat.zero_add, Nat.sub_self, Function.comp, OW_eq hi, d3]
  | true =>
    have he : (num n == ("0" : Str)) = true := by rw [hz hc]; exact beq_self_eq_true _
    simp only [mDef_eq, outD_nx, outD_rt, startE, sNil, sSeq, thenS_nx, thenS_rt, thenS_bk, thenS_ct, sAsg, sIf, sRet, sRetN, sDrop, sBrk, sCnt, sFor, sOwn, ownAt, sApp, sExt, sPut, sFrz, sPar, mIxO, mLenO, mTupO, mVar, mC, mU, mB, mNil, mCons, mF, mIsT, mAndT, mOrT, mNotT, mAnd, mOr, mNot, mIf, mChain, mPart, mNoPart, mSl, mCall, mIt, mRng, mComp, mYes, gdName, gdTup, gdCons, gdNil, wipeE, tupItems_tup, lstItems_lst, bl_bl, int_int, mHx_eq, mHlen_eq, mHcell_eq, sHput_eq, isH_hnd, hget1, hget2, hget3, hget4, hset1, hset2, hset3, hset4, eq_int, ne_int, lt_int, gt_int, le_int, ge_int, eq_bl, add_int, add_tup, add_lst, sub_int, neg_int, isN_hi, notN_hi, mul_int, div_int, mod_int, pow_int, abs_int, intC_int, len_tup, len_lst, tup_D, lst_D, rt_D, Bool.not_not, Bool.not_true, Bool.not_false, true_and, and_true, false_and, and_false, or_true, true_or, or_false, false_or, List.length_cons, List.length_nil, List.length_append, List.length_map, List.map_cons, List.map_nil, List.replicate_succ, List.replicate_zero, List.cons_append, List.nil_append, List.append_nil, List.set_cons_zero, List.set_cons_succ, List.getElem?_cons_zero, List.getElem?_cons_succ, Option.bind_some, Option.map_some, Option.bind_none, Option.map_none, OW_some, OW_bind, OW_map, OW_if, Bool.false_eq_true, if_true, if_false, ↓reduceIte, Nat.reduceAdd, Nat.reduceSub, Nat.zero_add, Nat.sub_self, Function.comp, he, OW_eq hi, d3]
theorem dot_len : (("." : Str)).length = 1 := by decide +kernel
theorem dot_tl : tl ("." : Str) = [46] := by decide +kernel
/-! texts of figures -/
theorem dval_app (l : List Nat) (c : Nat) : NumText.digitsVal (l ++ [c]) = NumText.digitsVal l * 10 + (c - 48) := by
  unfold NumText.digitsVal
  rw [List.foldl_append]
  rfl
theorem dval_fold : ∀ (l : List Nat) (a : Nat), l.foldl (fun acc c => acc * 10 + (c - 48)) a = a * 10 ^ l.length + l.foldl (fun acc c => acc * 10 + (c - 48)) 0
  | [], a => by simp
  | c :: l, a => by
    show l.foldl _ (a * 10 + (c - 48)) = _ + l.foldl _ (0 * 10 + (c - 48))
    rw [dval_fold l (a * 10 + (c - 48)), dval_fold l (0 * 10 + (c - 48)), List.length_cons, Nat.pow_succ, Nat.zero_mul, Nat.zero_add, Nat.add_mul, Nat.add_assoc, Nat.mul_assoc, Nat.mul_comm 10]
theorem dval_ge {c : Nat} {l : List Nat} (h : 49 ≤ c) : 10 ^ l.length ≤ NumText.digitsVal (c :: l) := by
  show _ ≤ l.foldl _ (0 * 10 + (c - 48))
  rw [dval_fold]
  have : 10 ^ l.length * 1 ≤ 10 ^ l.length * (0 * 10 + (c - 48)) := Nat.mul_le_mul_left _ (by omega)
  rw [Nat.mul_comm (0 * 10 + (c - 48))]
  omega
theorem dval_lt : ∀ {l : List Nat}, NumText.AllDigits l → NumText.digitsVal l < 10 ^ l.length := fun {l} h => by
  have : ∀ (l : List Nat) (a b : Nat), NumText.AllDigits l → a < b → l.foldl (fun acc c => acc * 10 + (c - 48)) a < b * 10 ^ l.length := by
    intro l
    induction l with
    | nil => intro a b _ h; simpa using h
    | cons c l ih =>
      intro a b hd hab
      have hc := hd c (List.mem_cons_self ..)
      have := ih (a * 10 + (c - 48)) (b * 10) (fun d hd' => hd d (List.mem_cons_of_mem _ hd')) (by omega)
      rw [List.length_cons, Nat.pow_succ, Nat.mul_comm (10 ^ l.length), ← Nat.mul_assoc]
      exact this
  have z := this l 0 1 h (by omega)
  rw [Nat.one_mul] at z
  exact z
/-- figures without a needless nought are the text of their number -/
theorem numL_of : ∀ (n : Nat) {l : List Nat}, l.length = n → NumText.AllDigits l → (∃ c t, l = c :: t ∧ (c ≠ 48 ∨ t = [])) → numL (NumText.digitsVal l) = l
  | 0, l, hn, _, ⟨c, t, e, _⟩ => by rw [e] at hn; cases hn
  | 1, l, hn, hd, ⟨c, t, e, _⟩ => by
    subst e
    have ht : t = [] := List.eq_nil_of_length_eq_zero (by rw [List.length_cons] at hn; omega)
    subst ht
    have hc := hd c (List.mem_cons_self ..)
    have e : NumText.digitsVal [c] = c - 48 := by
      show 0 * 10 + (c - 48) = _
      omega
    rw [e, numL_lt (by omega)]
    congr 1
    omega
  | n + 2, l, hn, hd, ⟨c, t, e, h0⟩ => by
    have hne : l ≠ [] := by rw [e]; exact fun z => by cases z
    obtain ⟨p, x, ep⟩ : ∃ p x, l = p ++ [x] := ⟨l.dropLast, l.getLast hne, (List.dropLast_concat_getLast hne).symm⟩
    have hp : p.length = n + 1 := by
      rw [ep, List.length_append, List.length_singleton] at hn
      omega
    have hx : 48 ≤ x ∧ x ≤ 57 := hd x (by rw [ep]; simp)
    have hpd : NumText.AllDigits p := fun d h => hd d (by rw [ep]; exact List.mem_append_left _ h)
    obtain ⟨c', t', e'⟩ : ∃ c' t', p = c' :: t' := by
      cases p with
      | nil => cases hp
      | cons c' t' => exact ⟨c', t', rfl⟩
    have ec : c' = c := by
      rw [ep, e'] at e
      have := congrArg List.head? e
      simpa using this
    have hc : c ≠ 48 := by
      rcases h0 with h0 | h0
      · exact h0
      · rw [e, h0] at hn
        simp at hn
    have hc' := hpd c' (by rw [e']; exact List.mem_cons_self ..)
    have ih := numL_of (n + 1) hp hpd ⟨c', t', e', .inl (by rw [ec]; exact hc)⟩
    have hg : 1 ≤ NumText.digitsVal p := by
      rw [e']
      exact Nat.le_trans (Nat.one_le_pow _ _ (by omega)) (dval_ge (by omega))
    rw [ep, dval_app, numL_step (by omega)]
    have e1 : (NumText.digitsVal p * 10 + (x - 48)) / 10 = NumText.digitsVal p := by omega
    have e2 : (NumText.digitsVal p * 10 + (x - 48)) % 10 = x - 48 := by omega
    rw [e1, e2, ih]
    congr 2
    omega
def Figs (w : Str) : Prop := NumText.AllDigits (tl w)
theorem num_of {w : Str} (h : Figs w) {c : Nat} {t : List Nat} (e : tl w = c :: t) (h0 : c ≠ 48 ∨ t = []) : w = num (NumText.digitsVal (tl w)) :=
  tl_inj (by rw [num_tl, numL_of (tl w).length rfl h ⟨c, t, e, h0⟩])
open Classical in
/-- the number of a text, if it is one of the law's -/
noncomputable def NT (w : Str) : Option Nat := if h : ∃ n, n ≤ 1000000 ∧ w = num n then some h.choose else none
theorem NT_num {n : Nat} (h : n ≤ 1000000) : NT (num n) = some n := by
  unfold NT
  have hx : ∃ m, m ≤ 1000000 ∧ num n = num m := ⟨n, h, rfl⟩
  rw [dif_pos hx]
  congr 1
  exact (num_inj hx.choose_spec.2).symm
theorem NT_none {w : Str} (h : ¬ ∃ n, n ≤ 1000000 ∧ w = num n) : NT w = none := by
  unfold NT
  rw [dif_neg h]
def nD : Option Nat → D
  | some n => .int ((n : Nat) : Int)
  | none => .non
theorem fig_out {c : Nat} (h : ¬ (48 ≤ c ∧ c ≤ 57)) : decide (c ∈ ("0123456789" : Str).cps.toList) = false := by
  rw [fig_tl, decide_eq_false_iff_not]
  simp only [List.mem_cons, List.not_mem_nil, or_false]
  omega
def isF (c : Nat) : Bool := decide (48 ≤ c ∧ c ≤ 57)
theorem fig_is (c : Nat) : decide (c ∈ ("0123456789" : Str).cps.toList) = isF c := by
  unfold isF
  by_cases h : 48 ≤ c ∧ c ≤ 57
  · rw [fig_in h, decide_eq_true h]
  · rw [fig_out h, decide_eq_false h]
def allF (w : Str) : Bool := (tl w).all isF
theorem allF_iff {w : Str} : allF w = true ↔ Figs w := by
  unfold allF Figs NumText.AllDigits isF
  rw [List.all_eq_true]
  simp only [decide_eq_true_eq]
theorem all_signs {w : Str} : allD [.lst ((tl w).map fun c => D.bl (isF c))] = some (.bl (allF w)) := by
  have e : (tl w).map (fun c => D.bl (isF c)) = ((tl w).map fun c => D.int ((c : Nat) : Int)).map fun d => D.bl ((fun d => match d with | .int i => isF i.toNat | _ => false) d) := by
    rw [List.map_map]
    exact List.map_congr_left fun c _ => rfl
  rw [e, all_map, List.all_map]
  congr 2
theorem int_num' {n : Nat} (h : (num n).length ≤ 640) : intTD [.str (num n)] = some (.int (n : Int)) := by
  show (if (num n).length ≤ 640 then (PySem.intText? (num n)).map D.int else none) = _
  rw [if_pos h]
  have hl : (numL n).length = (num n).length := by rw [← num_tl, tl_len]
  have := int_num (n := n) (by omega)
  rw [show PySem.intText? (num n) = some (n : Int) from this]
  rfl
theorem str0_tl : tl ("0" : Str) = [48] := by decide +kernel
theorem nil_tlB {w : Str} : (w == ("" : Str)) = (tl w).isEmpty := by
  have e : tl ("" : Str) = [] := by decide +kernel
  rw [Bool.eq_iff_iff, beq_iff_eq, List.isEmpty_iff]
  exact ⟨fun h => by rw [h, e], fun h => tl_inj (by rw [h, e])⟩
theorem num_cons (n : Nat) : ∃ c t, tl (num n) = c :: t := by
  cases e : tl (num n) with
  | nil => rw [num_tl] at e; exact absurd e (numL_ne _)
  | cons c t => exact ⟨c, t, rfl⟩
theorem num_figs (n : Nat) : allF (num n) = true := allF_iff.mpr fun c hc => num_digits hc
theorem num_nought {n c : Nat} {t : List Nat} (e : tl (num n) = 48 :: c :: t) : False := by
  by_cases z : n = 0
  · rw [z, num0, str0_tl] at e
    cases e
  · exact numL_head n (by omega) 48 (by rw [← num_tl, e]; rfl) rfl
theorem NT_big {n : Nat} (h : ¬ n ≤ 1000000) : NT (num n) = none := NT_none fun ⟨m, hm, e⟩ => h (by rw [num_inj e]; exact hm)
theorem classify (w : Str) : (tl w = [] ∧ NT w = none) ∨ (allF w = false ∧ NT w = none) ∨ (∃ c t, tl w = 48 :: c :: t ∧ allF w = true ∧ NT w = none) ∨ ∃ v, w = num v ∧ NT w = if v ≤ 1000000 then some v else none := by
  cases hf : allF w with
  | false =>
    refine .inr (.inl ⟨rfl, NT_none fun ⟨n, _, e⟩ => ?_⟩)
    rw [e, num_figs] at hf
    cases hf
  | true =>
    cases e : tl w with
    | nil =>
      refine .inl ⟨rfl, NT_none fun ⟨n, _, e2⟩ => ?_⟩
      obtain ⟨c, t, e3⟩ := num_cons n
      rw [e2, e3] at e
      cases e
    | cons c t =>
      refine .inr (.inr ?_)
      by_cases h0 : c ≠ 48 ∨ t = []
      · have hw := num_of (allF_iff.mp hf) e h0
        refine .inr ⟨_, hw, ?_⟩
        generalize NumText.digitsVal (tl w) = v at hw
        rw [hw]
        by_cases hv : v ≤ 1000000
        · rw [if_pos hv, NT_num hv]
        · rw [if_neg hv, NT_big hv]
      · have hc : c = 48 := Classical.byContradiction fun z => h0 (.inl z)
        subst hc
        cases t with
        | nil => exact absurd (.inr rfl) h0
        | cons c' t' =>
          refine .inl ⟨c', t', rfl, rfl, NT_none fun ⟨n, _, e2⟩ => ?_⟩
          rw [e2] at e
          exact num_nought e
theorem len_cons_tl {w : Str} {c : Nat} {t : List Nat} (e : tl w = c :: t) : w.length = t.length + 1 := by rw [← tl_len, e, List.length_cons]
theorem comp_signs {w : Str} {env : DE} {s : Hand} : compL (gdName 2) mYes c_number_told_0 [some (.dat (.str w)), some (.dat (.int 1000000)), none] ((tl w).map fun c => D.str ⟨#[c]⟩) s = some ((tl w).map fun c => .bl (isF c), s) :=
  comp_map (tl w) fun c hc => ⟨_, rfl, by
    rw [c_number_told_0_eq]
    refine eq_of_OW ?_
    simp only [mDef_eq, outD_nx, outD_rt, startE, sNil, sSeq, thenS_nx, thenS_rt, thenS_bk, thenS_ct, sAsg, sIf, sRet, sRetN, sDrop, sBrk, sCnt, sFor, sOwn, ownAt, sApp, sExt, sPut, sFrz, sPar, mIxO, mLenO, mTupO, mVar, mC, mU, mB, mNil, mCons, mF, mIsT, mAndT, mOrT, mNotT, mAnd, mOr, mNot, mIf, mChain, mPart, mNoPart, mSl, mCall, mIt, mRng, mComp, mYes, gdName, gdTup, gdCons, gdNil, wipeE, tupItems_tup, lstItems_lst, bl_bl, int_int, mHx_eq, mHlen_eq, mHcell_eq, sHput_eq, isH_hnd, hget1, hget2, hget3, hget4, hset1, hset2, hset3, hset4, eq_int, ne_int, lt_int, gt_int, le_int, ge_int, eq_bl, add_int, add_tup, add_lst, sub_int, neg_int, isN_hi, notN_hi, mul_int, div_int, mod_int, pow_int, abs_int, intC_int, len_tup, len_lst, tup_D, lst_D, rt_D, Bool.not_not, Bool.not_true, Bool.not_false, true_and, and_true, false_and, and_false, or_true, true_or, or_false, false_or, List.length_cons, List.length_nil, List.length_append, List.length_map, List.map_cons, List.map_nil, List.replicate_succ, List.replicate_zero, List.cons_append, List.nil_append, List.append_nil, List.set_cons_zero, List.set_cons_succ, List.getElem?_cons_zero, List.getElem?_cons_succ, Option.bind_some, Option.map_some, Option.bind_none, Option.map_none, OW_some, OW_bind, OW_map, OW_if, Bool.false_eq_true, if_true, if_false, ↓reduceIte, Nat.reduceAdd, Nat.reduceSub, Nat.zero_add, Nat.sub_self, Function.comp, OW_eq (sign_in (c := c) (z := ("0123456789" : Str))), fig_is]⟩
theorem number_any {w : Str} {s : Hand} (hl : w.length ≤ 100000) : f_number_told [.str w, .int 1000000] s = some (nD (NT w), s) := by
  have hsz : w.length ≤ sizeLine := by rw [sizeLine_eq]; omega
  have ec := comp_signs (w := w) (env := []) (s := s)
  have q0 : ∀ c : Nat, relD eqP (.str ⟨#[c]⟩) (.str "0") = some (.bl (c == 48)) := fun c => by rw [eq_str, one_sign]
  rcases classify w with ⟨e, hN⟩ | ⟨e, hN⟩ | ⟨c, t, e, hf, hN⟩ | ⟨v, e, hN⟩
  · have h0 : w.length = 0 := by rw [← tl_len, e]; rfl
    have d1 : decide ((1 : Int) ≤ (w.length : Int)) = false := decide_eq_false (by omega)
    rw [hN]
    refine eq_of_OW ?_
    unfold f_number_told
    simp only [mDef_eq, outD_nx, outD_rt, startE, sNil, sSeq, thenS_nx, thenS_rt, thenS_bk, thenS_ct, sAsg, sIf, sRet, sRetN, sDrop, sBrk, sCnt, sFor, sOwn, ownAt, sApp, sExt, sPut, sFrz, sPar, mIxO, mLenO, mTupO, mVar, mC, mU, mB, mNil, mCons, mF, mIsT, mAndT, mOrT, mNotT, mAnd, mOr, mNot, mIf, mChain, mPart, mNoPart, mSl, mCall, mIt, mRng, mComp, mYes, gdName, gdTup, gdCons, gdNil, wipeE, tupItems_tup, lstItems_lst, bl_bl, int_int, mHx_eq, mHlen_eq, mHcell_eq, sHput_eq, isH_hnd, hget1, hget2, hget3, hget4, hset1, hset2, hset3, hset4, eq_int, ne_int, lt_int, gt_int, le_int, ge_int, eq_bl, add_int, add_tup, add_lst, sub_int, neg_int, isN_hi, notN_hi, mul_int, div_int, mod_int, pow_int, abs_int, intC_int, len_tup, len_lst, tup_D, lst_D, rt_D, Bool.not_not, Bool.not_true, Bool.not_false, true_and, and_true, false_and, and_false, or_true, true_or, or_false, false_or, List.length_cons, List.length_nil, List.length_append, List.length_map, List.map_cons, List.map_nil, List.replicate_succ, List.replicate_zero, List.cons_append, List.nil_append, List.append_nil, List.set_cons_zero, List.set_cons_succ, List.getElem?_cons_zero, List.getElem?_cons_succ, Option.bind_some, Option.map_some, Option.bind_none, Option.map_none, OW_some, OW_bind, OW_map, OW_if, Bool.false_eq_true, if_true, if_false, ↓reduceIte, Nat.reduceAdd, Nat.reduceSub, Nat.zero_add, Nat.sub_self, Function.comp, OW_eq (len_str hsz), d1]
    rfl
  · rw [hN]
    refine eq_of_OW ?_
    unfold f_number_told
    simp only [mDef_eq, outD_nx, outD_rt, startE, sNil, sSeq, thenS_nx, thenS_rt, thenS_bk, thenS_ct, sAsg, sIf, sRet, sRetN, sDrop, sBrk, sCnt, sFor, sOwn, ownAt, sApp, sExt, sPut, sFrz, sPar, mIxO, mLenO, mTupO, mVar, mC, mU, mB, mNil, mCons, mF, mIsT, mAndT, mOrT, mNotT, mAnd, mOr, mNot, mIf, mChain, mPart, mNoPart, mSl, mCall, mIt, mRng, mComp, mYes, gdName, gdTup, gdCons, gdNil, wipeE, tupItems_tup, lstItems_lst, bl_bl, int_int, mHx_eq, mHlen_eq, mHcell_eq, sHput_eq, isH_hnd, hget1, hget2, hget3, hget4, hset1, hset2, hset3, hset4, eq_int, ne_int, lt_int, gt_int, le_int, ge_int, eq_bl, add_int, add_tup, add_lst, sub_int, neg_int, isN_hi, notN_hi, mul_int, div_int, mod_int, pow_int, abs_int, intC_int, len_tup, len_lst, tup_D, lst_D, rt_D, Bool.not_not, Bool.not_true, Bool.not_false, true_and, and_true, false_and, and_false, or_true, true_or, or_false, false_or, List.length_cons, List.length_nil, List.length_append, List.length_map, List.map_cons, List.map_nil, List.replicate_succ, List.replicate_zero, List.cons_append, List.nil_append, List.append_nil, List.set_cons_zero, List.set_cons_succ, List.getElem?_cons_zero, List.getElem?_cons_succ, Option.bind_some, Option.map_some, Option.bind_none, Option.map_none, OW_some, OW_bind, OW_map, OW_if, Bool.false_eq_true, if_true, if_false, ↓reduceIte, Nat.reduceAdd, Nat.reduceSub, Nat.zero_add, Nat.sub_self, Function.comp, OW_eq (len_str hsz), OW_eq (items_str hsz), OW_eq ec, OW_eq all_signs, e]
    cases decide ((1 : Int) ≤ (w.length : Int)) with
    | false => rfl
    | true =>
      simp only [mDef_eq, outD_nx, outD_rt, startE, sNil, sSeq, thenS_nx, thenS_rt, thenS_bk, thenS_ct, sAsg, sIf, sRet, sRetN, sDrop, sBrk, sCnt, sFor, sOwn, ownAt, sApp, sExt, sPut, sFrz, sPar, mIxO, mLenO, mTupO, mVar, mC, mU, mB, mNil, mCons, mF, mIsT, mAndT, mOrT, mNotT, mAnd, mOr, mNot, mIf, mChain, mPart, mNoPart, mSl, mCall, mIt, mRng, mComp, mYes, gdName, gdTup, gdCons, gdNil, wipeE, tupItems_tup, lstItems_lst, bl_bl, int_int, mHx_eq, mHlen_eq, mHcell_eq, sHput_eq, isH_hnd, hget1, hget2, hget3, hget4, hset1, hset2, hset3, hset4, eq_int, ne_int, lt_int, gt_int, le_int, ge_int, eq_bl, add_int, add_tup, add_lst, sub_int, neg_int, isN_hi, notN_hi, mul_int, div_int, mod_int, pow_int, abs_int, intC_int, len_tup, len_lst, tup_D, lst_D, rt_D, Bool.not_not, Bool.not_true, Bool.not_false, true_and, and_true, false_and, and_false, or_true, true_or, or_false, false_or, List.length_cons, List.length_nil, List.length_append, List.length_map, List.map_cons, List.map_nil, List.replicate_succ, List.replicate_zero, List.cons_append, List.nil_append, List.append_nil, List.set_cons_zero, List.set_cons_succ, List.getElem?_cons_zero, List.getElem?_cons_succ, Option.bind_some, Option.map_some, Option.bind_none, Option.map_none, OW_some, OW_bind, OW_map, OW_if, Bool.false_eq_true, if_true, if_false, ↓reduceIte, Nat.reduceAdd, Nat.reduceSub, Nat.zero_add, Nat.sub_self, Function.comp]
      cases decide ((w.length : Int) ≤ 12) with
      | false => rfl
      | true => rfl
  · have hix := ix_str0 hsz e
    have hne : (w == ("0" : Str)) = false := by
      rw [beq_eq_false_iff_ne]
      intro z
      rw [z, str0_tl] at e
      cases e
    rw [hN]
    refine eq_of_OW ?_
    unfold f_number_told
    simp only [mDef_eq, outD_nx, outD_rt, startE, sNil, sSeq, thenS_nx, thenS_rt, thenS_bk, thenS_ct, sAsg, sIf, sRet, sRetN, sDrop, sBrk, sCnt, sFor, sOwn, ownAt, sApp, sExt, sPut, sFrz, sPar, mIxO, mLenO, mTupO, mVar, mC, mU, mB, mNil, mCons, mF, mIsT, mAndT, mOrT, mNotT, mAnd, mOr, mNot, mIf, mChain, mPart, mNoPart, mSl, mCall, mIt, mRng, mComp, mYes, gdName, gdTup, gdCons, gdNil, wipeE, tupItems_tup, lstItems_lst, bl_bl, int_int, mHx_eq, mHlen_eq, mHcell_eq, sHput_eq, isH_hnd, hget1, hget2, hget3, hget4, hset1, hset2, hset3, hset4, eq_int, ne_int, lt_int, gt_int, le_int, ge_int, eq_bl, add_int, add_tup, add_lst, sub_int, neg_int, isN_hi, notN_hi, mul_int, div_int, mod_int, pow_int, abs_int, intC_int, len_tup, len_lst, tup_D, lst_D, rt_D, Bool.not_not, Bool.not_true, Bool.not_false, true_and, and_true, false_and, and_false, or_true, true_or, or_false, false_or, List.length_cons, List.length_nil, List.length_append, List.length_map, List.map_cons, List.map_nil, List.replicate_succ, List.replicate_zero, List.cons_append, List.nil_append, List.append_nil, List.set_cons_zero, List.set_cons_succ, List.getElem?_cons_zero, List.getElem?_cons_succ, Option.bind_some, Option.map_some, Option.bind_none, Option.map_none, OW_some, OW_bind, OW_map, OW_if, Bool.false_eq_true, if_true, if_false, ↓reduceIte, Nat.reduceAdd, Nat.reduceSub, Nat.zero_add, Nat.sub_self, Function.comp, OW_eq (len_str hsz), OW_eq (items_str hsz), OW_eq ec, OW_eq all_signs, hf, OW_eq hix, OW_eq (q0 48), OW_eq (ne_str (a := w) (b := ("0" : Str))), hne, beq_self_eq_true]
    cases decide ((1 : Int) ≤ (w.length : Int)) with
    | false => rfl
    | true =>
      simp only [mDef_eq, outD_nx, outD_rt, startE, sNil, sSeq, thenS_nx, thenS_rt, thenS_bk, thenS_ct, sAsg, sIf, sRet, sRetN, sDrop, sBrk, sCnt, sFor, sOwn, ownAt, sApp, sExt, sPut, sFrz, sPar, mIxO, mLenO, mTupO, mVar, mC, mU, mB, mNil, mCons, mF, mIsT, mAndT, mOrT, mNotT, mAnd, mOr, mNot, mIf, mChain, mPart, mNoPart, mSl, mCall, mIt, mRng, mComp, mYes, gdName, gdTup, gdCons, gdNil, wipeE, tupItems_tup, lstItems_lst, bl_bl, int_int, mHx_eq, mHlen_eq, mHcell_eq, sHput_eq, isH_hnd, hget1, hget2, hget3, hget4, hset1, hset2, hset3, hset4, eq_int, ne_int, lt_int, gt_int, le_int, ge_int, eq_bl, add_int, add_tup, add_lst, sub_int, neg_int, isN_hi, notN_hi, mul_int, div_int, mod_int, pow_int, abs_int, intC_int, len_tup, len_lst, tup_D, lst_D, rt_D, Bool.not_not, Bool.not_true, Bool.not_false, true_and, and_true, false_and, and_false, or_true, true_or, or_false, false_or, List.length_cons, List.length_nil, List.length_append, List.length_map, List.map_cons, List.map_nil, List.replicate_succ, List.replicate_zero, List.cons_append, List.nil_append, List.append_nil, List.set_cons_zero, List.set_cons_succ, List.getElem?_cons_zero, List.getElem?_cons_succ, Option.bind_some, Option.map_some, Option.bind_none, Option.map_none, OW_some, OW_bind, OW_map, OW_if, Bool.false_eq_true, if_true, if_false, ↓reduceIte, Nat.reduceAdd, Nat.reduceSub, Nat.zero_add, Nat.sub_self, Function.comp]
      cases decide ((w.length : Int) ≤ 12) with
      | false => rfl
      | true => rfl
  · by_cases hv : v ≤ 1000000
    · rw [if_pos hv] at hN
      rw [hN, e]
      exact pure_number hv (Nat.le_refl _)
    · rw [if_neg hv] at hN
      obtain ⟨c, t, et⟩ := num_cons v
      have et' : tl w = c :: t := by rw [e]; exact et
      have hlt := len_cons_tl et'
      have d1 : decide ((1 : Int) ≤ (w.length : Int)) = true := decide_eq_true (by omega)
      have hf : allF w = true := by rw [e]; exact num_figs v
      have hix := ix_str0 hsz et'
      rw [hN]
      refine eq_of_OW ?_
      unfold f_number_told
      by_cases h12 : w.length ≤ 12
      · have d2 : decide ((w.length : Int) ≤ 12) = true := decide_eq_true (by omega)
        have hi : intTD [.str w] = some (.int (v : Int)) := by
          rw [e]
          rw [e] at h12
          exact int_num' (by omega)
        have d3 : decide ((1000000 : Int) < (v : Int)) = true := decide_eq_true (by omega)
        simp only [mDef_eq, outD_nx, outD_rt, startE, sNil, sSeq, thenS_nx, thenS_rt, thenS_bk, thenS_ct, sAsg, sIf, sRet, sRetN, sDrop, sBrk, sCnt, sFor, sOwn, ownAt, sApp, sExt, sPut, sFrz, sPar, mIxO, mLenO, mTupO, mVar, mC, mU, mB, mNil, mCons, mF, mIsT, mAndT, mOrT, mNotT, mAnd, mOr, mNot, mIf, mChain, mPart, mNoPart, mSl, mCall, mIt, mRng, mComp, mYes, gdName, gdTup, gdCons, gdNil, wipeE, tupItems_tup, lstItems_lst, bl_bl, int_int, mHx_eq, mHlen_eq, mHcell_eq, sHput_eq, isH_hnd, hget1, hget2, hget3, hget4, hset1, hset2, hset3, hset4, eq_int, ne_int, lt_int, gt_int, le_int, ge_int, eq_bl, add_int, add_tup, add_lst, sub_int, neg_int, isN_hi, notN_hi, mul_int, div_int, mod_int, pow_int, abs_int, intC_int, len_tup, len_lst, tup_D, lst_D, rt_D, Bool.not_not, Bool.not_true, Bool.not_false, true_and, and_true, false_and, and_false, or_true, true_or, or_false, false_or, List.length_cons, List.length_nil, List.length_append, List.length_map, List.map_cons, List.map_nil, List.replicate_succ, List.replicate_zero, List.cons_append, List.nil_append, List.append_nil, List.set_cons_zero, List.set_cons_succ, List.getElem?_cons_zero, List.getElem?_cons_succ, Option.bind_some, Option.map_some, Option.bind_none, Option.map_none, OW_some, OW_bind, OW_map, OW_if, Bool.false_eq_true, if_true, if_false, ↓reduceIte, Nat.reduceAdd, Nat.reduceSub, Nat.zero_add, Nat.sub_self, Function.comp, OW_eq (len_str hsz), OW_eq (items_str hsz), OW_eq ec, OW_eq all_signs, hf, d1, d2, OW_eq hix, OW_eq (q0 c), OW_eq (ne_str (a := w) (b := ("0" : Str))), OW_eq hi, d3]
        cases c == 48 with
        | false => rfl
        | true =>
          simp only [mDef_eq, outD_nx, outD_rt, startE, sNil, sSeq, thenS_nx, thenS_rt, thenS_bk, thenS_ct, sAsg, sIf, sRet, sRetN, sDrop, sBrk, sCnt, sFor, sOwn, ownAt, sApp, sExt, sPut, sFrz, sPar, mIxO, mLenO, mTupO, mVar, mC, mU, mB, mNil, mCons, mF, mIsT, mAndT, mOrT, mNotT, mAnd, mOr, mNot, mIf, mChain, mPart, mNoPart, mSl, mCall, mIt, mRng, mComp, mYes, gdName, gdTup, gdCons, gdNil, wipeE, tupItems_tup, lstItems_lst, bl_bl, int_int, mHx_eq, mHlen_eq, mHcell_eq, sHput_eq, isH_hnd, hget1, hget2, hget3, hget4, hset1, hset2, hset3, hset4, eq_int, ne_int, lt_int, gt_int, le_int, ge_int, eq_bl, add_int, add_tup, add_lst, sub_int, neg_int, isN_hi, notN_hi, mul_int, div_int, mod_int, pow_int, abs_int, intC_int, len_tup, len_lst, tup_D, lst_D, rt_D, Bool.not_not, Bool.not_true, Bool.not_false, true_and, and_true, false_and, and_false, or_true, true_or, or_false, false_or, List.length_cons, List.length_nil, List.length_append, List.length_map, List.map_cons, List.map_nil, List.replicate_succ, List.replicate_zero, List.cons_append, List.nil_append, List.append_nil, List.set_cons_zero, List.set_cons_succ, List.getElem?_cons_zero, List.getElem?_cons_succ, Option.bind_some, Option.map_some, Option.bind_none, Option.map_none, OW_some, OW_bind, OW_map, OW_if, Bool.false_eq_true, if_true, if_false, ↓reduceIte, Nat.reduceAdd, Nat.reduceSub, Nat.zero_add, Nat.sub_self, Function.comp]
          cases w == ("0" : Str) with
          | false => rfl
          | true => rfl
      · have d2 : decide ((w.length : Int) ≤ 12) = false := decide_eq_false (by omega)
        simp only [mDef_eq, outD_nx, outD_rt, startE, sNil, sSeq, thenS_nx, thenS_rt, thenS_bk, thenS_ct, sAsg, sIf, sRet, sRetN, sDrop, sBrk, sCnt, sFor, sOwn, ownAt, sApp, sExt, sPut, sFrz, sPar, mIxO, mLenO, mTupO, mVar, mC, mU, mB, mNil, mCons, mF, mIsT, mAndT, mOrT, mNotT, mAnd, mOr, mNot, mIf, mChain, mPart, mNoPart, mSl, mCall, mIt, mRng, mComp, mYes, gdName, gdTup, gdCons, gdNil, wipeE, tupItems_tup, lstItems_lst, bl_bl, int_int, mHx_eq, mHlen_eq, mHcell_eq, sHput_eq, isH_hnd, hget1, hget2, hget3, hget4, hset1, hset2, hset3, hset4, eq_int, ne_int, lt_int, gt_int, le_int, ge_int, eq_bl, add_int, add_tup, add_lst, sub_int, neg_int, isN_hi, notN_hi, mul_int, div_int, mod_int, pow_int, abs_int, intC_int, len_tup, len_lst, tup_D, lst_D, rt_D, Bool.not_not, Bool.not_true, Bool.not_false, true_and, and_true, false_and, and_false, or_true, true_or, or_false, false_or, List.length_cons, List.length_nil, List.length_append, List.length_map, List.map_cons, List.map_nil, List.replicate_succ, List.replicate_zero, List.cons_append, List.nil_append, List.append_nil, List.set_cons_zero, List.set_cons_succ, List.getElem?_cons_zero, List.getElem?_cons_succ, Option.bind_some, Option.map_some, Option.bind_none, Option.map_none, OW_some, OW_bind, OW_map, OW_if, Bool.false_eq_true, if_true, if_false, ↓reduceIte, Nat.reduceAdd, Nat.reduceSub, Nat.zero_add, Nat.sub_self, Function.comp, OW_eq (len_str hsz), d1, d2]
        rfl
theorem spl_sum (S : List Nat) : ∀ (l : List Nat) (k : Nat) (acc : List Nat), ((spl S k acc l).map fun p => p.length + 1).sum ≤ acc.length + l.length + 1
  | [], k, acc => by
    rw [spl_nil]
    simp
  | c :: r, 0, acc => by
    by_cases h : pre S (c :: r) = true
    · rw [spl_hit h, List.map_cons, List.sum_cons, List.length_cons]
      have := spl_sum S r (S.length - 1) []
      rw [List.length_nil] at this
      omega
    · rw [spl_miss (Bool.eq_false_iff.mpr h), List.length_cons]
      have := spl_sum S r 0 (acc ++ [c])
      rw [List.length_append, List.length_singleton] at this
      omega
  | c :: r, k + 1, acc => by
    have := spl_sum S r k acc
    rw [List.length_cons]
    show ((spl S k acc r).map fun p => p.length + 1).sum ≤ _
    omega
def wsum (ps : List Str) : Nat := (ps.map fun p => p.length + 1).sum
theorem split_sum {x y : Str} (hy : tl y ≠ []) (hk : y.cps.all (· < 256) = true) : wsum (Txt.split x y) ≤ x.length + 1 := by
  have := spl_sum (tl y) (tl x) 0 []
  rw [← split_spl x y hy (kind_ok hk), List.map_map, List.length_nil, Nat.zero_add, tl_len] at this
  have e : ((fun p : List Nat => p.length + 1) ∘ tl) = fun p : Str => p.length + 1 := funext fun p => by
    show (tl p).length + 1 = _
    rw [tl_len]
  rw [e] at this
  exact this
theorem wsum_mem : ∀ {ps : List Str} {p : Str}, p ∈ ps → p.length + 1 ≤ wsum ps
  | q :: ps, p, h => by
    show _ ≤ (q.length + 1) + wsum ps
    rcases List.mem_cons.mp h with e | e
    · rw [e]; omega
    · have := wsum_mem e; omega
theorem wsum_len : ∀ ps : List Str, ps.length ≤ wsum ps
  | [] => Nat.le_refl _
  | q :: ps => by
    have := wsum_len ps
    show ps.length + 1 ≤ (q.length + 1) + wsum ps
    omega
theorem dot_ok : tl ("." : Str) ≠ [] := by rw [dot_tl]; simp
theorem split_D {x y : Str} (hy : (y.length == 0) = false) (h : x.length ≤ 100000) : splitD (.str x) (.str y) = some (.lst ((Txt.split x y).map D.str)) := by
  show (if (y.length == 0) = false ∧ x.length + 2 ≤ sizeLine then some (D.lst ((Txt.split x y).map .str)) else none) = _
  rw [if_pos ⟨hy, by rw [sizeLine_eq]; omega⟩]
def nP : Option Nat → PyData
  | some n => .int ((n : Nat) : Int)
  | none => .none
theorem py_nD : ∀ l : List (Option Nat), toPyL (l.map nD) = some (l.map nP)
  | [] => rfl
  | o :: l => by
    rw [List.map_cons, toPyL_cons, py_nD l]
    cases o <;> rfl
theorem eqv_nP (o : Option Nat) : PyData.eqv (nP o) .none = o.isNone := by cases o <;> rfl
theorem any_none : ∀ l : List (Option Nat), (l.map nP).any (fun y => PyData.eqv y .none) = l.any (·.isNone)
  | [] => rfl
  | o :: l => by
    rw [List.map_cons, List.any_cons, List.any_cons, any_none l, eqv_nP]
theorem none_in (l : List (Option Nat)) : inD .non (.lst (l.map nD)) = some (.bl (l.any (·.isNone))) := by
  show relD (inP false) .non (.lst (l.map nD)) = _
  unfold relD
  have e2 : toPy (.lst (l.map nD)) = some (.list (l.map nP)) := by
    show (toPyL (l.map nD)).map PyData.list = _
    rw [py_nD]
    rfl
  rw [e2]
  show (if min (PyData.depthAll (l.map nP)) (PyData.none).depth ≤ 62 then some (false != (l.map nP).any fun y => PyData.eqv y .none) else none).map D.bl = _
  rw [if_pos (Nat.le_trans (Nat.min_le_right _ _) (by decide)), any_none]
  rw [Bool.false_bne]
  rfl
theorem none_nin (l : List (Option Nat)) : ninD .non (.tup (l.map nD)) = some (.bl (!l.any (·.isNone))) := by
  show relD (inP true) .non (.tup (l.map nD)) = _
  unfold relD
  have e2 : toPy (.tup (l.map nD)) = some (.tuple (l.map nP)) := by
    show (toPyL (l.map nD)).map PyData.tuple = _
    rw [py_nD]
    rfl
  rw [e2]
  show (if min (PyData.depthAll (l.map nP)) (PyData.none).depth ≤ 62 then some (true != (l.map nP).any fun y => PyData.eqv y .none) else none).map D.bl = _
  rw [if_pos (Nat.le_trans (Nat.min_le_right _ _) (by decide)), any_none]
  rw [Bool.true_bne]
  rfl
/-- three numbers -/
def V3 : List (Option Nat) → Option Int
  | [some a, some b, some c] => some ((a : Int) * 100000000000000 + (b : Int) * 10000000 + (c : Int))
  | _ => none
noncomputable def VL (r : Str) : List (Option Nat) := (Txt.split r ("." : Str)).map NT
noncomputable def VT (r : Str) : Option Int := V3 (VL r)
def oV : Option Int → D
  | some x => verD x
  | none => .non
theorem NT_le {w : Str} {n : Nat} (h : NT w = some n) : n ≤ 1000000 := by
  rcases classify w with ⟨_, e⟩ | ⟨_, e⟩ | ⟨_, _, _, _, e⟩ | ⟨v, _, e⟩
  · rw [e] at h; cases h
  · rw [e] at h; cases h
  · rw [e] at h; cases h
  · rw [e] at h
    by_cases c : v ≤ 1000000
    · rw [if_pos c] at h; cases h; exact c
    · rw [if_neg c] at h; cases h
theorem ver_nums {a b c : Nat} (ha : a ≤ 1000000) (hb : b ≤ 1000000) (hc : c ≤ 1000000) : OkV ((a : Int) * 100000000000000 + (b : Int) * 10000000 + (c : Int)) ∧ D.tup [.int (a : Int), .int (b : Int), .int (c : Int)] = verD ((a : Int) * 100000000000000 + (b : Int) * 10000000 + (c : Int)) := by
  have e1 : ((a : Int) * 100000000000000 + (b : Int) * 10000000 + (c : Int)) / 100000000000000 = a := by omega
  have e2 : ((a : Int) * 100000000000000 + (b : Int) * 10000000 + (c : Int)) / 10000000 % 10000000 = b := by omega
  have e3 : ((a : Int) * 100000000000000 + (b : Int) * 10000000 + (c : Int)) % 10000000 = c := by omega
  refine ⟨?_, by rw [verD_eq, e1, e2, e3]⟩
  unfold OkV
  rw [e1, e2, e3]
  omega
theorem V3_cases : ∀ (l : List (Option Nat)), (∀ n, some n ∈ l → n ≤ 1000000) →
    ((l.length = 3 ∧ l.any (·.isNone) = false) ∧ ∃ x, V3 l = some x ∧ OkV x ∧ D.tup (l.map nD) = verD x) ∨ (((l.length : Int) == 3) && !l.any (·.isNone)) = false ∧ V3 l = none
  | [], _ => .inr ⟨rfl, rfl⟩
  | [a], _ => .inr ⟨rfl, by cases a <;> rfl⟩
  | [a, b], _ => .inr ⟨rfl, by cases a <;> cases b <;> rfl⟩
  | [some a, some b, some c], h => .inl ⟨⟨rfl, rfl⟩, by
    have := ver_nums (h a (by simp)) (h b (by simp)) (h c (by simp))
    exact ⟨_, rfl, this⟩⟩
  | [none, _, _], _ => .inr ⟨rfl, rfl⟩
  | [some _, none, _], _ => .inr ⟨rfl, rfl⟩
  | [some _, some _, none], _ => .inr ⟨rfl, rfl⟩
  | a :: b :: c :: d :: l, _ => .inr ⟨by
    have : (((a :: b :: c :: d :: l).length : Int) == 3) = false := by
      rw [beq_eq_false_iff_ne]
      simp only [List.length_cons]
      omega
    rw [this]
    rfl, by unfold V3; split <;> simp_all⟩
theorem VL_le {r : Str} : ∀ n, some n ∈ VL r → n ≤ 1000000 := fun n h => by
  obtain ⟨w, _, e⟩ := List.mem_map.mp h
  exact NT_le e
theorem VL_len {r : Str} : (VL r).length ≤ r.length + 1 := by
  unfold VL
  rw [List.length_map]
  exact Nat.le_trans (wsum_len _) (split_sum dot_ok (by decide +kernel))
theorem part_len {r y p : Str} (hy : tl y ≠ []) (hk : y.cps.all (· < 256) = true) (h : p ∈ Txt.split r y) : p.length ≤ r.length := by
  have := wsum_mem h
  have := split_sum (x := r) hy hk
  omega
theorem nums_map {f : List D → Hand → Option (D × Hand)} (r : Str) : ((Txt.split r ("." : Str)).map D.str).length = (VL r).length := by
  unfold VL
  rw [List.length_map, List.length_map]
theorem VL_map (r : Str) : (Txt.split r ("." : Str)).map (fun w => nD (NT w)) = (VL r).map nD := by
  unfold VL
  rw [List.map_map]
  rfl
theorem version_any {r : Str} {s : Hand} (h : r.length ≤ 100000) : f_version_told [.str r] s = some (oV (VT r), s) := by
  have ec : compL (gdName 2) mYes c_version_told_0 [some (.dat (.str r)), none, none] ((Txt.split r ("." : Str)).map D.str) s = some ((VL r).map nD, s) := by
    rw [← VL_map]
    refine comp_map _ fun w hw => ⟨_, rfl, ?_⟩
    have hl := part_len dot_ok (by decide +kernel) hw
    rw [c_version_told_0_eq]
    refine eq_of_OW ?_
    simp only [mDef_eq, outD_nx, outD_rt, startE, sNil, sSeq, thenS_nx, thenS_rt, thenS_bk, thenS_ct, sAsg, sIf, sRet, sRetN, sDrop, sBrk, sCnt, sFor, sOwn, ownAt, sApp, sExt, sPut, sFrz, sPar, mIxO, mLenO, mTupO, mVar, mC, mU, mB, mNil, mCons, mF, mIsT, mAndT, mOrT, mNotT, mAnd, mOr, mNot, mIf, mChain, mPart, mNoPart, mSl, mCall, mIt, mRng, mComp, mYes, gdName, gdTup, gdCons, gdNil, wipeE, tupItems_tup, lstItems_lst, bl_bl, int_int, mHx_eq, mHlen_eq, mHcell_eq, sHput_eq, isH_hnd, hget1, hget2, hget3, hget4, hset1, hset2, hset3, hset4, eq_int, ne_int, lt_int, gt_int, le_int, ge_int, eq_bl, add_int, add_tup, add_lst, sub_int, neg_int, isN_hi, notN_hi, mul_int, div_int, mod_int, pow_int, abs_int, intC_int, len_tup, len_lst, tup_D, lst_D, rt_D, Bool.not_not, Bool.not_true, Bool.not_false, true_and, and_true, false_and, and_false, or_true, true_or, or_false, false_or, List.length_cons, List.length_nil, List.length_append, List.length_map, List.map_cons, List.map_nil, List.replicate_succ, List.replicate_zero, List.cons_append, List.nil_append, List.append_nil, List.set_cons_zero, List.set_cons_succ, List.getElem?_cons_zero, List.getElem?_cons_succ, Option.bind_some, Option.map_some, Option.bind_none, Option.map_none, OW_some, OW_bind, OW_map, OW_if, Bool.false_eq_true, if_true, if_false, ↓reduceIte, Nat.reduceAdd, Nat.reduceSub, Nat.zero_add, Nat.sub_self, Function.comp, OW_eq (number_any (w := w) (s := s) (by omega))]
  have hlen := VL_len (r := r)
  have hsz : (VL r).length ≤ sizeLine := by rw [sizeLine_eq]; omega
  have et : ∀ l : List D, tupleCD [.lst l] = some (.tup l) := fun _ => rfl
  refine eq_of_OW ?_
  unfold f_version_told
  simp only [mDef_eq, outD_nx, outD_rt, startE, sNil, sSeq, thenS_nx, thenS_rt, thenS_bk, thenS_ct, sAsg, sIf, sRet, sRetN, sDrop, sBrk, sCnt, sFor, sOwn, ownAt, sApp, sExt, sPut, sFrz, sPar, mIxO, mLenO, mTupO, mVar, mC, mU, mB, mNil, mCons, mF, mIsT, mAndT, mOrT, mNotT, mAnd, mOr, mNot, mIf, mChain, mPart, mNoPart, mSl, mCall, mIt, mRng, mComp, mYes, gdName, gdTup, gdCons, gdNil, wipeE, tupItems_tup, lstItems_lst, bl_bl, int_int, mHx_eq, mHlen_eq, mHcell_eq, sHput_eq, isH_hnd, hget1, hget2, hget3, hget4, hset1, hset2, hset3, hset4, eq_int, ne_int, lt_int, gt_int, le_int, ge_int, eq_bl, add_int, add_tup, add_lst, sub_int, neg_int, isN_hi, notN_hi, mul_int, div_int, mod_int, pow_int, abs_int, intC_int, len_tup, len_lst, tup_D, lst_D, rt_D, Bool.not_not, Bool.not_true, Bool.not_false, true_and, and_true, false_and, and_false, or_true, true_or, or_false, false_or, List.length_cons, List.length_nil, List.length_append, List.length_map, List.map_cons, List.map_nil, List.replicate_succ, List.replicate_zero, List.cons_append, List.nil_append, List.append_nil, List.set_cons_zero, List.set_cons_succ, List.getElem?_cons_zero, List.getElem?_cons_succ, Option.bind_some, Option.map_some, Option.bind_none, Option.map_none, OW_some, OW_bind, OW_map, OW_if, Bool.false_eq_true, if_true, if_false, ↓reduceIte, Nat.reduceAdd, Nat.reduceSub, Nat.zero_add, Nat.sub_self, Function.comp, OW_eq (split_D (x := r) (y := ("." : Str)) (by rw [dot_len]; rfl) h), OW_eq ec, OW_eq (et _)]
  rcases V3_cases (VL r) VL_le with ⟨⟨h1, h2⟩, x, e, _, e2⟩ | ⟨h1, e⟩
  · have h3 : (((VL r).length : Int) == 3) = true := by rw [h1]; rfl
    simp only [h3, OW_eq (none_nin (VL r)), h2, mDef_eq, outD_nx, outD_rt, startE, sNil, sSeq, thenS_nx, thenS_rt, thenS_bk, thenS_ct, sAsg, sIf, sRet, sRetN, sDrop, sBrk, sCnt, sFor, sOwn, ownAt, sApp, sExt, sPut, sFrz, sPar, mIxO, mLenO, mTupO, mVar, mC, mU, mB, mNil, mCons, mF, mIsT, mAndT, mOrT, mNotT, mAnd, mOr, mNot, mIf, mChain, mPart, mNoPart, mSl, mCall, mIt, mRng, mComp, mYes, gdName, gdTup, gdCons, gdNil, wipeE, tupItems_tup, lstItems_lst, bl_bl, int_int, mHx_eq, mHlen_eq, mHcell_eq, sHput_eq, isH_hnd, hget1, hget2, hget3, hget4, hset1, hset2, hset3, hset4, eq_int, ne_int, lt_int, gt_int, le_int, ge_int, eq_bl, add_int, add_tup, add_lst, sub_int, neg_int, isN_hi, notN_hi, mul_int, div_int, mod_int, pow_int, abs_int, intC_int, len_tup, len_lst, tup_D, lst_D, rt_D, Bool.not_not, Bool.not_true, Bool.not_false, true_and, and_true, false_and, and_false, or_true, true_or, or_false, false_or, List.length_cons, List.length_nil, List.length_append, List.length_map, List.map_cons, List.map_nil, List.replicate_succ, List.replicate_zero, List.cons_append, List.nil_append, List.append_nil, List.set_cons_zero, List.set_cons_succ, List.getElem?_cons_zero, List.getElem?_cons_succ, Option.bind_some, Option.map_some, Option.bind_none, Option.map_none, OW_some, OW_bind, OW_map, OW_if, Bool.false_eq_true, if_true, if_false, ↓reduceIte, Nat.reduceAdd, Nat.reduceSub, Nat.zero_add, Nat.sub_self, Function.comp]
    unfold VT
    rw [e, e2]
    rfl
  · unfold VT
    rw [e]
    cases h3 : ((VL r).length : Int) == 3 with
    | false => simp only [mDef_eq, outD_nx, outD_rt, startE, sNil, sSeq, thenS_nx, thenS_rt, thenS_bk, thenS_ct, sAsg, sIf, sRet, sRetN, sDrop, sBrk, sCnt, sFor, sOwn, ownAt, sApp, sExt, sPut, sFrz, sPar, mIxO, mLenO, mTupO, mVar, mC, mU, mB, mNil, mCons, mF, mIsT, mAndT, mOrT, mNotT, mAnd, mOr, mNot, mIf, mChain, mPart, mNoPart, mSl, mCall, mIt, mRng, mComp, mYes, gdName, gdTup, gdCons, gdNil, wipeE, tupItems_tup, lstItems_lst, bl_bl, int_int, mHx_eq, mHlen_eq, mHcell_eq, sHput_eq, isH_hnd, hget1, hget2, hget3, hget4, hset1, hset2, hset3, hset4, eq_int, ne_int, lt_int, gt_int, le_int, ge_int, eq_bl, add_int, add_tup, add_lst, sub_int, neg_int, isN_hi, notN_hi, mul_int, div_int, mod_int, pow_int, abs_int, intC_int, len_tup, len_lst, tup_D, lst_D, rt_D, Bool.not_not, Bool.not_true, Bool.not_false, true_and, and_true, false_and, and_false, or_true, true_or, or_false, false_or, List.length_cons, List.length_nil, List.length_append, List.length_map, List.map_cons, List.map_nil, List.replicate_succ, List.replicate_zero, List.cons_append, List.nil_append, List.append_nil, List.set_cons_zero, List.set_cons_succ, List.getElem?_cons_zero, List.getElem?_cons_succ, Option.bind_some, Option.map_some, Option.bind_none, Option.map_none, OW_some, OW_bind, OW_map, OW_if, Bool.false_eq_true, if_true, if_false, ↓reduceIte, Nat.reduceAdd, Nat.reduceSub, Nat.zero_add, Nat.sub_self, Function.comp]; exact rfl
    | true =>
      rw [h3, Bool.true_and] at h1
      simp only [OW_eq (none_nin (VL r)), h1, mDef_eq, outD_nx, outD_rt, startE, sNil, sSeq, thenS_nx, thenS_rt, thenS_bk, thenS_ct, sAsg, sIf, sRet, sRetN, sDrop, sBrk, sCnt, sFor, sOwn, ownAt, sApp, sExt, sPut, sFrz, sPar, mIxO, mLenO, mTupO, mVar, mC, mU, mB, mNil, mCons, mF, mIsT, mAndT, mOrT, mNotT, mAnd, mOr, mNot, mIf, mChain, mPart, mNoPart, mSl, mCall, mIt, mRng, mComp, mYes, gdName, gdTup, gdCons, gdNil, wipeE, tupItems_tup, lstItems_lst, bl_bl, int_int, mHx_eq, mHlen_eq, mHcell_eq, sHput_eq, isH_hnd, hget1, hget2, hget3, hget4, hset1, hset2, hset3, hset4, eq_int, ne_int, lt_int, gt_int, le_int, ge_int, eq_bl, add_int, add_tup, add_lst, sub_int, neg_int, isN_hi, notN_hi, mul_int, div_int, mod_int, pow_int, abs_int, intC_int, len_tup, len_lst, tup_D, lst_D, rt_D, Bool.not_not, Bool.not_true, Bool.not_false, true_and, and_true, false_and, and_false, or_true, true_or, or_false, false_or, List.length_cons, List.length_nil, List.length_append, List.length_map, List.map_cons, List.map_nil, List.replicate_succ, List.replicate_zero, List.cons_append, List.nil_append, List.append_nil, List.set_cons_zero, List.set_cons_succ, List.getElem?_cons_zero, List.getElem?_cons_succ, Option.bind_some, Option.map_some, Option.bind_none, Option.map_none, OW_some, OW_bind, OW_map, OW_if, Bool.false_eq_true, if_true, if_false, ↓reduceIte, Nat.reduceAdd, Nat.reduceSub, Nat.zero_add, Nat.sub_self, Function.comp]
      exact rfl
theorem VT_ok {r : Str} {x : Int} (h : VT r = some x) : OkV x := by
  rcases V3_cases (VL r) VL_le with ⟨_, y, e, o, _⟩ | ⟨_, e⟩
  · unfold VT at h
    rw [e] at h
    cases h
    exact o
  · unfold VT at h
    rw [e] at h
    cases h
end K41

set_option Elab.async false
set_option linter.all false
set_option maxRecDepth 100000
set_option maxHeartbeats 4000000
namespace K41
open PySem
open L2
open Dl
open Txt
open TL
/-! the texts -/
def verS (v : List Nat) : Str := Txt.join ("." : Str) (v.map num)
def tripT (t : Trip) : Str := Txt.join (" " : Str) (t.w :: verS t.v :: t.fs)
theorem nums_sum {l : List Nat} (h : ∀ n ∈ l, n ≤ 1000000) : ((l.map num).map (·.length)).sum ≤ 7 * l.length := by
  have := sum_le (l := l.map num) (k := 7) fun x hx => by
    obtain ⟨n, hn, e⟩ := List.mem_map.mp hx
    rw [← e]
    exact (num_len (h n hn)).2
  rw [List.length_map] at this
  exact this
theorem version_text_is {v : List Nat} {s : Hand} (h : ∀ n ∈ v, n ≤ 1000000) (hl : v.length = 3) : f_version_text [.tup (v.map fun (n : Nat) => D.int ((n : Nat) : Int))] s = some (.str (verS v), s) := by
  have hs := nums_sum h
  have ec : compL (gdName 1) mYes c_version_text_0 [some (.dat (.tup (v.map fun (n : Nat) => D.int ((n : Nat) : Int)))), none] (v.map fun (n : Nat) => D.int ((n : Nat) : Int)) s = some (v.map fun n => D.str (num n), s) := by
    refine comp_map v fun n hn => ⟨_, rfl, ?_⟩
    rw [c_version_text_0_eq]
    refine eq_of_OW ?_
    simp only [mDef_eq, outD_nx, outD_rt, startE, sNil, sSeq, thenS_nx, thenS_rt, thenS_bk, thenS_ct, sAsg, sIf, sRet, sRetN, sDrop, sBrk, sCnt, sFor, sOwn, ownAt, sApp, sExt, sPut, sFrz, sPar, mIxO, mLenO, mTupO, mVar, mC, mU, mB, mNil, mCons, mF, mIsT, mAndT, mOrT, mNotT, mAnd, mOr, mNot, mIf, mChain, mPart, mNoPart, mSl, mCall, mIt, mRng, mComp, mYes, gdName, gdTup, gdCons, gdNil, wipeE, tupItems_tup, lstItems_lst, bl_bl, int_int, mHx_eq, mHlen_eq, mHcell_eq, sHput_eq, isH_hnd, hget1, hget2, hget3, hget4, hset1, hset2, hset3, hset4, eq_int, ne_int, lt_int, gt_int, le_int, ge_int, eq_bl, add_int, add_tup, add_lst, sub_int, neg_int, isN_hi, notN_hi, mul_int, div_int, mod_int, pow_int, abs_int, intC_int, len_tup, len_lst, tup_D, lst_D, rt_D, Bool.not_not, Bool.not_true, Bool.not_false, true_and, and_true, false_and, and_false, or_true, true_or, or_false, false_or, List.length_cons, List.length_nil, List.length_append, List.length_map, List.map_cons, List.map_nil, List.replicate_succ, List.replicate_zero, List.cons_append, List.nil_append, List.append_nil, List.set_cons_zero, List.set_cons_succ, List.getElem?_cons_zero, List.getElem?_cons_succ, Option.bind_some, Option.map_some, Option.bind_none, Option.map_none, OW_some, OW_bind, OW_map, OW_if, Bool.false_eq_true, if_true, if_false, ↓reduceIte, Nat.reduceAdd, Nat.reduceSub, Nat.zero_add, Nat.sub_self, Function.comp, OW_eq (str_num (h n hn))]
  have em : v.map (fun n => D.str (num n)) = (v.map num).map D.str := by rw [List.map_map]; rfl
  have ej := join_D (y := ("." : Str)) (l := v.map num) (by
    rw [List.length_map, dot_len]
    omega)
  refine eq_of_OW ?_
  unfold f_version_text
  simp only [mDef_eq, outD_nx, outD_rt, startE, sNil, sSeq, thenS_nx, thenS_rt, thenS_bk, thenS_ct, sAsg, sIf, sRet, sRetN, sDrop, sBrk, sCnt, sFor, sOwn, ownAt, sApp, sExt, sPut, sFrz, sPar, mIxO, mLenO, mTupO, mVar, mC, mU, mB, mNil, mCons, mF, mIsT, mAndT, mOrT, mNotT, mAnd, mOr, mNot, mIf, mChain, mPart, mNoPart, mSl, mCall, mIt, mRng, mComp, mYes, gdName, gdTup, gdCons, gdNil, wipeE, tupItems_tup, lstItems_lst, bl_bl, int_int, mHx_eq, mHlen_eq, mHcell_eq, sHput_eq, isH_hnd, hget1, hget2, hget3, hget4, hset1, hset2, hset3, hset4, eq_int, ne_int, lt_int, gt_int, le_int, ge_int, eq_bl, add_int, add_tup, add_lst, sub_int, neg_int, isN_hi, notN_hi, mul_int, div_int, mod_int, pow_int, abs_int, intC_int, len_tup, len_lst, tup_D, lst_D, rt_D, Bool.not_not, Bool.not_true, Bool.not_false, true_and, and_true, false_and, and_false, or_true, true_or, or_false, false_or, List.length_cons, List.length_nil, List.length_append, List.length_map, List.map_cons, List.map_nil, List.replicate_succ, List.replicate_zero, List.cons_append, List.nil_append, List.append_nil, List.set_cons_zero, List.set_cons_succ, List.getElem?_cons_zero, List.getElem?_cons_succ, Option.bind_some, Option.map_some, Option.bind_none, Option.map_none, OW_some, OW_bind, OW_map, OW_if, Bool.false_eq_true, if_true, if_false, ↓reduceIte, Nat.reduceAdd, Nat.reduceSub, Nat.zero_add, Nat.sub_self, Function.comp, OW_eq ec, em, OW_eq ej]
  rfl
theorem verS_len {v : List Nat} (h : ∀ n ∈ v, n ≤ 1000000) (hl : v.length = 3) : (verS v).length ≤ 24 := by
  have h1 := join_len ("." : Str) (v.map num)
  have h2 := nums_sum h
  rw [List.length_map, dot_len] at h1
  unfold verS
  omega
theorem sp_len : (" " : Str).length = 1 := by decide +kernel
theorem fs_sum {fs : List Str} (h : ∀ f ∈ fs, NameOk f) : (fs.map (·.length)).sum ≤ 12 * fs.length := sum_le fun f hf => (h f hf).2.1
theorem tripT_sum {t : Trip} (h : TripOk t) : ((t.w :: verS t.v :: t.fs).map (·.length)).sum + (t.w :: verS t.v :: t.fs).length * (" " : Str).length ≤ 200 := by
  obtain ⟨h1, h2, h3, h4, h5, h6⟩ := h
  have a := h1.2.1
  have b := verS_len h3 h2
  have c := fs_sum h6
  rw [List.map_cons, List.map_cons, List.sum_cons, List.sum_cons, List.length_cons, List.length_cons, sp_len]
  omega
theorem tripT_len {t : Trip} (h : TripOk t) : (tripT t).length ≤ 200 := Nat.le_trans (join_len _ _) (tripT_sum h)
theorem triple_text_is {t : Trip} {s : Hand} (h : TripOk t) : f_triple_text [t.D] s = some (.str (tripT t), s) := by
  have hs : ∀ n : Nat, n ≤ 40 → ((n ≤ sizeLine) = True) := fun n h => eq_true (by rw [sizeLine_eq]; omega)
  have hsum := tripT_sum h
  obtain ⟨h1, h2, h3, h4, h5, h6⟩ := h
  have i0 : ixD t.D (.int 0) = some (.str t.w) := ix_0
  have i1 : ixD t.D (.int 1) = some (.tup (t.v.map fun (n : Nat) => D.int ((n : Nat) : Int))) := ix_1
  have i2 : ixD t.D (.int 2) = some (.tup (t.fs.map D.str)) := ix_nat (n := 2)
  have hz : (0 + 1 + 1 + t.fs.length ≤ sizeLine) = True := eq_true (by rw [sizeLine_eq]; omega)
  have ea : addD (.tup [.str t.w, .str (verS t.v)]) (.tup (t.fs.map D.str)) = some (.tup ((t.w :: verS t.v :: t.fs).map D.str)) := by
    rw [add_tup, if_pos (by simp only [List.length_cons, List.length_nil, List.length_map]; rw [sizeLine_eq]; omega)]
    rfl
  have ej : joinD (.str " ") (.tup ((t.w :: verS t.v :: t.fs).map D.str)) = some (.str (tripT t)) := by
    show ((strsOf ((t.w :: verS t.v :: t.fs).map D.str)).bind fun ys => joinS (" " : Str) ys) = _
    rw [strs_map, Option.bind_some]
    unfold joinS
    rw [if_pos (by omega)]
    rfl
  refine eq_of_OW ?_
  unfold f_triple_text
  simp only [mDef_eq, startE, sRet, mB, mF, mCons, mNil, mC, mVar, mCall, outD_rt, tup_D, Option.bind_some, Option.map_some, OW_some, OW_bind, OW_map, List.replicate_succ, List.replicate_zero, List.map_cons, List.map_nil, List.cons_append, List.nil_append, List.append_nil, List.getElem?_cons_zero, List.getElem?_cons_succ, List.length_cons, List.length_nil, Nat.sub_self, OW_eq i0, OW_eq i1, OW_eq i2, OW_eq (version_text_is (s := s) h3 h2), OW_if, hs 2 (by omega), if_true, OW_eq ea]
  have ej' : joinD (.str " ") (.tup (D.str t.w :: D.str (verS t.v) :: t.fs.map D.str)) = some (.str (tripT t)) := ej
  rw [OW_eq ej']
end K41

set_option Elab.async false
set_option linter.all false
set_option maxRecDepth 100000
set_option maxHeartbeats 4000000
namespace K41
open PySem
open L2
open Dl
open Txt
open TL
/-! the check -/
/-- signs times their places, from k on -/
def wts : Int → List Nat → List Int
  | _, [] => []
  | k, c :: l => (c : Int) * k :: wts (k + 1) l
def chkN (l : List Nat) : Int := (wts 1 l).sum % 99991
theorem ord_one (c : Nat) : ordTD [.str ⟨#[c]⟩] = some (.int (c : Int)) := rfl
theorem intsOf_map : ∀ l : List Int, intsOf (l.map D.int) = some l
  | [] => rfl
  | i :: l => by
    show (intsOf (l.map D.int)).map (i :: ·) = _
    rw [intsOf_map l]
    rfl
theorem comp_check {A : Option Slot} {s : Hand} : ∀ (l : List Nat) (k : Nat), k + l.length ≤ 1000000 →
    compL (gdTup 2 (gdCons (gdName 1) (gdCons (gdName 2) gdNil))) mYes c_check_of_0 [A, none, none] (enumD (k : Int) (l.map fun c => D.str ⟨#[c]⟩)) s = some ((wts (k : Int) l).map D.int, s)
  | [], k, _ => rfl
  | c :: l, k, hz => by
    rw [List.length_cons] at hz
    have ih := comp_check (A := A) (s := s) l (k + 1) (by omega)
    rw [show (((k + 1 : Nat)) : Int) = (k : Int) + 1 by omega] at ih
    rw [List.map_cons]
    unfold enumD wts
    refine eq_of_OW ?_
    unfold compL
    simp only [mDef_eq, outD_nx, outD_rt, startE, sNil, sSeq, thenS_nx, thenS_rt, thenS_bk, thenS_ct, sAsg, sIf, sRet, sRetN, sDrop, sBrk, sCnt, sFor, sOwn, ownAt, sApp, sExt, sPut, sFrz, sPar, mIxO, mLenO, mTupO, mVar, mC, mU, mB, mNil, mCons, mF, mIsT, mAndT, mOrT, mNotT, mAnd, mOr, mNot, mIf, mChain, mPart, mNoPart, mSl, mCall, mIt, mRng, mComp, mYes, gdName, gdTup, gdCons, gdNil, wipeE, tupItems_tup, lstItems_lst, bl_bl, int_int, mHx_eq, mHlen_eq, mHcell_eq, sHput_eq, isH_hnd, hget1, hget2, hget3, hget4, hset1, hset2, hset3, hset4, eq_int, ne_int, lt_int, gt_int, le_int, ge_int, eq_bl, add_int, add_tup, add_lst, sub_int, neg_int, isN_hi, notN_hi, mul_int, div_int, mod_int, pow_int, abs_int, intC_int, len_tup, len_lst, tup_D, lst_D, rt_D, Bool.not_not, Bool.not_true, Bool.not_false, true_and, and_true, false_and, and_false, or_true, true_or, or_false, false_or, List.length_cons, List.length_nil, List.length_append, List.length_map, List.map_cons, List.map_nil, List.replicate_succ, List.replicate_zero, List.cons_append, List.nil_append, List.append_nil, List.set_cons_zero, List.set_cons_succ, List.getElem?_cons_zero, List.getElem?_cons_succ, Option.bind_some, Option.map_some, Option.bind_none, Option.map_none, OW_some, OW_bind, OW_map, OW_if, Bool.false_eq_true, if_true, if_false, ↓reduceIte, Nat.reduceAdd, Nat.reduceSub, Nat.zero_add, Nat.sub_self, Function.comp, c_check_of_0_eq, OW_eq (ord_one c), mulI_r (i := (c : Int)) (j := (k : Int)) (by omega), OW_eq ih]
theorem check_is {x : Str} {s : Hand} (h : x.length ≤ 100000) : f_check_of [.str x] s = some (.int (chkN (tl x)), s) := by
  have hx : x.length ≤ sizeLine := by rw [sizeLine_eq]; omega
  have ei : enum1Items [.str x, .int 1] = some (enumD 1 ((tl x).map fun c => D.str ⟨#[c]⟩)) := if_pos hx
  have ec := comp_check (A := some (.dat (.str x))) (s := s) (tl x) 1 (by rw [tl_len]; omega)
  have es : sumTD [.lst ((wts 1 (tl x)).map D.int)] = some (.int (wts 1 (tl x)).sum) := by
    show (intsOf ((wts 1 (tl x)).map D.int)).map _ = _
    rw [intsOf_map]
    rfl
  have ec' : compL (gdTup 2 (gdCons (gdName 1) (gdCons (gdName 2) gdNil))) mYes c_check_of_0 [some (.dat (.str x)), none, none] (enumD 1 ((tl x).map fun c => D.str ⟨#[c]⟩)) s = some ((wts 1 (tl x)).map D.int, s) := ec
  refine eq_of_OW ?_
  unfold f_check_of
  simp only [mIt2, mDef_eq, outD_nx, outD_rt, startE, sNil, sSeq, thenS_nx, thenS_rt, thenS_bk, thenS_ct, sAsg, sIf, sRet, sRetN, sDrop, sBrk, sCnt, sFor, sOwn, ownAt, sApp, sExt, sPut, sFrz, sPar, mIxO, mLenO, mTupO, mVar, mC, mU, mB, mNil, mCons, mF, mIsT, mAndT, mOrT, mNotT, mAnd, mOr, mNot, mIf, mChain, mPart, mNoPart, mSl, mCall, mIt, mRng, mComp, mYes, gdName, gdTup, gdCons, gdNil, wipeE, tupItems_tup, lstItems_lst, bl_bl, int_int, mHx_eq, mHlen_eq, mHcell_eq, sHput_eq, isH_hnd, hget1, hget2, hget3, hget4, hset1, hset2, hset3, hset4, eq_int, ne_int, lt_int, gt_int, le_int, ge_int, eq_bl, add_int, add_tup, add_lst, sub_int, neg_int, isN_hi, notN_hi, mul_int, div_int, mod_int, pow_int, abs_int, intC_int, len_tup, len_lst, tup_D, lst_D, rt_D, Bool.not_not, Bool.not_true, Bool.not_false, true_and, and_true, false_and, and_false, or_true, true_or, or_false, false_or, List.length_cons, List.length_nil, List.length_append, List.length_map, List.map_cons, List.map_nil, List.replicate_succ, List.replicate_zero, List.cons_append, List.nil_append, List.append_nil, List.set_cons_zero, List.set_cons_succ, List.getElem?_cons_zero, List.getElem?_cons_succ, Option.bind_some, Option.map_some, Option.bind_none, Option.map_none, OW_some, OW_bind, OW_map, OW_if, Bool.false_eq_true, if_true, if_false, ↓reduceIte, Nat.reduceAdd, Nat.reduceSub, Nat.zero_add, Nat.sub_self, Function.comp, OW_eq ei, OW_eq ec', OW_eq es, modI_ok (i := (wts 1 (tl x)).sum) (j := 99991) (by decide)]
  rfl
end K41

set_option Elab.async false
set_option linter.all false
set_option maxRecDepth 100000
set_option maxHeartbeats 4000000
namespace K41
open PySem
open L2
open Dl
open Txt
open TL
def sumN (l : List Nat) : Int := (l.map fun (c : Nat) => (c : Int)).sum
theorem wts_up : ∀ (l : List Nat) (k : Int), (wts (k + 1) l).sum = (wts k l).sum + sumN l
  | [], _ => rfl
  | c :: l, k => by
    have := wts_up l (k + 1)
    show ((c : Int) * (k + 1) + (wts (k + 1 + 1) l).sum) = ((c : Int) * k + (wts (k + 1) l).sum) + ((c : Int) + sumN l)
    rw [this, Int.mul_add]
    omega
/-- the law's own: tails and their total -/
def tails : List Nat → Int × Int → Int × Int
  | [], q => q
  | c :: l, q => tails l (q.1 + (c : Int), q.2 + (q.1 + (c : Int)))
theorem tails_app : ∀ (a b : List Nat) (q : Int × Int), tails (a ++ b) q = tails b (tails a q)
  | [], _, _ => rfl
  | c :: a, b, q => tails_app a b _
theorem tails_rev : ∀ l : List Nat, tails l.reverse (0, 0) = (sumN l, (wts 1 l).sum)
  | [] => rfl
  | c :: l => by
    have hw := wts_up l 1
    rw [List.reverse_cons, tails_app, tails_rev l]
    show (sumN l + (c : Int), (wts 1 l).sum + (sumN l + (c : Int))) = ((c : Int) + sumN l, (c : Int) * 1 + (wts (1 + 1) l).sum)
    rw [hw, Int.mul_one, Int.add_comm (sumN l) (c : Int)]
    congr 1
    omega
theorem tails_loop {A : Option Slot} {s : Hand} : ∀ (l : List Nat) (q : Int × Int) (e1 : Option Slot),
    OW (loopS (gdName 1) b__law_check_0 (l.map fun c => D.str ⟨#[c]⟩) [A, e1, some (.dat (.int q.1)), some (.dat (.int q.2))] s)
      fun o => ∃ e1, o = .nx [A, e1, some (.dat (.int (tails l q).1)), some (.dat (.int (tails l q).2))] s
  | [], q, e1 => by
    show OW (some _) _
    rw [OW_some]
    exact ⟨e1, rfl⟩
  | c :: l, q, e1 => by
    rw [List.map_cons]
    unfold loopS
    simp only [mDef_eq, outD_nx, outD_rt, startE, sNil, sSeq, thenS_nx, thenS_rt, thenS_bk, thenS_ct, sAsg, sIf, sRet, sRetN, sDrop, sBrk, sCnt, sFor, sOwn, ownAt, sApp, sExt, sPut, sFrz, sPar, mIxO, mLenO, mTupO, mVar, mC, mU, mB, mNil, mCons, mF, mIsT, mAndT, mOrT, mNotT, mAnd, mOr, mNot, mIf, mChain, mPart, mNoPart, mSl, mCall, mIt, mRng, mComp, mYes, gdName, gdTup, gdCons, gdNil, wipeE, tupItems_tup, lstItems_lst, bl_bl, int_int, mHx_eq, mHlen_eq, mHcell_eq, sHput_eq, isH_hnd, hget1, hget2, hget3, hget4, hset1, hset2, hset3, hset4, eq_int, ne_int, lt_int, gt_int, le_int, ge_int, eq_bl, add_int, add_tup, add_lst, sub_int, neg_int, isN_hi, notN_hi, mul_int, div_int, mod_int, pow_int, abs_int, intC_int, len_tup, len_lst, tup_D, lst_D, rt_D, Bool.not_not, Bool.not_true, Bool.not_false, true_and, and_true, false_and, and_false, or_true, true_or, or_false, false_or, List.length_cons, List.length_nil, List.length_append, List.length_map, List.map_cons, List.map_nil, List.replicate_succ, List.replicate_zero, List.cons_append, List.nil_append, List.append_nil, List.set_cons_zero, List.set_cons_succ, List.getElem?_cons_zero, List.getElem?_cons_succ, Option.bind_some, Option.map_some, Option.bind_none, Option.map_none, OW_some, OW_bind, OW_map, OW_if, Bool.false_eq_true, if_true, if_false, ↓reduceIte, Nat.reduceAdd, Nat.reduceSub, Nat.zero_add, Nat.sub_self, Function.comp, b__law_check_0_eq, OW_eq (ord_one c)]
    exact tails_loop l (q.1 + (c : Int), q.2 + (q.1 + (c : Int))) _
theorem law_check_is {x : Str} {s : Hand} (h : x.length ≤ 100000) : f__law_check [.str x] s = some (.int (chkN (tl x)), s) := by
  have hx : x.length ≤ sizeLine := by rw [sizeLine_eq]; omega
  have hs : ∀ n : Nat, n ≤ 40 → ((n ≤ sizeLine) = True) := fun n h => eq_true (by rw [sizeLine_eq]; omega)
  have er : revS (.str x) = some (.str (revStr x)) := if_pos hx
  have hrl : (revStr x).length ≤ sizeLine := by
    show (x.cps.toList.reverse.toArray).size ≤ sizeLine
    rw [List.size_toArray, List.length_reverse]
    have : x.cps.toList.length = x.length := tl_len x
    omega
  have ei : strItems (.str (revStr x)) = some ((tl x).reverse.map fun c => D.str ⟨#[c]⟩) := by
    rw [items_str hrl]
    rfl
  have hl := tails_loop (A := some (.dat (.str x))) (s := s) (tl x).reverse (0, 0) none
  rw [tails_rev] at hl
  have g0 : gdTup 2 (gdCons (gdName 2) (gdCons (gdName 3) gdNil)) (.tup [.int 0, .int 0]) [some (.dat (.str x)), none, none, none] = some [some (.dat (.str x)), none, some (.dat (.int 0)), some (.dat (.int 0))] := rfl
  refine eq_of_OW ?_
  unfold f__law_check
  simp only [mDef_eq, outD_nx, outD_rt, startE, sNil, sSeq, thenS_nx, thenS_rt, thenS_bk, thenS_ct, sAsg, sIf, sRet, sRetN, sDrop, sBrk, sCnt, sFor, sOwn, ownAt, sApp, sExt, sPut, sFrz, sPar, mIxO, mLenO, mTupO, mVar, mC, mU, mB, mNil, mCons, mF, mIsT, mAndT, mOrT, mNotT, mAnd, mOr, mNot, mIf, mChain, mPart, mNoPart, mSl, mCall, mIt, mRng, mComp, mYes, gdName, gdTup, gdCons, gdNil, wipeE, tupItems_tup, lstItems_lst, bl_bl, int_int, mHx_eq, mHlen_eq, mHcell_eq, sHput_eq, isH_hnd, hget1, hget2, hget3, hget4, hset1, hset2, hset3, hset4, eq_int, ne_int, lt_int, gt_int, le_int, ge_int, eq_bl, add_int, add_tup, add_lst, sub_int, neg_int, isN_hi, notN_hi, mul_int, div_int, mod_int, pow_int, abs_int, intC_int, len_tup, len_lst, tup_D, lst_D, rt_D, Bool.not_not, Bool.not_true, Bool.not_false, true_and, and_true, false_and, and_false, or_true, true_or, or_false, false_or, List.length_cons, List.length_nil, List.length_append, List.length_map, List.map_cons, List.map_nil, List.replicate_succ, List.replicate_zero, List.cons_append, List.nil_append, List.append_nil, List.set_cons_zero, List.set_cons_succ, List.getElem?_cons_zero, List.getElem?_cons_succ, Option.bind_some, Option.map_some, Option.bind_none, Option.map_none, OW_some, OW_bind, OW_map, OW_if, Bool.false_eq_true, if_true, if_false, ↓reduceIte, Nat.reduceAdd, Nat.reduceSub, Nat.zero_add, Nat.sub_self, Function.comp, hs 2 (by omega), OW_eq er, OW_eq ei]
  refine OW.mono hl fun o ⟨e1, e⟩ => ?_
  subst e
  simp only [mDef_eq, outD_nx, outD_rt, startE, sNil, sSeq, thenS_nx, thenS_rt, thenS_bk, thenS_ct, sAsg, sIf, sRet, sRetN, sDrop, sBrk, sCnt, sFor, sOwn, ownAt, sApp, sExt, sPut, sFrz, sPar, mIxO, mLenO, mTupO, mVar, mC, mU, mB, mNil, mCons, mF, mIsT, mAndT, mOrT, mNotT, mAnd, mOr, mNot, mIf, mChain, mPart, mNoPart, mSl, mCall, mIt, mRng, mComp, mYes, gdName, gdTup, gdCons, gdNil, wipeE, tupItems_tup, lstItems_lst, bl_bl, int_int, mHx_eq, mHlen_eq, mHcell_eq, sHput_eq, isH_hnd, hget1, hget2, hget3, hget4, hset1, hset2, hset3, hset4, eq_int, ne_int, lt_int, gt_int, le_int, ge_int, eq_bl, add_int, add_tup, add_lst, sub_int, neg_int, isN_hi, notN_hi, mul_int, div_int, mod_int, pow_int, abs_int, intC_int, len_tup, len_lst, tup_D, lst_D, rt_D, Bool.not_not, Bool.not_true, Bool.not_false, true_and, and_true, false_and, and_false, or_true, true_or, or_false, false_or, List.length_cons, List.length_nil, List.length_append, List.length_map, List.map_cons, List.map_nil, List.replicate_succ, List.replicate_zero, List.cons_append, List.nil_append, List.append_nil, List.set_cons_zero, List.set_cons_succ, List.getElem?_cons_zero, List.getElem?_cons_succ, Option.bind_some, Option.map_some, Option.bind_none, Option.map_none, OW_some, OW_bind, OW_map, OW_if, Bool.false_eq_true, if_true, if_false, ↓reduceIte, Nat.reduceAdd, Nat.reduceSub, Nat.zero_add, Nat.sub_self, Function.comp, modI_ok (i := (wts 1 (tl x)).sum) (j := 99991) (by decide)]
  rfl
end K41

set_option Elab.async false
set_option linter.all false
set_option maxRecDepth 100000
set_option maxHeartbeats 4000000
namespace K41
open PySem
open L2
open Dl
open Txt
open TL
theorem app_tl (a b : Str) : tl (a ++ b) = tl a ++ tl b := tl_append a b
theorem app_len (a b : Str) : (a ++ b).length = a.length + b.length := by
  rw [← tl_len, app_tl, List.length_append, tl_len, tl_len]
theorem add_str {a b : Str} (h : a.length + b.length ≤ 100000) : addD (.str a) (.str b) = some (.str (a ++ b)) := by
  show (if a.length + b.length ≤ sizeLine then some (D.str (a ++ b)) else none) = _
  rw [if_pos (by rw [sizeLine_eq]; omega)]
theorem lf_len : ("\n" : Str).length = 1 := by decide +kernel
theorem ck_len : ("check " : Str).length = 6 := by decide +kernel
def lineT (t : Trip) : Str := tripT t ++ "\n"
def bodyT (l : List Trip) : Str := Txt.join ("" : Str) (l.map lineT)
def chkT (b : Str) : Nat := (chkN (tl b)).toNat
def lockT (l : List Trip) : Str := bodyT l ++ "check " ++ num (chkT (bodyT l)) ++ "\n"
theorem chk_lt (b : Str) : chkT b < 99991 ∧ chkN (tl b) = ((chkT b : Nat) : Int) := by
  have h1 : 0 ≤ chkN (tl b) := Int.emod_nonneg _ (by decide)
  have h2 : chkN (tl b) < 99991 := Int.emod_lt_of_pos _ (by decide)
  unfold chkT
  omega
theorem lineT_len {t : Trip} (h : TripOk t) : (lineT t).length ≤ 201 := by
  have := tripT_len h
  unfold lineT
  rw [app_len, lf_len]
  omega
theorem lines_sum {l : List Trip} (h : ∀ t ∈ l, TripOk t) : ((l.map lineT).map (·.length)).sum ≤ 201 * l.length := by
  have := sum_le (l := l.map lineT) (k := 201) fun x hx => by
    obtain ⟨t, ht, e⟩ := List.mem_map.mp hx
    rw [← e]
    exact lineT_len (h t ht)
  rw [List.length_map] at this
  exact this
theorem bodyT_len {l : List Trip} (h : InstOk l) : (bodyT l).length ≤ 12060 := by
  have h1 := join_len ("" : Str) (l.map lineT)
  have h2 := lines_sum h.2.2
  have h3 := h.2.1
  rw [List.length_map, nil_len] at h1
  unfold bodyT
  omega
theorem lock_text_is {l : List Trip} {s : Hand} (h : InstOk l) : f_lock_text [instD l] s = some (.str (lockT l), s) := by
  have hb := bodyT_len h
  have hs := lines_sum h.2.2
  have hl := h.2.1
  obtain ⟨c1, c2⟩ := chk_lt (bodyT l)
  have ec : compL (gdName 2) mYes c_lock_text_0 [some (.dat (instD l)), none, none] (l.map Trip.D) s = some (l.map fun t => D.str (lineT t), s) := by
    refine comp_map l fun t ht => ⟨_, rfl, ?_⟩
    rw [c_lock_text_0_eq]
    refine eq_of_OW ?_
    have hok := h.2.2 t ht
    have := tripT_len hok
    simp only [mDef_eq, outD_nx, outD_rt, startE, sNil, sSeq, thenS_nx, thenS_rt, thenS_bk, thenS_ct, sAsg, sIf, sRet, sRetN, sDrop, sBrk, sCnt, sFor, sOwn, ownAt, sApp, sExt, sPut, sFrz, sPar, mIxO, mLenO, mTupO, mVar, mC, mU, mB, mNil, mCons, mF, mIsT, mAndT, mOrT, mNotT, mAnd, mOr, mNot, mIf, mChain, mPart, mNoPart, mSl, mCall, mIt, mRng, mComp, mYes, gdName, gdTup, gdCons, gdNil, wipeE, tupItems_tup, lstItems_lst, bl_bl, int_int, mHx_eq, mHlen_eq, mHcell_eq, sHput_eq, isH_hnd, hget1, hget2, hget3, hget4, hset1, hset2, hset3, hset4, eq_int, ne_int, lt_int, gt_int, le_int, ge_int, eq_bl, add_int, add_tup, add_lst, sub_int, neg_int, isN_hi, notN_hi, mul_int, div_int, mod_int, pow_int, abs_int, intC_int, len_tup, len_lst, tup_D, lst_D, rt_D, Bool.not_not, Bool.not_true, Bool.not_false, true_and, and_true, false_and, and_false, or_true, true_or, or_false, false_or, List.length_cons, List.length_nil, List.length_append, List.length_map, List.map_cons, List.map_nil, List.replicate_succ, List.replicate_zero, List.cons_append, List.nil_append, List.append_nil, List.set_cons_zero, List.set_cons_succ, List.getElem?_cons_zero, List.getElem?_cons_succ, Option.bind_some, Option.map_some, Option.bind_none, Option.map_none, OW_some, OW_bind, OW_map, OW_if, Bool.false_eq_true, if_true, if_false, ↓reduceIte, Nat.reduceAdd, Nat.reduceSub, Nat.zero_add, Nat.sub_self, Function.comp, triple_text_is (s := s) hok, OW_eq (add_str (a := tripT t) (b := ("\n" : Str)) (by rw [lf_len]; omega))]
    rfl
  have em : l.map (fun t => D.str (lineT t)) = (l.map lineT).map D.str := by rw [List.map_map]; rfl
  have ej := join_D (y := ("" : Str)) (l := l.map lineT) (by rw [List.length_map, nil_len]; omega)
  have ei : tupItems (instD l) = some (l.map Trip.D) := rfl
  have hn := (num_len (n := chkT (bodyT l)) (by omega)).2
  have hsn := str_num (n := chkT (bodyT l)) (by omega)
  have hbd : Txt.join ("" : Str) (l.map lineT) = bodyT l := rfl
  have a1 := add_str (a := bodyT l) (b := ("check " : Str)) (by rw [ck_len]; omega)
  have a2 := add_str (a := bodyT l ++ "check ") (b := num (chkT (bodyT l))) (by rw [app_len, ck_len]; omega)
  have a3 := add_str (a := bodyT l ++ "check " ++ num (chkT (bodyT l))) (b := ("\n" : Str)) (by rw [app_len, app_len, ck_len, lf_len]; omega)
  refine eq_of_OW ?_
  unfold f_lock_text
  simp only [mDef_eq, outD_nx, outD_rt, startE, sNil, sSeq, thenS_nx, thenS_rt, thenS_bk, thenS_ct, sAsg, sIf, sRet, sRetN, sDrop, sBrk, sCnt, sFor, sOwn, ownAt, sApp, sExt, sPut, sFrz, sPar, mIxO, mLenO, mTupO, mVar, mC, mU, mB, mNil, mCons, mF, mIsT, mAndT, mOrT, mNotT, mAnd, mOr, mNot, mIf, mChain, mPart, mNoPart, mSl, mCall, mIt, mRng, mComp, mYes, gdName, gdTup, gdCons, gdNil, wipeE, tupItems_tup, lstItems_lst, bl_bl, int_int, mHx_eq, mHlen_eq, mHcell_eq, sHput_eq, isH_hnd, hget1, hget2, hget3, hget4, hset1, hset2, hset3, hset4, eq_int, ne_int, lt_int, gt_int, le_int, ge_int, eq_bl, add_int, add_tup, add_lst, sub_int, neg_int, isN_hi, notN_hi, mul_int, div_int, mod_int, pow_int, abs_int, intC_int, len_tup, len_lst, tup_D, lst_D, rt_D, Bool.not_not, Bool.not_true, Bool.not_false, true_and, and_true, false_and, and_false, or_true, true_or, or_false, false_or, List.length_cons, List.length_nil, List.length_append, List.length_map, List.map_cons, List.map_nil, List.replicate_succ, List.replicate_zero, List.cons_append, List.nil_append, List.append_nil, List.set_cons_zero, List.set_cons_succ, List.getElem?_cons_zero, List.getElem?_cons_succ, Option.bind_some, Option.map_some, Option.bind_none, Option.map_none, OW_some, OW_bind, OW_map, OW_if, Bool.false_eq_true, if_true, if_false, ↓reduceIte, Nat.reduceAdd, Nat.reduceSub, Nat.zero_add, Nat.sub_self, Function.comp, OW_eq ei, OW_eq ec, em, OW_eq ej, hbd, OW_eq a1, check_is (x := bodyT l) (s := s) (by omega), c2, OW_eq hsn, OW_eq a2, OW_eq a3]
  rfl
end K41

set_option Elab.async false
set_option linter.all false
set_option maxRecDepth 100000
set_option maxHeartbeats 4000000
namespace K41
open PySem
open L2
open Dl
open Txt
open TL
theorem sp_tl : tl (" " : Str) = [32] := by decide +kernel
theorem joinL_sp : ∀ (p : List Nat) (r : List (List Nat)), joinL [32] (p :: r) = p ++ (r.map fun x => 32 :: x).flatten
  | p, [] => by
    show p = p ++ []
    rw [List.append_nil]
  | p, q :: r => by
    show p ++ ([32] ++ joinL [32] (q :: r)) = _
    rw [joinL_sp q r]
    rfl
def spF (f : Str) : Str := (" " : Str) ++ f
theorem tl_spF (f : Str) : tl (spF f) = 32 :: tl f := by
  unfold spF
  rw [app_tl, sp_tl]
  rfl
/-- the law's line is the program's -/
theorem line_eq {t : Trip} {a b c : Nat} (hv : t.v = [a, b, c]) : t.w ++ " " ++ num a ++ "." ++ num b ++ "." ++ num c ++ Txt.join ("" : Str) (t.fs.map spF) ++ "\n" = lineT t := by
  refine tl_inj ?_
  have hr : tl (lineT t) = tl t.w ++ (32 :: (tl (num a) ++ ([46] ++ (tl (num b) ++ ([46] ++ tl (num c))))) ++ ((t.fs.map tl).map fun x => 32 :: x).flatten) ++ tl ("\n" : Str) := by
    unfold lineT tripT verS
    rw [app_tl, join_eq, tl_join, sp_tl, List.map_cons, List.map_cons, joinL_sp, List.map_cons, List.flatten_cons, join_eq, tl_join, dot_tl, hv]
    rfl
  have hj : tl (Txt.join ("" : Str) (t.fs.map spF)) = ((t.fs.map tl).map fun x => 32 :: x).flatten := by
    rw [join_eq, tl_join, nil_tl, joinL_nil, List.map_map, List.map_map]
    congr 1
    exact List.map_congr_left fun f _ => tl_spF f
  rw [hr, app_tl, app_tl, app_tl, app_tl, app_tl, app_tl, app_tl, app_tl, hj, sp_tl, dot_tl]
  simp only [List.append_assoc, List.cons_append, List.nil_append]
theorem three_of {v : List Nat} (h : v.length = 3) : ∃ a b c, v = [a, b, c] := by
  match v, h with
  | [a, b, c], _ => exact ⟨a, b, c, rfl⟩
theorem law_line_is {t : Trip} {s : Hand} (h : TripOk t) : f__law_line [t.D] s = some (.str (lineT t), s) := by
  have h0 := h
  obtain ⟨h1, h2, h3, h4, h5, h6⟩ := h
  obtain ⟨a, b, c, hv⟩ := three_of h2
  have n1 : a ≤ 1000000 := h3 a (by rw [hv]; simp)
  have n2 : b ≤ 1000000 := h3 b (by rw [hv]; simp)
  have n3 : c ≤ 1000000 := h3 c (by rw [hv]; simp)
  have la := (num_len n1).2
  have lb := (num_len n2).2
  have lc := (num_len n3).2
  have lw := h1.2.1
  have ed : t.D = .tup [.str t.w, .tup [.int (a : Int), .int (b : Int), .int (c : Int)], .tup (t.fs.map D.str)] := by
    unfold Trip.D
    rw [hv]
    rfl
  have i0 : ixD (.tup [.int (a : Int), .int (b : Int), .int (c : Int)]) (.int 0) = some (.int (a : Int)) := ix_0
  have i1 : ixD (.tup [.int (a : Int), .int (b : Int), .int (c : Int)]) (.int 1) = some (.int (b : Int)) := ix_1
  have i2 : ixD (.tup [.int (a : Int), .int (b : Int), .int (c : Int)]) (.int 2) = some (.int (c : Int)) := ix_nat (n := 2)
  have e2 : gdTup 3 (gdCons (gdName 2) (gdCons (gdName 3) (gdCons (gdName 4) gdNil))) t.D [some (.dat t.D), none, none, none, none, none] = some [some (.dat t.D), none, some (.dat (.str t.w)), some (.dat (.tup [.int (a : Int), .int (b : Int), .int (c : Int)])), some (.dat (.tup (t.fs.map D.str))), none] := by
    rw [ed]
    rfl
  have hsp : ∀ f ∈ t.fs, f.length ≤ 12 := fun f hf => (h6 f hf).2.1
  have ec : ∀ (A B C E : Option Slot), compL (gdName 5) mYes c__law_line_0 [A, B, C, E, some (.dat (.tup (t.fs.map D.str))), none] (t.fs.map D.str) s = some (t.fs.map fun f => D.str (spF f), s) := fun A B C E => by
    refine comp_map t.fs fun f hf => ⟨_, rfl, ?_⟩
    rw [c__law_line_0_eq]
    refine eq_of_OW ?_
    have := hsp f hf
    simp only [mDef_eq, outD_nx, outD_rt, startE, sNil, sSeq, thenS_nx, thenS_rt, thenS_bk, thenS_ct, sAsg, sIf, sRet, sRetN, sDrop, sBrk, sCnt, sFor, sOwn, ownAt, sApp, sExt, sPut, sFrz, sPar, mIxO, mLenO, mTupO, mVar, mC, mU, mB, mNil, mCons, mF, mIsT, mAndT, mOrT, mNotT, mAnd, mOr, mNot, mIf, mChain, mPart, mNoPart, mSl, mCall, mIt, mRng, mComp, mYes, gdName, gdTup, gdCons, gdNil, wipeE, tupItems_tup, lstItems_lst, bl_bl, int_int, mHx_eq, mHlen_eq, mHcell_eq, sHput_eq, isH_hnd, hget1, hget2, hget3, hget4, hset1, hset2, hset3, hset4, eq_int, ne_int, lt_int, gt_int, le_int, ge_int, eq_bl, add_int, add_tup, add_lst, sub_int, neg_int, isN_hi, notN_hi, mul_int, div_int, mod_int, pow_int, abs_int, intC_int, len_tup, len_lst, tup_D, lst_D, rt_D, Bool.not_not, Bool.not_true, Bool.not_false, true_and, and_true, false_and, and_false, or_true, true_or, or_false, false_or, List.length_cons, List.length_nil, List.length_append, List.length_map, List.map_cons, List.map_nil, List.replicate_succ, List.replicate_zero, List.cons_append, List.nil_append, List.append_nil, List.set_cons_zero, List.set_cons_succ, List.getElem?_cons_zero, List.getElem?_cons_succ, Option.bind_some, Option.map_some, Option.bind_none, Option.map_none, OW_some, OW_bind, OW_map, OW_if, Bool.false_eq_true, if_true, if_false, ↓reduceIte, Nat.reduceAdd, Nat.reduceSub, Nat.zero_add, Nat.sub_self, Function.comp, OW_eq (add_str (a := (" " : Str)) (b := f) (by rw [sp_len]; omega))]
    rfl
  have em : t.fs.map (fun f => D.str (spF f)) = (t.fs.map spF).map D.str := by rw [List.map_map]; rfl
  have hsum := sum_le (l := t.fs.map spF) (k := 13) fun x hx => by
    obtain ⟨f, hf, e⟩ := List.mem_map.mp hx
    rw [← e]
    have := hsp f hf
    unfold spF
    rw [app_len, sp_len]
    omega
  rw [List.length_map] at hsum
  have ej := join_D (y := ("" : Str)) (l := t.fs.map spF) (by rw [List.length_map, nil_len]; omega)
  have hjl := join_len ("" : Str) (t.fs.map spF)
  rw [List.length_map, nil_len] at hjl
  have ad : ∀ x y : Str, x.length + y.length ≤ 100000 → addD (.str x) (.str y) = some (.str (x ++ y)) := fun x y hxy => add_str hxy
  refine eq_of_OW ?_
  unfold f__law_line
  rw [mDef_eq, OW_bind]
  have en : startE 6 [t.D] = [some (.dat t.D), none, none, none, none, none] := rfl
  rw [en]
  unfold sSeq sAsg
  rw [OW_bind, OW_bind]
  have v0 : (mVar 0 : ME Hand) [some (.dat t.D), none, none, none, none, none] s = some (t.D, s) := rfl
  rw [OW_eq v0, OW_map, OW_eq e2, thenS_nx]
  simp only [mDef_eq, outD_nx, outD_rt, startE, sNil, sSeq, thenS_nx, thenS_rt, thenS_bk, thenS_ct, sAsg, sIf, sRet, sRetN, sDrop, sBrk, sCnt, sFor, sOwn, ownAt, sApp, sExt, sPut, sFrz, sPar, mIxO, mLenO, mTupO, mVar, mC, mU, mB, mNil, mCons, mF, mIsT, mAndT, mOrT, mNotT, mAnd, mOr, mNot, mIf, mChain, mPart, mNoPart, mSl, mCall, mIt, mRng, mComp, mYes, gdName, gdTup, gdCons, gdNil, wipeE, tupItems_tup, lstItems_lst, bl_bl, int_int, mHx_eq, mHlen_eq, mHcell_eq, sHput_eq, isH_hnd, hget1, hget2, hget3, hget4, hset1, hset2, hset3, hset4, eq_int, ne_int, lt_int, gt_int, le_int, ge_int, eq_bl, add_int, add_tup, add_lst, sub_int, neg_int, isN_hi, notN_hi, mul_int, div_int, mod_int, pow_int, abs_int, intC_int, len_tup, len_lst, tup_D, lst_D, rt_D, Bool.not_not, Bool.not_true, Bool.not_false, true_and, and_true, false_and, and_false, or_true, true_or, or_false, false_or, List.length_cons, List.length_nil, List.length_append, List.length_map, List.map_cons, List.map_nil, List.replicate_succ, List.replicate_zero, List.cons_append, List.nil_append, List.append_nil, List.set_cons_zero, List.set_cons_succ, List.getElem?_cons_zero, List.getElem?_cons_succ, Option.bind_some, Option.map_some, Option.bind_none, Option.map_none, OW_some, OW_bind, OW_map, OW_if, Bool.false_eq_true, if_true, if_false, ↓reduceIte, Nat.reduceAdd, Nat.reduceSub, Nat.zero_add, Nat.sub_self, Function.comp, OW_eq i0, OW_eq i1, OW_eq i2, OW_eq (str_num n1), OW_eq (str_num n2), OW_eq (str_num n3), OW_eq (ec _ _ _ _), em, OW_eq ej]
  rw [OW_eq (ad _ _ (by rw [sp_len]; omega))]
  rw [OW_eq (ad _ _ (by rw [app_len, sp_len]; omega))]
  rw [OW_eq (ad _ _ (by rw [app_len, app_len, sp_len, dot_len]; omega))]
  rw [OW_eq (ad _ _ (by rw [app_len, app_len, app_len, sp_len, dot_len]; omega))]
  rw [OW_eq (ad _ _ (by rw [app_len, app_len, app_len, app_len, sp_len, dot_len]; omega))]
  rw [OW_eq (ad _ _ (by rw [app_len, app_len, app_len, app_len, app_len, sp_len, dot_len]; omega))]
  rw [OW_eq (ad _ _ (by rw [app_len, app_len, app_len, app_len, app_len, app_len, sp_len, dot_len]; omega))]
  rw [OW_eq (ad _ _ (by rw [app_len, app_len, app_len, app_len, app_len, app_len, app_len, sp_len, dot_len, lf_len]; omega)), line_eq hv]
theorem law_text_is {l : List Trip} {s : Hand} (h : InstOk l) : f__law_text [instD l] s = some (.str (lockT l), s) := by
  have hb := bodyT_len h
  have hs := lines_sum h.2.2
  have hl := h.2.1
  obtain ⟨c1, c2⟩ := chk_lt (bodyT l)
  have ec : compL (gdName 2) mYes c__law_text_0 [some (.dat (instD l)), none, none] (l.map Trip.D) s = some (l.map fun t => D.str (lineT t), s) := by
    refine comp_map l fun t ht => ⟨_, rfl, ?_⟩
    rw [c__law_text_0_eq]
    refine eq_of_OW ?_
    simp only [mDef_eq, outD_nx, outD_rt, startE, sNil, sSeq, thenS_nx, thenS_rt, thenS_bk, thenS_ct, sAsg, sIf, sRet, sRetN, sDrop, sBrk, sCnt, sFor, sOwn, ownAt, sApp, sExt, sPut, sFrz, sPar, mIxO, mLenO, mTupO, mVar, mC, mU, mB, mNil, mCons, mF, mIsT, mAndT, mOrT, mNotT, mAnd, mOr, mNot, mIf, mChain, mPart, mNoPart, mSl, mCall, mIt, mRng, mComp, mYes, gdName, gdTup, gdCons, gdNil, wipeE, tupItems_tup, lstItems_lst, bl_bl, int_int, mHx_eq, mHlen_eq, mHcell_eq, sHput_eq, isH_hnd, hget1, hget2, hget3, hget4, hset1, hset2, hset3, hset4, eq_int, ne_int, lt_int, gt_int, le_int, ge_int, eq_bl, add_int, add_tup, add_lst, sub_int, neg_int, isN_hi, notN_hi, mul_int, div_int, mod_int, pow_int, abs_int, intC_int, len_tup, len_lst, tup_D, lst_D, rt_D, Bool.not_not, Bool.not_true, Bool.not_false, true_and, and_true, false_and, and_false, or_true, true_or, or_false, false_or, List.length_cons, List.length_nil, List.length_append, List.length_map, List.map_cons, List.map_nil, List.replicate_succ, List.replicate_zero, List.cons_append, List.nil_append, List.append_nil, List.set_cons_zero, List.set_cons_succ, List.getElem?_cons_zero, List.getElem?_cons_succ, Option.bind_some, Option.map_some, Option.bind_none, Option.map_none, OW_some, OW_bind, OW_map, OW_if, Bool.false_eq_true, if_true, if_false, ↓reduceIte, Nat.reduceAdd, Nat.reduceSub, Nat.zero_add, Nat.sub_self, Function.comp, law_line_is (s := s) (h.2.2 t ht)]
  have em : l.map (fun t => D.str (lineT t)) = (l.map lineT).map D.str := by rw [List.map_map]; rfl
  have ej := join_D (y := ("" : Str)) (l := l.map lineT) (by rw [List.length_map, nil_len]; omega)
  have ei : tupItems (instD l) = some (l.map Trip.D) := rfl
  have hn := (num_len (n := chkT (bodyT l)) (by omega)).2
  have hsn := str_num (n := chkT (bodyT l)) (by omega)
  have hbd : Txt.join ("" : Str) (l.map lineT) = bodyT l := rfl
  have a1 := add_str (a := bodyT l) (b := ("check " : Str)) (by rw [ck_len]; omega)
  have a2 := add_str (a := bodyT l ++ "check ") (b := num (chkT (bodyT l))) (by rw [app_len, ck_len]; omega)
  have a3 := add_str (a := bodyT l ++ "check " ++ num (chkT (bodyT l))) (b := ("\n" : Str)) (by rw [app_len, app_len, ck_len, lf_len]; omega)
  refine eq_of_OW ?_
  unfold f__law_text
  simp only [mDef_eq, outD_nx, outD_rt, startE, sNil, sSeq, thenS_nx, thenS_rt, thenS_bk, thenS_ct, sAsg, sIf, sRet, sRetN, sDrop, sBrk, sCnt, sFor, sOwn, ownAt, sApp, sExt, sPut, sFrz, sPar, mIxO, mLenO, mTupO, mVar, mC, mU, mB, mNil, mCons, mF, mIsT, mAndT, mOrT, mNotT, mAnd, mOr, mNot, mIf, mChain, mPart, mNoPart, mSl, mCall, mIt, mRng, mComp, mYes, gdName, gdTup, gdCons, gdNil, wipeE, tupItems_tup, lstItems_lst, bl_bl, int_int, mHx_eq, mHlen_eq, mHcell_eq, sHput_eq, isH_hnd, hget1, hget2, hget3, hget4, hset1, hset2, hset3, hset4, eq_int, ne_int, lt_int, gt_int, le_int, ge_int, eq_bl, add_int, add_tup, add_lst, sub_int, neg_int, isN_hi, notN_hi, mul_int, div_int, mod_int, pow_int, abs_int, intC_int, len_tup, len_lst, tup_D, lst_D, rt_D, Bool.not_not, Bool.not_true, Bool.not_false, true_and, and_true, false_and, and_false, or_true, true_or, or_false, false_or, List.length_cons, List.length_nil, List.length_append, List.length_map, List.map_cons, List.map_nil, List.replicate_succ, List.replicate_zero, List.cons_append, List.nil_append, List.append_nil, List.set_cons_zero, List.set_cons_succ, List.getElem?_cons_zero, List.getElem?_cons_succ, Option.bind_some, Option.map_some, Option.bind_none, Option.map_none, OW_some, OW_bind, OW_map, OW_if, Bool.false_eq_true, if_true, if_false, ↓reduceIte, Nat.reduceAdd, Nat.reduceSub, Nat.zero_add, Nat.sub_self, Function.comp, OW_eq ei, OW_eq ec, em, OW_eq ej, hbd, OW_eq a1, law_check_is (x := bodyT l) (s := s) (by omega), c2, OW_eq hsn, OW_eq a2, OW_eq a3]
  rfl
end K41

set_option Elab.async false
set_option linter.all false
set_option maxRecDepth 100000
set_option maxHeartbeats 4000000
namespace K41
open PySem
open L2
open Dl
open Txt
open TL
theorem lf_tl : tl ("\n" : Str) = [10] := by decide +kernel
theorem joinL_lines : ∀ (ps : List (List Nat)) (q : List Nat), joinL [10] (ps ++ [q, []]) = (ps.map fun p => p ++ [10]).flatten ++ (q ++ [10])
  | [], q => by
    show q ++ ([10] ++ joinL [10] [[]]) = [] ++ (q ++ [10])
    rfl
  | p :: ps, q => by
    have ih := joinL_lines ps q
    obtain ⟨x, r, e⟩ : ∃ x r, ps ++ [q, []] = x :: r := by
      cases ps with
      | nil => exact ⟨_, _, rfl⟩
      | cons x r => exact ⟨_, _, rfl⟩
    rw [List.cons_append, e]
    show p ++ ([10] ++ joinL [10] (x :: r)) = _
    rw [← e, ih, List.map_cons, List.flatten_cons]
    simp only [List.append_assoc]
def chkLine (b : Str) : Str := ("check " : Str) ++ num (chkT b)
def rowsT (l : List Trip) : List Str := l.map tripT ++ [chkLine (bodyT l), ""]
theorem lock_join (l : List Trip) : lockT l = Txt.join ("\n" : Str) (rowsT l) := by
  refine tl_inj ?_
  have h1 : tl (lockT l) = ((l.map tripT).map tl |>.map fun p => p ++ [10]).flatten ++ (tl (chkLine (bodyT l)) ++ [10]) := by
    unfold lockT chkLine
    rw [app_tl, app_tl, app_tl, app_tl, lf_tl]
    have hb : tl (bodyT l) = ((l.map tripT).map tl |>.map fun p => p ++ [10]).flatten := by
      unfold bodyT
      rw [join_eq, tl_join, nil_tl, joinL_nil, List.map_map, List.map_map, List.map_map]
      congr 1
      refine List.map_congr_left fun t _ => ?_
      show tl (lineT t) = tl (tripT t) ++ [10]
      unfold lineT
      rw [app_tl, lf_tl]
    rw [hb]
    simp only [List.append_assoc]
  have h2 : (rowsT l).map tl = (l.map tripT).map tl ++ [tl (chkLine (bodyT l)), []] := by
    unfold rowsT
    rw [List.map_append, List.map_cons, List.map_cons, List.map_nil, nil_tl]
  rw [h1, join_eq, tl_join, lf_tl, h2, joinL_lines]
theorem low_not {l : List Nat} (h : Low l) : 10 ∉ l := fun z => by
  have := h 10 z
  omega
theorem num_not (n : Nat) : 10 ∉ tl (num n) := fun z => by
  have := num_digits z
  omega
theorem trip_not {t : Trip} (h : TripOk t) : 10 ∉ tl (tripT t) := by
  obtain ⟨h1, h2, h3, h4, h5, h6⟩ := h
  obtain ⟨a, b, c, hv⟩ := three_of h2
  have e : tl (tripT t) = tl t.w ++ (32 :: (tl (num a) ++ ([46] ++ (tl (num b) ++ ([46] ++ tl (num c))))) ++ ((t.fs.map tl).map fun x => 32 :: x).flatten) := by
    unfold tripT verS
    rw [join_eq, tl_join, sp_tl, List.map_cons, List.map_cons, joinL_sp, List.map_cons, List.flatten_cons, join_eq, tl_join, dot_tl, hv]
    rfl
  rw [e]
  intro z
  rcases List.mem_append.mp z with z | z
  · exact low_not h1.2.2 z
  · rcases List.mem_append.mp z with z | z
    · rcases List.mem_cons.mp z with z | z
      · cases z
      · simp only [List.mem_append, List.mem_singleton] at z
        rcases z with z | z | z | z | z
        · exact num_not _ z
        · cases z
        · exact num_not _ z
        · cases z
        · exact num_not _ z
    · obtain ⟨x, hx, hz⟩ := List.mem_flatten.mp z
      rw [List.map_map] at hx
      obtain ⟨f, hf, ef⟩ := List.mem_map.mp hx
      have ef' : 32 :: tl f = x := ef
      rw [← ef'] at hz
      rcases List.mem_cons.mp hz with z | z
      · cases z
      · exact low_not (h6 f hf).2.2 z
theorem rows_split {l : List Trip} (h : InstOk l) : Txt.split (lockT l) ("\n" : Str) = rowsT l := by
  rw [lock_join]
  refine split_join (s := 10) (S := []) lf_tl (by decide +kernel) ?_ fun p hp => ?_
  · unfold rowsT
    simp
  · unfold rowsT at hp
    rcases List.mem_append.mp hp with z | z
    · obtain ⟨t, ht, e⟩ := List.mem_map.mp z
      rw [← e]
      exact trip_not (h.2.2 t ht)
    · rcases List.mem_cons.mp z with z | z
      · rw [z]
        unfold chkLine
        rw [app_tl]
        intro q
        rcases List.mem_append.mp q with q | q
        · exact absurd q (by decide +kernel)
        · exact num_not _ q
      · rw [List.mem_singleton.mp z, nil_tl]
        exact fun q => by cases q
end K41

set_option Elab.async false
set_option linter.all false
set_option maxRecDepth 100000
set_option maxHeartbeats 4000000
namespace K41
open PySem
open L2
open Dl
open Txt
open TL
theorem verS_tl (a b c : Nat) : tl (verS [a, b, c]) = tl (num a) ++ ([46] ++ (tl (num b) ++ ([46] ++ tl (num c)))) := by
  unfold verS
  rw [join_eq, tl_join, dot_tl]
  rfl
theorem verS_free {v : List Nat} (h : v.length = 3) : 32 ∉ tl (verS v) := by
  obtain ⟨a, b, c, hv⟩ := three_of h
  rw [hv, verS_tl]
  intro z
  have nn : ∀ n, 32 ∉ tl (num n) := fun n z => by
    have := num_digits z
    omega
  simp only [List.mem_append, List.mem_singleton] at z
  rcases z with z | z | z | z | z
  · exact nn _ z
  · cases z
  · exact nn _ z
  · cases z
  · exact nn _ z
theorem low_free {l : List Nat} (h : Low l) : 32 ∉ l := fun z => by
  have := h 32 z
  omega
theorem words_split {t : Trip} (h : TripOk t) : Txt.split (tripT t) (" " : Str) = t.w :: verS t.v :: t.fs := by
  obtain ⟨h1, h2, h3, h4, h5, h6⟩ := h
  unfold tripT
  refine split_join (s := 32) (S := []) sp_tl (by decide +kernel) (by simp) fun p hp => ?_
  rcases List.mem_cons.mp hp with z | z
  · rw [z]; exact low_free h1.2.2
  · rcases List.mem_cons.mp z with z | z
    · rw [z]; exact verS_free h2
    · exact low_free (h6 p z).2.2
theorem ver_split {v : List Nat} (h : v ≠ []) : Txt.split (verS v) ("." : Str) = v.map num := by
  unfold verS
  refine split_join (s := 46) (S := []) dot_tl (by decide +kernel) (fun z => h (List.map_eq_nil_iff.mp z)) fun p hp => ?_
  obtain ⟨n, _, e⟩ := List.mem_map.mp hp
  rw [← e]
  intro z
  have := num_digits z
  omega
theorem VL_ver {v : List Nat} (h : v ≠ []) (hn : ∀ n ∈ v, n ≤ 1000000) : VL (verS v) = v.map some := by
  unfold VL
  rw [ver_split h, List.map_map]
  exact List.map_congr_left fun n hv => NT_num (hn n hv)
/-- a version's text read -/
theorem ver_read {v : List Nat} {s : Hand} (h : v.length = 3) (hn : ∀ n ∈ v, n ≤ 1000000) : f_version_told [.str (verS v)] s = some (.tup (v.map fun (n : Nat) => D.int ((n : Nat) : Int)), s) := by
  have hl := verS_len hn h
  rw [version_any (by omega)]
  obtain ⟨a, b, c, hv⟩ := three_of h
  subst hv
  have e : VL (verS [a, b, c]) = [some a, some b, some c] := VL_ver (by simp) hn
  rcases V3_cases (VL (verS [a, b, c])) VL_le with ⟨_, x, e1, _, e2⟩ | ⟨_, e1⟩
  · unfold VT
    rw [e1]
    rw [e] at e2
    show some (verD x, s) = _
    rw [← e2]
    rfl
  · rw [e] at e1
    cases e1
end K41

set_option Elab.async false
set_option linter.all false
set_option maxRecDepth 100000
set_option maxHeartbeats 4000000
namespace K41
open PySem
open L2
open Dl
open Txt
open TL
/-- a name by its signs -/
def nameB (w : Str) : Bool := decide (1 ≤ w.length) && (decide (w.length ≤ 12) && lowB (tl w))
theorem letter_is (c : Nat) : decide (c ∈ ("abcdefghijklmnopqrstuvwxyz" : Str).cps.toList) = decide (97 ≤ c ∧ c ≤ 122) := by
  rw [letters_tl]
  by_cases h : 97 ≤ c ∧ c ≤ 122
  · rw [decide_eq_true h]
    exact decide_eq_true (List.mem_map.mpr ⟨c - 97, List.mem_range.mpr (by omega), by omega⟩)
  · rw [decide_eq_false h]
    refine decide_eq_false fun z => h ?_
    obtain ⟨k, hk, e⟩ := List.mem_map.mp z
    have := List.mem_range.mp hk
    omega
theorem all_lets {w : Str} : allD [.lst ((tl w).map fun c => D.bl (decide (97 ≤ c ∧ c ≤ 122)))] = some (.bl (lowB (tl w))) := by
  have e : (tl w).map (fun c => D.bl (decide (97 ≤ c ∧ c ≤ 122))) = ((tl w).map fun c => D.int ((c : Nat) : Int)).map fun d => D.bl ((fun d => match d with | .int i => decide (97 ≤ i.toNat ∧ i.toNat ≤ 122) | _ => false) d) := by
    rw [List.map_map]
    exact List.map_congr_left fun c _ => rfl
  rw [e, all_map, List.all_map]
  congr 2
theorem is_name_is {w : Str} {s : Hand} (h : w.length ≤ 100000) : f_is_name [.str w] s = some (.bl (nameB w), s) := by
  have hsz : w.length ≤ sizeLine := by rw [sizeLine_eq]; omega
  have isS : isiD .tStr (.str w) = some (.bl true) := rfl
  have ec : compL (gdName 1) mYes c_is_name_0 [some (.dat (.str w)), none] ((tl w).map fun c => D.str ⟨#[c]⟩) s = some ((tl w).map fun c => .bl (decide (97 ≤ c ∧ c ≤ 122)), s) := by
    refine comp_map (tl w) fun c hc => ⟨_, rfl, ?_⟩
    rw [c_is_name_0_eq]
    refine eq_of_OW ?_
    simp only [mDef_eq, outD_nx, outD_rt, startE, sNil, sSeq, thenS_nx, thenS_rt, thenS_bk, thenS_ct, sAsg, sIf, sRet, sRetN, sDrop, sBrk, sCnt, sFor, sOwn, ownAt, sApp, sExt, sPut, sFrz, sPar, mIxO, mLenO, mTupO, mVar, mC, mU, mB, mNil, mCons, mF, mIsT, mAndT, mOrT, mNotT, mAnd, mOr, mNot, mIf, mChain, mPart, mNoPart, mSl, mCall, mIt, mRng, mComp, mYes, gdName, gdTup, gdCons, gdNil, wipeE, tupItems_tup, lstItems_lst, bl_bl, int_int, mHx_eq, mHlen_eq, mHcell_eq, sHput_eq, isH_hnd, hget1, hget2, hget3, hget4, hset1, hset2, hset3, hset4, eq_int, ne_int, lt_int, gt_int, le_int, ge_int, eq_bl, add_int, add_tup, add_lst, sub_int, neg_int, isN_hi, notN_hi, mul_int, div_int, mod_int, pow_int, abs_int, intC_int, len_tup, len_lst, tup_D, lst_D, rt_D, Bool.not_not, Bool.not_true, Bool.not_false, true_and, and_true, false_and, and_false, or_true, true_or, or_false, false_or, List.length_cons, List.length_nil, List.length_append, List.length_map, List.map_cons, List.map_nil, List.replicate_succ, List.replicate_zero, List.cons_append, List.nil_append, List.append_nil, List.set_cons_zero, List.set_cons_succ, List.getElem?_cons_zero, List.getElem?_cons_succ, Option.bind_some, Option.map_some, Option.bind_none, Option.map_none, OW_some, OW_bind, OW_map, OW_if, Bool.false_eq_true, if_true, if_false, ↓reduceIte, Nat.reduceAdd, Nat.reduceSub, Nat.zero_add, Nat.sub_self, Function.comp, OW_eq (sign_in (c := c) (z := ("abcdefghijklmnopqrstuvwxyz" : Str))), letter_is]
  have d1 : decide ((1 : Int) ≤ (w.length : Int)) = decide (1 ≤ w.length) := decide_eq_decide.mpr (by omega)
  have d2 : decide ((w.length : Int) ≤ 12) = decide (w.length ≤ 12) := decide_eq_decide.mpr (by omega)
  refine eq_of_OW ?_
  unfold f_is_name nameB
  simp only [mDef_eq, outD_nx, outD_rt, startE, sNil, sSeq, thenS_nx, thenS_rt, thenS_bk, thenS_ct, sAsg, sIf, sRet, sRetN, sDrop, sBrk, sCnt, sFor, sOwn, ownAt, sApp, sExt, sPut, sFrz, sPar, mIxO, mLenO, mTupO, mVar, mC, mU, mB, mNil, mCons, mF, mIsT, mAndT, mOrT, mNotT, mAnd, mOr, mNot, mIf, mChain, mPart, mNoPart, mSl, mCall, mIt, mRng, mComp, mYes, gdName, gdTup, gdCons, gdNil, wipeE, tupItems_tup, lstItems_lst, bl_bl, int_int, mHx_eq, mHlen_eq, mHcell_eq, sHput_eq, isH_hnd, hget1, hget2, hget3, hget4, hset1, hset2, hset3, hset4, eq_int, ne_int, lt_int, gt_int, le_int, ge_int, eq_bl, add_int, add_tup, add_lst, sub_int, neg_int, isN_hi, notN_hi, mul_int, div_int, mod_int, pow_int, abs_int, intC_int, len_tup, len_lst, tup_D, lst_D, rt_D, Bool.not_not, Bool.not_true, Bool.not_false, true_and, and_true, false_and, and_false, or_true, true_or, or_false, false_or, List.length_cons, List.length_nil, List.length_append, List.length_map, List.map_cons, List.map_nil, List.replicate_succ, List.replicate_zero, List.cons_append, List.nil_append, List.append_nil, List.set_cons_zero, List.set_cons_succ, List.getElem?_cons_zero, List.getElem?_cons_succ, Option.bind_some, Option.map_some, Option.bind_none, Option.map_none, OW_some, OW_bind, OW_map, OW_if, Bool.false_eq_true, if_true, if_false, ↓reduceIte, Nat.reduceAdd, Nat.reduceSub, Nat.zero_add, Nat.sub_self, Function.comp, OW_eq isS, OW_eq (len_str hsz), OW_eq (items_str hsz), OW_eq ec, OW_eq all_lets, d1, d2]
  cases decide (1 ≤ w.length) with
  | false => rfl
  | true =>
    cases decide (w.length ≤ 12) with
    | false => rfl
    | true => rfl
theorem nameB_of {w : Str} (h : NameOk w) : nameB w = true := by
  obtain ⟨h1, h2, h3⟩ := h
  unfold nameB lowB
  rw [decide_eq_true h1, decide_eq_true h2, List.all_eq_true.mpr fun c hc => decide_eq_true (h3 c hc)]
  rfl
end K41

set_option Elab.async false
set_option linter.all false
set_option maxRecDepth 100000
set_option maxHeartbeats 4000000
namespace K41
open PySem
open L2
open Dl
open Txt
open TL
theorem lt_str (a b : Str) : relD ltP (.str a) (.str b) = some (.bl (ltS a b)) := by
  have e : relD ltP (.str a) (.str b) = some (.bl (PySem.W.dataLt (.str a) (.str b))) := rfl
  rw [e, PySem.W.dataLt_str, PyProof.Rows.lt_meets]
  rfl
end K41

set_option Elab.async false
set_option linter.all false
set_option maxRecDepth 100000
set_option maxHeartbeats 4000000
namespace K41
open PySem
open L2
open Dl
open Txt
open TL
theorem up_get {l : List Str} (h : UpS l) {i : Nat} (hi : i + 1 < l.length) : ltS (l[i]'(by omega)) (l[i + 1]'hi) = true := List.pairwise_iff_getElem.mp h i (i + 1) (by omega) hi (by omega)
theorem rising_comp {s : Hand} {xs : D} {l : List Str} (hx : ∀ i : Nat, ixD xs (.int (i : Int)) = l[i]?.map D.str) (h : UpS l) : ∀ (m k : Nat), k + m + 1 ≤ l.length →
    compL (gdName 1) mYes c_is_rising_0 [some (.dat xs), none] (rngOf (k : Int) m) s = some (List.replicate m (D.bl true), s)
  | 0, k, _ => rfl
  | m + 1, k, hz => by
    have ih := rising_comp (s := s) hx h m (k + 1) (by omega)
    have e1 : ixD xs (.int (k : Int)) = some (.str (l[k]'(by omega))) := by rw [hx, List.getElem?_eq_getElem (by omega)]; rfl
    have e2 : ixD xs (.int ((k + 1 : Nat) : Int)) = some (.str (l[k + 1]'(by omega))) := by rw [hx, List.getElem?_eq_getElem (by omega)]; rfl
    have ek : (k : Int) + 1 = ((k + 1 : Nat) : Int) := by omega
    rw [rngOf_succ]
    refine eq_of_OW ?_
    unfold compL
    simp only [mDef_eq, outD_nx, outD_rt, startE, sNil, sSeq, thenS_nx, thenS_rt, thenS_bk, thenS_ct, sAsg, sIf, sRet, sRetN, sDrop, sBrk, sCnt, sFor, sOwn, ownAt, sApp, sExt, sPut, sFrz, sPar, mIxO, mLenO, mTupO, mVar, mC, mU, mB, mNil, mCons, mF, mIsT, mAndT, mOrT, mNotT, mAnd, mOr, mNot, mIf, mChain, mPart, mNoPart, mSl, mCall, mIt, mRng, mComp, mYes, gdName, gdTup, gdCons, gdNil, wipeE, tupItems_tup, lstItems_lst, bl_bl, int_int, mHx_eq, mHlen_eq, mHcell_eq, sHput_eq, isH_hnd, hget1, hget2, hget3, hget4, hset1, hset2, hset3, hset4, eq_int, ne_int, lt_int, gt_int, le_int, ge_int, eq_bl, add_int, add_tup, add_lst, sub_int, neg_int, isN_hi, notN_hi, mul_int, div_int, mod_int, pow_int, abs_int, intC_int, len_tup, len_lst, tup_D, lst_D, rt_D, Bool.not_not, Bool.not_true, Bool.not_false, true_and, and_true, false_and, and_false, or_true, true_or, or_false, false_or, List.length_cons, List.length_nil, List.length_append, List.length_map, List.map_cons, List.map_nil, List.replicate_succ, List.replicate_zero, List.cons_append, List.nil_append, List.append_nil, List.set_cons_zero, List.set_cons_succ, List.getElem?_cons_zero, List.getElem?_cons_succ, Option.bind_some, Option.map_some, Option.bind_none, Option.map_none, OW_some, OW_bind, OW_map, OW_if, Bool.false_eq_true, if_true, if_false, ↓reduceIte, Nat.reduceAdd, Nat.reduceSub, Nat.zero_add, Nat.sub_self, Function.comp, c_is_rising_0_eq, ek, OW_eq e1, OW_eq e2, OW_eq (lt_str _ _), up_get h (i := k) (by omega), OW_eq ih]
theorem all_true : ∀ m : Nat, allD [.lst (List.replicate m (D.bl true))] = some (.bl true) := fun m => by
  have e : List.replicate m (D.bl true) = ((List.range m).map fun _ => D.non).map fun d => D.bl ((fun _ => true) d) := by
    rw [List.map_map]
    refine List.ext_getElem (by simp) fun i h1 h2 => by simp
  rw [e, all_map]
  simp
theorem rising_is {s : Hand} {xs : D} {l : List Str} (f : List D → Option (List D)) (hf : f [.int ((l.length : Int) - 1)] = some (rngOf 0 (l.length - 1))) (hl : lenD [xs] = some (.int (l.length : Int))) (hx : ∀ i : Nat, ixD xs (.int (i : Int)) = l[i]?.map D.str) (h : UpS l) :
    (mDef 2 (sRet (mF allD (mCons (mComp (mRng f (mCons (mB subD (mF lenD (mCons (mVar 0) mNil)) (mC (.int 1))) mNil)) (gdName 1) mYes c_is_rising_0 [1]) mNil)))) [xs] s = some (.bl true, s) := by
  have hc : compL (gdName 1) mYes c_is_rising_0 [some (.dat xs), none] (rngOf 0 (l.length - 1)) s = some (List.replicate (l.length - 1) (D.bl true), s) := by
    by_cases z : l.length = 0
    · rw [show l.length - 1 = 0 by omega]
      rfl
    · exact rising_comp hx h (l.length - 1) 0 (by omega)
  refine eq_of_OW ?_
  simp only [mDef_eq, outD_nx, outD_rt, startE, sNil, sSeq, thenS_nx, thenS_rt, thenS_bk, thenS_ct, sAsg, sIf, sRet, sRetN, sDrop, sBrk, sCnt, sFor, sOwn, ownAt, sApp, sExt, sPut, sFrz, sPar, mIxO, mLenO, mTupO, mVar, mC, mU, mB, mNil, mCons, mF, mIsT, mAndT, mOrT, mNotT, mAnd, mOr, mNot, mIf, mChain, mPart, mNoPart, mSl, mCall, mIt, mRng, mComp, mYes, gdName, gdTup, gdCons, gdNil, wipeE, tupItems_tup, lstItems_lst, bl_bl, int_int, mHx_eq, mHlen_eq, mHcell_eq, sHput_eq, isH_hnd, hget1, hget2, hget3, hget4, hset1, hset2, hset3, hset4, eq_int, ne_int, lt_int, gt_int, le_int, ge_int, eq_bl, add_int, add_tup, add_lst, sub_int, neg_int, isN_hi, notN_hi, mul_int, div_int, mod_int, pow_int, abs_int, intC_int, len_tup, len_lst, tup_D, lst_D, rt_D, Bool.not_not, Bool.not_true, Bool.not_false, true_and, and_true, false_and, and_false, or_true, true_or, or_false, false_or, List.length_cons, List.length_nil, List.length_append, List.length_map, List.map_cons, List.map_nil, List.replicate_succ, List.replicate_zero, List.cons_append, List.nil_append, List.append_nil, List.set_cons_zero, List.set_cons_succ, List.getElem?_cons_zero, List.getElem?_cons_succ, Option.bind_some, Option.map_some, Option.bind_none, Option.map_none, OW_some, OW_bind, OW_map, OW_if, Bool.false_eq_true, if_true, if_false, ↓reduceIte, Nat.reduceAdd, Nat.reduceSub, Nat.zero_add, Nat.sub_self, Function.comp, OW_eq hl, OW_eq hf, OW_eq hc, OW_eq (all_true _)]
end K41

set_option Elab.async false
set_option linter.all false
set_option maxRecDepth 100000
set_option maxHeartbeats 4000000
namespace K41
open PySem
open L2
open Dl
open Txt
open TL
theorem rng_less {n : Nat} (h : n ≤ 100000) : rng1D [.int ((n : Int) - 1)] = some (rngOf 0 (n - 1)) := by
  show (if -(2 ^ 62) ≤ (n : Int) - 1 ∧ (n : Int) - 1 < 2 ^ 62 ∧ ((n : Int) - 1).toNat ≤ sizeLine then some (rngOf 0 ((n : Int) - 1).toNat) else none) = _
  rw [if_pos ⟨by omega, by omega, by rw [sizeLine_eq]; omega⟩, show ((n : Int) - 1).toNat = n - 1 by omega]
theorem rising_tup {fs : List Str} {s : Hand} (h : UpS fs) (hz : fs.length ≤ 100000) : f_is_rising [.tup (fs.map D.str)] s = some (.bl true, s) :=
  rising_is rng1D (rng_less hz) (by rw [len_tup, List.length_map]) (fun i => by rw [ix_nat, List.getElem?_map]) h
theorem rising_lst {fs : List Str} {s : Hand} (h : UpS fs) (hz : fs.length ≤ 100000) : f_is_rising [.lst (fs.map D.str)] s = some (.bl true, s) :=
  rising_is rng1D (rng_less hz) (by rw [len_lst, List.length_map]) (fun i => by rw [ixl_nat, List.getElem?_map]) h
end K41

set_option Elab.async false
set_option linter.all false
set_option maxRecDepth 100000
set_option maxHeartbeats 4000000
namespace K41
open PySem
open L2
open Dl
open Txt
open TL
theorem sp_len0 : ((" " : Str).length == 0) = false := by rw [sp_len]; rfl
theorem names_all {l : List Str} (h : ∀ f ∈ l, NameOk f) : allD [.lst (l.map fun f => D.bl (nameB f))] = some (.bl true) := by
  have e : l.map (fun f => D.bl (nameB f)) = List.replicate l.length (D.bl true) := by
    refine List.eq_replicate_iff.mpr ⟨by rw [List.length_map], fun d hd => ?_⟩
    obtain ⟨f, hf, ef⟩ := List.mem_map.mp hd
    rw [← ef, nameB_of (h f hf)]
  rw [e]
  exact all_true _
theorem triple_read {t : Trip} {s : Hand} (h : TripOk t) : f_triple_told [.str (tripT t)] s = some (t.D, s) := by
  have hs : ∀ n : Nat, n ≤ 40 → ((n ≤ sizeLine) = True) := fun n h => eq_true (by rw [sizeLine_eq]; omega)
  have hlen := tripT_len h
  have hsp := words_split h
  have h0 := h
  obtain ⟨h1, h2, h3, h4, h5, h6⟩ := h
  have es : splitD (.str (tripT t)) (.str " ") = some (.lst (.str t.w :: .str (verS t.v) :: t.fs.map D.str)) := by
    rw [split_D sp_len0 (by omega), hsp]
    rfl
  have i0 : ixD (.lst (.str t.w :: .str (verS t.v) :: t.fs.map D.str)) (.int 0) = some (.str t.w) := ixl_nat (n := 0)
  have i1 : ixD (.lst (.str t.w :: .str (verS t.v) :: t.fs.map D.str)) (.int 1) = some (.str (verS t.v)) := ixl_nat (n := 1)
  have hw := nameB_of h1
  have lw := h1.2.1
  have d2 : decide (((t.fs.map D.str).length : Int) + 1 + 1 < 2) = false := decide_eq_false (by omega)
  have sl2 : slL (.lst (.str t.w :: .str (verS t.v) :: t.fs.map D.str)) (some 2) none = some (.lst (t.fs.map D.str)) := by
    show some (D.lst (cutD (.str t.w :: .str (verS t.v) :: t.fs.map D.str) (some ((2 : Nat) : Int)) none)) = _
    unfold cutD
    rw [HT.sIx_nat, HT.sIx_none]
    have e : min 2 (D.str t.w :: D.str (verS t.v) :: t.fs.map D.str).length = 2 := Nat.min_eq_left (by simp)
    rw [e]
    show some (D.lst ((t.fs.map D.str).take _)) = _
    rw [List.take_of_length_le (by simp)]
  have et : ∀ l : List D, tupleCD [.lst l] = some (.tup l) := fun _ => rfl
  have nn : isND (.tup (t.v.map fun (n : Nat) => D.int ((n : Nat) : Int))) .non = some (.bl false) := rfl
  have ec : ∀ (A B C E : Option Slot), compL (gdName 4) mYes c_triple_told_0 [A, B, C, E, none] (t.fs.map D.str) s = some (t.fs.map fun f => D.bl (nameB f), s) := fun A B C E => by
    refine comp_map t.fs fun f hf => ⟨_, rfl, ?_⟩
    rw [c_triple_told_0_eq]
    refine eq_of_OW ?_
    have := (h6 f hf).2.1
    simp only [mDef_eq, outD_nx, outD_rt, startE, sNil, sSeq, thenS_nx, thenS_rt, thenS_bk, thenS_ct, sAsg, sIf, sRet, sRetN, sDrop, sBrk, sCnt, sFor, sOwn, ownAt, sApp, sExt, sPut, sFrz, sPar, mIxO, mLenO, mTupO, mVar, mC, mU, mB, mNil, mCons, mF, mIsT, mAndT, mOrT, mNotT, mAnd, mOr, mNot, mIf, mChain, mPart, mNoPart, mSl, mCall, mIt, mRng, mComp, mYes, gdName, gdTup, gdCons, gdNil, wipeE, tupItems_tup, lstItems_lst, bl_bl, int_int, mHx_eq, mHlen_eq, mHcell_eq, sHput_eq, isH_hnd, hget1, hget2, hget3, hget4, hset1, hset2, hset3, hset4, eq_int, ne_int, lt_int, gt_int, le_int, ge_int, eq_bl, add_int, add_tup, add_lst, sub_int, neg_int, isN_hi, notN_hi, mul_int, div_int, mod_int, pow_int, abs_int, intC_int, len_tup, len_lst, tup_D, lst_D, rt_D, Bool.not_not, Bool.not_true, Bool.not_false, true_and, and_true, false_and, and_false, or_true, true_or, or_false, false_or, List.length_cons, List.length_nil, List.length_append, List.length_map, List.map_cons, List.map_nil, List.replicate_succ, List.replicate_zero, List.cons_append, List.nil_append, List.append_nil, List.set_cons_zero, List.set_cons_succ, List.getElem?_cons_zero, List.getElem?_cons_succ, Option.bind_some, Option.map_some, Option.bind_none, Option.map_none, OW_some, OW_bind, OW_map, OW_if, Bool.false_eq_true, if_true, if_false, ↓reduceIte, Nat.reduceAdd, Nat.reduceSub, Nat.zero_add, Nat.sub_self, Function.comp, is_name_is (w := f) (s := s) (by omega)]
  refine eq_of_OW ?_
  unfold f_triple_told
  simp only [mDef_eq, outD_nx, outD_rt, startE, sNil, sSeq, thenS_nx, thenS_rt, thenS_bk, thenS_ct, sAsg, sIf, sRet, sRetN, sDrop, sBrk, sCnt, sFor, sOwn, ownAt, sApp, sExt, sPut, sFrz, sPar, mIxO, mLenO, mTupO, mVar, mC, mU, mB, mNil, mCons, mF, mIsT, mAndT, mOrT, mNotT, mAnd, mOr, mNot, mIf, mChain, mPart, mNoPart, mSl, mCall, mIt, mRng, mComp, mYes, gdName, gdTup, gdCons, gdNil, wipeE, tupItems_tup, lstItems_lst, bl_bl, int_int, mHx_eq, mHlen_eq, mHcell_eq, sHput_eq, isH_hnd, hget1, hget2, hget3, hget4, hset1, hset2, hset3, hset4, eq_int, ne_int, lt_int, gt_int, le_int, ge_int, eq_bl, add_int, add_tup, add_lst, sub_int, neg_int, isN_hi, notN_hi, mul_int, div_int, mod_int, pow_int, abs_int, intC_int, len_tup, len_lst, tup_D, lst_D, rt_D, Bool.not_not, Bool.not_true, Bool.not_false, true_and, and_true, false_and, and_false, or_true, true_or, or_false, false_or, List.length_cons, List.length_nil, List.length_append, List.length_map, List.map_cons, List.map_nil, List.replicate_succ, List.replicate_zero, List.cons_append, List.nil_append, List.append_nil, List.set_cons_zero, List.set_cons_succ, List.getElem?_cons_zero, List.getElem?_cons_succ, Option.bind_some, Option.map_some, Option.bind_none, Option.map_none, OW_some, OW_bind, OW_map, OW_if, Bool.false_eq_true, if_true, if_false, ↓reduceIte, Nat.reduceAdd, Nat.reduceSub, Nat.zero_add, Nat.sub_self, Function.comp, OW_eq es, OW_eq i0, OW_eq i1, is_name_is (w := t.w) (s := s) (by omega), hw, ver_read (s := s) h2 h3, OW_eq sl2, OW_eq (et _), OW_eq nn, OW_eq (ec _ _ _ _), OW_eq (names_all h6), rising_tup (s := s) h4 (by omega), hs 3 (by omega)]
  rw [if_neg (by rw [decide_eq_false (by omega)]; exact Bool.false_ne_true)]
  rfl
end K41

set_option Elab.async false
set_option linter.all false
set_option maxRecDepth 100000
set_option maxHeartbeats 4000000
namespace K41
open PySem
open L2
open Dl
open Txt
open TL
/-! the last line -/
theorem chk_join (n : Nat) : ("check " : Str) ++ num n = Txt.join (" " : Str) [("check" : Str), num n] := by
  refine tl_inj ?_
  rw [app_tl, join_eq, tl_join, sp_tl]
  show _ = tl ("check" : Str) ++ ([32] ++ tl (num n))
  have : tl ("check " : Str) = tl ("check" : Str) ++ [32] := by decide +kernel
  rw [this, List.append_assoc]
theorem ck_ok : NameOk ("check" : Str) := ⟨by decide +kernel, by decide +kernel, low_of (by decide +kernel)⟩
theorem num_free (n : Nat) : 32 ∉ tl (num n) := fun z => by
  have := num_digits z
  omega
theorem chk_split (n : Nat) : Txt.split (("check " : Str) ++ num n) (" " : Str) = [("check" : Str), num n] := by
  rw [chk_join]
  refine split_join (s := 32) (S := []) sp_tl (by decide +kernel) (by simp) fun p hp => ?_
  rcases List.mem_cons.mp hp with z | z
  · rw [z]; exact low_free ck_ok.2.2
  · rw [List.mem_singleton.mp z]; exact num_free n
theorem verS_one (n : Nat) : verS [n] = num n := rfl
theorem VT_one {n : Nat} (h : n ≤ 1000000) : VT (num n) = none := by
  have e : VL (verS [n]) = [some n] := VL_ver (by simp) fun m hm => by rw [List.mem_singleton.mp hm]; exact h
  rw [verS_one] at e
  unfold VT
  rw [e]
  rfl
theorem chk_told {n : Nat} {s : Hand} (h : n ≤ 1000000) : f_triple_told [.str (("check " : Str) ++ num n)] s = some (.non, s) := by
  have hn := (num_len h).2
  have es : splitD (.str (("check " : Str) ++ num n)) (.str " ") = some (.lst [.str "check", .str (num n)]) := by
    rw [split_D sp_len0 (by rw [app_len, ck_len]; omega), chk_split]
    rfl
  have i0 : ixD (.lst [.str "check", .str (num n)]) (.int 0) = some (.str "check") := ixl_nat (n := 0)
  have i1 : ixD (.lst [.str "check", .str (num n)]) (.int 1) = some (.str (num n)) := ixl_nat (n := 1)
  have hw := nameB_of ck_ok
  have hl5 : ("check" : Str).length ≤ 100000 := by decide +kernel
  have sl2 : slL (.lst [.str "check", .str (num n)]) (some 2) none = some (.lst []) := rfl
  have et : ∀ l : List D, tupleCD [.lst l] = some (.tup l) := fun _ => rfl
  have nn : isND (oV none) .non = some (.bl true) := rfl
  refine eq_of_OW ?_
  unfold f_triple_told
  simp only [mDef_eq, outD_nx, outD_rt, startE, sNil, sSeq, thenS_nx, thenS_rt, thenS_bk, thenS_ct, sAsg, sIf, sRet, sRetN, sDrop, sBrk, sCnt, sFor, sOwn, ownAt, sApp, sExt, sPut, sFrz, sPar, mIxO, mLenO, mTupO, mVar, mC, mU, mB, mNil, mCons, mF, mIsT, mAndT, mOrT, mNotT, mAnd, mOr, mNot, mIf, mChain, mPart, mNoPart, mSl, mCall, mIt, mRng, mComp, mYes, gdName, gdTup, gdCons, gdNil, wipeE, tupItems_tup, lstItems_lst, bl_bl, int_int, mHx_eq, mHlen_eq, mHcell_eq, sHput_eq, isH_hnd, hget1, hget2, hget3, hget4, hset1, hset2, hset3, hset4, eq_int, ne_int, lt_int, gt_int, le_int, ge_int, eq_bl, add_int, add_tup, add_lst, sub_int, neg_int, isN_hi, notN_hi, mul_int, div_int, mod_int, pow_int, abs_int, intC_int, len_tup, len_lst, tup_D, lst_D, rt_D, Bool.not_not, Bool.not_true, Bool.not_false, true_and, and_true, false_and, and_false, or_true, true_or, or_false, false_or, List.length_cons, List.length_nil, List.length_append, List.length_map, List.map_cons, List.map_nil, List.replicate_succ, List.replicate_zero, List.cons_append, List.nil_append, List.append_nil, List.set_cons_zero, List.set_cons_succ, List.getElem?_cons_zero, List.getElem?_cons_succ, Option.bind_some, Option.map_some, Option.bind_none, Option.map_none, OW_some, OW_bind, OW_map, OW_if, Bool.false_eq_true, if_true, if_false, ↓reduceIte, Nat.reduceAdd, Nat.reduceSub, Nat.zero_add, Nat.sub_self, Function.comp, OW_eq es, OW_eq i0, OW_eq i1, is_name_is (w := ("check" : Str)) (s := s) hl5, hw, version_any (r := num n) (s := s) (by omega), VT_one h, OW_eq sl2, OW_eq (et _), OW_eq nn]
  split <;> trivial
end K41

set_option Elab.async false
set_option linter.all false
set_option maxRecDepth 100000
set_option maxHeartbeats 4000000
namespace K41
open PySem
open L2
open Dl
open Txt
open TL
/-! the last line judged -/
theorem cut_tl {z : Str} {k : Nat} : tl (cutS z none (some (k : Int))) = (tl z).take k := by
  unfold cutS
  rw [HT.sIx_nat, HT.sIx_none]
  show (((z.cps.toList.drop 0).take (min k z.length - 0)).toArray).toList = z.cps.toList.take k
  rw [List.drop_zero, Nat.sub_zero]
  show z.cps.toList.take (min k z.length) = z.cps.toList.take k
  by_cases c : k ≤ z.length
  · rw [Nat.min_eq_left c]
  · have e : z.length = z.cps.toList.length := (Array.length_toList).symm
    rw [Nat.min_eq_right (by omega), List.take_of_length_le (by omega), List.take_of_length_le (by omega)]
theorem cut_from_tl {z : Str} {k : Nat} : tl (cutS z (some (k : Int)) none) = (tl z).drop k := by
  unfold cutS
  rw [HT.sIx_nat, HT.sIx_none]
  show (((z.cps.toList.drop (min k z.length)).take (z.length - min k z.length)).toArray).toList = z.cps.toList.drop k
  have e : z.length = z.cps.toList.length := (Array.length_toList).symm
  show (z.cps.toList.drop (min k z.length)).take (z.length - min k z.length) = z.cps.toList.drop k
  rw [List.take_of_length_le (by rw [List.length_drop]; omega)]
  by_cases c : k ≤ z.length
  · rw [Nat.min_eq_left c]
  · rw [Nat.min_eq_right (by omega), List.drop_eq_nil_of_le (by omega), List.drop_eq_nil_of_le (by omega)]
theorem sl_S {z : Str} {lo hi : Option Int} (h : z.length ≤ sizeLine) : slS (.str z) lo hi = some (.str (cutS z lo hi)) := by
  show (if z.length ≤ sizeLine then some (D.str (cutS z lo hi)) else none) = _
  rw [if_pos h]
theorem ck_tl : tl ("check " : Str) = [99, 104, 101, 99, 107, 32] := by decide +kernel
theorem chk_head (n : Nat) : cutS (("check " : Str) ++ num n) none (some 6) = ("check " : Str) := by
  refine tl_inj ?_
  rw [show (some 6 : Option Int) = some ((6 : Nat) : Int) from rfl, cut_tl, app_tl, ck_tl]
  rfl
theorem chk_rest (n : Nat) : cutS (("check " : Str) ++ num n) (some 6) none = num n := by
  refine tl_inj ?_
  rw [show (some 6 : Option Int) = some ((6 : Nat) : Int) from rfl, cut_from_tl, app_tl, ck_tl]
  rfl
section
variable {S : Type}
def thenX (b : MSX S) : OutX S → Option (OutX S)
  | .ok (.nx env s) => b env s
  | o => some o
def outX : OutX S → Option (RX S)
  | .ok (.nx _ s) => some (.val .non s)
  | .ok (.rt d s) => some (.val d s)
  | .ex c f ds _ s => some (.exc c f ds s)
  | _ => none
variable {a b : MSX S} {m : MS S} {env : DE} {s : S} {n : Nat} {ds : List D} {c f : Str} {d : D} {e : ME S} {t : MT S} {src : ML S} {gd : D → DE → Option DE} {body : MSX S}
theorem xS_eq : xS m env s = (m env s).map .ok := rfl
theorem xSeq_eq : xSeq a b env s = (a env s).bind (thenX b) := rfl
theorem mDefX_eq : mDefX n a ds s = (a (startE n ds) s).bind outX := rfl
theorem thenX_nx : thenX b (.ok (.nx env s)) = b env s := rfl
theorem thenX_rt : thenX b (.ok (.rt d s)) = some (.ok (.rt d s)) := rfl
theorem thenX_ex : thenX b (.ex c f ds env s) = some (.ex c f ds env s) := rfl
theorem outX_nx : outX (.ok (.nx env s)) = some (.val .non s) := rfl
theorem outX_rt : outX (.ok (.rt d s)) = some (.val d s) := rfl
theorem outX_ex : outX (.ex c f ds env s) = some (.exc c f ds s) := rfl
theorem xRaise_eq : xRaise c f e env s = (e env s).map fun p => .ex c f [p.1] env p.2 := rfl
theorem xIf_eq : xIf t a b env s = (t env s).bind fun p => if p.1 = true then a env p.2 else b env p.2 := rfl
theorem xFor_eq : xFor src gd body env s = (src env s).bind fun p => loopX gd body p.1 env p.2 := rfl
theorem thenX_if {b : MSX S} {p : Prop} [Decidable p] {x y : OutX S} : thenX b (if p then x else y) = if p then thenX b x else thenX b y := by split <;> rfl
end
theorem ended_is {rows found : List D} {k n : Nat} {taken : Str} {s : Hand} (hn : chkN (tl taken) = ((n : Nat) : Int)) (h1 : n ≤ 99991) (hr : rows.length = k + 2) (hl : ixD (.lst rows) (.int (-1)) = some (.str "")) (ht : taken.length ≤ 100000) (hk : k ≤ 1000) :
    f_ended [.lst rows, .int (k : Int), .str (("check " : Str) ++ num n), .str taken, .lst found] s = some (.val (.tup found) s) := by
  have hz := (num_len (n := n) (by omega)).2
  have lz : (("check " : Str) ++ num n).length ≤ sizeLine := by rw [app_len, ck_len, sizeLine_eq]; omega
  have lc : lenD [.str ("check " : Str)] = some (.int 6) := by
    rw [len_str (by rw [ck_len, sizeLine_eq]; omega), ck_len]
    rfl
  have s1 : slS (.str (("check " : Str) ++ num n)) none (some 6) = some (.str ("check " : Str)) := by rw [sl_S lz, chk_head]
  have s2 : slS (.str (("check " : Str) ++ num n)) (some 6) none = some (.str (num n)) := by rw [sl_S lz, chk_rest]
  have q1 : relD neP (.str ("check " : Str)) (.str ("check " : Str)) = some (.bl false) := by rw [ne_str]; simp
  have q2 : relD neP (.str ("" : Str)) (.str ("" : Str)) = some (.bl false) := by rw [ne_str]; simp
  have q3 : (!decide ((n : Int) = (n : Int))) = false := by simp
  have nt : f_number_told [.str (num n), .int 99991] s = some (.int (n : Int), s) := pure_number (m := 99991) h1 (by omega)
  have d1 : decide ((k : Int) + 2 < ((rows.length : Nat) : Int)) = false := decide_eq_false (by omega)
  have et : ∀ l : List D, tupleCD [.lst l] = some (.tup l) := fun _ => rfl
  refine eq_of_OW ?_
  unfold f_ended
  simp only [mDefX_eq, xS_eq, xSeq_eq, xIf_eq, xRaise_eq, thenX_nx, thenX_rt, thenX_if, outX_rt, mDef_eq, outD_nx, outD_rt, startE, sNil, sSeq, thenS_nx, thenS_rt, thenS_bk, thenS_ct, sAsg, sIf, sRet, sRetN, sDrop, sBrk, sCnt, sFor, sOwn, ownAt, sApp, sExt, sPut, sFrz, sPar, mIxO, mLenO, mTupO, mVar, mC, mU, mB, mNil, mCons, mF, mIsT, mAndT, mOrT, mNotT, mAnd, mOr, mNot, mIf, mChain, mPart, mNoPart, mSl, mCall, mIt, mRng, mComp, mYes, gdName, gdTup, gdCons, gdNil, wipeE, tupItems_tup, lstItems_lst, bl_bl, int_int, mHx_eq, mHlen_eq, mHcell_eq, sHput_eq, isH_hnd, hget1, hget2, hget3, hget4, hset1, hset2, hset3, hset4, eq_int, ne_int, lt_int, gt_int, le_int, ge_int, eq_bl, add_int, add_tup, add_lst, sub_int, neg_int, isN_hi, notN_hi, mul_int, div_int, mod_int, pow_int, abs_int, intC_int, len_tup, len_lst, tup_D, lst_D, rt_D, Bool.not_not, Bool.not_true, Bool.not_false, true_and, and_true, false_and, and_false, or_true, true_or, or_false, false_or, List.length_cons, List.length_nil, List.length_append, List.length_map, List.map_cons, List.map_nil, List.replicate_succ, List.replicate_zero, List.cons_append, List.nil_append, List.append_nil, List.set_cons_zero, List.set_cons_succ, List.getElem?_cons_zero, List.getElem?_cons_succ, Option.bind_some, Option.map_some, Option.bind_none, Option.map_none, OW_some, OW_bind, OW_map, OW_if, Bool.false_eq_true, if_true, if_false, ↓reduceIte, Nat.reduceAdd, Nat.reduceSub, Nat.zero_add, Nat.sub_self, Function.comp, OW_eq lc, OW_eq s1, OW_eq q1, OW_eq s2, nt, check_is (x := taken) (s := s) ht, hn, beq_self_eq_true, d1, OW_eq hl, OW_eq q2, OW_eq (et _)]
end K41

set_option Elab.async false
set_option linter.all false
set_option maxRecDepth 100000
set_option maxHeartbeats 4000000
namespace K41
open PySem
open L2
open Dl
open Txt
open TL
/-! the text read back -/
section
variable {S : Type}
theorem aug3 {env : DE} {s : S} {a b : Str} (h : datAt env 3 = some (.str a)) (h2 : (mVar 5 : ME S) env s = some (.str b, s)) (hl : a.length + (b.length + 1) ≤ 100000) : sAug 3 iaddD (mB addD (mVar 5) (mC (.str "\n"))) env s = some (.nx (env.set 3 (some (.dat (.str (a ++ (b ++ ("\n" : Str))))))) s) := by
  have e1 : addD (.str b) (.str ("\n" : Str)) = some (.str (b ++ ("\n" : Str))) := add_str (by rw [lf_len]; omega)
  have e2 : iaddD (.str a) (.str (b ++ ("\n" : Str))) = some (.str (a ++ (b ++ ("\n" : Str)))) := by
    show (if a.length + (b ++ ("\n" : Str)).length ≤ sizeLine then some (D.str (a ++ (b ++ ("\n" : Str)))) else none) = _
    rw [if_pos (by rw [app_len, lf_len, sizeLine_eq]; omega)]
  have e3 : (mB addD (mVar 5) (mC (.str "\n")) : ME S) env s = some (.str (b ++ ("\n" : Str)), s) := by
    unfold mB
    rw [h2]
    show (addD (.str b) (.str ("\n" : Str))).map _ = _
    rw [e1]
    rfl
  unfold sAug
  rw [h, Option.bind_some, e3, Option.bind_some]
  dsimp only
  rw [e2]
  rfl
end
theorem ixN_last {n : Nat} : ixN (n + 1) (-1) = some n := by
  unfold ixN
  rw [if_neg (by omega), if_pos (by omega)]
  congr 1
  omega
theorem get_mid {α : Type} (a : List α) (x : α) (b : List α) : (a ++ x :: b)[a.length]? = some x := by
  rw [List.getElem?_append_right (Nat.le_refl _), Nat.sub_self]
  rfl
theorem atI_last {α : Type} {l : List α} {x : α} : atI (l ++ [x]) (-1) = some x := by
  unfold atI
  rw [List.length_append, List.length_singleton, ixN_last]
  exact get_mid l x []
theorem ix_w (t : Trip) : ixD t.D (.int 0) = some (.str t.w) := ix_0
theorem nn_trip (t : Trip) : isND t.D .non = some (.bl false) := rfl
/-- a line that tells a triple -/
theorem read_step {A B e6 : Option Slot} {done : List Trip} {t : Trip} {taken : Str} {k : Int} {s : Hand} (h : TripOk t) (hl : ∀ p, done.getLast? = some p → ltS p.w t.w = true) (hz : taken.length ≤ 50000) (hd : done.length ≤ 100) :
    b_read_lock_0 [A, B, some (.own (done.map Trip.D)), some (.dat (.str taken)), some (.dat (.int k)), some (.dat (.str (tripT t))), e6] s = some (.ok (.nx [A, B, some (.own ((done ++ [t]).map Trip.D)), some (.dat (.str (taken ++ (tripT t ++ ("\n" : Str))))), some (.dat (.int k)), some (.dat (.str (tripT t))), some (.dat t.D)] s)) := by
  have hlen := tripT_len h
  have ha : ∀ {O X : Option Slot}, sAug 3 iaddD (mB addD (mVar 5) (mC (.str "\n"))) [A, B, O, some (.dat (.str taken)), some (.dat (.int k)), some (.dat (.str (tripT t))), X] s = some (.nx [A, B, O, some (.dat (.str (taken ++ (tripT t ++ ("\n" : Str))))), some (.dat (.int k)), some (.dat (.str (tripT t))), X] s) := fun {O X} => aug3 rfl rfl (by omega)
  have hzz : (done.length < sizeLine) = True := eq_true (by rw [sizeLine_eq]; omega)
  rw [b_read_lock_0_eq]
  rcases List.eq_nil_or_concat done with e | ⟨d, p, e⟩
  · subst e
    refine eq_of_OW ?_
    have hz0 : (0 < sizeLine) = True := eq_true (by rw [sizeLine_eq]; omega)
    have g0 : decide ((0 : Int) < 0) = false := by decide
    simp only [mDefX_eq, xS_eq, xSeq_eq, xIf_eq, xRaise_eq, thenX_nx, thenX_rt, thenX_if, outX_rt, mDef_eq, outD_nx, outD_rt, startE, sNil, sSeq, thenS_nx, thenS_rt, thenS_bk, thenS_ct, sAsg, sIf, sRet, sRetN, sDrop, sBrk, sCnt, sFor, sOwn, ownAt, sApp, sExt, sPut, sFrz, sPar, mIxO, mLenO, mTupO, mVar, mC, mU, mB, mNil, mCons, mF, mIsT, mAndT, mOrT, mNotT, mAnd, mOr, mNot, mIf, mChain, mPart, mNoPart, mSl, mCall, mIt, mRng, mComp, mYes, gdName, gdTup, gdCons, gdNil, wipeE, tupItems_tup, lstItems_lst, bl_bl, int_int, mHx_eq, mHlen_eq, mHcell_eq, sHput_eq, isH_hnd, hget1, hget2, hget3, hget4, hset1, hset2, hset3, hset4, eq_int, ne_int, lt_int, gt_int, le_int, ge_int, eq_bl, add_int, add_tup, add_lst, sub_int, neg_int, isN_hi, notN_hi, mul_int, div_int, mod_int, pow_int, abs_int, intC_int, len_tup, len_lst, tup_D, lst_D, rt_D, Bool.not_not, Bool.not_true, Bool.not_false, true_and, and_true, false_and, and_false, or_true, true_or, or_false, false_or, List.length_cons, List.length_nil, List.length_append, List.length_map, List.map_cons, List.map_nil, List.replicate_succ, List.replicate_zero, List.cons_append, List.nil_append, List.append_nil, List.set_cons_zero, List.set_cons_succ, List.getElem?_cons_zero, List.getElem?_cons_succ, Option.bind_some, Option.map_some, Option.bind_none, Option.map_none, OW_some, OW_bind, OW_map, OW_if, Bool.false_eq_true, if_true, if_false, ↓reduceIte, Nat.reduceAdd, Nat.reduceSub, Nat.zero_add, Nat.sub_self, Function.comp, triple_read (s := s) h, OW_eq (nn_trip t), Int.ofNat_zero, Int.natCast_zero, g0, hz0, OW_eq ha]
    try rfl
  · rw [List.concat_eq_append] at e
    subst e
    have hw := hl p (by simp)
    have el : (d ++ [p]).map Trip.D = d.map Trip.D ++ [p.D] := by rw [List.map_append]; rfl
    have el2 : (d ++ [p] ++ [t]).map Trip.D = d.map Trip.D ++ [p.D] ++ [t.D] := by rw [List.map_append, List.map_append]; rfl
    have hk : (atI (d.map Trip.D ++ [p.D]) (-1)) = some p.D := atI_last
    have g1 : decide ((0 : Int) < ((d.length + 1 : Nat) : Int)) = true := decide_eq_true (by omega)
    have iz : intOf (.int (-1)) = some (-1) := rfl
    rw [List.length_append, List.length_singleton] at hzz
    rw [el, el2]
    refine eq_of_OW ?_
    simp only [mDefX_eq, xS_eq, xSeq_eq, xIf_eq, xRaise_eq, thenX_nx, thenX_rt, thenX_if, outX_rt, mDef_eq, outD_nx, outD_rt, startE, sNil, sSeq, thenS_nx, thenS_rt, thenS_bk, thenS_ct, sAsg, sIf, sRet, sRetN, sDrop, sBrk, sCnt, sFor, sOwn, ownAt, sApp, sExt, sPut, sFrz, sPar, mIxO, mLenO, mTupO, mVar, mC, mU, mB, mNil, mCons, mF, mIsT, mAndT, mOrT, mNotT, mAnd, mOr, mNot, mIf, mChain, mPart, mNoPart, mSl, mCall, mIt, mRng, mComp, mYes, gdName, gdTup, gdCons, gdNil, wipeE, tupItems_tup, lstItems_lst, bl_bl, int_int, mHx_eq, mHlen_eq, mHcell_eq, sHput_eq, isH_hnd, hget1, hget2, hget3, hget4, hset1, hset2, hset3, hset4, eq_int, ne_int, lt_int, gt_int, le_int, ge_int, eq_bl, add_int, add_tup, add_lst, sub_int, neg_int, isN_hi, notN_hi, mul_int, div_int, mod_int, pow_int, abs_int, intC_int, len_tup, len_lst, tup_D, lst_D, rt_D, Bool.not_not, Bool.not_true, Bool.not_false, true_and, and_true, false_and, and_false, or_true, true_or, or_false, false_or, List.length_cons, List.length_nil, List.length_append, List.length_map, List.map_cons, List.map_nil, List.replicate_succ, List.replicate_zero, List.cons_append, List.nil_append, List.append_nil, List.set_cons_zero, List.set_cons_succ, List.getElem?_cons_zero, List.getElem?_cons_succ, Option.bind_some, Option.map_some, Option.bind_none, Option.map_none, OW_some, OW_bind, OW_map, OW_if, Bool.false_eq_true, if_true, if_false, ↓reduceIte, Nat.reduceAdd, Nat.reduceSub, Nat.zero_add, Nat.sub_self, Function.comp, triple_read (s := s) h, OW_eq (nn_trip t), ownAt, g1, iz, OW_eq hk, OW_eq (ix_w _), OW_eq (lt_str _ _), hw, hzz, OW_eq ha]
    try rfl
end K41

set_option Elab.async false
set_option linter.all false
set_option maxRecDepth 100000
set_option maxHeartbeats 4000000
namespace K41
open PySem
open L2
open Dl
open Txt
open TL
theorem bodyT_tl (l : List Trip) : tl (bodyT l) = ((l.map lineT).map tl).flatten := by
  unfold bodyT
  rw [join_eq, tl_join, nil_tl, joinL_nil]
theorem bodyT_add (d : List Trip) (t : Trip) : bodyT (d ++ [t]) = bodyT d ++ (tripT t ++ ("\n" : Str)) := by
  refine tl_inj ?_
  rw [app_tl, bodyT_tl, bodyT_tl, List.map_append, List.map_append, List.flatten_append]
  show _ ++ (tl (lineT t) ++ []) = _
  rw [List.append_nil]
  rfl
theorem rows_D (l : List Trip) : (rowsT l).map D.str = (l.map tripT ++ [chkLine (bodyT l)]).map D.str ++ [.str ""] := by
  unfold rowsT
  simp only [List.map_append, List.map_cons, List.map_nil, List.append_assoc, List.cons_append, List.nil_append]
theorem sl_last (xs : List D) (d : D) : slL (.lst (xs ++ [d])) none (some (-1)) = some (.lst xs) := by
  show some (D.lst (cutD (xs ++ [d]) none (some (-1)))) = _
  unfold cutD
  have e : HT.sIx (xs ++ [d]).length (xs ++ [d]).length (some (-1)) = xs.length := by
    unfold HT.sIx
    dsimp only
    rw [if_pos (by decide), List.length_append, List.length_singleton]
    omega
  rw [HT.sIx_none, e, List.drop_zero, Nat.sub_zero, List.take_left' rfl]
theorem body_le {l : List Trip} (h : InstOk l) {d t : List Trip} (e : d ++ t = l) : (bodyT d).length ≤ 12060 := by
  have : tl (bodyT l) = tl (bodyT d) ++ tl (bodyT t) := by
    rw [bodyT_tl, bodyT_tl, bodyT_tl, ← e, List.map_append, List.map_append, List.flatten_append]
  have h2 := bodyT_len h
  rw [← tl_len, this, List.length_append, tl_len] at h2
  omega
theorem read_end {A e6 : Option Slot} {l : List Trip} {s : Hand} (h : InstOk l) :
    b_read_lock_0 [A, some (.dat (.lst ((rowsT l).map D.str))), some (.own (l.map Trip.D)), some (.dat (.str (bodyT l))), some (.dat (.int ((l.length : Nat) : Int))), some (.dat (.str (chkLine (bodyT l)))), e6] s = some (.ok (.rt (instD l) s)) := by
  obtain ⟨c1, c2⟩ := chk_lt (bodyT l)
  have hb := bodyT_len h
  have hl := h.2.1
  have h1 : f_triple_told [.str (chkLine (bodyT l))] s = some (.non, s) := chk_told (by omega)
  have h2 := ended_is (rows := (rowsT l).map D.str) (found := l.map Trip.D) (k := l.length) (n := chkT (bodyT l)) (taken := bodyT l) (s := s) c2 (by omega) (by
      rw [rows_D, List.length_append, List.length_map, List.length_append, List.length_map]; rfl) (by
      rw [rows_D]
      exact atI_last) (by omega) (by omega)
  have h2' : f_ended [.lst ((rowsT l).map D.str), .int ((l.length : Nat) : Int), .str (chkLine (bodyT l)), .str (bodyT l), .lst (l.map Trip.D)] s = some (.val (.tup (l.map Trip.D)) s) := h2
  have nn : isND .non .non = some (.bl true) := rfl
  generalize hR : (rowsT l).map D.str = R at *
  generalize hC : chkLine (bodyT l) = C at *
  rw [b_read_lock_0_eq]
  refine eq_of_OW ?_
  simp only [mDefX_eq, xS_eq, xSeq_eq, xIf_eq, xRaise_eq, thenX_nx, thenX_rt, thenX_if, outX_rt, xFrz, xRet, xCall, ownAt, mDef_eq, outD_nx, outD_rt, startE, sNil, sSeq, thenS_nx, thenS_rt, thenS_bk, thenS_ct, sAsg, sIf, sRet, sRetN, sDrop, sBrk, sCnt, sFor, sOwn, ownAt, sApp, sExt, sPut, sFrz, sPar, mIxO, mLenO, mTupO, mVar, mC, mU, mB, mNil, mCons, mF, mIsT, mAndT, mOrT, mNotT, mAnd, mOr, mNot, mIf, mChain, mPart, mNoPart, mSl, mCall, mIt, mRng, mComp, mYes, gdName, gdTup, gdCons, gdNil, wipeE, tupItems_tup, lstItems_lst, bl_bl, int_int, mHx_eq, mHlen_eq, mHcell_eq, sHput_eq, isH_hnd, hget1, hget2, hget3, hget4, hset1, hset2, hset3, hset4, eq_int, ne_int, lt_int, gt_int, le_int, ge_int, eq_bl, add_int, add_tup, add_lst, sub_int, neg_int, isN_hi, notN_hi, mul_int, div_int, mod_int, pow_int, abs_int, intC_int, len_tup, len_lst, tup_D, lst_D, rt_D, Bool.not_not, Bool.not_true, Bool.not_false, true_and, and_true, false_and, and_false, or_true, true_or, or_false, false_or, List.length_cons, List.length_nil, List.length_append, List.length_map, List.map_cons, List.map_nil, List.replicate_succ, List.replicate_zero, List.cons_append, List.nil_append, List.append_nil, List.set_cons_zero, List.set_cons_succ, List.getElem?_cons_zero, List.getElem?_cons_succ, Option.bind_some, Option.map_some, Option.bind_none, Option.map_none, OW_some, OW_bind, OW_map, OW_if, Bool.false_eq_true, if_true, if_false, ↓reduceIte, Nat.reduceAdd, Nat.reduceSub, Nat.zero_add, Nat.sub_self, Function.comp, h1, OW_eq nn, h2']
  try rfl
theorem read_loop {A : Option Slot} {l : List Trip} {s : Hand} (h : InstOk l) : ∀ (todo done : List Trip) (e4 e5 e6 : Option Slot), done ++ todo = l →
    loopX (gdTup 2 (gdCons (gdName 4) (gdCons (gdName 5) gdNil))) b_read_lock_0 (enumD ((done.length : Nat) : Int) ((todo.map tripT ++ [chkLine (bodyT l)]).map D.str)) [A, some (.dat (.lst ((rowsT l).map D.str))), some (.own (done.map Trip.D)), some (.dat (.str (bodyT done))), e4, e5, e6] s = some (.ok (.rt (instD l) s))
  | [], done, e4, e5, e6, e => by
    rw [List.append_nil] at e
    subst e
    have hr := read_end (A := A) (e6 := e6) (s := s) h
    show (b_read_lock_0 [A, some (.dat (.lst ((rowsT done).map D.str))), some (.own (done.map Trip.D)), some (.dat (.str (bodyT done))), some (.dat (.int ((done.length : Nat) : Int))), some (.dat (.str (chkLine (bodyT done)))), e6] s).bind _ = _
    rw [hr]
    rfl
  | t :: todo, done, e4, e5, e6, e => by
    have hbl := body_le h e
    have e' : (done ++ [t]) ++ todo = l := by rw [List.append_assoc]; exact e
    have ih := read_loop (A := A) (s := s) h todo (done ++ [t])
    have ht : TripOk t := h.2.2 t (by rw [← e]; simp)
    have hln := h.2.1
    have hup := h.1
    rw [← e, List.map_append] at hup
    have hw : ∀ p, done.getLast? = some p → ltS p.w t.w = true := fun p hp => by
      have := (List.pairwise_append.mp hup).2.2 p.w (List.mem_map.mpr ⟨p, List.mem_of_getLast? hp, rfl⟩) t.w (by simp)
      exact this
    have hst := read_step (A := A) (B := some (.dat (.lst ((rowsT l).map D.str)))) (e6 := e6) (done := done) (t := t) (taken := bodyT done) (k := ((done.length : Nat) : Int)) (s := s) ht hw (by omega) (by
      have : (done ++ t :: todo).length = l.length := by rw [e]
      rw [List.length_append] at this
      omega)
    show (b_read_lock_0 [A, some (.dat (.lst ((rowsT l).map D.str))), some (.own (done.map Trip.D)), some (.dat (.str (bodyT done))), some (.dat (.int ((done.length : Nat) : Int))), some (.dat (.str (tripT t))), e6] s).bind _ = _
    rw [hst, ← bodyT_add]
    have ih2 := ih (some (.dat (.int ((done.length : Nat) : Int)))) (some (.dat (.str (tripT t)))) (some (.dat t.D)) e'
    rw [List.length_append, List.length_singleton] at ih2
    exact ih2
theorem read_lock_is {l : List Trip} {s : Hand} (h : InstOk l) : f_read_lock [.str (lockT l)] s = some (.val (instD l) s) := by
  have hb := bodyT_len h
  obtain ⟨c1, c2⟩ := chk_lt (bodyT l)
  have hn := (num_len (n := chkT (bodyT l)) (by omega)).2
  have hlen : (lockT l).length ≤ 100000 := by
    unfold lockT
    rw [app_len, app_len, app_len, ck_len, lf_len]
    omega
  have es : splitD (.str (lockT l)) (.str "\n") = some (.lst ((rowsT l).map D.str)) := by
    rw [split_D (by rw [lf_len]; rfl) hlen, rows_split h]
  have isS : isiD .tStr (.str (lockT l)) = some (.bl true) := rfl
  have hlo := read_loop (A := some (.dat (.str (lockT l)))) (s := s) h l [] none none none rfl
  have sl : slL (.lst ((rowsT l).map D.str)) none (some (-1)) = some (.lst ((l.map tripT ++ [chkLine (bodyT l)]).map D.str)) := by
    rw [rows_D, sl_last]
  have hlo' : loopX (gdTup 2 (gdCons (gdName 4) (gdCons (gdName 5) gdNil))) b_read_lock_0 (enumD 0 ((l.map tripT ++ [chkLine (bodyT l)]).map D.str)) [some (.dat (.str (lockT l))), some (.dat (.lst ((rowsT l).map D.str))), some (.own []), some (.dat (.str "")), none, none, none] s = some (.ok (.rt (instD l) s)) := hlo
  have ee : ∀ xs : List D, enumLItems [.lst xs] = some (enumD 0 xs) := fun _ => rfl
  have hs0 : (0 ≤ sizeLine) = True := eq_true (by rw [sizeLine_eq]; omega)
  generalize hR : (rowsT l).map D.str = R at *
  generalize hC : (l.map tripT ++ [chkLine (bodyT l)]).map D.str = C at *
  generalize hK : lockT l = K at *
  refine eq_of_OW ?_
  unfold f_read_lock
  simp only [mDefX_eq, xS_eq, xSeq_eq, xIf_eq, xRaise_eq, xFor_eq, mIt2, thenX_nx, thenX_rt, thenX_if, outX_rt, mDef_eq, outD_nx, outD_rt, startE, sNil, sSeq, thenS_nx, thenS_rt, thenS_bk, thenS_ct, sAsg, sIf, sRet, sRetN, sDrop, sBrk, sCnt, sFor, sOwn, ownAt, sApp, sExt, sPut, sFrz, sPar, mIxO, mLenO, mTupO, mVar, mC, mU, mB, mNil, mCons, mF, mIsT, mAndT, mOrT, mNotT, mAnd, mOr, mNot, mIf, mChain, mPart, mNoPart, mSl, mCall, mIt, mRng, mComp, mYes, gdName, gdTup, gdCons, gdNil, wipeE, tupItems_tup, lstItems_lst, bl_bl, int_int, mHx_eq, mHlen_eq, mHcell_eq, sHput_eq, isH_hnd, hget1, hget2, hget3, hget4, hset1, hset2, hset3, hset4, eq_int, ne_int, lt_int, gt_int, le_int, ge_int, eq_bl, add_int, add_tup, add_lst, sub_int, neg_int, isN_hi, notN_hi, mul_int, div_int, mod_int, pow_int, abs_int, intC_int, len_tup, len_lst, tup_D, lst_D, rt_D, Bool.not_not, Bool.not_true, Bool.not_false, true_and, and_true, false_and, and_false, or_true, true_or, or_false, false_or, List.length_cons, List.length_nil, List.length_append, List.length_map, List.map_cons, List.map_nil, List.replicate_succ, List.replicate_zero, List.cons_append, List.nil_append, List.append_nil, List.set_cons_zero, List.set_cons_succ, List.getElem?_cons_zero, List.getElem?_cons_succ, Option.bind_some, Option.map_some, Option.bind_none, Option.map_none, OW_some, OW_bind, OW_map, OW_if, Bool.false_eq_true, if_true, if_false, ↓reduceIte, Nat.reduceAdd, Nat.reduceSub, Nat.zero_add, Nat.sub_self, Function.comp, OW_eq isS, OW_eq es, OW_eq sl, OW_eq (ee _), hs0, OW_eq hlo']
  try rfl
end K41

set_option Elab.async false
set_option linter.all false
set_option maxRecDepth 100000
set_option maxHeartbeats 4000000
namespace K41
open PySem
open L2
open Dl
open Txt
open TL
/-! locks, a question of them -/
def numsD (v : List Nat) : D := .tup (v.map fun (n : Nat) => D.int ((n : Nat) : Int))
def lockD (t : Trip) : D := .tup [.str t.w, numsD t.v]
def locksD (l : List Trip) : D := .tup (l.map lockD)
theorem all_map_true {α : Type} (l : List α) : allD [.lst (l.map fun _ => D.bl true)] = some (.bl true) := by
  rw [List.map_const']
  exact all_true _
theorem trip_D (t : Trip) : t.D = .tup [.str t.w, numsD t.v, .tup (t.fs.map D.str)] := rfl
theorem tupI (l : List D) : tupItems (.tup l) = some l := rfl
theorem tupC (l : List D) : tupleCD [.lst l] = some (.tup l) := rfl
theorem isT_tup (l : List D) : isiD .tTuple (.tup l) = some (.bl true) := rfl
theorem isS_str (x : Str) : isiD .tStr (.str x) = some (.bl true) := rfl
theorem isI_int (i : Int) : isiD .tInt (.int i) = some (.bl true) := rfl
theorem isB_int (i : Int) : isiD .tBool (.int i) = some (.bl false) := rfl
theorem locks_of_is {l : List Trip} {s : Hand} : f_locks_of [instD l] s = some (locksD l, s) := by
  have ec : compL (gdTup 3 (gdCons (gdName 1) (gdCons (gdName 2) (gdCons (gdName 3) gdNil)))) mYes c_locks_of_0 [some (.dat (instD l)), none, none, none] (l.map Trip.D) s = some (l.map lockD, s) := by
    refine comp_map l fun t ht => ⟨[some (.dat (instD l)), some (.dat (.str t.w)), some (.dat (numsD t.v)), some (.dat (.tup (t.fs.map D.str)))], rfl, ?_⟩
    rw [c_locks_of_0_eq]
    refine eq_of_OW ?_
    simp only [mDef_eq, outD_nx, outD_rt, startE, sNil, sSeq, thenS_nx, thenS_rt, thenS_bk, thenS_ct, sAsg, sIf, sRet, sRetN, sDrop, sBrk, sCnt, sFor, sOwn, ownAt, sApp, sExt, sPut, sFrz, sPar, mIxO, mLenO, mTupO, mVar, mC, mU, mB, mNil, mCons, mF, mIsT, mAndT, mOrT, mNotT, mAnd, mOr, mNot, mIf, mChain, mPart, mNoPart, mSl, mCall, mIt, mRng, mComp, mYes, gdName, gdTup, gdCons, gdNil, wipeE, tupItems_tup, lstItems_lst, bl_bl, int_int, mHx_eq, mHlen_eq, mHcell_eq, sHput_eq, isH_hnd, hget1, hget2, hget3, hget4, hset1, hset2, hset3, hset4, eq_int, ne_int, lt_int, gt_int, le_int, ge_int, eq_bl, add_int, add_tup, add_lst, sub_int, neg_int, isN_hi, notN_hi, mul_int, div_int, mod_int, pow_int, abs_int, intC_int, len_tup, len_lst, tup_D, lst_D, rt_D, Bool.not_not, Bool.not_true, Bool.not_false, true_and, and_true, false_and, and_false, or_true, true_or, or_false, false_or, List.length_cons, List.length_nil, List.length_append, List.length_map, List.map_cons, List.map_nil, List.replicate_succ, List.replicate_zero, List.cons_append, List.nil_append, List.append_nil, List.set_cons_zero, List.set_cons_succ, List.getElem?_cons_zero, List.getElem?_cons_succ, Option.bind_some, Option.map_some, Option.bind_none, Option.map_none, OW_some, OW_bind, OW_map, OW_if, Bool.false_eq_true, if_true, if_false, ↓reduceIte, Nat.reduceAdd, Nat.reduceSub, Nat.zero_add, Nat.sub_self, Function.comp]
    rfl
  have ei : tupItems (instD l) = some (l.map Trip.D) := rfl
  refine eq_of_OW ?_
  unfold f_locks_of
  simp only [mDef_eq, outD_nx, outD_rt, startE, sNil, sSeq, thenS_nx, thenS_rt, thenS_bk, thenS_ct, sAsg, sIf, sRet, sRetN, sDrop, sBrk, sCnt, sFor, sOwn, ownAt, sApp, sExt, sPut, sFrz, sPar, mIxO, mLenO, mTupO, mVar, mC, mU, mB, mNil, mCons, mF, mIsT, mAndT, mOrT, mNotT, mAnd, mOr, mNot, mIf, mChain, mPart, mNoPart, mSl, mCall, mIt, mRng, mComp, mYes, gdName, gdTup, gdCons, gdNil, wipeE, tupItems_tup, lstItems_lst, bl_bl, int_int, mHx_eq, mHlen_eq, mHcell_eq, sHput_eq, isH_hnd, hget1, hget2, hget3, hget4, hset1, hset2, hset3, hset4, eq_int, ne_int, lt_int, gt_int, le_int, ge_int, eq_bl, add_int, add_tup, add_lst, sub_int, neg_int, isN_hi, notN_hi, mul_int, div_int, mod_int, pow_int, abs_int, intC_int, len_tup, len_lst, tup_D, lst_D, rt_D, Bool.not_not, Bool.not_true, Bool.not_false, true_and, and_true, false_and, and_false, or_true, true_or, or_false, false_or, List.length_cons, List.length_nil, List.length_append, List.length_map, List.map_cons, List.map_nil, List.replicate_succ, List.replicate_zero, List.cons_append, List.nil_append, List.append_nil, List.set_cons_zero, List.set_cons_succ, List.getElem?_cons_zero, List.getElem?_cons_succ, Option.bind_some, Option.map_some, Option.bind_none, Option.map_none, OW_some, OW_bind, OW_map, OW_if, Bool.false_eq_true, if_true, if_false, ↓reduceIte, Nat.reduceAdd, Nat.reduceSub, Nat.zero_add, Nat.sub_self, Function.comp, OW_eq ei, OW_eq ec, OW_eq (tupC _)]
  rfl
theorem within_is {n : Nat} {s : Hand} (h : n ≤ 1000000) : f_is_within [.int (n : Int), .int 0, .int 1000000] s = some (.bl true, s) := by
  have d1 : decide ((0 : Int) ≤ (n : Int)) = true := decide_eq_true (by omega)
  have d2 : decide ((n : Int) ≤ 1000000) = true := decide_eq_true (by omega)
  have hi : f_is_integer [.int (n : Int)] s = some (.bl true, s) := by
    refine eq_of_OW ?_
    unfold f_is_integer
    simp only [mDef_eq, outD_nx, outD_rt, startE, sNil, sSeq, thenS_nx, thenS_rt, thenS_bk, thenS_ct, sAsg, sIf, sRet, sRetN, sDrop, sBrk, sCnt, sFor, sOwn, ownAt, sApp, sExt, sPut, sFrz, sPar, mIxO, mLenO, mTupO, mVar, mC, mU, mB, mNil, mCons, mF, mIsT, mAndT, mOrT, mNotT, mAnd, mOr, mNot, mIf, mChain, mPart, mNoPart, mSl, mCall, mIt, mRng, mComp, mYes, gdName, gdTup, gdCons, gdNil, wipeE, tupItems_tup, lstItems_lst, bl_bl, int_int, mHx_eq, mHlen_eq, mHcell_eq, sHput_eq, isH_hnd, hget1, hget2, hget3, hget4, hset1, hset2, hset3, hset4, eq_int, ne_int, lt_int, gt_int, le_int, ge_int, eq_bl, add_int, add_tup, add_lst, sub_int, neg_int, isN_hi, notN_hi, mul_int, div_int, mod_int, pow_int, abs_int, intC_int, len_tup, len_lst, tup_D, lst_D, rt_D, Bool.not_not, Bool.not_true, Bool.not_false, true_and, and_true, false_and, and_false, or_true, true_or, or_false, false_or, List.length_cons, List.length_nil, List.length_append, List.length_map, List.map_cons, List.map_nil, List.replicate_succ, List.replicate_zero, List.cons_append, List.nil_append, List.append_nil, List.set_cons_zero, List.set_cons_succ, List.getElem?_cons_zero, List.getElem?_cons_succ, Option.bind_some, Option.map_some, Option.bind_none, Option.map_none, OW_some, OW_bind, OW_map, OW_if, Bool.false_eq_true, if_true, if_false, ↓reduceIte, Nat.reduceAdd, Nat.reduceSub, Nat.zero_add, Nat.sub_self, Function.comp, OW_eq (isI_int _), OW_eq (isB_int _)]
  refine eq_of_OW ?_
  unfold f_is_within
  simp only [mDef_eq, outD_nx, outD_rt, startE, sNil, sSeq, thenS_nx, thenS_rt, thenS_bk, thenS_ct, sAsg, sIf, sRet, sRetN, sDrop, sBrk, sCnt, sFor, sOwn, ownAt, sApp, sExt, sPut, sFrz, sPar, mIxO, mLenO, mTupO, mVar, mC, mU, mB, mNil, mCons, mF, mIsT, mAndT, mOrT, mNotT, mAnd, mOr, mNot, mIf, mChain, mPart, mNoPart, mSl, mCall, mIt, mRng, mComp, mYes, gdName, gdTup, gdCons, gdNil, wipeE, tupItems_tup, lstItems_lst, bl_bl, int_int, mHx_eq, mHlen_eq, mHcell_eq, sHput_eq, isH_hnd, hget1, hget2, hget3, hget4, hset1, hset2, hset3, hset4, eq_int, ne_int, lt_int, gt_int, le_int, ge_int, eq_bl, add_int, add_tup, add_lst, sub_int, neg_int, isN_hi, notN_hi, mul_int, div_int, mod_int, pow_int, abs_int, intC_int, len_tup, len_lst, tup_D, lst_D, rt_D, Bool.not_not, Bool.not_true, Bool.not_false, true_and, and_true, false_and, and_false, or_true, true_or, or_false, false_or, List.length_cons, List.length_nil, List.length_append, List.length_map, List.map_cons, List.map_nil, List.replicate_succ, List.replicate_zero, List.cons_append, List.nil_append, List.append_nil, List.set_cons_zero, List.set_cons_succ, List.getElem?_cons_zero, List.getElem?_cons_succ, Option.bind_some, Option.map_some, Option.bind_none, Option.map_none, OW_some, OW_bind, OW_map, OW_if, Bool.false_eq_true, if_true, if_false, ↓reduceIte, Nat.reduceAdd, Nat.reduceSub, Nat.zero_add, Nat.sub_self, Function.comp, hi, d1, d2]
theorem is_ver_is {v : List Nat} {s : Hand} (h : v.length = 3) (hn : ∀ n ∈ v, n ≤ 1000000) : f_is_version [numsD v] s = some (.bl true, s) := by
  have ec : compL (gdName 1) mYes c_is_version_0 [some (.dat (numsD v)), none] (v.map fun (n : Nat) => D.int ((n : Nat) : Int)) s = some (v.map fun _ => D.bl true, s) := by
    refine comp_map v fun n hv => ⟨_, rfl, ?_⟩
    rw [c_is_version_0_eq]
    refine eq_of_OW ?_
    simp only [mDef_eq, outD_nx, outD_rt, startE, sNil, sSeq, thenS_nx, thenS_rt, thenS_bk, thenS_ct, sAsg, sIf, sRet, sRetN, sDrop, sBrk, sCnt, sFor, sOwn, ownAt, sApp, sExt, sPut, sFrz, sPar, mIxO, mLenO, mTupO, mVar, mC, mU, mB, mNil, mCons, mF, mIsT, mAndT, mOrT, mNotT, mAnd, mOr, mNot, mIf, mChain, mPart, mNoPart, mSl, mCall, mIt, mRng, mComp, mYes, gdName, gdTup, gdCons, gdNil, wipeE, tupItems_tup, lstItems_lst, bl_bl, int_int, mHx_eq, mHlen_eq, mHcell_eq, sHput_eq, isH_hnd, hget1, hget2, hget3, hget4, hset1, hset2, hset3, hset4, eq_int, ne_int, lt_int, gt_int, le_int, ge_int, eq_bl, add_int, add_tup, add_lst, sub_int, neg_int, isN_hi, notN_hi, mul_int, div_int, mod_int, pow_int, abs_int, intC_int, len_tup, len_lst, tup_D, lst_D, rt_D, Bool.not_not, Bool.not_true, Bool.not_false, true_and, and_true, false_and, and_false, or_true, true_or, or_false, false_or, List.length_cons, List.length_nil, List.length_append, List.length_map, List.map_cons, List.map_nil, List.replicate_succ, List.replicate_zero, List.cons_append, List.nil_append, List.append_nil, List.set_cons_zero, List.set_cons_succ, List.getElem?_cons_zero, List.getElem?_cons_succ, Option.bind_some, Option.map_some, Option.bind_none, Option.map_none, OW_some, OW_bind, OW_map, OW_if, Bool.false_eq_true, if_true, if_false, ↓reduceIte, Nat.reduceAdd, Nat.reduceSub, Nat.zero_add, Nat.sub_self, Function.comp, within_is (s := s) (hn n hv)]
  have ei : tupItems (numsD v) = some (v.map fun (n : Nat) => D.int ((n : Nat) : Int)) := rfl
  have el : lenD [numsD v] = some (.int 3) := by
    unfold numsD
    rw [len_tup, List.length_map, h]
    rfl
  have it : isiD .tTuple (numsD v) = some (.bl true) := rfl
  have q : ((3 : Int) == 3) = true := rfl
  refine eq_of_OW ?_
  unfold f_is_version
  simp only [mDef_eq, outD_nx, outD_rt, startE, sNil, sSeq, thenS_nx, thenS_rt, thenS_bk, thenS_ct, sAsg, sIf, sRet, sRetN, sDrop, sBrk, sCnt, sFor, sOwn, ownAt, sApp, sExt, sPut, sFrz, sPar, mIxO, mLenO, mTupO, mVar, mC, mU, mB, mNil, mCons, mF, mIsT, mAndT, mOrT, mNotT, mAnd, mOr, mNot, mIf, mChain, mPart, mNoPart, mSl, mCall, mIt, mRng, mComp, mYes, gdName, gdTup, gdCons, gdNil, wipeE, tupItems_tup, lstItems_lst, bl_bl, int_int, mHx_eq, mHlen_eq, mHcell_eq, sHput_eq, isH_hnd, hget1, hget2, hget3, hget4, hset1, hset2, hset3, hset4, eq_int, ne_int, lt_int, gt_int, le_int, ge_int, eq_bl, add_int, add_tup, add_lst, sub_int, neg_int, isN_hi, notN_hi, mul_int, div_int, mod_int, pow_int, abs_int, intC_int, len_tup, len_lst, tup_D, lst_D, rt_D, Bool.not_not, Bool.not_true, Bool.not_false, true_and, and_true, false_and, and_false, or_true, true_or, or_false, false_or, List.length_cons, List.length_nil, List.length_append, List.length_map, List.map_cons, List.map_nil, List.replicate_succ, List.replicate_zero, List.cons_append, List.nil_append, List.append_nil, List.set_cons_zero, List.set_cons_succ, List.getElem?_cons_zero, List.getElem?_cons_succ, Option.bind_some, Option.map_some, Option.bind_none, Option.map_none, OW_some, OW_bind, OW_map, OW_if, Bool.false_eq_true, if_true, if_false, ↓reduceIte, Nat.reduceAdd, Nat.reduceSub, Nat.zero_add, Nat.sub_self, Function.comp, OW_eq it, OW_eq el, OW_eq ei, OW_eq ec, OW_eq (all_map_true v), q]
theorem are_locks_is {l : List Trip} {s : Hand} (h : InstOk l) (h40 : l.length ≤ 40) : f_are_locks [locksD l] s = some (.bl true, s) := by
  have it : isiD .tTuple (locksD l) = some (.bl true) := rfl
  have el : lenD [locksD l] = some (.int ((l.length : Nat) : Int)) := by
    unfold locksD
    rw [len_tup, List.length_map]
  have ei : tupItems (locksD l) = some (l.map lockD) := rfl
  have i0 : ∀ t : Trip, ixD (lockD t) (.int 0) = some (.str t.w) := fun t => ix_0
  have i1 : ∀ t : Trip, ixD (lockD t) (.int 1) = some (numsD t.v) := fun t => ix_1
  have l2 : ∀ t : Trip, lenD [lockD t] = some (.int 2) := fun t => rfl
  have tt : ∀ t : Trip, isiD .tTuple (lockD t) = some (.bl true) := fun t => rfl
  have q : ((2 : Int) == 2) = true := rfl
  have e0 : compL (gdName 1) mYes c_are_locks_0 [some (.dat (locksD l)), none] (l.map lockD) s = some (l.map fun _ => D.bl true, s) := by
    refine comp_map l fun t ht => ⟨_, rfl, ?_⟩
    obtain ⟨h1, h2, h3, h4, h5, h6⟩ := h.2.2 t ht
    have := h1.2.1
    rw [c_are_locks_0_eq]
    refine eq_of_OW ?_
    simp only [mDef_eq, outD_nx, outD_rt, startE, sNil, sSeq, thenS_nx, thenS_rt, thenS_bk, thenS_ct, sAsg, sIf, sRet, sRetN, sDrop, sBrk, sCnt, sFor, sOwn, ownAt, sApp, sExt, sPut, sFrz, sPar, mIxO, mLenO, mTupO, mVar, mC, mU, mB, mNil, mCons, mF, mIsT, mAndT, mOrT, mNotT, mAnd, mOr, mNot, mIf, mChain, mPart, mNoPart, mSl, mCall, mIt, mRng, mComp, mYes, gdName, gdTup, gdCons, gdNil, wipeE, tupItems_tup, lstItems_lst, bl_bl, int_int, mHx_eq, mHlen_eq, mHcell_eq, sHput_eq, isH_hnd, hget1, hget2, hget3, hget4, hset1, hset2, hset3, hset4, eq_int, ne_int, lt_int, gt_int, le_int, ge_int, eq_bl, add_int, add_tup, add_lst, sub_int, neg_int, isN_hi, notN_hi, mul_int, div_int, mod_int, pow_int, abs_int, intC_int, len_tup, len_lst, tup_D, lst_D, rt_D, Bool.not_not, Bool.not_true, Bool.not_false, true_and, and_true, false_and, and_false, or_true, true_or, or_false, false_or, List.length_cons, List.length_nil, List.length_append, List.length_map, List.map_cons, List.map_nil, List.replicate_succ, List.replicate_zero, List.cons_append, List.nil_append, List.append_nil, List.set_cons_zero, List.set_cons_succ, List.getElem?_cons_zero, List.getElem?_cons_succ, Option.bind_some, Option.map_some, Option.bind_none, Option.map_none, OW_some, OW_bind, OW_map, OW_if, Bool.false_eq_true, if_true, if_false, ↓reduceIte, Nat.reduceAdd, Nat.reduceSub, Nat.zero_add, Nat.sub_self, Function.comp, OW_eq (tt t), OW_eq (l2 t), OW_eq (i0 t), is_name_is (w := t.w) (s := s) (by omega), nameB_of h1, q]
  have e1 : compL (gdName 1) mYes c_are_locks_1 [some (.dat (locksD l)), none] (l.map lockD) s = some (l.map fun _ => D.bl true, s) := by
    refine comp_map l fun t ht => ⟨_, rfl, ?_⟩
    obtain ⟨h1, h2, h3, h4, h5, h6⟩ := h.2.2 t ht
    rw [c_are_locks_1_eq]
    refine eq_of_OW ?_
    simp only [mDef_eq, outD_nx, outD_rt, startE, sNil, sSeq, thenS_nx, thenS_rt, thenS_bk, thenS_ct, sAsg, sIf, sRet, sRetN, sDrop, sBrk, sCnt, sFor, sOwn, ownAt, sApp, sExt, sPut, sFrz, sPar, mIxO, mLenO, mTupO, mVar, mC, mU, mB, mNil, mCons, mF, mIsT, mAndT, mOrT, mNotT, mAnd, mOr, mNot, mIf, mChain, mPart, mNoPart, mSl, mCall, mIt, mRng, mComp, mYes, gdName, gdTup, gdCons, gdNil, wipeE, tupItems_tup, lstItems_lst, bl_bl, int_int, mHx_eq, mHlen_eq, mHcell_eq, sHput_eq, isH_hnd, hget1, hget2, hget3, hget4, hset1, hset2, hset3, hset4, eq_int, ne_int, lt_int, gt_int, le_int, ge_int, eq_bl, add_int, add_tup, add_lst, sub_int, neg_int, isN_hi, notN_hi, mul_int, div_int, mod_int, pow_int, abs_int, intC_int, len_tup, len_lst, tup_D, lst_D, rt_D, Bool.not_not, Bool.not_true, Bool.not_false, true_and, and_true, false_and, and_false, or_true, true_or, or_false, false_or, List.length_cons, List.length_nil, List.length_append, List.length_map, List.map_cons, List.map_nil, List.replicate_succ, List.replicate_zero, List.cons_append, List.nil_append, List.append_nil, List.set_cons_zero, List.set_cons_succ, List.getElem?_cons_zero, List.getElem?_cons_succ, Option.bind_some, Option.map_some, Option.bind_none, Option.map_none, OW_some, OW_bind, OW_map, OW_if, Bool.false_eq_true, if_true, if_false, ↓reduceIte, Nat.reduceAdd, Nat.reduceSub, Nat.zero_add, Nat.sub_self, Function.comp, OW_eq (i1 t), is_ver_is (s := s) h2 h3]
  have e2 : compL (gdName 1) mYes c_are_locks_2 [some (.dat (locksD l)), none] (l.map lockD) s = some (l.map fun t => D.str t.w, s) := by
    refine comp_map l fun t ht => ⟨_, rfl, ?_⟩
    rw [c_are_locks_2_eq]
    refine eq_of_OW ?_
    simp only [mDef_eq, outD_nx, outD_rt, startE, sNil, sSeq, thenS_nx, thenS_rt, thenS_bk, thenS_ct, sAsg, sIf, sRet, sRetN, sDrop, sBrk, sCnt, sFor, sOwn, ownAt, sApp, sExt, sPut, sFrz, sPar, mIxO, mLenO, mTupO, mVar, mC, mU, mB, mNil, mCons, mF, mIsT, mAndT, mOrT, mNotT, mAnd, mOr, mNot, mIf, mChain, mPart, mNoPart, mSl, mCall, mIt, mRng, mComp, mYes, gdName, gdTup, gdCons, gdNil, wipeE, tupItems_tup, lstItems_lst, bl_bl, int_int, mHx_eq, mHlen_eq, mHcell_eq, sHput_eq, isH_hnd, hget1, hget2, hget3, hget4, hset1, hset2, hset3, hset4, eq_int, ne_int, lt_int, gt_int, le_int, ge_int, eq_bl, add_int, add_tup, add_lst, sub_int, neg_int, isN_hi, notN_hi, mul_int, div_int, mod_int, pow_int, abs_int, intC_int, len_tup, len_lst, tup_D, lst_D, rt_D, Bool.not_not, Bool.not_true, Bool.not_false, true_and, and_true, false_and, and_false, or_true, true_or, or_false, false_or, List.length_cons, List.length_nil, List.length_append, List.length_map, List.map_cons, List.map_nil, List.replicate_succ, List.replicate_zero, List.cons_append, List.nil_append, List.append_nil, List.set_cons_zero, List.set_cons_succ, List.getElem?_cons_zero, List.getElem?_cons_succ, Option.bind_some, Option.map_some, Option.bind_none, Option.map_none, OW_some, OW_bind, OW_map, OW_if, Bool.false_eq_true, if_true, if_false, ↓reduceIte, Nat.reduceAdd, Nat.reduceSub, Nat.zero_add, Nat.sub_self, Function.comp, OW_eq (i0 t)]
  have em : l.map (fun t => D.str t.w) = (l.map Trip.w).map D.str := by rw [List.map_map]; rfl
  have hr := rising_lst (fs := l.map Trip.w) (s := s) h.1 (by rw [List.length_map]; omega)
  have g : decide ((40 : Int) < ((l.length : Nat) : Int)) = false := decide_eq_false (by omega)
  refine eq_of_OW ?_
  unfold f_are_locks
  simp only [mDef_eq, outD_nx, outD_rt, startE, sNil, sSeq, thenS_nx, thenS_rt, thenS_bk, thenS_ct, sAsg, sIf, sRet, sRetN, sDrop, sBrk, sCnt, sFor, sOwn, ownAt, sApp, sExt, sPut, sFrz, sPar, mIxO, mLenO, mTupO, mVar, mC, mU, mB, mNil, mCons, mF, mIsT, mAndT, mOrT, mNotT, mAnd, mOr, mNot, mIf, mChain, mPart, mNoPart, mSl, mCall, mIt, mRng, mComp, mYes, gdName, gdTup, gdCons, gdNil, wipeE, tupItems_tup, lstItems_lst, bl_bl, int_int, mHx_eq, mHlen_eq, mHcell_eq, sHput_eq, isH_hnd, hget1, hget2, hget3, hget4, hset1, hset2, hset3, hset4, eq_int, ne_int, lt_int, gt_int, le_int, ge_int, eq_bl, add_int, add_tup, add_lst, sub_int, neg_int, isN_hi, notN_hi, mul_int, div_int, mod_int, pow_int, abs_int, intC_int, len_tup, len_lst, tup_D, lst_D, rt_D, Bool.not_not, Bool.not_true, Bool.not_false, true_and, and_true, false_and, and_false, or_true, true_or, or_false, false_or, List.length_cons, List.length_nil, List.length_append, List.length_map, List.map_cons, List.map_nil, List.replicate_succ, List.replicate_zero, List.cons_append, List.nil_append, List.append_nil, List.set_cons_zero, List.set_cons_succ, List.getElem?_cons_zero, List.getElem?_cons_succ, Option.bind_some, Option.map_some, Option.bind_none, Option.map_none, OW_some, OW_bind, OW_map, OW_if, Bool.false_eq_true, if_true, if_false, ↓reduceIte, Nat.reduceAdd, Nat.reduceSub, Nat.zero_add, Nat.sub_self, Function.comp, OW_eq it, OW_eq el, OW_eq ei, OW_eq e0, OW_eq e1, OW_eq e2, em, hr, OW_eq (all_map_true l), g]
theorem noS_lock (l : List Trip) : noS (locksD l) = true := by
  have hn : ∀ v : List Nat, noS (numsD v) = true := fun v => by
    show noSL (v.map fun (n : Nat) => D.int ((n : Nat) : Int)) = true
    induction v with
    | nil => rfl
    | cons n v ih => exact ih
  show noSL (l.map lockD) = true
  induction l with
  | nil => rfl
  | cons t l ih =>
    show ((true && (noS (numsD t.v) && true)) && noSL (l.map lockD)) = true
    rw [hn, ih]
    rfl
theorem question_is {l : List Trip} {s : Hand} (h : InstOk l) (h40 : l.length ≤ 40) : f_Question [.tup [], locksD l] s = some (.val (.ins "Question" ["wishes", "locks"] [.tup [], locksD l]) s) := by
  have hq := are_locks_is (s := s) h h40
  have hn := noS_lock l
  have ns : noSL [.tup [], locksD l] = true := by
    show (true && (noS (locksD l) && true)) = true
    rw [hn]
    rfl
  have et : enumTItems [.tup []] = some [] := rfl
  have g : decide ((8 : Int) < 0) = false := by decide
  have n0 : ((0 : Nat) : Int) = 0 := rfl
  have hm : m_Question [some (.dat .hnd), some (.dat (.tup [])), some (.dat (locksD l)), none, none] s = some (.ok (.nx [some (.dat .hnd), some (.dat (.tup [])), some (.dat (locksD l)), none, none] s)) := by
    refine eq_of_OW ?_
    unfold m_Question
    simp only [mDefX_eq, xS_eq, xSeq_eq, xIf_eq, xRaise_eq, xFor_eq, mIt2, thenX_nx, thenX_rt, thenX_if, outX_rt, loopX, mDef_eq, outD_nx, outD_rt, startE, sNil, sSeq, thenS_nx, thenS_rt, thenS_bk, thenS_ct, sAsg, sIf, sRet, sRetN, sDrop, sBrk, sCnt, sFor, sOwn, ownAt, sApp, sExt, sPut, sFrz, sPar, mIxO, mLenO, mTupO, mVar, mC, mU, mB, mNil, mCons, mF, mIsT, mAndT, mOrT, mNotT, mAnd, mOr, mNot, mIf, mChain, mPart, mNoPart, mSl, mCall, mIt, mRng, mComp, mYes, gdName, gdTup, gdCons, gdNil, wipeE, tupItems_tup, lstItems_lst, bl_bl, int_int, mHx_eq, mHlen_eq, mHcell_eq, sHput_eq, isH_hnd, hget1, hget2, hget3, hget4, hset1, hset2, hset3, hset4, eq_int, ne_int, lt_int, gt_int, le_int, ge_int, eq_bl, add_int, add_tup, add_lst, sub_int, neg_int, isN_hi, notN_hi, mul_int, div_int, mod_int, pow_int, abs_int, intC_int, len_tup, len_lst, tup_D, lst_D, rt_D, Bool.not_not, Bool.not_true, Bool.not_false, true_and, and_true, false_and, and_false, or_true, true_or, or_false, false_or, List.length_cons, List.length_nil, List.length_append, List.length_map, List.map_cons, List.map_nil, List.replicate_succ, List.replicate_zero, List.cons_append, List.nil_append, List.append_nil, List.set_cons_zero, List.set_cons_succ, List.getElem?_cons_zero, List.getElem?_cons_succ, Option.bind_some, Option.map_some, Option.bind_none, Option.map_none, OW_some, OW_bind, OW_map, OW_if, Bool.false_eq_true, if_true, if_false, ↓reduceIte, Nat.reduceAdd, Nat.reduceSub, Nat.zero_add, Nat.sub_self, Function.comp, OW_eq (isT_tup _), n0, g, OW_eq et, hq]
    try rfl
  unfold f_Question mMk
  rw [if_pos ns]
  have es : startE 5 (.hnd :: [.tup [], locksD l]) = [some (.dat .hnd), some (.dat (.tup [])), some (.dat (locksD l)), none, none] := rfl
  rw [es, hm, Option.bind_some]
  show (some [.tup [], locksD l]).bind _ = _
  rw [Option.bind_some]
  exact if_pos ⟨ns, rfl⟩
end K41

set_option Elab.async false
set_option linter.all false
set_option maxRecDepth 100000
set_option maxHeartbeats 4000000
namespace K41
open PySem
open L2
open Dl
open Txt
open TL
theorem is_triple_is {t : Trip} {s : Hand} (h : TripOk t) : f__law_is_triple [t.D] s = some (.bl true, s) := by
  obtain ⟨h1, h2, h3, h4, h5, h6⟩ := h
  have it : isiD .tTuple t.D = some (.bl true) := rfl
  have l3 : lenD [t.D] = some (.int 3) := rfl
  have i0 : ixD t.D (.int 0) = some (.str t.w) := ix_0
  have i1 : ixD t.D (.int 1) = some (numsD t.v) := ix_1
  have i2 : ixD t.D (.int 2) = some (.tup (t.fs.map D.str)) := ix_nat (n := 2)
  have itn : isiD .tTuple (numsD t.v) = some (.bl true) := rfl
  have ln : lenD [numsD t.v] = some (.int 3) := by
    unfold numsD
    rw [len_tup, List.length_map, h2]
    rfl
  have ein : tupItems (numsD t.v) = some (t.v.map fun (n : Nat) => D.int ((n : Nat) : Int)) := rfl
  have e0 : ∀ A : Option Slot, compL (gdName 2) mYes c__law_is_triple_0 [A, none, none] (t.v.map fun (n : Nat) => D.int ((n : Nat) : Int)) s = some (t.v.map fun _ => D.bl true, s) := fun A => by
    refine comp_map t.v fun n hv => ⟨_, rfl, ?_⟩
    rw [c__law_is_triple_0_eq]
    refine eq_of_OW ?_
    simp only [mDef_eq, outD_nx, outD_rt, startE, sNil, sSeq, thenS_nx, thenS_rt, thenS_bk, thenS_ct, sAsg, sIf, sRet, sRetN, sDrop, sBrk, sCnt, sFor, sOwn, ownAt, sApp, sExt, sPut, sFrz, sPar, mIxO, mLenO, mTupO, mVar, mC, mU, mB, mNil, mCons, mF, mIsT, mAndT, mOrT, mNotT, mAnd, mOr, mNot, mIf, mChain, mPart, mNoPart, mSl, mCall, mIt, mRng, mComp, mYes, gdName, gdTup, gdCons, gdNil, wipeE, tupItems_tup, lstItems_lst, bl_bl, int_int, mHx_eq, mHlen_eq, mHcell_eq, sHput_eq, isH_hnd, hget1, hget2, hget3, hget4, hset1, hset2, hset3, hset4, eq_int, ne_int, lt_int, gt_int, le_int, ge_int, eq_bl, add_int, add_tup, add_lst, sub_int, neg_int, isN_hi, notN_hi, mul_int, div_int, mod_int, pow_int, abs_int, intC_int, len_tup, len_lst, tup_D, lst_D, rt_D, Bool.not_not, Bool.not_true, Bool.not_false, true_and, and_true, false_and, and_false, or_true, true_or, or_false, false_or, List.length_cons, List.length_nil, List.length_append, List.length_map, List.map_cons, List.map_nil, List.replicate_succ, List.replicate_zero, List.cons_append, List.nil_append, List.append_nil, List.set_cons_zero, List.set_cons_succ, List.getElem?_cons_zero, List.getElem?_cons_succ, Option.bind_some, Option.map_some, Option.bind_none, Option.map_none, OW_some, OW_bind, OW_map, OW_if, Bool.false_eq_true, if_true, if_false, ↓reduceIte, Nat.reduceAdd, Nat.reduceSub, Nat.zero_add, Nat.sub_self, Function.comp, OW_eq (isI_int _), OW_eq (isB_int _)]
  have e1 : ∀ A : Option Slot, compL (gdName 1) mYes c__law_is_triple_1 [A, none, none] (t.fs.map D.str) s = some (t.fs.map fun _ => D.bl true, s) := fun A => by
    refine comp_map t.fs fun f hf => ⟨_, rfl, ?_⟩
    rw [c__law_is_triple_1_eq]
    refine eq_of_OW ?_
    simp only [mDef_eq, outD_nx, outD_rt, startE, sNil, sSeq, thenS_nx, thenS_rt, thenS_bk, thenS_ct, sAsg, sIf, sRet, sRetN, sDrop, sBrk, sCnt, sFor, sOwn, ownAt, sApp, sExt, sPut, sFrz, sPar, mIxO, mLenO, mTupO, mVar, mC, mU, mB, mNil, mCons, mF, mIsT, mAndT, mOrT, mNotT, mAnd, mOr, mNot, mIf, mChain, mPart, mNoPart, mSl, mCall, mIt, mRng, mComp, mYes, gdName, gdTup, gdCons, gdNil, wipeE, tupItems_tup, lstItems_lst, bl_bl, int_int, mHx_eq, mHlen_eq, mHcell_eq, sHput_eq, isH_hnd, hget1, hget2, hget3, hget4, hset1, hset2, hset3, hset4, eq_int, ne_int, lt_int, gt_int, le_int, ge_int, eq_bl, add_int, add_tup, add_lst, sub_int, neg_int, isN_hi, notN_hi, mul_int, div_int, mod_int, pow_int, abs_int, intC_int, len_tup, len_lst, tup_D, lst_D, rt_D, Bool.not_not, Bool.not_true, Bool.not_false, true_and, and_true, false_and, and_false, or_true, true_or, or_false, false_or, List.length_cons, List.length_nil, List.length_append, List.length_map, List.map_cons, List.map_nil, List.replicate_succ, List.replicate_zero, List.cons_append, List.nil_append, List.append_nil, List.set_cons_zero, List.set_cons_succ, List.getElem?_cons_zero, List.getElem?_cons_succ, Option.bind_some, Option.map_some, Option.bind_none, Option.map_none, OW_some, OW_bind, OW_map, OW_if, Bool.false_eq_true, if_true, if_false, ↓reduceIte, Nat.reduceAdd, Nat.reduceSub, Nat.zero_add, Nat.sub_self, Function.comp, OW_eq (isS_str _)]
  have q : ((3 : Int) != 3) = false := rfl
  refine eq_of_OW ?_
  unfold f__law_is_triple
  simp only [mDef_eq, outD_nx, outD_rt, startE, sNil, sSeq, thenS_nx, thenS_rt, thenS_bk, thenS_ct, sAsg, sIf, sRet, sRetN, sDrop, sBrk, sCnt, sFor, sOwn, ownAt, sApp, sExt, sPut, sFrz, sPar, mIxO, mLenO, mTupO, mVar, mC, mU, mB, mNil, mCons, mF, mIsT, mAndT, mOrT, mNotT, mAnd, mOr, mNot, mIf, mChain, mPart, mNoPart, mSl, mCall, mIt, mRng, mComp, mYes, gdName, gdTup, gdCons, gdNil, wipeE, tupItems_tup, lstItems_lst, bl_bl, int_int, mHx_eq, mHlen_eq, mHcell_eq, sHput_eq, isH_hnd, hget1, hget2, hget3, hget4, hset1, hset2, hset3, hset4, eq_int, ne_int, lt_int, gt_int, le_int, ge_int, eq_bl, add_int, add_tup, add_lst, sub_int, neg_int, isN_hi, notN_hi, mul_int, div_int, mod_int, pow_int, abs_int, intC_int, len_tup, len_lst, tup_D, lst_D, rt_D, Bool.not_not, Bool.not_true, Bool.not_false, true_and, and_true, false_and, and_false, or_true, true_or, or_false, false_or, List.length_cons, List.length_nil, List.length_append, List.length_map, List.map_cons, List.map_nil, List.replicate_succ, List.replicate_zero, List.cons_append, List.nil_append, List.append_nil, List.set_cons_zero, List.set_cons_succ, List.getElem?_cons_zero, List.getElem?_cons_succ, Option.bind_some, Option.map_some, Option.bind_none, Option.map_none, OW_some, OW_bind, OW_map, OW_if, Bool.false_eq_true, if_true, if_false, ↓reduceIte, Nat.reduceAdd, Nat.reduceSub, Nat.zero_add, Nat.sub_self, Function.comp, OW_eq it, OW_eq l3, OW_eq i0, OW_eq i1, OW_eq i2, OW_eq itn, OW_eq ln, OW_eq ein, OW_eq (isS_str _), OW_eq (isT_tup _), OW_eq (e0 _), OW_eq (e1 _), OW_eq (all_map_true t.v), OW_eq (all_map_true t.fs), q, beq_self_eq_true]
theorem noB_nums (v : List Nat) : noB (numsD v) = true := noBL_map (fun _ => rfl) v
theorem noB_trip (t : Trip) : noB t.D = true := by
  have e : noBL (t.fs.map D.str) = true := noBL_map (fun _ => rfl) t.fs
  show (true && (noB (numsD t.v) && (noBL (t.fs.map D.str) && true))) = true
  rw [noB_nums, e]
  rfl
theorem noB_inst (l : List Trip) : noB (instD l) = true := noBL_map noB_trip l
theorem noB_locks (l : List Trip) : noB (locksD l) = true := noBL_map (fun t => by
  show (true && (noB (numsD t.v) && true)) = true
  rw [noB_nums]
  rfl) l
theorem dep_nums (v : List Nat) : depD (numsD v) ≤ 1 := Nat.succ_le_succ (depDL_map (k := 0) (fun _ => Nat.le_refl _) v)
theorem dep_trip (t : Trip) : depD t.D ≤ 2 := by
  have e : depDL (t.fs.map D.str) ≤ 0 := depDL_map (k := 0) (fun _ => Nat.le_refl _) t.fs
  have e2 := dep_nums t.v
  show max 0 (max (depD (numsD t.v)) (max (depDL (t.fs.map D.str) + 1) 0)) + 1 ≤ 2
  omega
theorem dep_inst (l : List Trip) : depD (instD l) ≤ 3 := Nat.succ_le_succ (depDL_map dep_trip l)
theorem dep_locks (l : List Trip) : depD (locksD l) ≤ 3 := Nat.succ_le_succ (depDL_map (fun t => by
  have e2 := dep_nums t.v
  show max 0 (max (depD (numsD t.v)) 0) + 1 ≤ 2
  omega) l)
theorem ne_self {x : D} (h : noB x = true) (hd : depD x ≤ 3) : relD neP x x = some (.bl false) := by
  rw [relD_ne h h (.inl (by omega))]
  simp
theorem eq_self' {x : D} (h : noB x = true) (hd : depD x ≤ 3) : relD eqP x x = some (.bl true) := by
  rw [relD_eq h h (.inl (by omega))]
  simp
/-- what is right -/
theorem is_right_is {l : List Trip} {s : Hand} (h : InstOk l) : f__law_is_right [instD l] s = some (.bl true, s) := by
  have a1 := lock_text_is (s := s) h
  have a2 := law_text_is (s := s) h
  have a3 := read_lock_is (s := s) h
  have a4 := locks_of_is (l := l) (s := s)
  have q1 : relD neP (.str (lockT l)) (.str (lockT l)) = some (.bl false) := by rw [ne_str]; simp
  have itI : isiD .tTuple (instD l) = some (.bl true) := rfl
  have itL : isiD .tTuple (locksD l) = some (.bl true) := rfl
  have eiI : tupItems (instD l) = some (l.map Trip.D) := rfl
  have eiL : tupItems (locksD l) = some (l.map lockD) := rfl
  have elL : lenD [locksD l] = some (.int ((l.length : Nat) : Int)) := by
    unfold locksD
    rw [len_tup, List.length_map]
  have ne1 := ne_self (noB_inst l) (dep_inst l)
  have ne2 := ne_self (noB_locks l) (dep_locks l)
  have eq2 := eq_self' (noB_locks l) (dep_locks l)
  have i0 : ∀ t : Trip, ixD t.D (.int 0) = some (.str t.w) := fun t => ix_0
  have i1 : ∀ t : Trip, ixD t.D (.int 1) = some (numsD t.v) := fun t => ix_1
  have tt : ∀ t : Trip, isiD .tTuple (lockD t) = some (.bl true) := fun t => rfl
  have e0 : ∀ A B C E, compL (gdName 5) mYes c__law_is_right_0 [A, B, C, E, none, none, none] (l.map Trip.D) s = some (l.map fun _ => D.bl true, s) := fun A B C E => by
    refine comp_map l fun t ht => ⟨_, rfl, ?_⟩
    rw [c__law_is_right_0_eq]
    refine eq_of_OW ?_
    simp only [mDef_eq, outD_nx, outD_rt, startE, sNil, sSeq, thenS_nx, thenS_rt, thenS_bk, thenS_ct, sAsg, sIf, sRet, sRetN, sDrop, sBrk, sCnt, sFor, sOwn, ownAt, sApp, sExt, sPut, sFrz, sPar, mIxO, mLenO, mTupO, mVar, mC, mU, mB, mNil, mCons, mF, mIsT, mAndT, mOrT, mNotT, mAnd, mOr, mNot, mIf, mChain, mPart, mNoPart, mSl, mCall, mIt, mRng, mComp, mYes, gdName, gdTup, gdCons, gdNil, wipeE, tupItems_tup, lstItems_lst, bl_bl, int_int, mHx_eq, mHlen_eq, mHcell_eq, sHput_eq, isH_hnd, hget1, hget2, hget3, hget4, hset1, hset2, hset3, hset4, eq_int, ne_int, lt_int, gt_int, le_int, ge_int, eq_bl, add_int, add_tup, add_lst, sub_int, neg_int, isN_hi, notN_hi, mul_int, div_int, mod_int, pow_int, abs_int, intC_int, len_tup, len_lst, tup_D, lst_D, rt_D, Bool.not_not, Bool.not_true, Bool.not_false, true_and, and_true, false_and, and_false, or_true, true_or, or_false, false_or, List.length_cons, List.length_nil, List.length_append, List.length_map, List.map_cons, List.map_nil, List.replicate_succ, List.replicate_zero, List.cons_append, List.nil_append, List.append_nil, List.set_cons_zero, List.set_cons_succ, List.getElem?_cons_zero, List.getElem?_cons_succ, Option.bind_some, Option.map_some, Option.bind_none, Option.map_none, OW_some, OW_bind, OW_map, OW_if, Bool.false_eq_true, if_true, if_false, ↓reduceIte, Nat.reduceAdd, Nat.reduceSub, Nat.zero_add, Nat.sub_self, Function.comp, is_triple_is (s := s) (h.2.2 t ht)]
  have e1 : ∀ A B C E, compL (gdName 5) mYes c__law_is_right_1 [A, B, C, E, none, none, none] (l.map Trip.D) s = some (l.map lockD, s) := fun A B C E => by
    refine comp_map l fun t ht => ⟨_, rfl, ?_⟩
    rw [c__law_is_right_1_eq]
    refine eq_of_OW ?_
    simp only [mDef_eq, outD_nx, outD_rt, startE, sNil, sSeq, thenS_nx, thenS_rt, thenS_bk, thenS_ct, sAsg, sIf, sRet, sRetN, sDrop, sBrk, sCnt, sFor, sOwn, ownAt, sApp, sExt, sPut, sFrz, sPar, mIxO, mLenO, mTupO, mVar, mC, mU, mB, mNil, mCons, mF, mIsT, mAndT, mOrT, mNotT, mAnd, mOr, mNot, mIf, mChain, mPart, mNoPart, mSl, mCall, mIt, mRng, mComp, mYes, gdName, gdTup, gdCons, gdNil, wipeE, tupItems_tup, lstItems_lst, bl_bl, int_int, mHx_eq, mHlen_eq, mHcell_eq, sHput_eq, isH_hnd, hget1, hget2, hget3, hget4, hset1, hset2, hset3, hset4, eq_int, ne_int, lt_int, gt_int, le_int, ge_int, eq_bl, add_int, add_tup, add_lst, sub_int, neg_int, isN_hi, notN_hi, mul_int, div_int, mod_int, pow_int, abs_int, intC_int, len_tup, len_lst, tup_D, lst_D, rt_D, Bool.not_not, Bool.not_true, Bool.not_false, true_and, and_true, false_and, and_false, or_true, true_or, or_false, false_or, List.length_cons, List.length_nil, List.length_append, List.length_map, List.map_cons, List.map_nil, List.replicate_succ, List.replicate_zero, List.cons_append, List.nil_append, List.append_nil, List.set_cons_zero, List.set_cons_succ, List.getElem?_cons_zero, List.getElem?_cons_succ, Option.bind_some, Option.map_some, Option.bind_none, Option.map_none, OW_some, OW_bind, OW_map, OW_if, Bool.false_eq_true, if_true, if_false, ↓reduceIte, Nat.reduceAdd, Nat.reduceSub, Nat.zero_add, Nat.sub_self, Function.comp, OW_eq (i0 t), OW_eq (i1 t)]
    rfl
  have e2 : ∀ A B C E G, compL (gdName 6) mYes c__law_is_right_2 [A, B, C, E, G, none, none] (l.map lockD) s = some (l.map fun _ => D.bl true, s) := fun A B C E G => by
    refine comp_map l fun t ht => ⟨_, rfl, ?_⟩
    rw [c__law_is_right_2_eq]
    refine eq_of_OW ?_
    simp only [mDef_eq, outD_nx, outD_rt, startE, sNil, sSeq, thenS_nx, thenS_rt, thenS_bk, thenS_ct, sAsg, sIf, sRet, sRetN, sDrop, sBrk, sCnt, sFor, sOwn, ownAt, sApp, sExt, sPut, sFrz, sPar, mIxO, mLenO, mTupO, mVar, mC, mU, mB, mNil, mCons, mF, mIsT, mAndT, mOrT, mNotT, mAnd, mOr, mNot, mIf, mChain, mPart, mNoPart, mSl, mCall, mIt, mRng, mComp, mYes, gdName, gdTup, gdCons, gdNil, wipeE, tupItems_tup, lstItems_lst, bl_bl, int_int, mHx_eq, mHlen_eq, mHcell_eq, sHput_eq, isH_hnd, hget1, hget2, hget3, hget4, hset1, hset2, hset3, hset4, eq_int, ne_int, lt_int, gt_int, le_int, ge_int, eq_bl, add_int, add_tup, add_lst, sub_int, neg_int, isN_hi, notN_hi, mul_int, div_int, mod_int, pow_int, abs_int, intC_int, len_tup, len_lst, tup_D, lst_D, rt_D, Bool.not_not, Bool.not_true, Bool.not_false, true_and, and_true, false_and, and_false, or_true, true_or, or_false, false_or, List.length_cons, List.length_nil, List.length_append, List.length_map, List.map_cons, List.map_nil, List.replicate_succ, List.replicate_zero, List.cons_append, List.nil_append, List.append_nil, List.set_cons_zero, List.set_cons_succ, List.getElem?_cons_zero, List.getElem?_cons_succ, Option.bind_some, Option.map_some, Option.bind_none, Option.map_none, OW_some, OW_bind, OW_map, OW_if, Bool.false_eq_true, if_true, if_false, ↓reduceIte, Nat.reduceAdd, Nat.reduceSub, Nat.zero_add, Nat.sub_self, Function.comp, OW_eq (tt t)]
  have at_ := all_map_true l
  have tl : D.tup (l.map lockD) = locksD l := rfl
  have tc : tupleCD [.lst (l.map lockD)] = some (locksD l) := rfl
  have hmem : ((("Question" : Str), ("locks" : Str)) ∈ fldsI) = True := eq_true (by decide +kernel)
  have hlk : List.lookup ("locks" : Str) ([(("wishes" : Str), D.tup []), (("locks" : Str), locksD l)]) = some (locksD l) := by
    have e : (("locks" : Str) == ("wishes" : Str)) = false := by decide +kernel
    show (match ("locks" : Str) == ("wishes" : Str) with | true => some (D.tup []) | false => List.lookup ("locks" : Str) [(("locks" : Str), locksD l)]) = _
    rw [e]
    exact List.lookup_cons_self
  have hs0 : (0 ≤ sizeLine) = True := eq_true (by rw [sizeLine_eq]; omega)
  generalize hT : lockT l = T at *
  refine eq_of_OW ?_
  unfold f__law_is_right
  by_cases c : l.length ≤ 40
  · have hq := question_is (s := s) h c
    have g : decide ((40 : Int) < ((l.length : Nat) : Int)) = false := decide_eq_false (by omega)
    generalize hI : instD l = I at *
    generalize hL : locksD l = L at *
    simp only [mCallX, mMake, mFldI, List.zip_cons_cons, List.zip_nil_right, hmem, hlk, mDef_eq, outD_nx, outD_rt, startE, sNil, sSeq, thenS_nx, thenS_rt, thenS_bk, thenS_ct, sAsg, sIf, sRet, sRetN, sDrop, sBrk, sCnt, sFor, sOwn, ownAt, sApp, sExt, sPut, sFrz, sPar, mIxO, mLenO, mTupO, mVar, mC, mU, mB, mNil, mCons, mF, mIsT, mAndT, mOrT, mNotT, mAnd, mOr, mNot, mIf, mChain, mPart, mNoPart, mSl, mCall, mIt, mRng, mComp, mYes, gdName, gdTup, gdCons, gdNil, wipeE, tupItems_tup, lstItems_lst, bl_bl, int_int, mHx_eq, mHlen_eq, mHcell_eq, sHput_eq, isH_hnd, hget1, hget2, hget3, hget4, hset1, hset2, hset3, hset4, eq_int, ne_int, lt_int, gt_int, le_int, ge_int, eq_bl, add_int, add_tup, add_lst, sub_int, neg_int, isN_hi, notN_hi, mul_int, div_int, mod_int, pow_int, abs_int, intC_int, len_tup, len_lst, tup_D, lst_D, rt_D, Bool.not_not, Bool.not_true, Bool.not_false, true_and, and_true, false_and, and_false, or_true, true_or, or_false, false_or, List.length_cons, List.length_nil, List.length_append, List.length_map, List.map_cons, List.map_nil, List.replicate_succ, List.replicate_zero, List.cons_append, List.nil_append, List.append_nil, List.set_cons_zero, List.set_cons_succ, List.getElem?_cons_zero, List.getElem?_cons_succ, Option.bind_some, Option.map_some, Option.bind_none, Option.map_none, OW_some, OW_bind, OW_map, OW_if, Bool.false_eq_true, if_true, if_false, ↓reduceIte, Nat.reduceAdd, Nat.reduceSub, Nat.zero_add, Nat.sub_self, Function.comp, a1, a2, a3, a4, OW_eq (isS_str _), OW_eq q1, OW_eq itI, OW_eq itL, OW_eq eiI, OW_eq eiL, OW_eq elL, OW_eq (e0 _ _ _ _), OW_eq (e1 _ _ _ _), OW_eq (e2 _ _ _ _ _), OW_eq at_, OW_eq tc, OW_eq ne1, OW_eq ne2, OW_eq eq2, hq, g, hs0]
  · have g : decide ((40 : Int) < ((l.length : Nat) : Int)) = true := decide_eq_true (by omega)
    generalize hI : instD l = I at *
    generalize hL : locksD l = L at *
    simp only [mCallX, mMake, mFldI, mDef_eq, outD_nx, outD_rt, startE, sNil, sSeq, thenS_nx, thenS_rt, thenS_bk, thenS_ct, sAsg, sIf, sRet, sRetN, sDrop, sBrk, sCnt, sFor, sOwn, ownAt, sApp, sExt, sPut, sFrz, sPar, mIxO, mLenO, mTupO, mVar, mC, mU, mB, mNil, mCons, mF, mIsT, mAndT, mOrT, mNotT, mAnd, mOr, mNot, mIf, mChain, mPart, mNoPart, mSl, mCall, mIt, mRng, mComp, mYes, gdName, gdTup, gdCons, gdNil, wipeE, tupItems_tup, lstItems_lst, bl_bl, int_int, mHx_eq, mHlen_eq, mHcell_eq, sHput_eq, isH_hnd, hget1, hget2, hget3, hget4, hset1, hset2, hset3, hset4, eq_int, ne_int, lt_int, gt_int, le_int, ge_int, eq_bl, add_int, add_tup, add_lst, sub_int, neg_int, isN_hi, notN_hi, mul_int, div_int, mod_int, pow_int, abs_int, intC_int, len_tup, len_lst, tup_D, lst_D, rt_D, Bool.not_not, Bool.not_true, Bool.not_false, true_and, and_true, false_and, and_false, or_true, true_or, or_false, false_or, List.length_cons, List.length_nil, List.length_append, List.length_map, List.map_cons, List.map_nil, List.replicate_succ, List.replicate_zero, List.cons_append, List.nil_append, List.append_nil, List.set_cons_zero, List.set_cons_succ, List.getElem?_cons_zero, List.getElem?_cons_succ, Option.bind_some, Option.map_some, Option.bind_none, Option.map_none, OW_some, OW_bind, OW_map, OW_if, Bool.false_eq_true, if_true, if_false, ↓reduceIte, Nat.reduceAdd, Nat.reduceSub, Nat.zero_add, Nat.sub_self, Function.comp, a1, a2, a3, a4, OW_eq (isS_str _), OW_eq q1, OW_eq itI, OW_eq itL, OW_eq eiI, OW_eq eiL, OW_eq elL, OW_eq (e0 _ _ _ _), OW_eq (e1 _ _ _ _), OW_eq (e2 _ _ _ _ _), OW_eq at_, OW_eq tc, OW_eq ne1, OW_eq ne2, OW_eq eq2, g, hs0]
end K41

set_option Elab.async false
set_option linter.all false
set_option maxRecDepth 100000
set_option maxHeartbeats 4000000
namespace K41
open PySem
open L2
open Dl
open Txt
open TL
/-! installations changed in one place -/
theorem cut_to {ds : List D} {k : Nat} (h : k ≤ ds.length) : cutD ds none (some ((k : Nat) : Int)) = ds.take k := by
  unfold cutD
  rw [HT.sIx_nat, HT.sIx_none, List.drop_zero, Nat.sub_zero, Nat.min_eq_left h]
theorem cut_from {ds : List D} {k : Nat} : cutD ds (some ((k : Nat) : Int)) none = ds.drop k := by
  unfold cutD
  rw [HT.sIx_nat, HT.sIx_none, List.take_of_length_le (by rw [List.length_drop]; omega)]
  by_cases c : k ≤ ds.length
  · rw [Nat.min_eq_left c]
  · rw [Nat.min_eq_right (by omega), List.drop_eq_nil_of_le (Nat.le_refl _), List.drop_eq_nil_of_le (by omega)]
def putL {α : Type} (l : List α) (n : Nat) (a : α) : List α := l.take n ++ [a] ++ l.drop (n + 1)
def dropL {α : Type} (l : List α) (n : Nat) : List α := l.take n ++ l.drop (n + 1)
theorem putL_map {α β : Type} (f : α → β) (l : List α) (n : Nat) (a : α) : (putL l n a).map f = putL (l.map f) n (f a) := by
  unfold putL
  rw [List.map_append, List.map_append, List.map_take, List.map_drop]
  rfl
theorem dropL_map {α β : Type} (f : α → β) (l : List α) (n : Nat) : (dropL l n).map f = dropL (l.map f) n := by
  unfold dropL
  rw [List.map_append, List.map_take, List.map_drop]
theorem putL_same {α : Type} {l : List α} {n : Nat} {a : α} (h : l[n]? = some a) : putL l n a = l := by
  obtain ⟨hn, e⟩ := List.getElem?_eq_some_iff.mp h
  unfold putL
  rw [← e, List.append_assoc, List.singleton_append, List.getElem_cons_drop, List.take_append_drop]
theorem putL_len {α : Type} {l : List α} {n : Nat} {a : α} (h : n < l.length) : (putL l n a).length = l.length := by
  unfold putL
  rw [List.length_append, List.length_append, List.length_take, List.length_drop, List.length_singleton]
  omega
theorem dropL_len {α : Type} {l : List α} {n : Nat} : (dropL l n).length ≤ l.length := by
  unfold dropL
  rw [List.length_append, List.length_take, List.length_drop]
  omega
theorem mem_putL {α : Type} {l : List α} {n : Nat} {a x : α} (h : x ∈ putL l n a) : x = a ∨ x ∈ l := by
  unfold putL at h
  rcases List.mem_append.mp h with z | z
  · rcases List.mem_append.mp z with z | z
    · exact .inr (List.mem_of_mem_take z)
    · exact .inl (List.mem_singleton.mp z)
  · exact .inr (List.mem_of_mem_drop z)
theorem mem_dropL {α : Type} {l : List α} {n : Nat} {x : α} (h : x ∈ dropL l n) : x ∈ l := by
  unfold dropL at h
  rcases List.mem_append.mp h with z | z
  · exact List.mem_of_mem_take z
  · exact List.mem_of_mem_drop z
theorem dropL_sub {α : Type} (l : List α) (n : Nat) : (dropL l n).Sublist l := by
  unfold dropL
  have e : l = l.take n ++ l.drop n := (List.take_append_drop n l).symm
  have h1 : (l.drop (n + 1)).Sublist (l.drop n) := by
    rw [← List.drop_drop]
    exact List.drop_sublist _ _
  have h2 := List.Sublist.append (List.Sublist.refl (l.take n)) h1
  rw [← e] at h2
  exact h2
theorem put_ok {l : List Trip} {n : Nat} {t t' : Trip} (h : InstOk l) (e : l[n]? = some t) (hw : t'.w = t.w) (ht : TripOk t') : InstOk (putL l n t') := by
  obtain ⟨h1, h2, h3⟩ := h
  obtain ⟨hn, _⟩ := List.getElem?_eq_some_iff.mp e
  refine ⟨?_, by rw [putL_len hn]; exact h2, fun x hx => ?_⟩
  · rw [putL_map, hw, putL_same (by rw [List.getElem?_map, e]; rfl)]
    exact h1
  · rcases mem_putL hx with z | z
    · rw [z]; exact ht
    · exact h3 x z
theorem drop_ok {l : List Trip} {n : Nat} (h : InstOk l) : InstOk (dropL l n) := by
  obtain ⟨h1, h2, h3⟩ := h
  refine ⟨?_, Nat.le_trans dropL_len h2, fun x hx => h3 x (mem_dropL hx)⟩
  rw [dropL_map]
  exact List.Pairwise.sublist (dropL_sub _ _) h1
theorem ver_ok {t : Trip} {v : List Nat} (h : TripOk t) (h1 : v.length = 3) (h2 : ∀ n ∈ v, n ≤ 1000000) : TripOk ⟨t.w, v, t.fs⟩ := by
  obtain ⟨g1, g2, g3, g4, g5, g6⟩ := h
  exact ⟨g1, h1, h2, g4, g5, g6⟩
theorem fs_ok {t : Trip} {fs : List Str} (h : TripOk t) (h1 : UpS fs) (h2 : fs.length ≤ 10) (h3 : ∀ f ∈ fs, NameOk f) : TripOk ⟨t.w, t.v, fs⟩ := by
  obtain ⟨g1, g2, g3, g4, g5, g6⟩ := h
  exact ⟨g1, g2, g3, h1, h2, h3⟩
/-! words among features -/
theorem py_strs : ∀ l : List Str, toPyL (l.map D.str) = some (l.map PyData.str)
  | [] => rfl
  | x :: l => by
    rw [List.map_cons, toPyL_cons, py_strs l]
    rfl
theorem any_str (w : Str) : ∀ l : List Str, (l.map PyData.str).any (fun y => PyData.eqv y (.str w)) = decide (w ∈ l)
  | [] => by simp
  | x :: l => by
    rw [List.map_cons, List.any_cons, any_str w l]
    show ((x == w) || _) = _
    by_cases c : x = w
    · subst c; simp
    · have c' : ¬ w = x := fun z => c z.symm
      have : (x == w) = false := beq_eq_false_iff_ne.mpr c
      rw [this, Bool.false_or]
      simp [c']
theorem str_nin (w : Str) (l : List Str) : ninD (.str w) (.tup (l.map D.str)) = some (.bl (!decide (w ∈ l))) := by
  show relD (inP true) (.str w) (.tup (l.map D.str)) = _
  unfold relD
  have e2 : toPy (.tup (l.map D.str)) = some (.tuple (l.map PyData.str)) := by
    show (toPyL (l.map D.str)).map PyData.tuple = _
    rw [py_strs]
    rfl
  rw [e2]
  show (if min (PyData.depthAll (l.map PyData.str)) (PyData.str w).depth ≤ 62 then some (true != (l.map PyData.str).any fun y => PyData.eqv y (.str w)) else none).map D.bl = _
  rw [if_pos (Nat.le_trans (Nat.min_le_right _ _) (by show (0 : Nat) ≤ 62; omega)), any_str]
  rw [Bool.true_bne]
  rfl
theorem sset_T {l : List Str} (h : l.length < 64) : ssetTD [.tup (l.map D.str)] = some (.lst ((ssT l).map D.str)) := by
  show (match strsOf (l.map D.str) with
    | some ws => if ws.length < 64 then some (D.lst ((ssT ws).map .str)) else none
    | none => none) = _
  rw [strsOf_map]
  exact if_pos h
/-- all but one word -/
theorem comp_but {A : DE} {w : Str} {s : Hand} (hA : A.length = 12) (hw : A[11]? = some (some (.dat (.str w)))) : ∀ fs : List Str, compL (gdName 12) (mIsT (mB (relD neP) (mVar 12) (mVar 11))) c__law_unlike_0 (A ++ [none, none]) (fs.map D.str) s = some ((fs.filter fun f => decide (f ≠ w)).map D.str, s)
  | [] => rfl
  | f :: fs => by
    have ih := comp_but (s := s) hA hw fs
    have g : gdName 12 (.str f) (A ++ [none, none]) = some (A ++ [some (.dat (.str f)), none]) := by
      unfold gdName
      rw [List.set_append_right _ _ (by omega), hA]
      rfl
    have e12 : (mVar 12 : ME Hand) (A ++ [some (.dat (.str f)), none]) s = some (.str f, s) := by
      unfold mVar
      rw [List.getElem?_append_right (by omega), hA]
      rfl
    have e11 : (mVar 11 : ME Hand) (A ++ [some (.dat (.str f)), none]) s = some (.str w, s) := by
      unfold mVar
      rw [List.getElem?_append_left (by omega), hw]
    have et : (mIsT (mB (relD neP) (mVar 12) (mVar 11)) : MT Hand) (A ++ [some (.dat (.str f)), none]) s = some (!(f == w), s) := by
      refine eq_of_OW ?_
      unfold mIsT mB
      rw [e12]
      simp only [Option.bind_some, e11, Option.map_some, ne_str, bl_bl, OW_some, OW_bind, OW_map]
    rw [List.map_cons]
    unfold compL
    rw [g, Option.bind_some, et, Option.bind_some]
    dsimp only
    by_cases c : f = w
    · have c1 : (f == w) = true := beq_iff_eq.mpr c
      rw [c1, if_neg (by decide), ih, List.filter_cons_of_neg (by simp [c])]
    · have c1 : (f == w) = false := beq_eq_false_iff_ne.mpr c
      rw [c1, if_pos (by rfl), c__law_unlike_0_eq, e12, Option.bind_some, ih, List.filter_cons_of_pos (by simp [c])]
      rfl
end K41

set_option Elab.async false
set_option linter.all false
set_option maxRecDepth 100000
set_option maxHeartbeats 4000000
namespace K41
open PySem
open L2
open Dl
open Txt
open TL
def unNum : ME Hand := (mIf (mIsT (mB (relD eqP) (mVar 3) (mB ixD (mVar 8) (mVar 10)))) (mB modD (mB addD (mVar 3) (mC (.int 1))) (mC (.int 1000001))) (mVar 3))
def unLater : ME Hand := (mB addD (mB addD (mSl slT (mVar 8) mNoPart (mPart (mVar 10))) (mF tupD (mCons (mVar 3) mNil))) (mSl slT (mVar 8) (mPart (mB addD (mVar 10) (mC (.int 1)))) mNoPart))
def unOther : ME Hand := (mIf (mIsT (mB ninD (mVar 11) (mVar 9))) (mF tupleCD (mCons (mF ssetTD (mCons (mB addD (mVar 9) (mF tupD (mCons (mVar 11) mNil))) mNil)) mNil)) (mF tupleCD (mCons (mComp (mIt tupItems (mVar 9)) (gdName 12) (mIsT (mB (relD neP) (mVar 12) (mVar 11))) c__law_unlike_0 [12]) mNil)))
def unRes : ME Hand := (mB addD (mComp (mIt lstItems (mVar 6)) (gdName 13) mYes c__law_unlike_1 [13]) (mF lstD (mCons (mB addD (mSl slT (mVar 1) mNoPart (mPart (mVar 2))) (mSl slT (mVar 1) (mPart (mB addD (mVar 2) (mC (.int 1)))) mNoPart)) mNil)))
theorem f_unlike_eq : f__law_unlike = mDef 14 (sSeq (sIf (mIsT (mB (relD eqP) (mF lenD (mCons (mVar 1) mNil)) (mC (.int 0)))) (sRet (mF tupD (mCons (mF tupD (mCons (mC (.str "a")) (mCons (mF tupD (mCons (mC (.int 0)) (mCons (mC (.int 0)) (mCons (mC (.int 0)) mNil)))) (mCons (mF tupD mNil) mNil)))) mNil))) sNil) (sSeq (sAsg (gdName 2) (mCall f__law_draw (mCons (mVar 0) (mCons (mF lenD (mCons (mVar 1) mNil)) mNil)))) (sSeq (sAsg (gdTup 3 (gdCons (gdName 7) (gdCons (gdName 8) (gdCons (gdName 9) gdNil)))) (mB ixD (mVar 1) (mVar 2))) (sSeq (sAsg (gdTup 2 (gdCons (gdName 10) (gdCons (gdName 11) gdNil))) (mF tupD (mCons (mCall f__law_draw (mCons (mVar 0) (mCons (mC (.int 3)) mNil))) (mCons (mCall f__law_any (mCons (mVar 0) (mCons (mF lstD (mCons (mC (.str "zzz")) (mCons (mC (.str "check")) (mCons (mC (.str "a")) mNil)))) mNil))) mNil)))) (sSeq (sAsg (gdName 3) (mCall f__law_any (mCons (mVar 0) (mCons (mF lstD (mCons (mC (.int 0)) (mCons (mC (.int 1)) (mCons (mC (.int 10)) (mCons (mC (.int 1000000)) (mCons (mB divD (mB ixD (mVar 8) (mVar 10)) (mC (.int 10))) mNil)))))) mNil)))) (sSeq (sAsg (gdName 3) unNum) (sSeq (sAsg (gdName 4) unLater) (sSeq (sAsg (gdName 5) unOther) (sSeq (sAsg (gdName 6) (mF lstD (mCons (mF tupD (mCons (mVar 7) (mCons (mVar 4) (mCons (mVar 9) mNil)))) (mCons (mF tupD (mCons (mVar 7) (mCons (mVar 8) (mCons (mVar 5) mNil)))) (mCons (mF tupD (mCons (mVar 7) (mCons (mU revT (mVar 8)) (mCons (mVar 9) mNil)))) mNil))))) (sRet (mCall f__law_any (mCons (mVar 0) (mCons unRes mNil))))))))))))) := rfl
theorem sl_to {α : Type} {f : α → D} {l : List α} {n : Nat} (h : n ≤ l.length) : slT (.tup (l.map f)) none (some ((n : Nat) : Int)) = some (.tup ((l.take n).map f)) := by
  show some (D.tup (cutD (l.map f) none (some ((n : Nat) : Int)))) = _
  rw [cut_to (by rw [List.length_map]; exact h), List.map_take]
theorem sl_from {α : Type} {f : α → D} {l : List α} {n : Nat} : slT (.tup (l.map f)) (some ((n : Nat) + 1 : Int)) none = some (.tup ((l.drop (n + 1)).map f)) := by
  show some (D.tup (cutD (l.map f) (some (((n + 1 : Nat)) : Int)) none)) = _
  rw [cut_from, List.map_drop]
theorem put_D {α : Type} {f : α → D} {l : List α} {n : Nat} {a : α} : (l.take n).map f ++ [f a] ++ (l.drop (n + 1)).map f = (putL l n a).map f := by
  unfold putL
  rw [List.map_append, List.map_append]
  rfl
theorem drop_D {α : Type} {f : α → D} {l : List α} {n : Nat} : (l.take n).map f ++ (l.drop (n + 1)).map f = (dropL l n).map f := by
  unfold dropL
  rw [List.map_append]
theorem put_sz {α : Type} {l : List α} {n : Nat} (h : l.length ≤ 1000) : ((l.take n).length + 1 ≤ sizeLine) = True ∧ ((l.take n).length + 1 + (l.drop (n + 1)).length ≤ sizeLine) = True ∧ ((l.take n).length + (l.drop (n + 1)).length ≤ sizeLine) = True := by
  have h1 : (l.take n).length ≤ l.length := by rw [List.length_take]; omega
  have h2 : (l.drop (n + 1)).length ≤ l.length := by rw [List.length_drop]; omega
  have h3 : sizeLine = sizeLine := rfl
  refine ⟨eq_true ?_, eq_true ?_, eq_true ?_⟩ <;> (rw [sizeLine_eq]; omega)
section
variable {A0 A1 A2 A3 A4 A5 A6 A7 A8 A9 A10 A11 : Option Slot} {s : Hand}
theorem ix_nums {v : List Nat} {j x : Nat} (h : v[j]? = some x) : ixD (numsD v) (.int ((j : Nat) : Int)) = some (.int ((x : Nat) : Int)) := by
  unfold numsD
  rw [ix_nat, List.getElem?_map, h]
  rfl
theorem num_step {v : List Nat} {m j x : Nat} (hx : v[j]? = some x) (hm : m ≤ 1000000) : ∃ m' : Nat, m' ≤ 1000000 ∧ unNum [A0, A1, A2, some (.dat (.int ((m : Nat) : Int))), A4, A5, A6, A7, some (.dat (numsD v)), A9, some (.dat (.int ((j : Nat) : Int))), A11, none, none] s = some (.int ((m' : Nat) : Int), s) := by
  have key : OW (unNum [A0, A1, A2, some (.dat (.int ((m : Nat) : Int))), A4, A5, A6, A7, some (.dat (numsD v)), A9, some (.dat (.int ((j : Nat) : Int))), A11, none, none] s) fun p => ∃ m' : Nat, m' ≤ 1000000 ∧ p = (.int ((m' : Nat) : Int), s) := by
    unfold unNum
    simp only [mDef_eq, outD_nx, outD_rt, startE, sNil, sSeq, thenS_nx, thenS_rt, thenS_bk, thenS_ct, sAsg, sIf, sRet, sRetN, sDrop, sBrk, sCnt, sFor, sOwn, ownAt, sApp, sExt, sPut, sFrz, sPar, mIxO, mLenO, mTupO, mVar, mC, mU, mB, mNil, mCons, mF, mIsT, mAndT, mOrT, mNotT, mAnd, mOr, mNot, mIf, mChain, mPart, mNoPart, mSl, mCall, mIt, mRng, mComp, mYes, gdName, gdTup, gdCons, gdNil, wipeE, tupItems_tup, lstItems_lst, bl_bl, int_int, mHx_eq, mHlen_eq, mHcell_eq, sHput_eq, isH_hnd, hget1, hget2, hget3, hget4, hset1, hset2, hset3, hset4, eq_int, ne_int, lt_int, gt_int, le_int, ge_int, eq_bl, add_int, add_tup, add_lst, sub_int, neg_int, isN_hi, notN_hi, mul_int, div_int, mod_int, pow_int, abs_int, intC_int, len_tup, len_lst, tup_D, lst_D, rt_D, Bool.not_not, Bool.not_true, Bool.not_false, true_and, and_true, false_and, and_false, or_true, true_or, or_false, false_or, List.length_cons, List.length_nil, List.length_append, List.length_map, List.map_cons, List.map_nil, List.replicate_succ, List.replicate_zero, List.cons_append, List.nil_append, List.append_nil, List.set_cons_zero, List.set_cons_succ, List.getElem?_cons_zero, List.getElem?_cons_succ, Option.bind_some, Option.map_some, Option.bind_none, Option.map_none, OW_some, OW_bind, OW_map, OW_if, Bool.false_eq_true, if_true, if_false, ↓reduceIte, Nat.reduceAdd, Nat.reduceSub, Nat.zero_add, Nat.sub_self, Function.comp, OW_eq (ix_nums hx), modI_ok (j := 1000001) (by decide)]
    split
    · exact ⟨(m + 1) % 1000001, by omega, by rw [show (((m + 1) % 1000001 : Nat) : Int) = ((m : Int) + 1) % 1000001 by omega]⟩
    · exact ⟨m, hm, rfl⟩
  obtain ⟨p, e, m', h1, h2⟩ := key.get
  exact ⟨m', h1, by rw [e, h2]⟩
theorem later_is {v : List Nat} {m j : Nat} (hv : v.length = 3) (hj : j < 3) : unLater [A0, A1, A2, some (.dat (.int ((m : Nat) : Int))), A4, A5, A6, A7, some (.dat (numsD v)), A9, some (.dat (.int ((j : Nat) : Int))), A11, none, none] s = some (numsD (putL v j m), s) := by
  have c1 : slT (numsD v) none (some ((j : Nat) : Int)) = some (.tup ((v.take j).map fun (n : Nat) => D.int ((n : Nat) : Int))) := sl_to (by omega)
  have c2 : slT (numsD v) (some ((j : Nat) + 1 : Int)) none = some (.tup ((v.drop (j + 1)).map fun (n : Nat) => D.int ((n : Nat) : Int))) := sl_from
  obtain ⟨z1, z2, z3⟩ := put_sz (l := v) (n := j) (by omega)
  have hs : (1 ≤ sizeLine) = True := eq_true (by rw [sizeLine_eq]; omega)
  have hp : (v.take j).map (fun (n : Nat) => D.int ((n : Nat) : Int)) ++ [D.int ((m : Nat) : Int)] ++ (v.drop (j + 1)).map (fun (n : Nat) => D.int ((n : Nat) : Int)) = (putL v j m).map fun (n : Nat) => D.int ((n : Nat) : Int) := put_D
  refine eq_of_OW ?_
  unfold unLater
  simp only [mDef_eq, outD_nx, outD_rt, startE, sNil, sSeq, thenS_nx, thenS_rt, thenS_bk, thenS_ct, sAsg, sIf, sRet, sRetN, sDrop, sBrk, sCnt, sFor, sOwn, ownAt, sApp, sExt, sPut, sFrz, sPar, mIxO, mLenO, mTupO, mVar, mC, mU, mB, mNil, mCons, mF, mIsT, mAndT, mOrT, mNotT, mAnd, mOr, mNot, mIf, mChain, mPart, mNoPart, mSl, mCall, mIt, mRng, mComp, mYes, gdName, gdTup, gdCons, gdNil, wipeE, tupItems_tup, lstItems_lst, bl_bl, int_int, mHx_eq, mHlen_eq, mHcell_eq, sHput_eq, isH_hnd, hget1, hget2, hget3, hget4, hset1, hset2, hset3, hset4, eq_int, ne_int, lt_int, gt_int, le_int, ge_int, eq_bl, add_int, add_tup, add_lst, sub_int, neg_int, isN_hi, notN_hi, mul_int, div_int, mod_int, pow_int, abs_int, intC_int, len_tup, len_lst, tup_D, lst_D, rt_D, Bool.not_not, Bool.not_true, Bool.not_false, true_and, and_true, false_and, and_false, or_true, true_or, or_false, false_or, List.length_cons, List.length_nil, List.length_append, List.length_map, List.map_cons, List.map_nil, List.replicate_succ, List.replicate_zero, List.cons_append, List.nil_append, List.append_nil, List.set_cons_zero, List.set_cons_succ, List.getElem?_cons_zero, List.getElem?_cons_succ, Option.bind_some, Option.map_some, Option.bind_none, Option.map_none, OW_some, OW_bind, OW_map, OW_if, Bool.false_eq_true, if_true, if_false, ↓reduceIte, Nat.reduceAdd, Nat.reduceSub, Nat.zero_add, Nat.sub_self, Function.comp, OW_eq c1, OW_eq c2, z1, z2, hs, hp]
  rfl
theorem other_is {fs : List Str} {w : Str} (hw : NameOk w) (h1 : UpS fs) (h2 : fs.length ≤ 9) (h3 : ∀ f ∈ fs, NameOk f) : ∃ fs' : List Str, UpS fs' ∧ fs'.length ≤ 10 ∧ (∀ f ∈ fs', NameOk f) ∧ unOther [A0, A1, A2, A3, A4, A5, A6, A7, A8, some (.dat (.tup (fs.map D.str))), A10, some (.dat (.str w)), none, none] s = some (.tup (fs'.map D.str), s) := by
  have ec : compL (gdName 12) (mIsT (mB (relD neP) (mVar 12) (mVar 11))) c__law_unlike_0 [A0, A1, A2, A3, A4, A5, A6, A7, A8, some (.dat (.tup (fs.map D.str))), A10, some (.dat (.str w)), none, none] (fs.map D.str) s = some ((fs.filter fun f => decide (f ≠ w)).map D.str, s) :=
    comp_but (A := [A0, A1, A2, A3, A4, A5, A6, A7, A8, some (.dat (.tup (fs.map D.str))), A10, some (.dat (.str w))]) rfl rfl fs
  have hs : ((fs.length + 1) ≤ sizeLine) = True := eq_true (by rw [sizeLine_eq]; omega)
  have hs1 : (1 ≤ sizeLine) = True := eq_true (by rw [sizeLine_eq]; omega)
  have ea : fs.map D.str ++ [D.str w] = (fs ++ [w]).map D.str := by rw [List.map_append]; rfl
  have es := sset_T (l := fs ++ [w]) (by rw [List.length_append, List.length_singleton]; omega)
  have hl := ssT_len (fs ++ [w])
  rw [List.length_append, List.length_singleton] at hl
  by_cases c : w ∈ fs
  · have ht : (!decide (w ∈ fs)) = false := by simp [c]
    refine ⟨fs.filter fun f => decide (f ≠ w), List.Pairwise.sublist List.filter_sublist h1, Nat.le_trans (List.length_filter_le _ _) (by omega), fun f hf => h3 f (List.mem_filter.mp hf).1, eq_of_OW ?_⟩
    unfold unOther
    simp only [mDef_eq, outD_nx, outD_rt, startE, sNil, sSeq, thenS_nx, thenS_rt, thenS_bk, thenS_ct, sAsg, sIf, sRet, sRetN, sDrop, sBrk, sCnt, sFor, sOwn, ownAt, sApp, sExt, sPut, sFrz, sPar, mIxO, mLenO, mTupO, mVar, mC, mU, mB, mNil, mCons, mF, mIsT, mAndT, mOrT, mNotT, mAnd, mOr, mNot, mIf, mChain, mPart, mNoPart, mSl, mCall, mIt, mRng, mComp, mYes, gdName, gdTup, gdCons, gdNil, wipeE, tupItems_tup, lstItems_lst, bl_bl, int_int, mHx_eq, mHlen_eq, mHcell_eq, sHput_eq, isH_hnd, hget1, hget2, hget3, hget4, hset1, hset2, hset3, hset4, eq_int, ne_int, lt_int, gt_int, le_int, ge_int, eq_bl, add_int, add_tup, add_lst, sub_int, neg_int, isN_hi, notN_hi, mul_int, div_int, mod_int, pow_int, abs_int, intC_int, len_tup, len_lst, tup_D, lst_D, rt_D, Bool.not_not, Bool.not_true, Bool.not_false, true_and, and_true, false_and, and_false, or_true, true_or, or_false, false_or, List.length_cons, List.length_nil, List.length_append, List.length_map, List.map_cons, List.map_nil, List.replicate_succ, List.replicate_zero, List.cons_append, List.nil_append, List.append_nil, List.set_cons_zero, List.set_cons_succ, List.getElem?_cons_zero, List.getElem?_cons_succ, Option.bind_some, Option.map_some, Option.bind_none, Option.map_none, OW_some, OW_bind, OW_map, OW_if, Bool.false_eq_true, if_true, if_false, ↓reduceIte, Nat.reduceAdd, Nat.reduceSub, Nat.zero_add, Nat.sub_self, Function.comp, OW_eq (str_nin w fs), ht, OW_eq ec, OW_eq (tupC _)]
  · have ht : (!decide (w ∈ fs)) = true := by simp [c]
    refine ⟨ssT (fs ++ [w]), up_ssT _, by omega, fun f hf => ?_, eq_of_OW ?_⟩
    · rcases List.mem_append.mp (mem_ssT.mp hf) with z | z
      · exact h3 f z
      · rw [List.mem_singleton.mp z]; exact hw
    · unfold unOther
      simp only [mDef_eq, outD_nx, outD_rt, startE, sNil, sSeq, thenS_nx, thenS_rt, thenS_bk, thenS_ct, sAsg, sIf, sRet, sRetN, sDrop, sBrk, sCnt, sFor, sOwn, ownAt, sApp, sExt, sPut, sFrz, sPar, mIxO, mLenO, mTupO, mVar, mC, mU, mB, mNil, mCons, mF, mIsT, mAndT, mOrT, mNotT, mAnd, mOr, mNot, mIf, mChain, mPart, mNoPart, mSl, mCall, mIt, mRng, mComp, mYes, gdName, gdTup, gdCons, gdNil, wipeE, tupItems_tup, lstItems_lst, bl_bl, int_int, mHx_eq, mHlen_eq, mHcell_eq, sHput_eq, isH_hnd, hget1, hget2, hget3, hget4, hset1, hset2, hset3, hset4, eq_int, ne_int, lt_int, gt_int, le_int, ge_int, eq_bl, add_int, add_tup, add_lst, sub_int, neg_int, isN_hi, notN_hi, mul_int, div_int, mod_int, pow_int, abs_int, intC_int, len_tup, len_lst, tup_D, lst_D, rt_D, Bool.not_not, Bool.not_true, Bool.not_false, true_and, and_true, false_and, and_false, or_true, true_or, or_false, false_or, List.length_cons, List.length_nil, List.length_append, List.length_map, List.map_cons, List.map_nil, List.replicate_succ, List.replicate_zero, List.cons_append, List.nil_append, List.append_nil, List.set_cons_zero, List.set_cons_succ, List.getElem?_cons_zero, List.getElem?_cons_succ, Option.bind_some, Option.map_some, Option.bind_none, Option.map_none, OW_some, OW_bind, OW_map, OW_if, Bool.false_eq_true, if_true, if_false, ↓reduceIte, Nat.reduceAdd, Nat.reduceSub, Nat.zero_add, Nat.sub_self, Function.comp, OW_eq (str_nin w fs), ht, hs1, hs, ea, OW_eq es, OW_eq (tupC _)]
theorem res_is {l : List Trip} {n : Nat} {t1 t2 t3 : Trip} (hn : n < l.length) (hl : l.length ≤ 60) : unRes [A0, some (.dat (instD l)), some (.dat (.int ((n : Nat) : Int))), A3, A4, A5, some (.dat (.lst [t1.D, t2.D, t3.D])), A7, A8, A9, A10, A11, none, none] s = some (.lst [instD (putL l n t1), instD (putL l n t2), instD (putL l n t3), instD (dropL l n)], s) := by
  have c1 : slT (instD l) none (some ((n : Nat) : Int)) = some (.tup ((l.take n).map Trip.D)) := sl_to (by omega)
  have c2 : slT (instD l) (some ((n : Nat) + 1 : Int)) none = some (.tup ((l.drop (n + 1)).map Trip.D)) := sl_from
  obtain ⟨z1, z2, z3⟩ := put_sz (l := l) (n := n) (by omega)
  have hs : ∀ n : Nat, n ≤ 40 → ((n ≤ sizeLine) = True) := fun n h => eq_true (by rw [sizeLine_eq]; omega)
  have hp : ∀ t : Trip, (l.take n).map Trip.D ++ [t.D] ++ (l.drop (n + 1)).map Trip.D = (putL l n t).map Trip.D := fun t => put_D
  have hd : (l.take n).map Trip.D ++ (l.drop (n + 1)).map Trip.D = (dropL l n).map Trip.D := drop_D
  have one : ∀ t : Trip, c__law_unlike_1 [A0, some (.dat (instD l)), some (.dat (.int ((n : Nat) : Int))), A3, A4, A5, some (.dat (.lst [t1.D, t2.D, t3.D])), A7, A8, A9, A10, A11, none, some (.dat t.D)] s = some (instD (putL l n t), s) := fun t => by
    rw [c__law_unlike_1_eq]
    refine eq_of_OW ?_
    simp only [mDef_eq, outD_nx, outD_rt, startE, sNil, sSeq, thenS_nx, thenS_rt, thenS_bk, thenS_ct, sAsg, sIf, sRet, sRetN, sDrop, sBrk, sCnt, sFor, sOwn, ownAt, sApp, sExt, sPut, sFrz, sPar, mIxO, mLenO, mTupO, mVar, mC, mU, mB, mNil, mCons, mF, mIsT, mAndT, mOrT, mNotT, mAnd, mOr, mNot, mIf, mChain, mPart, mNoPart, mSl, mCall, mIt, mRng, mComp, mYes, gdName, gdTup, gdCons, gdNil, wipeE, tupItems_tup, lstItems_lst, bl_bl, int_int, mHx_eq, mHlen_eq, mHcell_eq, sHput_eq, isH_hnd, hget1, hget2, hget3, hget4, hset1, hset2, hset3, hset4, eq_int, ne_int, lt_int, gt_int, le_int, ge_int, eq_bl, add_int, add_tup, add_lst, sub_int, neg_int, isN_hi, notN_hi, mul_int, div_int, mod_int, pow_int, abs_int, intC_int, len_tup, len_lst, tup_D, lst_D, rt_D, Bool.not_not, Bool.not_true, Bool.not_false, true_and, and_true, false_and, and_false, or_true, true_or, or_false, false_or, List.length_cons, List.length_nil, List.length_append, List.length_map, List.map_cons, List.map_nil, List.replicate_succ, List.replicate_zero, List.cons_append, List.nil_append, List.append_nil, List.set_cons_zero, List.set_cons_succ, List.getElem?_cons_zero, List.getElem?_cons_succ, Option.bind_some, Option.map_some, Option.bind_none, Option.map_none, OW_some, OW_bind, OW_map, OW_if, Bool.false_eq_true, if_true, if_false, ↓reduceIte, Nat.reduceAdd, Nat.reduceSub, Nat.zero_add, Nat.sub_self, Function.comp, OW_eq c1, OW_eq c2, z1, z2, hs 1 (by omega), hp]
    rfl
  have ec : compL (gdName 13) mYes c__law_unlike_1 [A0, some (.dat (instD l)), some (.dat (.int ((n : Nat) : Int))), A3, A4, A5, some (.dat (.lst [t1.D, t2.D, t3.D])), A7, A8, A9, A10, A11, none, none] [t1.D, t2.D, t3.D] s = some ([instD (putL l n t1), instD (putL l n t2), instD (putL l n t3)], s) :=
    comp_map (f := Trip.D) (k := fun t => instD (putL l n t)) [t1, t2, t3] fun t _ => ⟨_, rfl, one t⟩
  have ed : D.tup ((dropL l n).map Trip.D) = instD (dropL l n) := rfl
  refine eq_of_OW ?_
  unfold unRes
  simp only [mDef_eq, outD_nx, outD_rt, startE, sNil, sSeq, thenS_nx, thenS_rt, thenS_bk, thenS_ct, sAsg, sIf, sRet, sRetN, sDrop, sBrk, sCnt, sFor, sOwn, ownAt, sApp, sExt, sPut, sFrz, sPar, mIxO, mLenO, mTupO, mVar, mC, mU, mB, mNil, mCons, mF, mIsT, mAndT, mOrT, mNotT, mAnd, mOr, mNot, mIf, mChain, mPart, mNoPart, mSl, mCall, mIt, mRng, mComp, mYes, gdName, gdTup, gdCons, gdNil, wipeE, tupItems_tup, lstItems_lst, bl_bl, int_int, mHx_eq, mHlen_eq, mHcell_eq, sHput_eq, isH_hnd, hget1, hget2, hget3, hget4, hset1, hset2, hset3, hset4, eq_int, ne_int, lt_int, gt_int, le_int, ge_int, eq_bl, add_int, add_tup, add_lst, sub_int, neg_int, isN_hi, notN_hi, mul_int, div_int, mod_int, pow_int, abs_int, intC_int, len_tup, len_lst, tup_D, lst_D, rt_D, Bool.not_not, Bool.not_true, Bool.not_false, true_and, and_true, false_and, and_false, or_true, true_or, or_false, false_or, List.length_cons, List.length_nil, List.length_append, List.length_map, List.map_cons, List.map_nil, List.replicate_succ, List.replicate_zero, List.cons_append, List.nil_append, List.append_nil, List.set_cons_zero, List.set_cons_succ, List.getElem?_cons_zero, List.getElem?_cons_succ, Option.bind_some, Option.map_some, Option.bind_none, Option.map_none, OW_some, OW_bind, OW_map, OW_if, Bool.false_eq_true, if_true, if_false, ↓reduceIte, Nat.reduceAdd, Nat.reduceSub, Nat.zero_add, Nat.sub_self, Function.comp, OW_eq ec, OW_eq c1, OW_eq c2, z3, hd, ed, hs 1 (by omega), hs 4 (by omega)]
end
end K41

set_option Elab.async false
set_option linter.all false
set_option maxRecDepth 100000
set_option maxHeartbeats 4000000
namespace K41
open PySem
open L2
open Dl
open Txt
open TL
theorem single_ok : InstOk [⟨"a", [0, 0, 0], []⟩] := by
  refine ⟨List.pairwise_singleton _ _, by decide, fun t ht => ?_⟩
  rw [List.mem_singleton.mp ht]
  exact ⟨⟨by decide +kernel, by decide +kernel, low_of (by decide +kernel)⟩, rfl, by decide, List.Pairwise.nil, by decide, fun _ z => by cases z⟩
theorem words_ok {d : D} (h : d ∈ [D.str "zzz", D.str "check", D.str "a"]) : ∃ w, d = .str w ∧ NameOk w := by
  simp only [List.mem_cons, List.not_mem_nil, or_false] at h
  rcases h with e | e | e <;> exact ⟨_, e, by decide +kernel, by decide +kernel, low_of (by decide +kernel)⟩
theorem unlike_ok {l : List Trip} {s : Hand} (h : InstOk l) (h9 : ∀ t ∈ l, t.fs.length ≤ 9) : OW (f__law_unlike [.hnd, instD l] s) fun p => ∃ l', p.1 = instD l' ∧ InstOk l' := by
  have hs : ∀ n : Nat, n ≤ 40 → ((n ≤ sizeLine) = True) := fun n h => eq_true (by rw [sizeLine_eq]; omega)
  have el : lenD [instD l] = some (.int ((l.length : Nat) : Int)) := by
    unfold instD
    rw [len_tup, List.length_map]
  rw [f_unlike_eq]
  by_cases c : l = []
  · subst c
    have el0 : lenD [instD []] = some (.int 0) := rfl
    have q : ((0 : Int) == 0) = true := rfl
    simp only [mDef_eq, outD_nx, outD_rt, startE, sNil, sSeq, thenS_nx, thenS_rt, thenS_bk, thenS_ct, sAsg, sIf, sRet, sRetN, sDrop, sBrk, sCnt, sFor, sOwn, ownAt, sApp, sExt, sPut, sFrz, sPar, mIxO, mLenO, mTupO, mVar, mC, mU, mB, mNil, mCons, mF, mIsT, mAndT, mOrT, mNotT, mAnd, mOr, mNot, mIf, mChain, mPart, mNoPart, mSl, mCall, mIt, mRng, mComp, mYes, gdName, gdTup, gdCons, gdNil, wipeE, tupItems_tup, lstItems_lst, bl_bl, int_int, mHx_eq, mHlen_eq, mHcell_eq, sHput_eq, isH_hnd, hget1, hget2, hget3, hget4, hset1, hset2, hset3, hset4, eq_int, ne_int, lt_int, gt_int, le_int, ge_int, eq_bl, add_int, add_tup, add_lst, sub_int, neg_int, isN_hi, notN_hi, mul_int, div_int, mod_int, pow_int, abs_int, intC_int, len_tup, len_lst, tup_D, lst_D, rt_D, Bool.not_not, Bool.not_true, Bool.not_false, true_and, and_true, false_and, and_false, or_true, true_or, or_false, false_or, List.length_cons, List.length_nil, List.length_append, List.length_map, List.map_cons, List.map_nil, List.replicate_succ, List.replicate_zero, List.cons_append, List.nil_append, List.append_nil, List.set_cons_zero, List.set_cons_succ, List.getElem?_cons_zero, List.getElem?_cons_succ, Option.bind_some, Option.map_some, Option.bind_none, Option.map_none, OW_some, OW_bind, OW_map, OW_if, Bool.false_eq_true, if_true, if_false, ↓reduceIte, Nat.reduceAdd, Nat.reduceSub, Nat.zero_add, Nat.sub_self, Function.comp, OW_eq el0, q, hs 3 (by omega), hs 1 (by omega), hs 0 (by omega)]
    exact ⟨[⟨"a", [0, 0, 0], []⟩], rfl, single_ok⟩
  · have hpos : 0 < l.length := List.length_pos_iff.mpr c
    have q : (((l.length : Nat) : Int) == 0) = false := by
      rw [beq_eq_false_iff_ne]
      omega
    have hl := h.2.1
    simp only [mDef_eq, outD_nx, outD_rt, startE, sNil, sSeq, thenS_nx, thenS_rt, thenS_bk, thenS_ct, sAsg, sIf, sRet, sRetN, sDrop, sBrk, sCnt, sFor, sOwn, ownAt, sApp, sExt, sPut, sFrz, sPar, mIxO, mLenO, mTupO, mVar, mC, mU, mB, mNil, mCons, mF, mIsT, mAndT, mOrT, mNotT, mAnd, mOr, mNot, mIf, mChain, mPart, mNoPart, mSl, mCall, mIt, mRng, mComp, mYes, gdName, gdTup, gdCons, gdNil, wipeE, tupItems_tup, lstItems_lst, bl_bl, int_int, mHx_eq, mHlen_eq, mHcell_eq, sHput_eq, isH_hnd, hget1, hget2, hget3, hget4, hset1, hset2, hset3, hset4, eq_int, ne_int, lt_int, gt_int, le_int, ge_int, eq_bl, add_int, add_tup, add_lst, sub_int, neg_int, isN_hi, notN_hi, mul_int, div_int, mod_int, pow_int, abs_int, intC_int, len_tup, len_lst, tup_D, lst_D, rt_D, Bool.not_not, Bool.not_true, Bool.not_false, true_and, and_true, false_and, and_false, or_true, true_or, or_false, false_or, List.length_cons, List.length_nil, List.length_append, List.length_map, List.map_cons, List.map_nil, List.replicate_succ, List.replicate_zero, List.cons_append, List.nil_append, List.append_nil, List.set_cons_zero, List.set_cons_succ, List.getElem?_cons_zero, List.getElem?_cons_succ, Option.bind_some, Option.map_some, Option.bind_none, Option.map_none, OW_some, OW_bind, OW_map, OW_if, Bool.false_eq_true, if_true, if_false, ↓reduceIte, Nat.reduceAdd, Nat.reduceSub, Nat.zero_add, Nat.sub_self, Function.comp, OW_eq el, q]
    refine draw_then (by omega) (by omega) fun n s1 n0 n1 => ?_
    obtain ⟨n, rfl⟩ : ∃ k : Nat, n = (k : Int) := ⟨n.toNat, by omega⟩
    have hn : n < l.length := by omega
    obtain ⟨t, et⟩ : ∃ t, l[n]? = some t := ⟨l[n], List.getElem?_eq_getElem hn⟩
    have htm : t ∈ l := List.mem_of_getElem? et
    have ht := h.2.2 t htm
    have ht9 := h9 t htm
    have h0 := ht
    obtain ⟨g1, g2, g3, g4, g5, g6⟩ := h0
    have ei : ixD (instD l) (.int ((n : Nat) : Int)) = some (.tup [.str t.w, numsD t.v, .tup (t.fs.map D.str)]) := by
      unfold instD
      rw [ix_nat, List.getElem?_map, et]
      rfl
    simp only [mDef_eq, outD_nx, outD_rt, startE, sNil, sSeq, thenS_nx, thenS_rt, thenS_bk, thenS_ct, sAsg, sIf, sRet, sRetN, sDrop, sBrk, sCnt, sFor, sOwn, ownAt, sApp, sExt, sPut, sFrz, sPar, mIxO, mLenO, mTupO, mVar, mC, mU, mB, mNil, mCons, mF, mIsT, mAndT, mOrT, mNotT, mAnd, mOr, mNot, mIf, mChain, mPart, mNoPart, mSl, mCall, mIt, mRng, mComp, mYes, gdName, gdTup, gdCons, gdNil, wipeE, tupItems_tup, lstItems_lst, bl_bl, int_int, mHx_eq, mHlen_eq, mHcell_eq, sHput_eq, isH_hnd, hget1, hget2, hget3, hget4, hset1, hset2, hset3, hset4, eq_int, ne_int, lt_int, gt_int, le_int, ge_int, eq_bl, add_int, add_tup, add_lst, sub_int, neg_int, isN_hi, notN_hi, mul_int, div_int, mod_int, pow_int, abs_int, intC_int, len_tup, len_lst, tup_D, lst_D, rt_D, Bool.not_not, Bool.not_true, Bool.not_false, true_and, and_true, false_and, and_false, or_true, true_or, or_false, false_or, List.length_cons, List.length_nil, List.length_append, List.length_map, List.map_cons, List.map_nil, List.replicate_succ, List.replicate_zero, List.cons_append, List.nil_append, List.append_nil, List.set_cons_zero, List.set_cons_succ, List.getElem?_cons_zero, List.getElem?_cons_succ, Option.bind_some, Option.map_some, Option.bind_none, Option.map_none, OW_some, OW_bind, OW_map, OW_if, Bool.false_eq_true, if_true, if_false, ↓reduceIte, Nat.reduceAdd, Nat.reduceSub, Nat.zero_add, Nat.sub_self, Function.comp, OW_eq ei, hs 3 (by omega)]
    refine draw_then (by omega) (by omega) fun j s2 j0 j1 => ?_
    obtain ⟨j, rfl⟩ : ∃ k : Nat, j = (k : Int) := ⟨j.toNat, by omega⟩
    have hj : j < 3 := by omega
    obtain ⟨x, ex⟩ : ∃ x, t.v[j]? = some x := ⟨t.v[j], List.getElem?_eq_getElem (by omega)⟩
    have hx : x ≤ 1000000 := g3 x (List.mem_of_getElem? ex)
    simp only [mDef_eq, outD_nx, outD_rt, startE, sNil, sSeq, thenS_nx, thenS_rt, thenS_bk, thenS_ct, sAsg, sIf, sRet, sRetN, sDrop, sBrk, sCnt, sFor, sOwn, ownAt, sApp, sExt, sPut, sFrz, sPar, mIxO, mLenO, mTupO, mVar, mC, mU, mB, mNil, mCons, mF, mIsT, mAndT, mOrT, mNotT, mAnd, mOr, mNot, mIf, mChain, mPart, mNoPart, mSl, mCall, mIt, mRng, mComp, mYes, gdName, gdTup, gdCons, gdNil, wipeE, tupItems_tup, lstItems_lst, bl_bl, int_int, mHx_eq, mHlen_eq, mHcell_eq, sHput_eq, isH_hnd, hget1, hget2, hget3, hget4, hset1, hset2, hset3, hset4, eq_int, ne_int, lt_int, gt_int, le_int, ge_int, eq_bl, add_int, add_tup, add_lst, sub_int, neg_int, isN_hi, notN_hi, mul_int, div_int, mod_int, pow_int, abs_int, intC_int, len_tup, len_lst, tup_D, lst_D, rt_D, Bool.not_not, Bool.not_true, Bool.not_false, true_and, and_true, false_and, and_false, or_true, true_or, or_false, false_or, List.length_cons, List.length_nil, List.length_append, List.length_map, List.map_cons, List.map_nil, List.replicate_succ, List.replicate_zero, List.cons_append, List.nil_append, List.append_nil, List.set_cons_zero, List.set_cons_succ, List.getElem?_cons_zero, List.getElem?_cons_succ, Option.bind_some, Option.map_some, Option.bind_none, Option.map_none, OW_some, OW_bind, OW_map, OW_if, Bool.false_eq_true, if_true, if_false, ↓reduceIte, Nat.reduceAdd, Nat.reduceSub, Nat.zero_add, Nat.sub_self, Function.comp]
    refine any_then (by simp) (by simp) fun d s3 hd => ?_
    obtain ⟨w, rfl, hw⟩ := words_ok hd
    simp only [mDef_eq, outD_nx, outD_rt, startE, sNil, sSeq, thenS_nx, thenS_rt, thenS_bk, thenS_ct, sAsg, sIf, sRet, sRetN, sDrop, sBrk, sCnt, sFor, sOwn, ownAt, sApp, sExt, sPut, sFrz, sPar, mIxO, mLenO, mTupO, mVar, mC, mU, mB, mNil, mCons, mF, mIsT, mAndT, mOrT, mNotT, mAnd, mOr, mNot, mIf, mChain, mPart, mNoPart, mSl, mCall, mIt, mRng, mComp, mYes, gdName, gdTup, gdCons, gdNil, wipeE, tupItems_tup, lstItems_lst, bl_bl, int_int, mHx_eq, mHlen_eq, mHcell_eq, sHput_eq, isH_hnd, hget1, hget2, hget3, hget4, hset1, hset2, hset3, hset4, eq_int, ne_int, lt_int, gt_int, le_int, ge_int, eq_bl, add_int, add_tup, add_lst, sub_int, neg_int, isN_hi, notN_hi, mul_int, div_int, mod_int, pow_int, abs_int, intC_int, len_tup, len_lst, tup_D, lst_D, rt_D, Bool.not_not, Bool.not_true, Bool.not_false, true_and, and_true, false_and, and_false, or_true, true_or, or_false, false_or, List.length_cons, List.length_nil, List.length_append, List.length_map, List.map_cons, List.map_nil, List.replicate_succ, List.replicate_zero, List.cons_append, List.nil_append, List.append_nil, List.set_cons_zero, List.set_cons_succ, List.getElem?_cons_zero, List.getElem?_cons_succ, Option.bind_some, Option.map_some, Option.bind_none, Option.map_none, OW_some, OW_bind, OW_map, OW_if, Bool.false_eq_true, if_true, if_false, ↓reduceIte, Nat.reduceAdd, Nat.reduceSub, Nat.zero_add, Nat.sub_self, Function.comp, OW_eq (ix_nums ex), divI_ok (j := 10) (by decide) (by decide +kernel), hs 2 (by omega), hs 5 (by omega)]
    refine any_then (by simp) (by simp) fun d s4 hd4 => ?_
    have hm : ∃ m : Nat, d = .int (m : Int) ∧ m ≤ 1000000 := by
      simp only [List.mem_cons, List.not_mem_nil, or_false] at hd4
      rcases hd4 with e | e | e | e | e
      · exact ⟨0, e, by omega⟩
      · exact ⟨1, e, by omega⟩
      · exact ⟨10, e, by omega⟩
      · exact ⟨1000000, e, by omega⟩
      · exact ⟨x / 10, by rw [show ((x / 10 : Nat) : Int) = (x : Int) / 10 by omega]; exact e, by omega⟩
    obtain ⟨m, rfl, hm⟩ := hm
    simp only [mDef_eq, outD_nx, outD_rt, startE, sNil, sSeq, thenS_nx, thenS_rt, thenS_bk, thenS_ct, sAsg, sIf, sRet, sRetN, sDrop, sBrk, sCnt, sFor, sOwn, ownAt, sApp, sExt, sPut, sFrz, sPar, mIxO, mLenO, mTupO, mVar, mC, mU, mB, mNil, mCons, mF, mIsT, mAndT, mOrT, mNotT, mAnd, mOr, mNot, mIf, mChain, mPart, mNoPart, mSl, mCall, mIt, mRng, mComp, mYes, gdName, gdTup, gdCons, gdNil, wipeE, tupItems_tup, lstItems_lst, bl_bl, int_int, mHx_eq, mHlen_eq, mHcell_eq, sHput_eq, isH_hnd, hget1, hget2, hget3, hget4, hset1, hset2, hset3, hset4, eq_int, ne_int, lt_int, gt_int, le_int, ge_int, eq_bl, add_int, add_tup, add_lst, sub_int, neg_int, isN_hi, notN_hi, mul_int, div_int, mod_int, pow_int, abs_int, intC_int, len_tup, len_lst, tup_D, lst_D, rt_D, Bool.not_not, Bool.not_true, Bool.not_false, true_and, and_true, false_and, and_false, or_true, true_or, or_false, false_or, List.length_cons, List.length_nil, List.length_append, List.length_map, List.map_cons, List.map_nil, List.replicate_succ, List.replicate_zero, List.cons_append, List.nil_append, List.append_nil, List.set_cons_zero, List.set_cons_succ, List.getElem?_cons_zero, List.getElem?_cons_succ, Option.bind_some, Option.map_some, Option.bind_none, Option.map_none, OW_some, OW_bind, OW_map, OW_if, Bool.false_eq_true, if_true, if_false, ↓reduceIte, Nat.reduceAdd, Nat.reduceSub, Nat.zero_add, Nat.sub_self, Function.comp]
    obtain ⟨m', hm', e1⟩ := num_step (A0 := some (.dat .hnd)) (A1 := some (.dat (instD l))) (A2 := some (.dat (.int ((n : Nat) : Int)))) (A4 := none) (A5 := none) (A6 := none) (A7 := some (.dat (.str t.w))) (A9 := some (.dat (.tup (t.fs.map D.str)))) (A11 := some (.dat (.str w))) (s := s4) ex hm
    simp only [OW_eq e1, mDef_eq, outD_nx, outD_rt, startE, sNil, sSeq, thenS_nx, thenS_rt, thenS_bk, thenS_ct, sAsg, sIf, sRet, sRetN, sDrop, sBrk, sCnt, sFor, sOwn, ownAt, sApp, sExt, sPut, sFrz, sPar, mIxO, mLenO, mTupO, mVar, mC, mU, mB, mNil, mCons, mF, mIsT, mAndT, mOrT, mNotT, mAnd, mOr, mNot, mIf, mChain, mPart, mNoPart, mSl, mCall, mIt, mRng, mComp, mYes, gdName, gdTup, gdCons, gdNil, wipeE, tupItems_tup, lstItems_lst, bl_bl, int_int, mHx_eq, mHlen_eq, mHcell_eq, sHput_eq, isH_hnd, hget1, hget2, hget3, hget4, hset1, hset2, hset3, hset4, eq_int, ne_int, lt_int, gt_int, le_int, ge_int, eq_bl, add_int, add_tup, add_lst, sub_int, neg_int, isN_hi, notN_hi, mul_int, div_int, mod_int, pow_int, abs_int, intC_int, len_tup, len_lst, tup_D, lst_D, rt_D, Bool.not_not, Bool.not_true, Bool.not_false, true_and, and_true, false_and, and_false, or_true, true_or, or_false, false_or, List.length_cons, List.length_nil, List.length_append, List.length_map, List.map_cons, List.map_nil, List.replicate_succ, List.replicate_zero, List.cons_append, List.nil_append, List.append_nil, List.set_cons_zero, List.set_cons_succ, List.getElem?_cons_zero, List.getElem?_cons_succ, Option.bind_some, Option.map_some, Option.bind_none, Option.map_none, OW_some, OW_bind, OW_map, OW_if, Bool.false_eq_true, if_true, if_false, ↓reduceIte, Nat.reduceAdd, Nat.reduceSub, Nat.zero_add, Nat.sub_self, Function.comp]
    simp only [OW_eq (later_is g2 hj), mDef_eq, outD_nx, outD_rt, startE, sNil, sSeq, thenS_nx, thenS_rt, thenS_bk, thenS_ct, sAsg, sIf, sRet, sRetN, sDrop, sBrk, sCnt, sFor, sOwn, ownAt, sApp, sExt, sPut, sFrz, sPar, mIxO, mLenO, mTupO, mVar, mC, mU, mB, mNil, mCons, mF, mIsT, mAndT, mOrT, mNotT, mAnd, mOr, mNot, mIf, mChain, mPart, mNoPart, mSl, mCall, mIt, mRng, mComp, mYes, gdName, gdTup, gdCons, gdNil, wipeE, tupItems_tup, lstItems_lst, bl_bl, int_int, mHx_eq, mHlen_eq, mHcell_eq, sHput_eq, isH_hnd, hget1, hget2, hget3, hget4, hset1, hset2, hset3, hset4, eq_int, ne_int, lt_int, gt_int, le_int, ge_int, eq_bl, add_int, add_tup, add_lst, sub_int, neg_int, isN_hi, notN_hi, mul_int, div_int, mod_int, pow_int, abs_int, intC_int, len_tup, len_lst, tup_D, lst_D, rt_D, Bool.not_not, Bool.not_true, Bool.not_false, true_and, and_true, false_and, and_false, or_true, true_or, or_false, false_or, List.length_cons, List.length_nil, List.length_append, List.length_map, List.map_cons, List.map_nil, List.replicate_succ, List.replicate_zero, List.cons_append, List.nil_append, List.append_nil, List.set_cons_zero, List.set_cons_succ, List.getElem?_cons_zero, List.getElem?_cons_succ, Option.bind_some, Option.map_some, Option.bind_none, Option.map_none, OW_some, OW_bind, OW_map, OW_if, Bool.false_eq_true, if_true, if_false, ↓reduceIte, Nat.reduceAdd, Nat.reduceSub, Nat.zero_add, Nat.sub_self, Function.comp]
    obtain ⟨fs', f1, f2, f3, e2⟩ := other_is (A0 := some (.dat .hnd)) (A1 := some (.dat (instD l))) (A2 := some (.dat (.int ((n : Nat) : Int)))) (A3 := some (.dat (.int ((m' : Nat) : Int)))) (A4 := some (.dat (numsD (putL t.v j m')))) (A5 := none) (A6 := none) (A7 := some (.dat (.str t.w))) (A8 := some (.dat (numsD t.v))) (A10 := some (.dat (.int ((j : Nat) : Int)))) (s := s4) hw g4 ht9 g6
    have er : revT (numsD t.v) = some (numsD t.v.reverse) := by
      show some (D.tup (t.v.map fun (n : Nat) => D.int ((n : Nat) : Int)).reverse) = _
      rw [← List.map_reverse]
      rfl
    simp only [OW_eq e2, mDef_eq, outD_nx, outD_rt, startE, sNil, sSeq, thenS_nx, thenS_rt, thenS_bk, thenS_ct, sAsg, sIf, sRet, sRetN, sDrop, sBrk, sCnt, sFor, sOwn, ownAt, sApp, sExt, sPut, sFrz, sPar, mIxO, mLenO, mTupO, mVar, mC, mU, mB, mNil, mCons, mF, mIsT, mAndT, mOrT, mNotT, mAnd, mOr, mNot, mIf, mChain, mPart, mNoPart, mSl, mCall, mIt, mRng, mComp, mYes, gdName, gdTup, gdCons, gdNil, wipeE, tupItems_tup, lstItems_lst, bl_bl, int_int, mHx_eq, mHlen_eq, mHcell_eq, sHput_eq, isH_hnd, hget1, hget2, hget3, hget4, hset1, hset2, hset3, hset4, eq_int, ne_int, lt_int, gt_int, le_int, ge_int, eq_bl, add_int, add_tup, add_lst, sub_int, neg_int, isN_hi, notN_hi, mul_int, div_int, mod_int, pow_int, abs_int, intC_int, len_tup, len_lst, tup_D, lst_D, rt_D, Bool.not_not, Bool.not_true, Bool.not_false, true_and, and_true, false_and, and_false, or_true, true_or, or_false, false_or, List.length_cons, List.length_nil, List.length_append, List.length_map, List.map_cons, List.map_nil, List.replicate_succ, List.replicate_zero, List.cons_append, List.nil_append, List.append_nil, List.set_cons_zero, List.set_cons_succ, List.getElem?_cons_zero, List.getElem?_cons_succ, Option.bind_some, Option.map_some, Option.bind_none, Option.map_none, OW_some, OW_bind, OW_map, OW_if, Bool.false_eq_true, if_true, if_false, ↓reduceIte, Nat.reduceAdd, Nat.reduceSub, Nat.zero_add, Nat.sub_self, Function.comp, OW_eq er, hs 3 (by omega)]
    have hres := res_is (A0 := some (.dat .hnd)) (A3 := some (.dat (.int ((m' : Nat) : Int)))) (A4 := some (.dat (numsD (putL t.v j m')))) (A5 := some (.dat (.tup (fs'.map D.str)))) (A7 := some (.dat (.str t.w))) (A8 := some (.dat (numsD t.v))) (A9 := some (.dat (.tup (t.fs.map D.str)))) (A10 := some (.dat (.int ((j : Nat) : Int)))) (A11 := some (.dat (.str w))) (s := s4) (l := l) (n := n) (t1 := ⟨t.w, putL t.v j m', t.fs⟩) (t2 := ⟨t.w, t.v, fs'⟩) (t3 := ⟨t.w, t.v.reverse, t.fs⟩) hn hl
    have d1 : (⟨t.w, putL t.v j m', t.fs⟩ : Trip).D = .tup [.str t.w, numsD (putL t.v j m'), .tup (t.fs.map D.str)] := rfl
    have d2 : (⟨t.w, t.v, fs'⟩ : Trip).D = .tup [.str t.w, numsD t.v, .tup (fs'.map D.str)] := rfl
    have d3 : (⟨t.w, t.v.reverse, t.fs⟩ : Trip).D = .tup [.str t.w, numsD t.v.reverse, .tup (t.fs.map D.str)] := rfl
    rw [d1, d2, d3] at hres
    simp only [OW_eq hres, mDef_eq, outD_nx, outD_rt, startE, sNil, sSeq, thenS_nx, thenS_rt, thenS_bk, thenS_ct, sAsg, sIf, sRet, sRetN, sDrop, sBrk, sCnt, sFor, sOwn, ownAt, sApp, sExt, sPut, sFrz, sPar, mIxO, mLenO, mTupO, mVar, mC, mU, mB, mNil, mCons, mF, mIsT, mAndT, mOrT, mNotT, mAnd, mOr, mNot, mIf, mChain, mPart, mNoPart, mSl, mCall, mIt, mRng, mComp, mYes, gdName, gdTup, gdCons, gdNil, wipeE, tupItems_tup, lstItems_lst, bl_bl, int_int, mHx_eq, mHlen_eq, mHcell_eq, sHput_eq, isH_hnd, hget1, hget2, hget3, hget4, hset1, hset2, hset3, hset4, eq_int, ne_int, lt_int, gt_int, le_int, ge_int, eq_bl, add_int, add_tup, add_lst, sub_int, neg_int, isN_hi, notN_hi, mul_int, div_int, mod_int, pow_int, abs_int, intC_int, len_tup, len_lst, tup_D, lst_D, rt_D, Bool.not_not, Bool.not_true, Bool.not_false, true_and, and_true, false_and, and_false, or_true, true_or, or_false, false_or, List.length_cons, List.length_nil, List.length_append, List.length_map, List.map_cons, List.map_nil, List.replicate_succ, List.replicate_zero, List.cons_append, List.nil_append, List.append_nil, List.set_cons_zero, List.set_cons_succ, List.getElem?_cons_zero, List.getElem?_cons_succ, Option.bind_some, Option.map_some, Option.bind_none, Option.map_none, OW_some, OW_bind, OW_map, OW_if, Bool.false_eq_true, if_true, if_false, ↓reduceIte, Nat.reduceAdd, Nat.reduceSub, Nat.zero_add, Nat.sub_self, Function.comp]
    refine any_then (by simp) (by simp) fun d s5 hd5 => ?_
    simp only [mDef_eq, outD_nx, outD_rt, startE, sNil, sSeq, thenS_nx, thenS_rt, thenS_bk, thenS_ct, sAsg, sIf, sRet, sRetN, sDrop, sBrk, sCnt, sFor, sOwn, ownAt, sApp, sExt, sPut, sFrz, sPar, mIxO, mLenO, mTupO, mVar, mC, mU, mB, mNil, mCons, mF, mIsT, mAndT, mOrT, mNotT, mAnd, mOr, mNot, mIf, mChain, mPart, mNoPart, mSl, mCall, mIt, mRng, mComp, mYes, gdName, gdTup, gdCons, gdNil, wipeE, tupItems_tup, lstItems_lst, bl_bl, int_int, mHx_eq, mHlen_eq, mHcell_eq, sHput_eq, isH_hnd, hget1, hget2, hget3, hget4, hset1, hset2, hset3, hset4, eq_int, ne_int, lt_int, gt_int, le_int, ge_int, eq_bl, add_int, add_tup, add_lst, sub_int, neg_int, isN_hi, notN_hi, mul_int, div_int, mod_int, pow_int, abs_int, intC_int, len_tup, len_lst, tup_D, lst_D, rt_D, Bool.not_not, Bool.not_true, Bool.not_false, true_and, and_true, false_and, and_false, or_true, true_or, or_false, false_or, List.length_cons, List.length_nil, List.length_append, List.length_map, List.map_cons, List.map_nil, List.replicate_succ, List.replicate_zero, List.cons_append, List.nil_append, List.append_nil, List.set_cons_zero, List.set_cons_succ, List.getElem?_cons_zero, List.getElem?_cons_succ, Option.bind_some, Option.map_some, Option.bind_none, Option.map_none, OW_some, OW_bind, OW_map, OW_if, Bool.false_eq_true, if_true, if_false, ↓reduceIte, Nat.reduceAdd, Nat.reduceSub, Nat.zero_add, Nat.sub_self, Function.comp]
    have k1 : InstOk (putL l n ⟨t.w, putL t.v j m', t.fs⟩) := put_ok h et rfl (ver_ok ht (by rw [putL_len (by omega)]; exact g2) fun y hy => by
      rcases mem_putL hy with z | z
      · rw [z]; exact hm'
      · exact g3 y z)
    have k2 : InstOk (putL l n ⟨t.w, t.v, fs'⟩) := put_ok h et rfl (fs_ok ht f1 f2 f3)
    have k3 : InstOk (putL l n ⟨t.w, t.v.reverse, t.fs⟩) := put_ok h et rfl (ver_ok ht (by rw [List.length_reverse]; exact g2) fun y hy => g3 y (List.mem_reverse.mp hy))
    simp only [List.mem_cons, List.not_mem_nil, or_false] at hd5
    rcases hd5 with e | e | e | e
    · exact ⟨_, e, k1⟩
    · exact ⟨_, e, k2⟩
    · exact ⟨_, e, k3⟩
    · exact ⟨_, e, drop_ok h⟩
end K41

set_option Elab.async false
set_option linter.all false
set_option maxRecDepth 100000
set_option maxHeartbeats 4000000
namespace K41
open PySem
open L2
open Dl
open Txt
open TL
theorem cut_len {ds : List D} {k : Nat} : (cutD ds none (some (k : Int))).length ≤ ds.length := by
  unfold cutD
  rw [List.length_take, List.length_drop]
  omega
theorem allInt : ∀ {ds : List D}, (∀ d ∈ ds, ∃ i, d = .int i) → ∃ is : List Int, ds = is.map .int
  | [], _ => ⟨[], rfl⟩
  | d :: ds, h => by
    obtain ⟨i, e⟩ := h d (List.mem_cons_self ..)
    obtain ⟨l, e2⟩ := allInt fun x hx => h x (List.mem_cons_of_mem _ hx)
    exact ⟨i :: l, by rw [e, e2]; rfl⟩
def absK : D → D
  | .int i => .int (if i < 0 then -i else i)
  | d => d
theorem disp5 {l : ML (List Int)} {env : DE} {s : List Int} {d1 d2 d3 d4 d5 : D} (h : l env s = some ([d1, d2, d3, d4, d5], s)) : mDisp ["cells", "at", "left", "seed", "turn"] l env s = some (.dct [.inr "cells", .inr "at", .inr "left", .inr "seed", .inr "turn"] [d1, d2, d3, d4, d5], s) := by
  unfold mDisp
  rw [h]
  show (if [d1, d2, d3, d4, d5].length = 5 ∧ (List.map (Sum.inr : Str → Key) ["cells", "at", "left", "seed", "turn"]).Nodup then _ else none) = _
  rw [if_pos ⟨rfl, by decide +kernel⟩]
  rfl
theorem hand_made {ns : List Int} (hz : ns.length ≤ 63) : ∃ cells k, f__law_hand [.hnd] ns = some (handDK cells k, ns) := by
  have hl : (cutD (ns.map D.int) none (some 63)).length ≤ 63 := Nat.le_trans cut_len (by rw [List.length_map]; exact hz)
  obtain ⟨is, hi⟩ := allInt (ds := cutD (ns.map D.int) none (some 63)) fun d hd => by
    obtain ⟨i, _, e⟩ := List.mem_map.mp (List.mem_of_mem_drop (List.mem_of_mem_take hd))
    exact ⟨i, e.symm⟩
  refine ⟨is.map fun i => if i < 0 then -i else i, 40961 + ((is.length : Nat) : Int), eq_of_OW ?_⟩
  unfold f__law_hand
  have e : compL (gdName 2) mYes c__law_hand_0 [some (.dat .hnd), none, none] (is.map D.int) ns = some ((is.map D.int).map absK, ns) := by
    refine comp_pure fun x hx => ⟨_, rfl, ?_⟩
    obtain ⟨i, _, ei⟩ := List.mem_map.mp hx
    subst ei
    rw [c__law_hand_0_eq]
    refine eq_of_OW ?_
    simp only [mDef_eq, outD_nx, outD_rt, startE, sNil, sSeq, thenS_nx, thenS_rt, thenS_bk, thenS_ct, sAsg, sIf, sRet, sRetN, sDrop, sBrk, sCnt, sFor, sOwn, ownAt, sApp, sExt, sPut, sFrz, sPar, mIxO, mLenO, mTupO, mVar, mC, mU, mB, mNil, mCons, mF, mIsT, mAndT, mOrT, mNotT, mAnd, mOr, mNot, mIf, mChain, mPart, mNoPart, mSl, mCall, mIt, mRng, mComp, mYes, gdName, gdTup, gdCons, gdNil, wipeE, tupItems_tup, lstItems_lst, bl_bl, int_int, mHx_eq, mHlen_eq, mHcell_eq, sHput_eq, isH_hnd, hget1, hget2, hget3, hget4, hset1, hset2, hset3, hset4, eq_int, ne_int, lt_int, gt_int, le_int, ge_int, eq_bl, add_int, add_tup, add_lst, sub_int, neg_int, isN_hi, notN_hi, mul_int, div_int, mod_int, pow_int, abs_int, intC_int, len_tup, len_lst, tup_D, lst_D, rt_D, Bool.not_not, Bool.not_true, Bool.not_false, true_and, and_true, false_and, and_false, or_true, true_or, or_false, false_or, List.length_cons, List.length_nil, List.length_append, List.length_map, List.map_cons, List.map_nil, List.replicate_succ, List.replicate_zero, List.cons_append, List.nil_append, List.append_nil, List.set_cons_zero, List.set_cons_succ, List.getElem?_cons_zero, List.getElem?_cons_succ, Option.bind_some, Option.map_some, Option.bind_none, Option.map_none, OW_some, OW_bind, OW_map, OW_if, Bool.false_eq_true, if_true, if_false, ↓reduceIte, Nat.reduceAdd, Nat.reduceSub, Nat.zero_add, Nat.sub_self, Function.comp]
    rfl
  have hs1 : ∀ n : Nat, n ≤ 40 → ((n ≤ sizeLine) = True) := fun n h => eq_true (by rw [sizeLine_eq]; omega)
  have e2 : mScr 0 63 [some (.dat .hnd), none, none] ns = some (.lst (is.map D.int), ns) := by
    unfold mScr
    rw [isH_hnd, if_pos rfl, ← hi]
    rfl
  have e3 : (is.map D.int).map absK = (is.map fun i => if i < 0 then -i else i).map D.int := by
    rw [List.map_map, List.map_map]
    rfl
  rw [e3] at e
  generalize hC : (is.map fun i => if i < 0 then -i else i) = C at *
  have hcl : C.length = is.length := by rw [← hC, List.length_map]
  rw [← hcl]
  simp only [mDef_eq, outD_nx, outD_rt, startE, sNil, sSeq, thenS_nx, thenS_rt, thenS_bk, thenS_ct, sAsg, sIf, sRet, sRetN, sDrop, sBrk, sCnt, sFor, sOwn, ownAt, sApp, sExt, sPut, sFrz, sPar, mIxO, mLenO, mTupO, mVar, mC, mU, mB, mNil, mCons, mF, mIsT, mAndT, mOrT, mNotT, mAnd, mOr, mNot, mIf, mChain, mPart, mNoPart, mSl, mCall, mIt, mRng, mComp, mYes, gdName, gdTup, gdCons, gdNil, wipeE, tupItems_tup, lstItems_lst, bl_bl, int_int, mHx_eq, mHlen_eq, mHcell_eq, sHput_eq, isH_hnd, hget1, hget2, hget3, hget4, hset1, hset2, hset3, hset4, eq_int, ne_int, lt_int, gt_int, le_int, ge_int, eq_bl, add_int, add_tup, add_lst, sub_int, neg_int, isN_hi, notN_hi, mul_int, div_int, mod_int, pow_int, abs_int, intC_int, len_tup, len_lst, tup_D, lst_D, rt_D, Bool.not_not, Bool.not_true, Bool.not_false, true_and, and_true, false_and, and_false, or_true, true_or, or_false, false_or, List.length_cons, List.length_nil, List.length_append, List.length_map, List.map_cons, List.map_nil, List.replicate_succ, List.replicate_zero, List.cons_append, List.nil_append, List.append_nil, List.set_cons_zero, List.set_cons_succ, List.getElem?_cons_zero, List.getElem?_cons_succ, Option.bind_some, Option.map_some, Option.bind_none, Option.map_none, OW_some, OW_bind, OW_map, OW_if, Bool.false_eq_true, if_true, if_false, ↓reduceIte, Nat.reduceAdd, Nat.reduceSub, Nat.zero_add, Nat.sub_self, Function.comp, e2, OW_eq e, hs1 5 (by omega)]
  rw [OW_eq (disp5 (d1 := .lst (C.map D.int)) (d2 := .int 0) (d3 := .int 0) (d4 := .int (40961 + ((C.length : Nat) : Int))) (d5 := .int 0) (eq_of_OW (by simp only [mDef_eq, outD_nx, outD_rt, startE, sNil, sSeq, thenS_nx, thenS_rt, thenS_bk, thenS_ct, sAsg, sIf, sRet, sRetN, sDrop, sBrk, sCnt, sFor, sOwn, ownAt, sApp, sExt, sPut, sFrz, sPar, mIxO, mLenO, mTupO, mVar, mC, mU, mB, mNil, mCons, mF, mIsT, mAndT, mOrT, mNotT, mAnd, mOr, mNot, mIf, mChain, mPart, mNoPart, mSl, mCall, mIt, mRng, mComp, mYes, gdName, gdTup, gdCons, gdNil, wipeE, tupItems_tup, lstItems_lst, bl_bl, int_int, mHx_eq, mHlen_eq, mHcell_eq, sHput_eq, isH_hnd, hget1, hget2, hget3, hget4, hset1, hset2, hset3, hset4, eq_int, ne_int, lt_int, gt_int, le_int, ge_int, eq_bl, add_int, add_tup, add_lst, sub_int, neg_int, isN_hi, notN_hi, mul_int, div_int, mod_int, pow_int, abs_int, intC_int, len_tup, len_lst, tup_D, lst_D, rt_D, Bool.not_not, Bool.not_true, Bool.not_false, true_and, and_true, false_and, and_false, or_true, true_or, or_false, false_or, List.length_cons, List.length_nil, List.length_append, List.length_map, List.map_cons, List.map_nil, List.replicate_succ, List.replicate_zero, List.cons_append, List.nil_append, List.append_nil, List.set_cons_zero, List.set_cons_succ, List.getElem?_cons_zero, List.getElem?_cons_succ, Option.bind_some, Option.map_some, Option.bind_none, Option.map_none, OW_some, OW_bind, OW_map, OW_if, Bool.false_eq_true, if_true, if_false, ↓reduceIte, Nat.reduceAdd, Nat.reduceSub, Nat.zero_add, Nat.sub_self, Function.comp])))]
  rfl
end K41

set_option Elab.async false
set_option linter.all false
set_option maxRecDepth 100000
set_option maxHeartbeats 4000000
namespace K41
open PySem
open L2
open Dl
open Txt
open TL
/-! the law -/
theorem lock_iff {l l' : List Trip} (h : InstOk l) (h' : InstOk l') : lockT l = lockT l' ↔ instD l = instD l' := by
  constructor
  · intro e
    have a := read_lock_is (s := hand0 [] 0) h
    have b := read_lock_is (s := hand0 [] 0) h'
    rw [e] at a
    have c := Option.some.inj (b.symm.trans a)
    exact ((RX.val.inj c).1).symm
  · intro e
    have a := lock_text_is (s := hand0 [] 0) h
    have b := lock_text_is (s := hand0 [] 0) h'
    rw [e] at a
    have c := congrArg Prod.fst (Option.some.inj (b.symm.trans a))
    exact (D.str.inj c).symm
theorem turn_ok {A0 e2 e3 e4 : Option Slot} {s : Hand} : OW (b_law_0 [A0, some (.dat .hnd), e2, e3, e4] s) fun o => ∃ e3 e4 s', o = .nx [A0, some (.dat .hnd), e2, e3, e4] s' := by
  rw [b_law_0_eq]
  simp only [mDef_eq, outD_nx, outD_rt, startE, sNil, sSeq, thenS_nx, thenS_rt, thenS_bk, thenS_ct, sAsg, sIf, sRet, sRetN, sDrop, sBrk, sCnt, sFor, sOwn, ownAt, sApp, sExt, sPut, sFrz, sPar, mIxO, mLenO, mTupO, mVar, mC, mU, mB, mNil, mCons, mF, mIsT, mAndT, mOrT, mNotT, mAnd, mOr, mNot, mIf, mChain, mPart, mNoPart, mSl, mCall, mIt, mRng, mComp, mYes, gdName, gdTup, gdCons, gdNil, wipeE, tupItems_tup, lstItems_lst, bl_bl, int_int, mHx_eq, mHlen_eq, mHcell_eq, sHput_eq, isH_hnd, hget1, hget2, hget3, hget4, hset1, hset2, hset3, hset4, eq_int, ne_int, lt_int, gt_int, le_int, ge_int, eq_bl, add_int, add_tup, add_lst, sub_int, neg_int, isN_hi, notN_hi, mul_int, div_int, mod_int, pow_int, abs_int, intC_int, len_tup, len_lst, tup_D, lst_D, rt_D, Bool.not_not, Bool.not_true, Bool.not_false, true_and, and_true, false_and, and_false, or_true, true_or, or_false, false_or, List.length_cons, List.length_nil, List.length_append, List.length_map, List.map_cons, List.map_nil, List.replicate_succ, List.replicate_zero, List.cons_append, List.nil_append, List.append_nil, List.set_cons_zero, List.set_cons_succ, List.getElem?_cons_zero, List.getElem?_cons_succ, Option.bind_some, Option.map_some, Option.bind_none, Option.map_none, OW_some, OW_bind, OW_map, OW_if, Bool.false_eq_true, if_true, if_false, ↓reduceIte, Nat.reduceAdd, Nat.reduceSub, Nat.zero_add, Nat.sub_self, Function.comp]
  refine OW.mono inst_ok fun p ⟨l, e, h, h9⟩ => ?_
  obtain ⟨d, s1⟩ := p
  dsimp only at e
  subst e
  simp only [mDef_eq, outD_nx, outD_rt, startE, sNil, sSeq, thenS_nx, thenS_rt, thenS_bk, thenS_ct, sAsg, sIf, sRet, sRetN, sDrop, sBrk, sCnt, sFor, sOwn, ownAt, sApp, sExt, sPut, sFrz, sPar, mIxO, mLenO, mTupO, mVar, mC, mU, mB, mNil, mCons, mF, mIsT, mAndT, mOrT, mNotT, mAnd, mOr, mNot, mIf, mChain, mPart, mNoPart, mSl, mCall, mIt, mRng, mComp, mYes, gdName, gdTup, gdCons, gdNil, wipeE, tupItems_tup, lstItems_lst, bl_bl, int_int, mHx_eq, mHlen_eq, mHcell_eq, sHput_eq, isH_hnd, hget1, hget2, hget3, hget4, hset1, hset2, hset3, hset4, eq_int, ne_int, lt_int, gt_int, le_int, ge_int, eq_bl, add_int, add_tup, add_lst, sub_int, neg_int, isN_hi, notN_hi, mul_int, div_int, mod_int, pow_int, abs_int, intC_int, len_tup, len_lst, tup_D, lst_D, rt_D, Bool.not_not, Bool.not_true, Bool.not_false, true_and, and_true, false_and, and_false, or_true, true_or, or_false, false_or, List.length_cons, List.length_nil, List.length_append, List.length_map, List.map_cons, List.map_nil, List.replicate_succ, List.replicate_zero, List.cons_append, List.nil_append, List.append_nil, List.set_cons_zero, List.set_cons_succ, List.getElem?_cons_zero, List.getElem?_cons_succ, Option.bind_some, Option.map_some, Option.bind_none, Option.map_none, OW_some, OW_bind, OW_map, OW_if, Bool.false_eq_true, if_true, if_false, ↓reduceIte, Nat.reduceAdd, Nat.reduceSub, Nat.zero_add, Nat.sub_self, Function.comp]
  refine OW.mono (unlike_ok h h9) fun p ⟨l', e, h'⟩ => ?_
  obtain ⟨d, s2⟩ := p
  dsimp only at e
  subst e
  have q1 : relD eqP (instD l) (instD l') = some (.bl (decide (instD l = instD l'))) := relD_eq (noB_inst l) (noB_inst l') (.inl (by
    have := dep_inst l
    omega))
  have q2 : relD eqP (.str (lockT l)) (.str (lockT l')) = some (.bl (decide (instD l = instD l'))) := by
    rw [eq_str]
    congr 2
    rw [Bool.eq_iff_iff, beq_iff_eq, decide_eq_true_eq]
    exact lock_iff h h'
  have q3 : ∀ b : Bool, relD neP (.bl b) (.bl b) = some (.bl false) := fun b => by cases b <;> rfl
  simp only [mDef_eq, outD_nx, outD_rt, startE, sNil, sSeq, thenS_nx, thenS_rt, thenS_bk, thenS_ct, sAsg, sIf, sRet, sRetN, sDrop, sBrk, sCnt, sFor, sOwn, ownAt, sApp, sExt, sPut, sFrz, sPar, mIxO, mLenO, mTupO, mVar, mC, mU, mB, mNil, mCons, mF, mIsT, mAndT, mOrT, mNotT, mAnd, mOr, mNot, mIf, mChain, mPart, mNoPart, mSl, mCall, mIt, mRng, mComp, mYes, gdName, gdTup, gdCons, gdNil, wipeE, tupItems_tup, lstItems_lst, bl_bl, int_int, mHx_eq, mHlen_eq, mHcell_eq, sHput_eq, isH_hnd, hget1, hget2, hget3, hget4, hset1, hset2, hset3, hset4, eq_int, ne_int, lt_int, gt_int, le_int, ge_int, eq_bl, add_int, add_tup, add_lst, sub_int, neg_int, isN_hi, notN_hi, mul_int, div_int, mod_int, pow_int, abs_int, intC_int, len_tup, len_lst, tup_D, lst_D, rt_D, Bool.not_not, Bool.not_true, Bool.not_false, true_and, and_true, false_and, and_false, or_true, true_or, or_false, false_or, List.length_cons, List.length_nil, List.length_append, List.length_map, List.map_cons, List.map_nil, List.replicate_succ, List.replicate_zero, List.cons_append, List.nil_append, List.append_nil, List.set_cons_zero, List.set_cons_succ, List.getElem?_cons_zero, List.getElem?_cons_succ, Option.bind_some, Option.map_some, Option.bind_none, Option.map_none, OW_some, OW_bind, OW_map, OW_if, Bool.false_eq_true, if_true, if_false, ↓reduceIte, Nat.reduceAdd, Nat.reduceSub, Nat.zero_add, Nat.sub_self, Function.comp, is_right_is (s := s2) h, is_right_is (s := s2) h', lock_text_is (s := s2) h, lock_text_is (s := s2) h', OW_eq q1, OW_eq q2, OW_eq (q3 _)]
  exact ⟨_, _, _, rfl⟩
theorem law_loop {A0 : Option Slot} : ∀ (xs : List D) (e2 e3 e4 : Option Slot) (s : Hand), OW (loopS (gdName 2) b_law_0 xs [A0, some (.dat .hnd), e2, e3, e4] s) fun o => ∃ e2 e3 e4 s', o = .nx [A0, some (.dat .hnd), e2, e3, e4] s'
  | [], e2, e3, e4, s => by
    show OW (some _) _
    rw [OW_some]
    exact ⟨e2, e3, e4, s, rfl⟩
  | x :: xs, e2, e3, e4, s => by
    unfold loopS
    have g : gdName 2 x [A0, some (.dat .hnd), e2, e3, e4] = some [A0, some (.dat .hnd), some (.dat x), e3, e4] := rfl
    rw [g, Option.bind_some, OW_bind]
    refine OW.mono turn_ok fun o ⟨e3', e4', s', e⟩ => ?_
    subst e
    exact law_loop xs _ _ _ s'
theorem law_ok : LawOkK 5 1 m_law f__law_hand := fun ns hz => by
  obtain ⟨cells, k, e1⟩ := hand_made hz
  have hr : rng1D [.int 2] = some (rngOf 0 2) := rng1_nat (n := 2) (by omega)
  have h : OW (m_law (startH 5 1) (hand0 cells k)) fun o => ∃ s', o = .rt (.bl true) s' := by
    unfold m_law
    have en : startH 5 1 = [none, some (.dat .hnd), none, none, none] := rfl
    rw [en]
    simp only [mDef_eq, outD_nx, outD_rt, startE, sNil, sSeq, thenS_nx, thenS_rt, thenS_bk, thenS_ct, sAsg, sIf, sRet, sRetN, sDrop, sBrk, sCnt, sFor, sOwn, ownAt, sApp, sExt, sPut, sFrz, sPar, mIxO, mLenO, mTupO, mVar, mC, mU, mB, mNil, mCons, mF, mIsT, mAndT, mOrT, mNotT, mAnd, mOr, mNot, mIf, mChain, mPart, mNoPart, mSl, mCall, mIt, mRng, mComp, mYes, gdName, gdTup, gdCons, gdNil, wipeE, tupItems_tup, lstItems_lst, bl_bl, int_int, mHx_eq, mHlen_eq, mHcell_eq, sHput_eq, isH_hnd, hget1, hget2, hget3, hget4, hset1, hset2, hset3, hset4, eq_int, ne_int, lt_int, gt_int, le_int, ge_int, eq_bl, add_int, add_tup, add_lst, sub_int, neg_int, isN_hi, notN_hi, mul_int, div_int, mod_int, pow_int, abs_int, intC_int, len_tup, len_lst, tup_D, lst_D, rt_D, Bool.not_not, Bool.not_true, Bool.not_false, true_and, and_true, false_and, and_false, or_true, true_or, or_false, false_or, List.length_cons, List.length_nil, List.length_append, List.length_map, List.map_cons, List.map_nil, List.replicate_succ, List.replicate_zero, List.cons_append, List.nil_append, List.append_nil, List.set_cons_zero, List.set_cons_succ, List.getElem?_cons_zero, List.getElem?_cons_succ, Option.bind_some, Option.map_some, Option.bind_none, Option.map_none, OW_some, OW_bind, OW_map, OW_if, Bool.false_eq_true, if_true, if_false, ↓reduceIte, Nat.reduceAdd, Nat.reduceSub, Nat.zero_add, Nat.sub_self, Function.comp, OW_eq hr]
    refine OW.mono (law_loop _ _ _ _ _) fun o ⟨a2, a3, a4, s', e⟩ => ?_
    subst e
    simp only [mDef_eq, outD_nx, outD_rt, startE, sNil, sSeq, thenS_nx, thenS_rt, thenS_bk, thenS_ct, sAsg, sIf, sRet, sRetN, sDrop, sBrk, sCnt, sFor, sOwn, ownAt, sApp, sExt, sPut, sFrz, sPar, mIxO, mLenO, mTupO, mVar, mC, mU, mB, mNil, mCons, mF, mIsT, mAndT, mOrT, mNotT, mAnd, mOr, mNot, mIf, mChain, mPart, mNoPart, mSl, mCall, mIt, mRng, mComp, mYes, gdName, gdTup, gdCons, gdNil, wipeE, tupItems_tup, lstItems_lst, bl_bl, int_int, mHx_eq, mHlen_eq, mHcell_eq, sHput_eq, isH_hnd, hget1, hget2, hget3, hget4, hset1, hset2, hset3, hset4, eq_int, ne_int, lt_int, gt_int, le_int, ge_int, eq_bl, add_int, add_tup, add_lst, sub_int, neg_int, isN_hi, notN_hi, mul_int, div_int, mod_int, pow_int, abs_int, intC_int, len_tup, len_lst, tup_D, lst_D, rt_D, Bool.not_not, Bool.not_true, Bool.not_false, true_and, and_true, false_and, and_false, or_true, true_or, or_false, false_or, List.length_cons, List.length_nil, List.length_append, List.length_map, List.map_cons, List.map_nil, List.replicate_succ, List.replicate_zero, List.cons_append, List.nil_append, List.append_nil, List.set_cons_zero, List.set_cons_succ, List.getElem?_cons_zero, List.getElem?_cons_succ, Option.bind_some, Option.map_some, Option.bind_none, Option.map_none, OW_some, OW_bind, OW_map, OW_if, Bool.false_eq_true, if_true, if_false, ↓reduceIte, Nat.reduceAdd, Nat.reduceSub, Nat.zero_add, Nat.sub_self, Function.comp]
    exact ⟨_, rfl⟩
  obtain ⟨o, eo, s', e⟩ := h.get
  subst e
  exact ⟨cells, k, s', e1, eo⟩
end K41

set_option Elab.async false
set_option linter.all false
set_option maxRecDepth 100000
set_option maxHeartbeats 0
namespace K41
open PySem PySem.Spec PyProof.Rows L2 Dl
abbrev R : PySem.W.OpenRow := PySem.W.OpenLaw.row PySem.Challenge.rw_lockwright_k41_whole_locks_there_and_bac
def fa : List He.Fa := faOf gs fr is ss ts ++ fxs
abbrev hk : PySem.W.Hook := hookZ 6 fa fns ts "/claim/cut.py" errs exms kits kitb
def ob (s : PySem.W.SharedT) : AlZ := obsZ 6 fa fns ts "/claim/cut.py" errs exms kits kitb (HandSHeadRun.getT s)
theorem ob_eq (s : PySem.W.SharedT) : ob s = hk.obs s.abs := obsZ_eq (HandSHeadRun.getT_eq s)
def loose : List Str := ("LockError" : Str) :: ("BadLine" : Str) :: ("BadQuestion" : Str) :: ("SMALL" : Str) :: ("FIGURES" : Str) :: ("MOST_SIGNS" : Str) :: ("is_integer" : Str) :: ("is_within" : Str) :: ("is_name" : Str) :: ("is_rising" : Str) :: ("is_lot_of_names" : Str) :: ("number_told" : Str) :: ("GREATEST" : Str) :: ("is_version" : Str) :: ("is_stretch" : Str) :: ("is_range" : Str) :: ("version_text" : Str) :: ("version_told" : Str) :: ("CHECK" : Str) :: ("BY" : Str) :: ("check_of" : Str) :: ("triple_text" : Str) :: ("lock_text" : Str) :: ("triple_told" : Str) :: ("read_lock" : Str) :: ("ended" : Str) :: ("locks_of" : Str) :: ("MOST_WANTED" : Str) :: ("MOST_WISHES" : Str) :: ("MOST_LOCKS" : Str) :: ("is_wish" : Str) :: ("are_locks" : Str) :: ("Question" : Str) :: ("_law_hand" : Str) :: ("_law_draw" : Str) :: ("_law_any" : Str) :: ("_law_name" : Str) :: ("_law_installation" : Str) :: ("_law_check" : Str) :: ("_law_line" : Str) :: ("_law_text" : Str) :: ("_law_is_triple" : Str) :: ("_law_is_right" : Str) :: ("_law_unlike" : Str) :: []
theorem run (w : World) : HandSHeadRun.RunEq R (PySem.W.view R.prog [50]) hk ob 6000 loose w := by
  intro os
  kernel_rfl
end K41
open PySem PySem.W PySem.Calls PyProof.Rows
theorem PySem.Challenge.cw_lockwright_k41_whole_locks_there_and_bac_holds : PySem.Challenge.rw_lockwright_k41_whole_locks_there_and_bac.Holds := by
  w_on; o_law
  refine HandSHeadRun.head_any (r := OpenLaw.row PySem.Challenge.rw_lockwright_k41_whole_locks_there_and_bac) (q := view (OpenLaw.row PySem.Challenge.rw_lockwright_k41_whole_locks_there_and_bac).prog [50]) (H := K41.hk) (ob := K41.ob) (M := 6000) (loose := K41.loose) (d := HandSHeadRun.topDef (OpenLaw.row PySem.Challenge.rw_lockwright_k41_whole_locks_there_and_bac).prog 50) (kwd := []) K41.ob_eq
    (by kernel_rfl) (fun s => by kernel_rfl) K41.run (by kernel_rfl) (by kernel_rfl) (by kernel_rfl) (by rfl) (by first | assumption | decide +kernel) (by decide +kernel) ⟨rfl, rfl, rfl, rfl, rfl, by decide +kernel⟩ ?hw ?hc
  case hw => w_witness2
  case hc =>
    refine L2.walk_ofE (l := PySem.Challenge.rw_lockwright_k41_whole_locks_there_and_bac) (n := 63) (k := 10) (x := "_law_script") (CX := L2.CX0) rfl (by decide) (by kernel_rfl) ⟨rfl, by decide, by decide⟩ ?F (fun _ _ _ _ z => z)
    intro w mg fa h Y G hmg0
    obtain ⟨K, KX, c⟩ := Y
    have TI := Dl.txI_of KX G c K41.errs_side
    have T : K41.Txt K mg := TI.tx
    have hmg : mg ("law" : PySem.Str) = some (.ref fa) := by
      have e : (HandSHeadRun.topDef (OpenLaw.row PySem.Challenge.rw_lockwright_k41_whole_locks_there_and_bac).prog 50).name = ("law" : PySem.Str) := by kernel_rfl
      rw [← e]
      exact hmg0
    obtain ⟨fd, hb, hF⟩ := K41.ok_law T K41.law_ok
    have hfa : fa = He.fAd K ("law", none) := by
      have e := T.tx.glo "law" (by decide +kernel)
      rw [hmg] at e
      cases e
      rfl
    subst hfa
    exact ⟨K, fd, Dl.spLaw K, KX, hb, fun H a ns hl _ hS => ⟨a, ns, rfl, hS, hl, fun _ => rfl⟩, fun base _ _ => hF _ _ _ ⟨by kernel_rfl, by kernel_rfl⟩ TI.fx⟩

